import PyProof.Rows.All
import HandS.ForMost
import HandS.IsInst
import HandS.Flow
import HandS.More
import HandS.TupAny
import KE.DataEq
import KE.DataCmp
import KE.DataAny
import KE.DataMinMax
import KE.SortData
import HandS.SortRule
import HandS.Wide
import HandS.Strs
import HandS.Set
import HandS.SetFor
import HandS.Text
import HandS.Rev
import HandS.SetBool
import HandS.Deep
import HandS.Dict
import KE.KDictPairs
import Wide.All
import OpenK.AllK
import Wide.FinOn
import PyProof.ZipIter
import KE.KDictZip
import HandS.Zip0
import PyProof.ListNew
import HandS.ListItems
import PyProof.ListStr
import HandS.TupMul
import PyProof.TupleOfGen
import HandS.Defaults
import HandS.Finally
import HandS.Iter
import HandS.DictComp
import HandS.Conv
import HandS.SetKeys
import KE.GoesEnum
import KE.KTurns
import PySem.Challenge.RW_eacharm_k13_one_form_of_a_scheme
set_option Elab.async false
set_option linter.all false
set_option maxRecDepth 100000
set_option maxHeartbeats 8000000
namespace EA
open PySem PySem.Spec PyProof.Rows L2
/-! ### tuples that are known to have no dict of their own -/
/-- a tuple of the heap, or of the kept part, without a dict -/
def PlT (K : PySem.W.Frag) (G : Hp) (a : Addr) (xs : List V) : Prop :=
  (∃ o : Obj, G a = some (.frz o (.tup xs)) ∧ o.dict = none) ∨
    ∃ (o : Obj) (its : Array Value) (n : Nat), K.lookup a = some o ∧ o.cls = .type "tuple" ∧ o.data = .seq its n ∧ its.size ≤ sizeLine ∧ Vals xs its.toList ∧ o.dict = none
theorem PlT.sq {K : PySem.W.Frag} {G : Hp} {a : Addr} {xs : List V} (h : PlT K G a xs) : SqT K G a xs := by
  rcases h with ⟨o, h, _⟩ | ⟨o, its, n, h1, h2, h3, h4, h5, _⟩
  · exact .inl (.inr ⟨o, h⟩)
  · exact .inr ⟨o, its, n, h1, h2, h3, h4, h5⟩
theorem PlT.up {K : PySem.W.Frag} {G G' : Hp} {a : Addr} {xs : List V} (e : ∀ b o, G b = some o → G' b = some o) (h : PlT K G a xs) : PlT K G' a xs := by
  rcases h with ⟨o, h, d⟩ | h
  · exact .inl ⟨o, e _ _ h, d⟩
  · exact .inr h
/-- a new tuple -/
abbrev NewT (H : Hp) (xs : List V) (Q : VK) : Prop := ∀ (p : Addr) (o : Obj), o.dict = none → H p = none → Q (.ref p) (upd H p (.frz o (.tup xs)))
section
variable {X : Cx}
theorem laidT {pins : List (Addr × Obj)} {σ : L2.St} {H : Hp} {s : Shared} {xs : List V} {its : List Value} (I : Inv X pins σ H s) (hz : xs.length ≤ sizeLine) (r : Vals xs its) :
    Inv X pins σ (upd H s.heap.objs.size (.frz { cls := .type "tuple", data := .seq its.toArray } (.tup xs))) { s with heap := s.heap.push { cls := .type "tuple", data := .seq its.toArray } } :=
  I.laid (t' := s.toks) (fun b o e => Heap.get?_push_of_some _ e) (Nat.le_refl _) ⟨Heap.get?_push_size _ rfl, hz, its, r, IsTup.new _ _⟩
variable {es : List Expr} {t : TA} {pos : Pos}
def tTupP (t : TA) : TE := fun σ H Q => t σ H fun xs H1 => xs.length ≤ sizeLine ∧ NewT H1 xs Q
theorem pe_tupP {x1} (h : PA X es t) : PE X (.Tuple es x1 pos) (tTupP t) := by
  refine ⟨fun pins s σ H Q I hq => ?_⟩
  refine wpAny_Tuple_spliced (thn (h.run pos pins s σ H _ I hq) fun us s1 ⟨xs, H1, I1, r, z, q⟩ => ⟨by rw [← r.length]; exact z, ?_⟩)
  have hf : H1 s1.heap.objs.size = none := I1.hok.fresh (Nat.le_refl _)
  exact ⟨.ref s1.heap.objs.size, _, laidT I1 z r, rfl, q _ _ rfl hf⟩
/-- t + u -/
def rCatP (K : PySem.W.Frag) : R2 := fun x y H Q => ∃ a b xs ys, x = .ref a ∧ y = .ref b ∧ SqT K H a xs ∧ SqT K H b ys ∧ xs.length + ys.length ≤ sizeLine ∧
  (xs = [] → Q (.ref b) H) ∧ (xs ≠ [] → ys = [] → Q (.ref a) H) ∧ (xs ≠ [] → ys ≠ [] → NewT H (xs ++ ys) Q)
theorem op_catP : OpR X (binaryOp .Add) (rCatP X.K) := by
  intro pins s σ H x y v u Q I rx ry h
  obtain ⟨a, b, xs, ys, rfl, rfl, ha, hb, hz, q0, q1, q2⟩ := h
  cases rx
  cases ry
  obtain ⟨its, r1, p1, _⟩ := I.tuple ha
  obtain ⟨its2, r2, p2, _⟩ := I.tuple hb
  by_cases hx : xs = []
  · subst hx
    cases r1
    exact cat_tup0 p1 p2 ⟨.ref b, H, I, rfl, q0 rfl⟩
  · refine HT.cat_tup p1 p2 (fun z => hx (r1.nil_iff.mp z)) (fun z => ⟨.ref a, H, I, rfl, q1 hx (r2.nil_iff.mp z)⟩) (fun z => ?_) (by rw [← r1.length, ← r2.length]; exact hz)
    exact ⟨.ref s.heap.objs.size, _, laidT I (by rw [List.length_append]; exact hz) (r1.append r2), rfl, q2 hx (fun w => z (r2.nil_iff.mpr w)) _ _ rfl (I.hok.fresh (Nat.le_refl _))⟩
/-- t[lo:hi] -/
def rSlP (K : PySem.W.Frag) : V → Option Int → Option Int → Hp → VK → Prop := fun x lo hi H Q => ∃ a xs, x = .ref a ∧ SqT K H a xs ∧
  (HT.sIx xs.length 0 lo = 0 ∧ HT.sIx xs.length xs.length hi = xs.length → Q (.ref a) H) ∧ (¬ (HT.sIx xs.length 0 lo = 0 ∧ HT.sIx xs.length xs.length hi = xs.length) → NewT H (cutV xs lo hi) Q)
theorem sl_tupP : SlR X (rSlP X.K) := by
  intro pins s σ H x v vl vu lo hi sl Q I rx hs pl pu h
  obtain ⟨a, xs, rfl, hx, q1, q2⟩ := h
  cases rx
  obtain ⟨its, r, ht, hz⟩ := I.tuple hx
  have hlen : its.toArray.size = xs.length := by rw [List.size_toArray]; exact r.length.symm
  refine ⟨"tuple", _, PyProof.Rows.slot_tuple_getitem.lookup, ht.typeIs, ?_⟩
  by_cases hw : HT.sIx xs.length 0 lo = 0 ∧ HT.sIx xs.length xs.length hi = xs.length
  · exact getItem_tuple_whole ht hs pl pu (by rw [hlen]; exact hw) ⟨.ref a, H, I, rfl, q1 hw⟩
  · refine HT.getItem_tuple_cut ht hs pl pu (by rw [hlen]; exact hw) ?_ (by rw [hlen]; exact hz)
    rw [hlen]
    exact ⟨.ref s.heap.objs.size, _, laidT I (Nat.le_trans (cutV_length xs lo hi) hz) ((r.drop (HT.sIx xs.length 0 lo)).take (HT.sIx xs.length xs.length hi - HT.sIx xs.length 0 lo)), rfl, q2 hw _ _ rfl (I.hok.fresh (Nat.le_refl _))⟩
/-- tuple(xs) -/
def rTupP (K : PySem.W.Frag) : List V → Hp → VK → Prop := fun xs H Q => ∃ p ys, xs = [.ref p] ∧ ((SqL K H p ys ∧ NewT H ys Q) ∨ SqT K H p ys ∧ Q (.ref p) H)
theorem call_tupP : CallR X (.type "tuple") (rTupP X.K) := by
  intro pins s σ H xs us Q I r h
  obtain ⟨p, ys, rfl, h⟩ := h
  obtain ⟨u, rfl, rx⟩ := vals1 r
  cases rx
  rcases h with ⟨hq, q⟩ | ⟨hq, q⟩
  · obtain ⟨its, r', pl, hz⟩ := I.list hq
    have hlen := r'.length
    refine call_tuple_list pl.isList (fun h' kp => ?_) (by simp only [List.size_toArray] <;> omega)
    have I1 : Inv X pins σ H { s with heap := h' } := I.kept (t' := s.toks) kp
    exact ⟨.ref h'.objs.size, _, laidT I1 hz r', rfl, q _ _ rfl (I1.hok.fresh (Nat.le_refl _))⟩
  · obtain ⟨its, r', pl, hz⟩ := I.tuple hq
    exact call_tuple_same pl ⟨.ref p, H, I, rfl, q⟩
end
end EA
namespace EA
open PySem PySem.Spec PyProof.Rows L2
/-! ### data, in the part of the heap that stays as it is -/
mutual
inductive Da (K : PySem.W.Frag) (G : Hp) : V → PyData → Prop
  | non : Da K G .non .none
  | bl (b : Bool) : Da K G (.bl b) (.bool b)
  | int (i : Int) : Da K G (.int i) (.int i)
  | str (x : Str) : Da K G (.str x) (.str x)
  | lst {a : Addr} {xs : List V} {ds : List PyData} : G a = some (.lst xs) → DaA K G xs ds → Da K G (.ref a) (.list ds)
  | tup {a : Addr} {xs : List V} {ds : List PyData} : PlT K G a xs → DaA K G xs ds → Da K G (.ref a) (.tuple ds)
inductive DaA (K : PySem.W.Frag) (G : Hp) : List V → List PyData → Prop
  | nil : DaA K G [] []
  | cons {v : V} {vs : List V} {d : PyData} {ds : List PyData} : Da K G v d → DaA K G vs ds → DaA K G (v :: vs) (d :: ds)
end
theorem sqT_up {K : PySem.W.Frag} {H H' : Hp} {a : Addr} {xs : List V} (e : Same H H') (h : SqT K H a xs) : SqT K H' a xs := by
  rcases h with (h | ⟨o, h⟩) | h
  · exact .inl (.inl (e _ _ h))
  · exact .inl (.inr ⟨o, e _ _ h⟩)
  · exact .inr h
section
variable {G G' H : Hp} {K : PySem.W.Frag}
mutual
theorem Da.up (s : Same G G') : ∀ {d : PyData} {v : V}, Da K G v d → Da K G' v d
  | .none, _, .non => .non
  | .bool _, _, .bl b => .bl b
  | .int _, _, .int i => .int i
  | .str _, _, .str x => .str x
  | .list _, _, .lst e h => .lst (s _ _ e) (DaA.up s h)
  | .tuple _, _, .tup e h => .tup (e.up s) (DaA.up s h)
theorem DaA.up (s : Same G G') : ∀ {ds : List PyData} {vs : List V}, DaA K G vs ds → DaA K G' vs ds
  | [], _, .nil => .nil
  | _ :: _, _, .cons h t => .cons (Da.up s h) (DaA.up s t)
end
mutual
theorem Da.dp : ∀ {d : PyData} {v : V}, Da K G v d → Dp K G v d
  | .none, _, .non => .non
  | .bool _, _, .bl b => .bl b
  | .int _, _, .int i => .int i
  | .str _, _, .str x => .str x
  | .list _, _, .lst e h => .lst (SqL.of e) (DaA.dp h)
  | .tuple _, _, .tup e h => .tup e.sq (DaA.dp h)
theorem DaA.dp : ∀ {ds : List PyData} {vs : List V}, DaA K G vs ds → DpAll K G vs ds
  | [], _, .nil => .nil
  | _ :: _, _, .cons h t => .cons (Da.dp h) (DaA.dp t)
end
theorem DaA.len : ∀ {vs : List V} {ds : List PyData}, DaA K G vs ds → vs.length = ds.length
  | _, _, .nil => rfl
  | _, _, .cons _ t => by rw [List.length_cons, List.length_cons, DaA.len t]
theorem DaA.get : ∀ {vs : List V} {ds : List PyData} {i : Nat} {d : PyData}, DaA K G vs ds → ds[i]? = some d → ∃ v, vs[i]? = some v ∧ Da K G v d
  | _, _, _, _, .nil, e => by simp at e
  | _, _, 0, _, .cons h _, e => by simp at e; subst e; exact ⟨_, rfl, h⟩
  | _, _, i + 1, d, .cons _ t, e => by
    obtain ⟨v, h1, h2⟩ := DaA.get (i := i) (d := d) t (by simpa using e)
    exact ⟨v, by simpa using h1, h2⟩
theorem DaA.app : ∀ {vs ws : List V} {ds es : List PyData}, DaA K G vs ds → DaA K G ws es → DaA K G (vs ++ ws) (ds ++ es)
  | _, _, _, _, .nil, h => h
  | _, _, _, _, .cons h t, h2 => .cons h (DaA.app t h2)
theorem DaA.take : ∀ {vs : List V} {ds : List PyData} (n : Nat), DaA K G vs ds → DaA K G (vs.take n) (ds.take n)
  | _, _, 0, _ => .nil
  | _, _, _ + 1, .nil => .nil
  | _, _, n + 1, .cons h t => .cons h (DaA.take n t)
theorem DaA.drop : ∀ {vs : List V} {ds : List PyData} (n : Nat), DaA K G vs ds → DaA K G (vs.drop n) (ds.drop n)
  | _, _, 0, h => h
  | _, _, _ + 1, .nil => .nil
  | _, _, n + 1, .cons _ t => DaA.drop n t
theorem DaA.erase : ∀ {vs : List V} {ds : List PyData} (n : Nat), DaA K G vs ds → DaA K G (vs.eraseIdx n) (ds.eraseIdx n)
  | _, _, _, .nil => .nil
  | _, _, 0, .cons _ t => t
  | _, _, n + 1, .cons h t => .cons h (DaA.erase n t)
theorem DaA.set {v : V} {d : PyData} (h : Da K G v d) : ∀ {vs : List V} {ds : List PyData} (n : Nat), DaA K G vs ds → DaA K G (vs.set n v) (ds.set n d)
  | _, _, _, .nil => .nil
  | _, _, 0, .cons _ t => .cons h t
  | _, _, n + 1, .cons k t => .cons k (DaA.set h n t)
theorem DaA.ints : ∀ (bs : List Int), DaA K G (bs.map V.int) (bs.map PyData.int)
  | [] => .nil
  | b :: r => .cons (.int b) (DaA.ints r)
theorem DaA.strs : ∀ (bs : List Str), DaA K G (bs.map V.str) (bs.map PyData.str)
  | [] => .nil
  | b :: r => .cons (.str b) (DaA.strs r)
theorem DaA.ints_inv : ∀ {bs : List Int} {vs : List V}, DaA K G vs (bs.map PyData.int) → vs = bs.map V.int
  | [], _, .nil => rfl
  | _ :: _, _, .cons (.int _) t => by rw [List.map_cons, DaA.ints_inv t]
theorem DaA.strs_inv : ∀ {bs : List Str} {vs : List V}, DaA K G vs (bs.map PyData.str) → vs = bs.map V.str
  | [], _, .nil => rfl
  | _ :: _, _, .cons (.str _) t => by rw [List.map_cons, DaA.strs_inv t]
theorem Da.list_inv {v : V} {ds : List PyData} (h : Da K G v (.list ds)) : ∃ a xs, v = .ref a ∧ G a = some (.lst xs) ∧ DaA K G xs ds := by
  cases h with
  | lst e t => exact ⟨_, _, rfl, e, t⟩
theorem Da.tup_inv {v : V} {ds : List PyData} (h : Da K G v (.tuple ds)) : ∃ a xs, v = .ref a ∧ SqT K G a xs ∧ DaA K G xs ds := by
  cases h with
  | tup e t => exact ⟨_, _, rfl, e.sq, t⟩
theorem Da.int_inv {v : V} {i : Int} (h : Da K G v (.int i)) : v = .int i := by cases h; rfl
theorem Da.bool_inv {v : V} {i : Bool} (h : Da K G v (.bool i)) : v = .bl i := by cases h; rfl
theorem Da.str_inv {v : V} {i : Str} (h : Da K G v (.str i)) : v = .str i := by cases h; rfl
theorem Da.non_inv {v : V} (h : Da K G v .none) : v = .non := by cases h; rfl
theorem Da.dict_no {v : V} {ks : List (PyData × PyData)} (h : Da K G v (.dict ks)) : False := by cases h
end
/-! ### worlds, values, stores -/
/-- the part that stays, the heap, the changeable objects' addresses -/
structure Wd where
  G : Hp
  H : Hp
  ι : List Addr
/-- a value: data, a changeable object of the store, the script, a type -/
inductive W3 where
  | d (x : PyData)
  | r (i : Nat)
  | sc (xs : List Int)
  | ty (n : String)
/-- a changeable object -/
inductive MO where
  | lst (xs : List PyData)
  | dic (kvs : List (Key × PyData))
  | gone
  | rcd (kvs : List (Str × W3))
  | nls (ws : List W3)
  | ndc (kvs : List (Key × W3))
  | ldic (kvs : List (Key × PyData))
/-- the objects that it speaks of stand ahead of place n -/
def MO.inn (n : Nat) : MO → Prop
  | .nls ws => ∀ j, W3.r j ∈ ws → j < n
  | .ndc kvs => ∀ k j, (k, W3.r j) ∈ kvs → j < n
  | _ => True
/-- what a store came to, seen from what it was: it may be cut there -/
def cutRel (S0 S : List MO) : Prop := ∀ (i : Nat) (o : MO), i < S0.length → S[i]? = some o → o.inn S0.length ∨ S0[i]? = some o
noncomputable instance instCutRel (S0 S : List MO) : Decidable (cutRel S0 S) := Classical.propDecidable _
inductive DaK (K : PySem.W.Frag) (G : Hp) : List (Key × V) → List (Key × PyData) → Prop
  | nil : DaK K G [] []
  | cons {k : Key} {v : V} {d : PyData} {vs ds} : Da K G v d → DaK K G vs ds → DaK K G ((k, v) :: vs) ((k, d) :: ds)
theorem DaK.up {K : PySem.W.Frag} {G G' : Hp} (s : Same G G') {vs : List (Key × V)} {ds : List (Key × PyData)} (h : DaK K G vs ds) : DaK K G' vs ds := by
  induction h with
  | nil => exact .nil
  | cons h _ ih => exact .cons (h.up s) ih
def RW (K : PySem.W.Frag) (A : Wd) (v : V) : W3 → Prop
  | .d x => Da K A.G v x
  | .r i => ∃ a, A.ι[i]? = some a ∧ v = .ref a
  | .sc xs => ∃ a, v = .ref a ∧ SqL K A.G a (xs.map V.int)
  | .ty n => v = .ty n
/-- the entries of a dict whose keys are texts: values, also other objects of the store -/
inductive RcA (K : PySem.W.Frag) (A : Wd) : List (Key × V) → List (Str × W3) → Prop
  | nil : RcA K A [] []
  | cons {s : Str} {v : V} {w : W3} {ks : List (Key × V)} {kvs : List (Str × W3)} : RW K A v w → RcA K A ks kvs → RcA K A ((.inr s, v) :: ks) ((s, w) :: kvs)
inductive RWs (K : PySem.W.Frag) (A : Wd) : List V → List W3 → Prop
  | nil : RWs K A [] []
  | cons {v : V} {w : W3} {vs : List V} {ws : List W3} : RW K A v w → RWs K A vs ws → RWs K A (v :: vs) (w :: ws)
/-- the entries of a dict: values, also other objects of the store -/
inductive NdA (K : PySem.W.Frag) (A : Wd) : List (Key × V) → List (Key × W3) → Prop
  | nil : NdA K A [] []
  | cons {k : Key} {v : V} {w : W3} {ks : List (Key × V)} {kvs : List (Key × W3)} : RW K A v w → NdA K A ks kvs → NdA K A ((k, v) :: ks) ((k, w) :: kvs)
def OR (K : PySem.W.Frag) (A : Wd) (a : Addr) : MO → Prop
  | .lst xs => A.G a = none ∧ ∃ vs, A.H a = some (.lst vs) ∧ DaA K A.G vs xs
  | .dic kvs => A.G a = none ∧ ∃ ks, A.H a = some (.dK ks) ∧ DaK K A.G ks kvs
  | .gone => A.H a ≠ none
  | .rcd kvs => A.G a = none ∧ (∃ i, A.ι[i]? = some a ∧ ∀ s j, (s, W3.r j) ∈ kvs → j < i) ∧ ∃ ks, A.H a = some (.dK ks) ∧ RcA K A ks kvs
  | .ldic kvs => A.G a = none ∧ ∃ od ks, A.H a = some (.frz od (.dK ks)) ∧ DaK K A.G ks kvs
  | .nls ws => A.G a = none ∧ ∃ vs, A.H a = some (.lst vs) ∧ RWs K A vs ws
  | .ndc kvs => A.G a = none ∧ ∃ ks, A.H a = some (.dK ks) ∧ NdA K A ks kvs
structure Rl (K : PySem.W.Frag) (A : Wd) (S : List MO) : Prop where
  gh : Same A.G A.H
  nd : A.ι.Nodup
  len : A.ι.length = S.length
  ob : ∀ (i : Nat) (o : MO) (a : Addr), S[i]? = some o → A.ι[i]? = some a → OR K A a o
abbrev Sl := List (Option W3)
structure SR3 (K : PySem.W.Frag) (A : Wd) (σ : L2.St) (sl : Sl) : Prop where
  len : σ.length = sl.length
  at_ : ∀ (i : Nat) (w : W3), sl[i]? = some (some w) → ∃ v, σ[i]? = some (some v) ∧ RW K A v w
/-- no object that is locked -/
def nfz : Option HO → Bool
  | some (.frz _ _) => false
  | _ => true
/-- from one world to a later one -/
structure Nx (A B : Wd) : Prop where
  gg : Same A.G B.G
  hh : ∀ b o, b ∉ A.ι → A.H b = some o → B.H b = some o
  nw : ∀ b, b ∉ A.ι → A.G b = none → A.H b ≠ none → B.G b = none
  dm : ∀ b, A.H b ≠ none → B.H b ≠ none
  pre : A.ι <+: B.ι
  fr : ∀ x ∈ B.ι, x ∈ A.ι ∨ A.H x = none
  lk : ∀ b od ks, A.H b = some (.frz od (.dK ks)) → B.H b = some (.frz od (.dK ks))
section
variable {K : PySem.W.Frag} {A B C : Wd} {S S' : List MO} {σ : L2.St} {sl : Sl} {v : V} {w : W3}
theorem Nx.refl (A : Wd) : Nx A A := ⟨Same.refl _, fun _ _ _ h => h, fun _ _ h _ => h, fun _ h => h, List.prefix_rfl, fun _ h => .inl h, fun _ _ _ h => h⟩
theorem Nx.trans (a : Nx A B) (b : Nx B C) : Nx A C where
  gg := a.gg.trans b.gg
  hh := fun x o hx e => b.hh x o (fun z => (a.fr x z).elim hx fun n => by rw [n] at e; cases e) (a.hh x o hx e)
  nw := fun x hx g h => b.nw x (fun z => (a.fr x z).elim hx h) (a.nw x hx g h) (a.dm x h)
  dm := fun x h => b.dm x (a.dm x h)
  pre := a.pre.trans b.pre
  fr := fun x hx => (b.fr x hx).elim (fun z => a.fr x z) fun n => .inr (by
    cases e : A.H x with
    | none => rfl
    | some u => exact absurd n (a.dm x (by rw [e]; exact fun z => nomatch z)))
  lk := fun x od ks h => b.lk x od ks (a.lk x od ks h)
theorem ix_pre {α : Type} {l m : List α} (p : l <+: m) {i : Nat} {a : α} (h : l[i]? = some a) : m[i]? = some a := by
  obtain ⟨t, rfl⟩ := p
  rw [List.getElem?_append_left (List.getElem?_eq_some_iff.mp h).1]
  exact h
theorem RW.mono (n : Nx A B) (h : RW K A v w) : RW K B v w := by
  cases w with
  | d x => exact Da.up n.gg h
  | r i => obtain ⟨a, h1, h2⟩ := h; exact ⟨a, ix_pre n.pre h1, h2⟩
  | sc xs => obtain ⟨a, h1, h2⟩ := h; exact ⟨a, h1, n.gg.seq h2⟩
  | ty n => exact h
/-- what a value needs: the frozen part and the store's places -/
structure Nv (A B : Wd) : Prop where
  gg : Same A.G B.G
  pre : A.ι <+: B.ι
/-- what an iterator needs: also that what is locked stays locked -/
structure Nw (A B : Wd) : Prop extends Nv A B where
  lk : ∀ b od ks, A.H b = some (.frz od (.dK ks)) → B.H b = some (.frz od (.dK ks))
instance : Coe (Nw A B) (Nv A B) := ⟨fun n => n.toNv⟩
theorem Nw.trans (a : Nw A B) (b : Nw B C) : Nw A C := ⟨⟨a.gg.trans b.gg, a.pre.trans b.pre⟩, fun x od ks h => b.lk x od ks (a.lk x od ks h)⟩
theorem Nx.toW (n : Nx A B) : Nw A B := ⟨⟨n.gg, n.pre⟩, n.lk⟩
theorem RW.monov (n : Nv A B) (h : RW K A v w) : RW K B v w := by
  cases w with
  | d x => exact Da.up n.gg h
  | r i => obtain ⟨a, h1, h2⟩ := h; exact ⟨a, ix_pre n.pre h1, h2⟩
  | sc xs => obtain ⟨a, h1, h2⟩ := h; exact ⟨a, h1, n.gg.seq h2⟩
  | ty n => exact h
theorem SR3.mono (n : Nx A B) (h : SR3 K A σ sl) : SR3 K B σ sl := ⟨h.len, fun i w e => by
  obtain ⟨v, h1, h2⟩ := h.at_ i w e
  exact ⟨v, h1, h2.mono n⟩⟩
theorem SR3.set (h : SR3 K A σ sl) (i : Nat) (r : RW K A v w) : SR3 K A (σ.set i (some v)) (sl.set i (some w)) := by
  refine ⟨by rw [List.length_set, List.length_set, h.len], fun j u e => ?_⟩
  by_cases hj : i = j
  · subst hj
    have hi : i < sl.length := by have := (List.getElem?_eq_some_iff.mp e).1; rwa [List.length_set] at this
    rw [List.getElem?_set_self hi] at e
    cases e
    exact ⟨v, List.getElem?_set_self (by rw [h.len]; exact hi), r⟩
  · rw [List.getElem?_set_ne hj] at e ⊢
    exact h.at_ j u e
/-- any live object's address is taken -/
theorem Rl.taken (R : Rl K A S) {a : Addr} (h : a ∈ A.ι) : A.H a ≠ none := by
  obtain ⟨i, hi, e⟩ := List.getElem_of_mem h
  have e2 : A.ι[i]? = some a := by rw [List.getElem?_eq_getElem hi, e]
  have hs : i < S.length := by rw [← R.len]; exact hi
  have o := R.ob i S[i] a (List.getElem?_eq_getElem hs) e2
  cases q : S[i] with
  | lst xs => rw [q] at o; obtain ⟨_, vs, h, _⟩ := o; rw [h]; exact fun z => nomatch z
  | dic xs => rw [q] at o; obtain ⟨_, vs, h, _⟩ := o; rw [h]; exact fun z => nomatch z
  | rcd xs => rw [q] at o; obtain ⟨_, _, vs, h, _⟩ := o; rw [h]; exact fun z => nomatch z
  | nls xs => rw [q] at o; obtain ⟨_, vs, h, _⟩ := o; rw [h]; exact fun z => nomatch z
  | ldic xs => rw [q] at o; obtain ⟨_, _, vs, h, _⟩ := o; rw [h]; exact fun z => nomatch z
  | ndc xs => rw [q] at o; obtain ⟨_, vs, h, _⟩ := o; rw [h]; exact fun z => nomatch z
  | gone => rw [q] at o; exact o
theorem Rl.new (R : Rl K A S) {p : Addr} (n : A.H p = none) : p ∉ A.ι := fun z => R.taken z n
theorem RcA.monov (n : Nv A B) {ks : List (Key × V)} {kvs : List (Str × W3)} (h : RcA K A ks kvs) : RcA K B ks kvs := by
  induction h with
  | nil => exact .nil
  | cons h _ ih => exact .cons (h.monov n) ih
theorem RWs.monov (n : Nv A B) {vs : List V} {ws : List W3} (h : RWs K A vs ws) : RWs K B vs ws := by
  induction h with
  | nil => exact .nil
  | cons h _ ih => exact .cons (h.monov n) ih
theorem NdA.monov (n : Nv A B) {ks : List (Key × V)} {kvs : List (Key × W3)} (h : NdA K A ks kvs) : NdA K B ks kvs := by
  induction h with
  | nil => exact .nil
  | cons h _ ih => exact .cons (h.monov n) ih
theorem RWs.lt {vs : List V} {ws : List W3} (h : RWs K A vs ws) : ∀ j, W3.r j ∈ ws → j < A.ι.length := by
  induction h with
  | nil => exact fun j z => nomatch z
  | cons hw _ ih =>
    intro j z
    rcases List.mem_cons.mp z with z | z
    · subst z
      obtain ⟨a, ha, _⟩ := hw
      exact (List.getElem?_eq_some_iff.mp ha).1
    · exact ih j z
theorem NdA.lt {ks : List (Key × V)} {kvs : List (Key × W3)} (h : NdA K A ks kvs) : ∀ k j, (k, W3.r j) ∈ kvs → j < A.ι.length := by
  induction h with
  | nil => exact fun k j z => nomatch z
  | cons hw _ ih =>
    intro k j z
    rcases List.mem_cons.mp z with z | z
    · cases z
      obtain ⟨a, ha, _⟩ := hw
      exact (List.getElem?_eq_some_iff.mp ha).1
    · exact ih k j z
theorem OR.inn {a : Addr} {o : MO} (h : OR K A a o) : o.inn A.ι.length := by
  cases o with
  | nls ws => obtain ⟨_, vs, _, h⟩ := h; exact h.lt
  | ndc ws => obtain ⟨_, vs, _, h⟩ := h; exact h.lt
  | _ => trivial
/-- what a world's store was is in order; so what it came to may be cut -/
theorem Rl.cut_ok {S0 : List MO} (R : Rl K A S0) (h : cutRel S0 S) {i : Nat} {o : MO} (hi : i < A.ι.length) (e : S[i]? = some o) : o.inn A.ι.length := by
  have ea : A.ι[i]? = some A.ι[i] := List.getElem?_eq_getElem hi
  rcases h i o (by rw [← R.len]; exact hi) e with h | h
  · rw [R.len]; exact h
  · exact (R.ob i o A.ι[i] h ea).inn
theorem OR.keep {a : Addr} {o : MO} (h : OR K A a o) (gg : Same A.G B.G) (hg : A.G a = none → B.G a = none) (hh : ∀ u, A.H a = some u → B.H a = some u) (pre : A.ι <+: B.ι := by exact List.prefix_rfl) : OR K B a o := by
  cases o with
  | rcd kvs =>
    obtain ⟨g, ⟨i, h1, h2⟩, ks, h3, h4⟩ := h
    exact ⟨hg g, ⟨i, ix_pre pre h1, h2⟩, ks, hh _ h3, h4.monov ⟨gg, pre⟩⟩
  | nls xs => obtain ⟨g, vs, h1, h2⟩ := h; exact ⟨hg g, vs, hh _ h1, h2.monov ⟨gg, pre⟩⟩
  | ldic xs => obtain ⟨g, od, vs, h1, h2⟩ := h; exact ⟨hg g, od, vs, hh _ h1, h2.up gg⟩
  | ndc xs => obtain ⟨g, vs, h1, h2⟩ := h; exact ⟨hg g, vs, hh _ h1, h2.monov ⟨gg, pre⟩⟩
  | lst xs => obtain ⟨g, vs, h1, h2⟩ := h; exact ⟨hg g, vs, hh _ h1, h2.up gg⟩
  | dic xs => obtain ⟨g, vs, h1, h2⟩ := h; exact ⟨hg g, vs, hh _ h1, h2.up gg⟩
  | gone =>
    show B.H a ≠ none
    cases e : A.H a with
    | none => exact absurd e h
    | some u => rw [hh u e]; exact fun z => nomatch z
theorem upd_none {H : Hp} {p b : Addr} {o : HO} (h : upd H p o b = none) : H b = none := by
  by_cases e : b = p
  · subst e; rw [upd_same] at h; cases h
  · rw [upd_ne e] at h; exact h
/-- a new object that is data -/
theorem Nx.dat (R : Rl K A S) {p : Addr} {o : HO} (n : A.H p = none) : Nx A ⟨upd A.G p o, upd A.H p o, A.ι⟩ ∧ Rl K ⟨upd A.G p o, upd A.H p o, A.ι⟩ S := by
  have gp : A.G p = none := R.gh.free n
  refine ⟨⟨fun b u e => ?_, fun b u hb e => ?_, fun b hb g h => ?_, fun b h z => h (upd_none z), List.prefix_rfl, fun _ h => .inl h, fun b od ks e => by
    show upd A.H p o b = _
    rw [upd_ne (ne_of_none e n)]; exact e⟩, ⟨fun b u e => ?_, R.nd, R.len, fun i o a e1 e2 => ?_⟩⟩
  · show upd A.G p o b = _
    rw [upd_ne (ne_of_none e gp)]; exact e
  · show upd A.H p o b = _
    rw [upd_ne (ne_of_none e n)]; exact e
  · show upd A.G p o b = _
    rw [upd_ne (fun e => h (by rw [e]; exact n))]; exact g
  · by_cases z : b = p
    · subst z
      show upd A.H b o b = _
      have e' : upd A.G b o b = some u := e
      rw [upd_same] at e' ⊢; exact e'
    · show upd A.H p o b = _
      have e' : upd A.G p o b = some u := e
      rw [upd_ne z] at e' ⊢; exact R.gh b u e'
  · have ne : a ≠ p := fun z => R.new n (by rw [← z]; exact List.mem_of_getElem? e2)
    refine (R.ob i o a e1 e2).keep (fun b u e => ?_) (fun g => ?_) (fun u h => ?_)
    · show upd A.G p _ b = _
      rw [upd_ne (ne_of_none e gp)]; exact e
    · show upd A.G p _ a = _
      rw [upd_ne ne]; exact g
    · show upd A.H p _ a = _
      rw [upd_ne ne]; exact h
/-- a new object that nobody speaks of -/
theorem Nx.junk (R : Rl K A S) {p : Addr} {o : HO} (n : A.H p = none) : Nx A ⟨A.G, upd A.H p o, A.ι⟩ ∧ Rl K ⟨A.G, upd A.H p o, A.ι⟩ S := by
  have gp : A.G p = none := R.gh.free n
  refine ⟨⟨Same.refl _, fun b u hb e => ?_, fun b hb g h => g, fun b h z => h (upd_none z), List.prefix_rfl, fun _ h => .inl h, fun b od ks e => by
    show upd A.H p o b = _
    rw [upd_ne (ne_of_none e n)]; exact e⟩, ⟨fun b u e => ?_, R.nd, R.len, fun i o a e1 e2 => ?_⟩⟩
  · show upd A.H p o b = _
    rw [upd_ne (ne_of_none e n)]; exact e
  · show upd A.H p o b = _
    rw [upd_ne (ne_of_none e gp)]; exact R.gh b u e
  · have ne : a ≠ p := fun z => R.new n (by rw [← z]; exact List.mem_of_getElem? e2)
    refine (R.ob i o a e1 e2).keep (Same.refl _) (fun g => g) (fun u h => ?_)
    show upd A.H p _ a = _
    rw [upd_ne ne]; exact h
theorem get_snoc {α : Type} {l : List α} {x a : α} {i : Nat} (h : (l ++ [x])[i]? = some a) : l[i]? = some a ∨ (i = l.length ∧ a = x) := by
  by_cases hi : i < l.length
  · rw [List.getElem?_append_left hi] at h; exact .inl h
  · rw [List.getElem?_append_right (by omega)] at h
    by_cases e : i = l.length
    · subst e
      rw [Nat.sub_self] at h
      exact .inr ⟨rfl, (Option.some.inj h).symm⟩
    · have z : i - l.length ≠ 0 := by omega
      obtain ⟨k, hk⟩ := Nat.exists_eq_succ_of_ne_zero z
      rw [hk] at h
      simp at h
/-- an object that was made since becomes a changeable object of the store -/
theorem Nx.own0g (N : Nx A B) (R : Rl K B S) {p : Addr} {o : MO} (n : A.H p = none) (hp : p ∉ B.ι) (ok : OR K ⟨B.G, B.H, B.ι ++ [p]⟩ p o) : Nx A ⟨B.G, B.H, B.ι ++ [p]⟩ ∧ Rl K ⟨B.G, B.H, B.ι ++ [p]⟩ (S ++ [o]) := by
  refine ⟨⟨N.gg, N.hh, N.nw, N.dm, N.pre.trans (List.prefix_append _ _), fun x hx => ?_, N.lk⟩, ⟨R.gh, ?_, ?_, fun i o' a e1 e2 => ?_⟩⟩
  · rcases List.mem_append.mp hx with hx | hx
    · exact N.fr x hx
    · rw [List.mem_singleton.mp hx]; exact .inr n
  · refine List.nodup_append.mpr ⟨R.nd, by simp, fun a ha b hb e => hp ?_⟩
    rw [List.mem_singleton.mp hb] at e
    rw [← e]; exact ha
  · show (B.ι ++ [p]).length = _
    rw [List.length_append, List.length_append, R.len]; rfl
  · have keep : ∀ {a : Addr} {o : MO}, OR K B a o → OR K ⟨B.G, B.H, B.ι ++ [p]⟩ a o := fun {a o} h => h.keep (Same.refl _) (fun g => g) (fun u h => h) (List.prefix_append _ _)
    rcases get_snoc e1 with h1 | ⟨h1, rfl⟩
    · rcases get_snoc e2 with h2 | ⟨h2, _⟩
      · exact keep (R.ob i o' a h1 h2)
      · have := (List.getElem?_eq_some_iff.mp h1).1
        rw [R.len] at h2; omega
    · rcases get_snoc e2 with h2 | ⟨_, rfl⟩
      · have := (List.getElem?_eq_some_iff.mp h2).1
        rw [R.len] at this; omega
      · exact ok
/-- the same, of an object that speaks of no other -/
theorem Nx.own0 (N : Nx A B) (R : Rl K B S) {p : Addr} {o : MO} (n : A.H p = none) (hp : p ∉ B.ι) (ok : OR K B p o) : Nx A ⟨B.G, B.H, B.ι ++ [p]⟩ ∧ Rl K ⟨B.G, B.H, B.ι ++ [p]⟩ (S ++ [o]) :=
  Nx.own0g N R n hp (ok.keep (Same.refl _) (fun g => g) (fun u h => h) (List.prefix_append _ _))
/-- a new changeable object -/
theorem Nx.own (R : Rl K A S) {p : Addr} {u : HO} {o : MO} (n : A.H p = none) (ok : OR K ⟨A.G, upd A.H p u, A.ι⟩ p o) : Nx A ⟨A.G, upd A.H p u, A.ι ++ [p]⟩ ∧ Rl K ⟨A.G, upd A.H p u, A.ι ++ [p]⟩ (S ++ [o]) := by
  obtain ⟨N, R'⟩ := Nx.junk R (o := u) n
  exact Nx.own0 N R' n (R.new n) ok
theorem RW.last {p : Addr} {S : List MO} (h : B.ι.length = S.length) : RW K ⟨B.G, B.H, B.ι ++ [p]⟩ (.ref p) (.r S.length) := ⟨p, by
  show (B.ι ++ [p])[S.length]? = _
  rw [← h, List.getElem?_append_right (Nat.le_refl _), Nat.sub_self]; rfl, rfl⟩
/-- an object that was made since becomes data -/
theorem Nx.fix (N : Nx A B) (R : Rl K B S) {p : Addr} {o : HO} (n : A.H p = none) (hp : p ∉ B.ι) (g : B.G p = none) (h : B.H p = some o) : Nx A ⟨upd B.G p o, B.H, B.ι⟩ ∧ Rl K ⟨upd B.G p o, B.H, B.ι⟩ S := by
  have gg : Same B.G (upd B.G p o) := fun b u e => by rw [upd_ne (ne_of_none e g)]; exact e
  refine ⟨⟨N.gg.trans gg, N.hh, fun b hb g' h' => ?_, N.dm, N.pre, N.fr, N.lk⟩, ⟨fun b u e => ?_, R.nd, R.len, fun i o' a e1 e2 => ?_⟩⟩
  · show upd B.G p o b = _
    rw [upd_ne (fun z => h' (by rw [z]; exact n))]; exact N.nw b hb g' h'
  · by_cases z : b = p
    · subst z
      have e' : upd B.G b o b = some u := e
      rw [upd_same] at e'
      cases e'
      exact h
    · have e' : upd B.G p o b = some u := e
      rw [upd_ne z] at e'; exact R.gh b u e'
  · refine (R.ob i o' a e1 e2).keep gg (fun g2 => ?_) (fun u h2 => h2)
    show upd B.G p _ a = _
    rw [upd_ne (fun z => hp (by rw [← z]; exact List.mem_of_getElem? e2))]; exact g2
theorem nodup_at {α : Type} {l : List α} (nd : l.Nodup) {i j : Nat} {a : α} (h1 : l[i]? = some a) (h2 : l[j]? = some a) : i = j := by
  obtain ⟨hi, e1⟩ := List.getElem?_eq_some_iff.mp h1
  obtain ⟨hj, e2⟩ := List.getElem?_eq_some_iff.mp h2
  have pw := List.pairwise_iff_getElem.mp nd
  rcases Nat.lt_trichotomy i j with h | h | h
  · exact absurd (e1.trans e2.symm) (pw i j hi hj h)
  · exact h
  · exact absurd (e2.trans e1.symm) (pw j i hj hi h)
/-- a changeable object is changed -/
theorem Nx.wr (R : Rl K A S) {i : Nat} {a : Addr} {u : HO} {o : MO} (ha : A.ι[i]? = some a) (g : A.G a = none) (ok : OR K ⟨A.G, upd A.H a u, A.ι⟩ a o) (hz : nfz (A.H a) = true) : Nx A ⟨A.G, upd A.H a u, A.ι⟩ ∧ Rl K ⟨A.G, upd A.H a u, A.ι⟩ (S.set i o) := by
  have mem : a ∈ A.ι := List.mem_of_getElem? ha
  refine ⟨⟨Same.refl _, fun b u' hb e => ?_, fun b hb g h => g, fun b h z => h (upd_none z), List.prefix_rfl, fun _ h => .inl h, fun b od ks e => by
    show upd A.H a u b = _
    rw [upd_ne (fun z => by rw [z] at e; rw [e] at hz; cases hz)]; exact e⟩, ⟨fun b u' e => ?_, R.nd, by rw [List.length_set]; exact R.len, fun j o' b e1 e2 => ?_⟩⟩
  · show upd A.H a u b = _
    rw [upd_ne (fun z => hb (by rw [z]; exact mem))]; exact e
  · show upd A.H a u b = _
    rw [upd_ne (ne_of_none e g)]; exact R.gh b u' e
  · by_cases hj : i = j
    · subst hj
      have hi : i < S.length := by have := (List.getElem?_eq_some_iff.mp e1).1; rwa [List.length_set] at this
      rw [List.getElem?_set_self hi] at e1
      cases e1
      have e2' : A.ι[i]? = some b := e2
      rw [ha] at e2'
      cases e2'
      exact ok
    · rw [List.getElem?_set_ne hj] at e1
      have ne : b ≠ a := fun z => hj (nodup_at R.nd ha (by rw [← z]; exact e2))
      refine (R.ob j o' b e1 e2).keep (Same.refl _) (fun g => g) (fun u' h => ?_)
      show upd A.H a u b = _
      rw [upd_ne ne]; exact h
/-- a changeable list becomes data -/
theorem Nx.frz (R : Rl K A S) {i : Nat} {a : Addr} {u : HO} (ha : A.ι[i]? = some a) (g : A.G a = none) (h : A.H a = some u) : Nx A ⟨upd A.G a u, A.H, A.ι⟩ ∧ Rl K ⟨upd A.G a u, A.H, A.ι⟩ (S.set i .gone) := by
  have mem : a ∈ A.ι := List.mem_of_getElem? ha
  have gg : Same A.G (upd A.G a u) := fun b v e => by rw [upd_ne (ne_of_none e g)]; exact e
  refine ⟨⟨gg, fun b u' hb e => e, fun b hb g' h' => ?_, fun b h => h, List.prefix_rfl, fun _ h => .inl h, fun _ _ _ h => h⟩, ⟨fun b u' e => ?_, R.nd, by rw [List.length_set]; exact R.len, fun j o' b e1 e2 => ?_⟩⟩
  · show upd A.G a u b = _
    rw [upd_ne (fun z => hb (by rw [z]; exact mem))]; exact g'
  · by_cases z : b = a
    · subst z
      have e' : upd A.G b u b = some u' := e
      rw [upd_same] at e'
      cases e'
      exact h
    · have e' : upd A.G a u b = some u' := e
      rw [upd_ne z] at e'; exact R.gh b u' e'
  · by_cases hj : i = j
    · subst hj
      have hi : i < S.length := by have := (List.getElem?_eq_some_iff.mp e1).1; rwa [List.length_set] at this
      rw [List.getElem?_set_self hi] at e1
      cases e1
      have e2' : A.ι[i]? = some b := e2
      rw [ha] at e2'
      cases e2'
      show A.H a ≠ none
      rw [h]; exact fun z => nomatch z
    · rw [List.getElem?_set_ne hj] at e1
      have ne : b ≠ a := fun z => hj (nodup_at R.nd ha (by rw [← z]; exact e2))
      refine (R.ob j o' b e1 e2).keep gg (fun g2 => ?_) (fun u' h => h)
      show upd A.G a u b = _
      rw [upd_ne ne]; exact g2
theorem rw_cut {v : V} {j : Nat} (pre : A.ι <+: B.ι) (hj : j < A.ι.length) (r : RW K B v (.r j)) : RW K ⟨B.G, B.H, A.ι⟩ v (.r j) := by
  obtain ⟨a, h1, h2⟩ := r
  refine ⟨a, ?_, h2⟩
  show A.ι[j]? = some a
  obtain ⟨t, ht⟩ := pre
  rw [← ht, List.getElem?_append_left hj] at h1
  exact h1
theorem RcA.cut (pre : A.ι <+: B.ι) {ks : List (Key × V)} {kvs : List (Str × W3)} (h : RcA K B ks kvs) : (∀ s j, (s, W3.r j) ∈ kvs → j < A.ι.length) → RcA K ⟨B.G, B.H, A.ι⟩ ks kvs := by
  induction h with
  | nil => exact fun _ => .nil
  | @cons s v w ks kvs hw _ ih =>
    intro hj
    refine .cons ?_ (ih fun s j h => hj s j (List.mem_cons_of_mem _ h))
    cases w with
    | r j => exact rw_cut pre (hj s j List.mem_cons_self) hw
    | d x => exact hw
    | sc x => exact hw
    | ty x => exact hw
theorem RWs.cut (pre : A.ι <+: B.ι) {vs : List V} {ws : List W3} (h : RWs K B vs ws) : (∀ j, W3.r j ∈ ws → j < A.ι.length) → RWs K ⟨B.G, B.H, A.ι⟩ vs ws := by
  induction h with
  | nil => exact fun _ => .nil
  | @cons v w vs ws hw _ ih =>
    intro hj
    refine .cons ?_ (ih fun j h => hj j (List.mem_cons_of_mem _ h))
    cases w with
    | r j => exact rw_cut pre (hj j List.mem_cons_self) hw
    | d x => exact hw
    | sc x => exact hw
    | ty x => exact hw
theorem NdA.cut (pre : A.ι <+: B.ι) {ks : List (Key × V)} {kvs : List (Key × W3)} (h : NdA K B ks kvs) : (∀ k j, (k, W3.r j) ∈ kvs → j < A.ι.length) → NdA K ⟨B.G, B.H, A.ι⟩ ks kvs := by
  induction h with
  | nil => exact fun _ => .nil
  | @cons k v w ks kvs hw _ ih =>
    intro hj
    refine .cons ?_ (ih fun k j h => hj k j (List.mem_cons_of_mem _ h))
    cases w with
    | r j => exact rw_cut pre (hj k j List.mem_cons_self) hw
    | d x => exact hw
    | sc x => exact hw
    | ty x => exact hw
/-- it speaks of no other object -/
def MO.flat : MO → Bool
  | .rcd _ => false
  | .nls _ => false
  | .ndc _ => false
  | _ => true
/-- an object that speaks of no other, in a shorter list of places -/
theorem OR.flat {ι' : List Addr} {a : Addr} {o : MO} (hf : o.flat = true) (h : OR K B a o) : OR K ⟨B.G, B.H, ι'⟩ a o := by
  cases o with
  | rcd kvs => cases hf
  | nls kvs => cases hf
  | ndc kvs => cases hf
  | lst _ => exact h
  | dic _ => exact h
  | ldic _ => exact h
  | gone => exact h
theorem OR.cut (pre : A.ι <+: B.ι) (nd : B.ι.Nodup) {i : Nat} {a : Addr} {o : MO} (ha : A.ι[i]? = some a) (hc : o.inn A.ι.length) (h : OR K B a o) : OR K ⟨B.G, B.H, A.ι⟩ a o := by
  cases o with
  | nls ws => obtain ⟨g, vs, h1, h2⟩ := h; exact ⟨g, vs, h1, h2.cut pre hc⟩
  | ndc ws => obtain ⟨g, vs, h1, h2⟩ := h; exact ⟨g, vs, h1, h2.cut pre hc⟩
  | rcd kvs =>
    obtain ⟨g, ⟨j, h1, h2⟩, ks, h3, h4⟩ := h
    have e : j = i := nodup_at nd h1 (ix_pre pre ha)
    subst e
    have hl := (List.getElem?_eq_some_iff.mp ha).1
    exact ⟨g, ⟨j, ha, h2⟩, ks, h3, h4.cut pre fun s k hk => Nat.lt_trans (h2 s k hk) hl⟩
  | lst _ => exact h
  | dic _ => exact h
  | ldic _ => exact h
  | gone => exact h
/-- the store of the caller, behind the call -/
theorem Nx.cut (N : Nx A B) (R : Rl K B S) (hc : ∀ (i : Nat) (o : MO), i < A.ι.length → S[i]? = some o → o.inn A.ι.length) : Nx A ⟨B.G, B.H, A.ι⟩ ∧ Rl K ⟨B.G, B.H, A.ι⟩ (S.take A.ι.length) := by
  have pl := N.pre.length_le
  refine ⟨⟨N.gg, N.hh, N.nw, N.dm, List.prefix_rfl, fun _ h => .inl h, N.lk⟩, ⟨R.gh, R.nd.sublist N.pre.sublist, ?_, fun i o a e1 e2 => ?_⟩⟩
  · show A.ι.length = _
    rw [List.length_take, ← R.len]; omega
  · have hi : i < A.ι.length := (List.getElem?_eq_some_iff.mp e2).1
    rw [List.getElem?_take_of_lt hi] at e1
    exact (R.ob i o a e1 (ix_pre N.pre e2)).cut N.pre R.nd e2 (hc i o hi e1)
end
end EA
namespace EA
open PySem PySem.Spec PyProof.Rows L2
/-! ### the functions that a text's parts are -/
abbrev FE := Sl → List MO → Option (W3 × List MO)
abbrev FT := Sl → List MO → Option (Bool × List MO)
abbrev FA := Sl → List MO → Option (List W3 × List MO)
/-- a new list -/
abbrev FN := Sl → List MO → Option (List PyData × List MO)
abbrev FO := Sl → List MO → Option (Option Int × List MO)
abbrev FG := W3 → Sl → List MO → Option (Sl × List MO)
inductive Out where
  | nx (sl : Sl) (S : List MO)
  | rt (w : W3) (S : List MO)
  | bk (sl : Sl) (S : List MO)
  | ct (sl : Sl) (S : List MO)
abbrev FS := Sl → List MO → Option Out
abbrev F3 := List W3 → List MO → Option (W3 × List MO)
/-- what a loop walks: the items, and what must stay true of the store -/
structure It3 where
  ws : List W3
  ok : List MO → Bool
abbrev FI := Sl → List MO → Option (It3 × List MO)
section
variable {K : PySem.W.Frag} {A B : Wd}
theorem RWs.mono (n : Nx A B) {vs : List V} {ws : List W3} (h : RWs K A vs ws) : RWs K B vs ws := by
  induction h with
  | nil => exact .nil
  | cons h _ ih => exact .cons (h.mono n) ih
theorem RWs.len {vs : List V} {ws : List W3} (h : RWs K A vs ws) : vs.length = ws.length := by
  induction h with
  | nil => rfl
  | cons h _ ih => rw [List.length_cons, List.length_cons, ih]
theorem RWs.app {vs vs' : List V} {ws ws' : List W3} (h : RWs K A vs ws) (h' : RWs K A vs' ws') : RWs K A (vs ++ vs') (ws ++ ws') := by
  induction h with
  | nil => exact h'
  | cons h _ ih => exact .cons h ih
theorem RWs.of : ∀ {vs : List V} {ds : List PyData}, DaA K A.G vs ds → RWs K A vs (ds.map .d)
  | _, _, .nil => .nil
  | _, _, .cons h t => .cons h (RWs.of t)
end
def teO (K : PySem.W.Frag) (f : FE) : TE := fun σ H Q => ∃ (A : Wd) (S : List MO) (sl : Sl) (w : W3) (S' : List MO), A.H = H ∧ Rl K A S ∧ SR3 K A σ sl ∧ f sl S = some (w, S') ∧ ∀ B v, Nx A B → Rl K B S' → RW K B v w → Q v B.H
def ttO (K : PySem.W.Frag) (f : FT) : TT := fun σ H Q => ∃ (A : Wd) (S : List MO) (sl : Sl) (w : Bool) (S' : List MO), A.H = H ∧ Rl K A S ∧ SR3 K A σ sl ∧ f sl S = some (w, S') ∧ ∀ B, Nx A B → Rl K B S' → Q w B.H
def taO (K : PySem.W.Frag) (f : FA) : TA := fun σ H Q => ∃ (A : Wd) (S : List MO) (sl : Sl) (w : List W3) (S' : List MO), A.H = H ∧ Rl K A S ∧ SR3 K A σ sl ∧ f sl S = some (w, S') ∧ ∀ B v, Nx A B → Rl K B S' → RWs K B v w → Q v B.H
def tnO (K : PySem.W.Frag) (f : FN) : TE := fun σ H Q => ∃ (A : Wd) (S : List MO) (sl : Sl) (w : List PyData) (S' : List MO), A.H = H ∧ Rl K A S ∧ SR3 K A σ sl ∧ f sl S = some (w, S') ∧
  ∀ B vs p, Nx A B → Rl K B S' → A.H p = none → p ∉ B.ι → B.G p = none → B.H p = some (.lst vs) → DaA K B.G vs w → Q (.ref p) B.H
def toO (K : PySem.W.Frag) (f : FO) : TO := fun σ H Q => ∃ (A : Wd) (S : List MO) (sl : Sl) (w : Option Int) (S' : List MO), A.H = H ∧ Rl K A S ∧ SR3 K A σ sl ∧ f sl S = some (w, S') ∧ ∀ B, Nx A B → Rl K B S' → Q w B.H
def tgO (K : PySem.W.Frag) (vs : List Nat) (f : FG) : TG := fun v σ H Q => ∃ (A : Wd) (S : List MO) (sl : Sl) (w : W3) (sl' : Sl) (S' : List MO), A.H = H ∧ Rl K A S ∧ SR3 K A σ sl ∧ RW K A v w ∧ f w sl S = some (sl', S') ∧
  ∀ B σ', Nx A B → Rl K B S' → SR3 K B σ' sl' → (σ'.length = σ.length ∧ ∀ j, j ∉ vs → σ'[j]? = σ[j]?) → Q σ' B.H
def EndsOk (K : PySem.W.Frag) (A : Wd) (D : Ends) : Out → Prop
  | .nx sl S => ∀ B σ', Nx A B → Rl K B S → SR3 K B σ' sl → D.nx σ' B.H
  | .rt w S => ∀ B v, Nx A B → Rl K B S → RW K B v w → D.rt v B.H
  | .bk sl S => ∀ B σ', Nx A B → Rl K B S → SR3 K B σ' sl → D.bk σ' B.H
  | .ct sl S => ∀ B σ', Nx A B → Rl K B S → SR3 K B σ' sl → D.ct σ' B.H
def tsO (K : PySem.W.Frag) (f : FS) : TS := fun D σ H => ∃ (A : Wd) (S : List MO) (sl : Sl) (o : Out), A.H = H ∧ Rl K A S ∧ SR3 K A σ sl ∧ f sl S = some o ∧ EndsOk K A D o
def ItR (K : PySem.W.Frag) (B : Wd) (J : It) (j : It3) : Prop := ∀ C S, Nw B C → Rl K C S → j.ok S = true → ∀ i,
  (∀ w, j.ws[i]? = some w → J.go i C.H ∧ ∀ v H', J.yld i C.H v H' → ∃ C', C'.H = H' ∧ Nx C C' ∧ Rl K C' S ∧ RW K C' v w) ∧ (j.ws.length ≤ i → J.stop i C.H)
def tiO (K : PySem.W.Frag) (f : FI) : TI := fun σ H R => ∃ (A : Wd) (S : List MO) (sl : Sl) (j : It3) (S' : List MO), A.H = H ∧ Rl K A S ∧ SR3 K A σ sl ∧ f sl S = some (j, S') ∧ ∀ B J, Nx A B → Rl K B S' → ItR K B J j → R J B.H
theorem EndsOk.mono {K : PySem.W.Frag} {A B : Wd} {D : Ends} (n : Nx A B) : ∀ {o : Out}, EndsOk K A D o → EndsOk K B D o
  | .nx _ _, h => fun C σ' m => h C σ' (n.trans m)
  | .rt _ _, h => fun C σ' m => h C σ' (n.trans m)
  | .bk _ _, h => fun C σ' m => h C σ' (n.trans m)
  | .ct _ _, h => fun C σ' m => h C σ' (n.trans m)
structure PE3 (K : PySem.W.Frag) (X : Cx) (e : Expr) (f : FE) : Prop where
  p : PE X e (teO K f)
structure PT3 (K : PySem.W.Frag) (X : Cx) (e : Expr) (f : FT) : Prop where
  p : PT X e (ttO K f)
structure PW3 (K : PySem.W.Frag) (X : Cx) (e : Expr) (f : FT) : Prop where
  p : PW X e (ttO K f)
structure PA3 (K : PySem.W.Frag) (X : Cx) (es : List Expr) (f : FA) : Prop where
  p : PA X es (taO K f)
  len : ∀ sl S ws S', f sl S = some (ws, S') → ws.length = es.length
structure PN3 (K : PySem.W.Frag) (X : Cx) (e : Expr) (f : FN) : Prop where
  p : PE X e (tnO K f)
structure PO3 (K : PySem.W.Frag) (X : Cx) (e : Option Expr) (f : FO) : Prop where
  p : PO X e (toO K f)
structure PG3 (K : PySem.W.Frag) (X : Cx) (e : Expr) (vs : List Nat) (f : FG) : Prop where
  p : PG X e (tgO K vs f)
structure PS3 (K : PySem.W.Frag) (X : Cx) (st : Stmt) (f : FS) : Prop where
  p : PS X st (tsO K f)
structure PSs3 (K : PySem.W.Frag) (X : Cx) (st : List Stmt) (f : FS) : Prop where
  p : PSs X st (tsO K f)
structure PI3 (K : PySem.W.Frag) (X : Cx) (tg it : Expr) (f : FI) : Prop where
  p : PI X tg it (tiO K f)
section
variable {K : PySem.W.Frag} {X : Cx} {e : Expr} {es : List Expr} {st : Stmt} {sts : List Stmt}
theorem pe_imp {t t' : TE} (h : PE X e t) (i : ∀ σ H Q, t' σ H Q → t σ H Q) : PE X e t' := ⟨fun pins s σ H Q I q => h.run pins s σ H Q I (i σ H Q q)⟩
theorem pt_imp {t t' : TT} (h : PT X e t) (i : ∀ σ H Q, t' σ H Q → t σ H Q) : PT X e t' := ⟨fun pins s σ H Q I q => h.run pins s σ H Q I (i σ H Q q)⟩
theorem pw_imp {t t' : TT} (h : PW X e t) (i : ∀ σ H Q, t' σ H Q → t σ H Q) : PW X e t' := ⟨fun wh pins s σ H Q I q => h.run wh pins s σ H Q I (i σ H Q q)⟩
theorem pa_imp {t t' : TA} (h : PA X es t) (i : ∀ σ H Q, t' σ H Q → t σ H Q) : PA X es t' := ⟨fun pos pins s σ H Q I q => h.run pos pins s σ H Q I (i σ H Q q)⟩
theorem ps_imp {t t' : TS} (h : PS X st t) (i : ∀ D σ H, t' D σ H → t D σ H) : PS X st t' := ⟨fun pins s σ H D I q => h.run pins s σ H D I (i D σ H q)⟩
theorem pss_imp {t t' : TS} (h : PSs X sts t) (i : ∀ D σ H, t' D σ H → t D σ H) : PSs X sts t' := ⟨fun pins s σ H D I q => h.run pins s σ H D I (i D σ H q)⟩
theorem pi_imp {tg : Expr} {t t' : TI} (h : PI X tg e t) (i : ∀ σ H Q, t' σ H Q → t σ H Q) : PI X tg e t' := ⟨fun pins s σ H Q I q => h.run pins s σ H Q I (i σ H Q q)⟩
end
/-! ### names, constants -/
def eVar (i : Nat) : FE := fun sl S => (sl[i]?.join).map fun w => (w, S)
def eD (x : PyData) : FE := fun _ S => some (.d x, S)
def eTy (n : String) : FE := fun _ S => some (.ty n, S)
/-- a list that is data from here on -/
def eFrz (f : FE) : FE := fun sl S => (f sl S).bind fun p => match p.1 with
  | .r i => match p.2[i]? with
    | some (.lst xs) => some (.d (.list xs), p.2.set i .gone)
    | _ => none
  | w => some (w, p.2)
section
variable {K : PySem.W.Frag} {X : Cx} {e : Expr} {es : List Expr} {pos : Pos}
/-- nothing is made -/
theorem te_c {f : FE} {v : V} {w : W3} (hf : ∀ sl S, f sl S = some (w, S)) (hr : ∀ A, RW K A v w) {σ : L2.St} {H : Hp} {Q : VK} (h : teO K f σ H Q) : tC v σ H Q := by
  obtain ⟨A, S, sl, w', S', rfl, R, s, e, q⟩ := h
  rw [hf] at e
  cases e
  exact q A v (Nx.refl A) R (hr A)
theorem e_var {i : Nat} {x : Str} (hN : X.N[i]? = some x) (hv : Vis X.env.scope x) (hd : (x == ("__debug__" : Str)) = false := by decide) (hcd : (x == ("__classdict__" : Str)) = false := by decide) : PE3 K X (.Name x pos) (eVar i) :=
  ⟨pe_imp (pe_var hN hv hd hcd) fun σ H Q h => by
    obtain ⟨A, S, sl, w, S', rfl, R, s, e, q⟩ := h
    unfold eVar at e
    cases h : sl[i]?.join with
    | none => rw [h] at e; cases e
    | some w2 =>
      rw [h] at e
      cases e
      have h2 : sl[i]? = some (some w) := by
        cases z : sl[i]? with
        | none => rw [z] at h; cases h
        | some z2 => rw [z] at h; exact congrArg some h
      obtain ⟨v, h3, h4⟩ := s.at_ i w h2
      exact ⟨v, h3, q A v (Nx.refl A) R h4⟩⟩
theorem e_int {i : Int} {j} : PE3 K X (.Constant (.int i) j pos) (eD (.int i)) := ⟨pe_imp pe_int fun σ H Q h => te_c (w := .d (.int i)) (fun _ _ => rfl) (fun A => Da.int i) h⟩
theorem e_bl {b : Bool} {j} : PE3 K X (.Constant (.bool b) j pos) (eD (.bool b)) := ⟨pe_imp pe_bl fun σ H Q h => te_c (w := .d (.bool b)) (fun _ _ => rfl) (fun A => Da.bl b) h⟩
theorem e_str {b : Str} {j} : PE3 K X (.Constant (.str b) j pos) (eD (.str b)) := ⟨pe_imp pe_str fun σ H Q h => te_c (w := .d (.str b)) (fun _ _ => rfl) (fun A => Da.str b) h⟩
theorem e_non {j} : PE3 K X (.Constant .none j pos) (eD .none) := ⟨pe_imp pe_non fun σ H Q h => te_c (w := .d .none) (fun _ _ => rfl) (fun A => Da.non) h⟩
theorem e_ty {x : Str} {n : String} (hg : Gl X x) (hm : X.mg x = none) (hv : bootBuiltins x = some (.type n)) (hn : x ≠ "__name__" := by decide) (hd : (x == ("__debug__" : Str)) = false := by decide) : PE3 K X (.Name x pos) (eTy n) :=
  ⟨pe_imp (pe_bltn (v := V.ty n) hg hm hv rfl hn hd) fun σ H Q h => te_c (w := .ty n) (fun _ _ => rfl) (fun A => (rfl : V.ty n = V.ty n)) h⟩
theorem e_frz {f : FE} (h : PE3 K X e f) : PE3 K X e (eFrz f) := ⟨pe_imp h.p fun σ H Q h => by
  obtain ⟨A, S, sl, w, S', rfl, R, s, e, q⟩ := h
  unfold eFrz at e
  obtain ⟨⟨w1, S1⟩, e1, e2⟩ := Option.bind_eq_some_iff.mp e
  refine ⟨A, S, sl, w1, S1, rfl, R, s, e1, fun B v n R' r => ?_⟩
  cases w1 with
  | d x => cases e2; exact q B v n R' r
  | sc x => cases e2; exact q B v n R' r
  | ty x => cases e2; exact q B v n R' r
  | r i =>
    dsimp only at e2
    cases o : S1[i]? with
    | none => rw [o] at e2; cases e2
    | some m =>
      rw [o] at e2
      cases m with
      | gone => cases e2
      | dic _ => cases e2
      | rcd _ => cases e2
      | nls _ => cases e2
      | ldic _ => cases e2
      | ndc _ => cases e2
      | lst xs =>
        cases e2
        obtain ⟨a, ha, rfl⟩ := r
        obtain ⟨g, vs, hh, hd⟩ := R'.ob i _ a o ha
        obtain ⟨N2, R2⟩ := Nx.frz R' ha g hh
        exact q ⟨upd B.G a (.lst vs), B.H, B.ι⟩ _ (n.trans N2) R2 (Da.lst upd_same (hd.up N2.gg))⟩
/-! ### argument lists, displays -/
def aNil : FA := fun _ S => some ([], S)
def aCons (e : FE) (r : FA) : FA := fun sl S => (e sl S).bind fun p => (r sl p.2).map fun q => (p.1 :: q.1, q.2)
theorem a_nil : PA3 K X [] aNil := ⟨pa_imp pa_nil fun σ H Q h => by
  obtain ⟨A, S, sl, w, S', rfl, R, s, e, q⟩ := h
  cases e
  exact q A [] (Nx.refl A) R .nil, fun sl S ws S' e => by cases e; rfl⟩
theorem a_cons {f : FE} {r : FA} (h : PE3 K X e f) (hr : PA3 K X es r) (hs : starEach (e :: es) X.env = (false, eval e X.env) :: starEach es X.env := by rfl) : PA3 K X (e :: es) (aCons f r) :=
  ⟨pa_imp (pa_cons h.p hr.p hs) fun σ H Q h => by
    obtain ⟨A, S, sl, w, S', rfl, R, s, e, q⟩ := h
    obtain ⟨⟨w1, S1⟩, e1, e2⟩ := Option.bind_eq_some_iff.mp e
    obtain ⟨⟨w2, S2⟩, e3, e4⟩ := Option.map_eq_some_iff.mp e2
    cases e4
    refine ⟨A, S, sl, w1, S1, rfl, R, s, e1, fun B v n R' r => ?_⟩
    exact ⟨B, S1, sl, w2, _, rfl, R', s.mono n, e3, fun C vs n2 R2 r2 => q C (v :: vs) (n.trans n2) R2 (.cons (r.mono n2) r2)⟩, fun sl S ws S' e => by
    obtain ⟨⟨w1, S1⟩, e1, e2⟩ := Option.bind_eq_some_iff.mp e
    obtain ⟨⟨w2, S2⟩, e3, e4⟩ := Option.map_eq_some_iff.mp e2
    cases e4
    rw [List.length_cons, List.length_cons, hr.len _ _ _ _ e3]⟩
/-- all are data -/
def dsOf : List W3 → Option (List PyData)
  | [] => some []
  | .d x :: r => (dsOf r).map (x :: ·)
  | _ :: _ => none
theorem dsOf_daa {A : Wd} : ∀ {ws : List W3} {vs : List V} {ds : List PyData}, RWs K A vs ws → dsOf ws = some ds → DaA K A.G vs ds
  | [], _, _, .nil, e => by cases e; exact .nil
  | .d x :: r, _, _, .cons h t, e => by
    obtain ⟨xs, e1, e2⟩ := Option.map_eq_some_iff.mp e
    cases e2
    exact .cons h (dsOf_daa t e1)
  | .r _ :: _, _, _, .cons h t, e => by cases e
  | .sc _ :: _, _, _, .cons h t, e => by cases e
  | .ty _ :: _, _, _, .cons h t, e => by cases e
def eTup (a : FA) : FE := fun sl S => (a sl S).bind fun p => (dsOf p.1).map fun ds => (.d (.tuple ds), p.2)
def nLst (a : FA) : FN := fun sl S => (a sl S).bind fun p => (dsOf p.1).map fun ds => (ds, p.2)
/-- a new list as data; as a changeable object -/
def eNd (n : FN) : FE := fun sl S => (n sl S).map fun p => (.d (.list p.1), p.2)
def eNo (n : FN) : FE := fun sl S => (n sl S).map fun p => (.r p.2.length, p.2 ++ [.lst p.1])
theorem e_tup {f : FA} {x1} (h : PA3 K X es f) (hn : es.length ≤ 1000 := by decide) : PE3 K X (.Tuple es x1 pos) (eTup f) := ⟨pe_imp (pe_tupP h.p) fun σ H Q h' => by
  obtain ⟨A, S, sl, w, S', rfl, R, s, e, q⟩ := h'
  obtain ⟨⟨w1, S1⟩, e1, e2⟩ := Option.bind_eq_some_iff.mp e
  obtain ⟨ds, e3, e4⟩ := Option.map_eq_some_iff.mp e2
  cases e4
  refine ⟨A, S, sl, w1, _, rfl, R, s, e1, fun B vs n R' r => ⟨?_, fun p o od hp => ?_⟩⟩
  · rw [r.len, h.len _ _ _ _ e1]; exact Nat.le_trans hn (by decide)
  · obtain ⟨n2, R2⟩ := Nx.dat (o := .frz o (.tup vs)) R' hp
    exact q ⟨upd B.G p (.frz o (.tup vs)), upd B.H p (.frz o (.tup vs)), B.ι⟩ _ (n.trans n2) R2 (Da.tup (.inl ⟨o, upd_same, od⟩) ((dsOf_daa r e3).up n2.gg))⟩
theorem n_lst {f : FA} (h : PA3 K X es f) (hn : es.length ≤ 1000 := by decide) : PN3 K X (.List es pos) (nLst f) := ⟨pe_imp (pe_lst h.p) fun σ H Q h' => by
  obtain ⟨A, S, sl, w, S', rfl, R, s, e, q⟩ := h'
  obtain ⟨⟨w1, S1⟩, e1, e2⟩ := Option.bind_eq_some_iff.mp e
  obtain ⟨ds, e3, e4⟩ := Option.map_eq_some_iff.mp e2
  cases e4
  refine ⟨A, S, sl, w1, _, rfl, R, s, e1, fun B vs n R' r => ⟨?_, fun p hp => ?_⟩⟩
  · rw [r.len, h.len _ _ _ _ e1]; exact Nat.le_trans hn (by decide)
  · obtain ⟨n2, R2⟩ := Nx.junk (o := .lst vs) R' hp
    refine q ⟨B.G, upd B.H p (.lst vs), B.ι⟩ vs p (n.trans n2) R2 ?_ (R'.new hp) (R'.gh.free hp) upd_same (dsOf_daa (A := B) r e3)
    cases z : A.H p with
    | none => rfl
    | some u => exact absurd hp (n.dm p (by rw [z]; exact fun k => nomatch k))⟩
theorem e_nd {f : FN} (h : PN3 K X e f) : PE3 K X e (eNd f) := ⟨pe_imp h.p fun σ H Q h' => by
  obtain ⟨A, S, sl, w, S', rfl, R, s, e, q⟩ := h'
  obtain ⟨⟨w1, S1⟩, e1, e2⟩ := Option.map_eq_some_iff.mp e
  cases e2
  refine ⟨A, S, sl, w1, _, rfl, R, s, e1, fun B vs p n R' np ni g hh hd => ?_⟩
  obtain ⟨n2, R2⟩ := Nx.fix n R' np ni g hh
  exact q ⟨upd B.G p (.lst vs), B.H, B.ι⟩ _ n2 R2 (Da.lst upd_same (hd.up (fun b u e => by
    show upd B.G p _ b = _
    rw [upd_ne (ne_of_none e g)]; exact e)))⟩
theorem e_no {f : FN} (h : PN3 K X e f) : PE3 K X e (eNo f) := ⟨pe_imp h.p fun σ H Q h' => by
  obtain ⟨A, S, sl, w, S', rfl, R, s, e, q⟩ := h'
  obtain ⟨⟨w1, S1⟩, e1, e2⟩ := Option.map_eq_some_iff.mp e
  cases e2
  refine ⟨A, S, sl, w1, _, rfl, R, s, e1, fun B vs p n R' np ni g hh hd => ?_⟩
  obtain ⟨n2, R2⟩ := Nx.own0 (o := .lst w1) n R' np ni ⟨g, vs, hh, hd⟩
  exact q ⟨B.G, B.H, B.ι ++ [p]⟩ _ n2 R2 (RW.last R'.len)⟩
end
/-! ### statements -/
def sNx : FS := fun sl S => some (.nx sl S)
def sBk : FS := fun sl S => some (.bk sl S)
def sCt : FS := fun sl S => some (.ct sl S)
def sSeq (f g : FS) : FS := fun sl S => (f sl S).bind fun o => match o with
  | .nx sl' S' => g sl' S'
  | o => some o
def sEx (f : FE) : FS := fun sl S => (f sl S).map fun p => .nx sl p.2
def sRt (f : FE) : FS := fun sl S => (f sl S).map fun p => .rt p.1 p.2
def sRtN : FS := fun sl S => some (.rt (.d .none) S)
def sIf (t : FT) (a b : FS) : FS := fun sl S => (t sl S).bind fun p => if p.1 = true then a sl p.2 else b sl p.2
def sSet (i : Nat) (f : FE) : FS := fun sl S => (f sl S).map fun p => .nx (sl.set i (some p.1)) p.2
def sAsg (f : FE) (g : FG) : FS := fun sl S => (f sl S).bind fun p => (g p.1 sl p.2).map fun q => .nx q.1 q.2
section
variable {K : PySem.W.Frag} {X : Cx} {e : Expr} {es : List Expr} {st : Stmt} {sts : List Stmt} {pos : Pos}
theorem b_nil : PSs3 K X [] sNx := ⟨pss_imp pss_nil fun D σ H h => by
  obtain ⟨A, S, sl, o, rfl, R, s, e, q⟩ := h
  cases e
  exact q A σ (Nx.refl A) R s⟩
theorem b_cons {f g : FS} (h : PS3 K X st f) (hr : PSs3 K X sts g) : PSs3 K X (st :: sts) (sSeq f g) := ⟨pss_imp (pss_cons h.p hr.p) fun D σ H h => by
  obtain ⟨A, S, sl, o, rfl, R, s, e, q⟩ := h
  obtain ⟨o1, e1, e2⟩ := Option.bind_eq_some_iff.mp e
  refine ⟨A, S, sl, o1, rfl, R, s, e1, ?_⟩
  cases o1 with
  | nx sl' S' => exact fun B σ' n R' s' => ⟨B, S', sl', o, rfl, R', s', e2, q.mono n⟩
  | rt w S' => cases e2; exact q
  | bk sl' S' => cases e2; exact q
  | ct sl' S' => cases e2; exact q⟩
theorem b_one {f : FS} (h : PS3 K X st f) : PSs3 K X [st] f := ⟨pss_one h.p⟩
theorem s_expr {f : FE} (h : PE3 K X e f) (hs : swapsWith e none pos.line X.env = pure false := by rfl) : PS3 K X (.Expr e pos) (sEx f) := ⟨ps_imp (ps_expr h.p hs) fun D σ H h => by
  obtain ⟨A, S, sl, o, rfl, R, s, e, q⟩ := h
  obtain ⟨⟨w1, S1⟩, e1, e2⟩ := Option.map_eq_some_iff.mp e
  cases e2
  exact ⟨A, S, sl, w1, S1, rfl, R, s, e1, fun B v n R' r => q B σ n R' (s.mono n)⟩⟩
theorem s_ret {f : FE} (h : PE3 K X e f) : PS3 K X (.Return (some e) pos) (sRt f) := ⟨ps_imp (ps_ret h.p) fun D σ H h => by
  obtain ⟨A, S, sl, o, rfl, R, s, e, q⟩ := h
  obtain ⟨⟨w1, S1⟩, e1, e2⟩ := Option.map_eq_some_iff.mp e
  cases e2
  exact ⟨A, S, sl, w1, S1, rfl, R, s, e1, fun B v n R' r => q B v n R' r⟩⟩
theorem s_if {t : FT} {f g : FS} {c : Expr} {a b : List Stmt} (hc : PT3 K X c t) (ha : PSs3 K X a f) (hb : PSs3 K X b g) : PS3 K X (.If c a b pos) (sIf t f g) := ⟨ps_imp (ps_if hc.p ha.p hb.p) fun D σ H h => by
  obtain ⟨A, S, sl, o, rfl, R, s, e, q⟩ := h
  obtain ⟨⟨w1, S1⟩, e1, e2⟩ := Option.bind_eq_some_iff.mp e
  refine ⟨A, S, sl, w1, S1, rfl, R, s, e1, fun B n R' => ?_⟩
  cases w1 with
  | true => exact ⟨B, S1, sl, o, rfl, R', s.mono n, e2, q.mono n⟩
  | false => exact ⟨B, S1, sl, o, rfl, R', s.mono n, e2, q.mono n⟩⟩
theorem s_set {i : Nat} {x : Str} {f : FE} {pos' : Pos} (hN : X.N.Nodup) (hi : X.N[i]? = some x) (hx : Loc X.env.scope x) (h : PE3 K X e f) (hs : swapsWith e (some (.Name x pos')) pos.line X.env = pure false := by rfl)
    (hf : X.fn x = true ∨ X.env.scope.names.lookup x = some .local := by first | exact .inl rfl | exact .inr rfl | assumption) : PS3 K X (.Assign [.Name x pos'] e pos) (sSet i f) := ⟨ps_imp (ps_set hN hi hx h.p hs hf) fun D σ H h => by
  obtain ⟨A, S, sl, o, rfl, R, s, e, q⟩ := h
  obtain ⟨⟨w1, S1⟩, e1, e2⟩ := Option.map_eq_some_iff.mp e
  cases e2
  exact ⟨A, S, sl, w1, S1, rfl, R, s, e1, fun B v n R' r => q B _ n R' ((s.mono n).set i r)⟩⟩
theorem s_asg {f : FE} {g : FG} {vs : List Nat} {tg : Expr} (h : PE3 K X e f) (hg : PG3 K X tg vs g) (hs : swapsWithSole [tg] e pos.line X.env = pure false := by rfl) (hw : swappedStores [tg] e X.env = pure none := by rfl) (h1 : (assignEach [tg] X.env).map (·.2) = [assign tg X.env] := by rfl) : PS3 K X (.Assign [tg] e pos) (sAsg f g) := ⟨ps_imp (ps_asg h.p hg.p hs hw h1) fun D σ H h => by
  obtain ⟨A, S, sl, o, rfl, R, s, e, q⟩ := h
  obtain ⟨⟨w1, S1⟩, e1, e2⟩ := Option.bind_eq_some_iff.mp e
  obtain ⟨⟨sl2, S2⟩, e3, e4⟩ := Option.map_eq_some_iff.mp e2
  cases e4
  refine ⟨A, S, sl, w1, S1, rfl, R, s, e1, fun B v n R' r => ?_⟩
  exact ⟨B, S1, sl, w1, sl2, S2, rfl, R', s.mono n, r, e3, fun C σ' n2 R2 s2 _ => q C σ' (n.trans n2) R2 s2⟩⟩
end
/-! ### targets -/
def gNm (i : Nat) : FG := fun w sl S => some (sl.set i (some w), S)
def gsNil : List PyData → Sl → List MO → Option (Sl × List MO) := fun xs sl S => match xs with
  | [] => some (sl, S)
  | _ => none
def gsCons (g : FG) (r : List PyData → Sl → List MO → Option (Sl × List MO)) : List PyData → Sl → List MO → Option (Sl × List MO) := fun xs sl S => match xs with
  | x :: xs => (g (.d x) sl S).bind fun p => r xs p.1 p.2
  | [] => none
def gTp (r : List PyData → Sl → List MO → Option (Sl × List MO)) : FG := fun w sl S => match w with
  | .d (.tuple xs) => r xs sl S
  | _ => none
def tgsO (K : PySem.W.Frag) (n : Nat) (vs : List Nat) (f : List PyData → Sl → List MO → Option (Sl × List MO)) : TGs := fun v σ H Q => ∃ (A : Wd) (S : List MO) (sl : Sl) (w : List PyData) (sl' : Sl) (S' : List MO), A.H = H ∧ Rl K A S ∧ SR3 K A σ sl ∧ DaA K A.G v w ∧ f w sl S = some (sl', S') ∧
  ∀ B σ', Nx A B → Rl K B S' → SR3 K B σ' sl' → (σ'.length = σ.length ∧ ∀ j, j ∉ vs → σ'[j]? = σ[j]?) → Q σ' B.H
structure PGs3 (K : PySem.W.Frag) (X : Cx) (es : List Expr) (n : Nat) (vs : List Nat) (f : List PyData → Sl → List MO → Option (Sl × List MO)) : Prop where
  p : PGs X es (tgsO K n vs f)
  len : ∀ xs sl S r, f xs sl S = some r → xs.length = n
section
variable {K : PySem.W.Frag} {X : Cx} {e : Expr} {es : List Expr} {pos : Pos}
theorem pg_imp {t t' : TG} (h : PG X e t) (i : ∀ v σ H Q, t' v σ H Q → t v σ H Q) : PG X e t' := ⟨fun pins s σ H v u Q I r q => h.run pins s σ H v u Q I r (i v σ H Q q)⟩
theorem pgs_imp {t t' : TGs} (h : PGs X es t) (i : ∀ v σ H Q, t' v σ H Q → t v σ H Q) : PGs X es t' := ⟨fun pins s σ H v u Q I r q => h.run pins s σ H v u Q I r (i v σ H Q q)⟩
theorem g_name {i : Nat} {x : Str} (hN : X.N.Nodup) (hi : X.N[i]? = some x) (hx : Loc X.env.scope x) (hf : X.fn x = true ∨ X.env.scope.names.lookup x = some .local := by first | exact .inl rfl | exact .inr rfl | assumption) : PG3 K X (.Name x pos) [i] (gNm i) := ⟨pg_imp (pg_name hN hi hx hf) fun v σ H Q h => by
  obtain ⟨A, S, sl, w, sl', S', rfl, R, s, r, e, q⟩ := h
  cases e
  refine q A _ (Nx.refl A) R (s.set i r) ⟨List.length_set, fun j hj => ?_⟩
  rw [List.getElem?_set_ne (fun z => hj (by simp [z]))]⟩
theorem gs_nil : PGs3 K X [] 0 [] gsNil := ⟨pgs_imp pgs_nil fun v σ H Q h => by
  obtain ⟨A, S, sl, w, sl', S', rfl, R, s, r, e, q⟩ := h
  cases w with
  | nil =>
    cases e
    cases r
    exact ⟨rfl, q A _ (Nx.refl A) R s ⟨rfl, fun _ _ => rfl⟩⟩
  | cons _ _ => (cases e), fun xs sl S r e => by
  cases xs with
  | nil => rfl
  | cons _ _ => cases e⟩
theorem gs_cons {g : FG} {r : List PyData → Sl → List MO → Option (Sl × List MO)} {n : Nat} {vs ws : List Nat} (h : PG3 K X e vs g) (hr : PGs3 K X es n ws r) (hs : (assignEach (e :: es) X.env).map (·.2) = assign e X.env :: (assignEach es X.env).map (·.2) := by rfl) : PGs3 K X (e :: es) (n + 1) (vs ++ ws) (gsCons g r) := ⟨pgs_imp (pgs_cons h.p hr.p hs) fun v σ H Q h => by
  obtain ⟨A, S, sl, w, sl', S', rfl, R, s, r, e, q⟩ := h
  cases w with
  | nil => cases e
  | cons x xs =>
    cases r
    rename_i u us hu hus
    obtain ⟨⟨sl1, S1⟩, e1, e2⟩ := Option.bind_eq_some_iff.mp e
    refine ⟨u, us, rfl, A, S, sl, .d x, sl1, S1, rfl, R, s, hu, e1, fun B σ' n1 R' s' k => ?_⟩
    exact ⟨B, S1, sl1, xs, sl', S', rfl, R', s', hus.up n1.gg, e2, fun C σ2 n2 R2 s2 k2 => q C σ2 (n1.trans n2) R2 s2 ⟨k2.1.trans k.1, fun j hj => (k2.2 j fun z => hj (List.mem_append_right _ z)).trans (k.2 j fun z => hj (List.mem_append_left _ z))⟩⟩, fun xs sl S r e => by
  cases xs with
  | nil => cases e
  | cons x xs =>
    obtain ⟨⟨sl1, S1⟩, e1, e2⟩ := Option.bind_eq_some_iff.mp e
    rw [List.length_cons, hr.len _ _ _ _ e2]⟩
theorem g_tup {r : List PyData → Sl → List MO → Option (Sl × List MO)} {n k : Nat} {vs : List Nat} (hK : X.K = K) (hc : X.calm = true) (h : PGs3 K X es n vs r)
    (hn : (assignEach es X.env).length = n := by rfl) (hst : (assignEach es X.env).findIdx? (·.1) = none := by rfl) : PG3 K X (.Tuple es k pos) vs (gTp r) := ⟨pg_imp (pg_tup hc h.p hn hst) fun v σ H Q h' => by
  obtain ⟨A, S, sl, w, sl', S', rfl, R, s, r, e, q⟩ := h'
  cases w with
  | r _ => cases e
  | sc _ => cases e
  | ty _ => cases e
  | d x =>
    cases x with
    | tuple xs =>
      obtain ⟨a, us, rfl, ha, hd⟩ := Da.tup_inv r
      subst hK
      refine ⟨a, us, rfl, sqT_up R.gh ha, by rw [hd.len]; exact h.len _ _ _ _ e, ?_⟩
      exact ⟨A, S, sl, xs, sl', S', rfl, R, s, hd, e, q⟩
    | _ => cases e⟩
end
end EA
namespace EA
open PySem PySem.Spec PyProof.Rows L2
/-! ### for -/
def fLoop (ok : List MO → Bool) (g : FG) (b : FS) : List W3 → Sl → List MO → Option Out
  | [], sl, S => if ok S = true then some (.nx sl S) else none
  | w :: ws, sl, S => if ok S = true then (g w sl S).bind fun p => (b p.1 p.2).bind fun o => match o with
      | .nx sl' S' => fLoop ok g b ws sl' S'
      | .ct sl' S' => fLoop ok g b ws sl' S'
      | .bk sl' S' => some (.nx sl' S')
      | .rt w S' => some (.rt w S') else none
def sFor (it : FI) (g : FG) (b : FS) : FS := fun sl S => (it sl S).bind fun p => fLoop p.1.ok g b p.1.ws sl p.2
theorem fLoop_ok {ok : List MO → Bool} {g : FG} {b : FS} {ws : List W3} {sl : Sl} {S : List MO} {o : Out} (h : fLoop ok g b ws sl S = some o) : ok S = true := by
  cases ws with
  | nil =>
    by_cases z : ok S = true
    · exact z
    · rw [fLoop, if_neg z] at h; cases h
  | cons w ws =>
    by_cases z : ok S = true
    · exact z
    · rw [fLoop, if_neg z] at h; cases h
section
variable {K : PySem.W.Frag} {X : Cx} {e : Expr} {es : List Expr} {st : Stmt} {sts : List Stmt} {pos : Pos}
theorem s_for {iter tg : Expr} {body : List Stmt} {it : FI} {vs : List Nat} {g : FG} {b : FS} (hp : PassesOwn (model X.prog X.w) X.A X.env X.xe) (hc : X.calm = true) (hi : PI3 K X tg iter it) (hg : PG3 K X tg vs g) (hb : PSs3 K X body b)
    (hs : ∀ x, foldedSetIterable iter X.env x = pure x := by intro _; rfl) : PS3 K X (.For tg iter body [] pos) (sFor it g b) := ⟨ps_imp (ps_for hp hc hi.p hg.p hb.p hs) fun D σ H h => by
  obtain ⟨A, S, sl, o, rfl, R, s, e, q⟩ := h
  obtain ⟨⟨j, S1⟩, e1, e2⟩ := Option.bind_eq_some_iff.mp e
  refine ⟨A, S, sl, j, S1, rfl, R, s, e1, fun B J n R' IR => ?_⟩
  refine ⟨fun i m σ H => m = j.ws.length - i ∧ i ≤ j.ws.length ∧ ∃ (C : Wd) (S : List MO) (sl : Sl) (o : Out), C.H = H ∧ Nx B C ∧ Rl K C S ∧ SR3 K C σ sl ∧ fLoop j.ok g b (j.ws.drop i) sl S = some o ∧ EndsOk K C D o,
    ⟨_, rfl, Nat.zero_le _, B, S1, sl, o, rfl, Nx.refl B, R', s.mono n, by rw [List.drop_zero]; exact e2, q.mono n⟩, ?_⟩
  rintro i m σ1 H1 ⟨rfl, hi, C, S2, sl2, o2, rfl, n2, R2, s2, e3, q2⟩
  have hok := fLoop_ok e3
  have ir := IR C S2 n2.toW R2 hok i
  by_cases hlt : i < j.ws.length
  · have hw : j.ws[i]? = some j.ws[i] := List.getElem?_eq_getElem hlt
    obtain ⟨go, step⟩ := ir.1 _ hw
    have hd : j.ws.drop i = j.ws[i] :: j.ws.drop (i + 1) := List.drop_eq_getElem_cons hlt
    rw [hd, fLoop, if_pos hok] at e3
    obtain ⟨⟨sl3, S3⟩, e4, e5⟩ := Option.bind_eq_some_iff.mp e3
    obtain ⟨o3, e6, e7⟩ := Option.bind_eq_some_iff.mp e5
    refine .inr ⟨go, fun σ' H' => ∃ (C : Wd) (S : List MO) (sl : Sl) (o : Out), C.H = H' ∧ Nx B C ∧ Rl K C S ∧ SR3 K C σ' sl ∧ fLoop j.ok g b (j.ws.drop (i + 1)) sl S = some o ∧ EndsOk K C D o, fun σ' H' w => ⟨j.ws.length - (i + 1), by omega, rfl, hlt, w⟩, fun v H' y => ?_⟩
    obtain ⟨C', rfl, n3, R3, r3⟩ := step v H' y
    refine ⟨C', S2, sl2, j.ws[i], sl3, S3, rfl, R3, s2.mono n3, r3, e4, fun E σ' n4 R4 s4 _ => ?_⟩
    have nE : Nx C E := n3.trans n4
    refine ⟨E, S3, sl3, o3, rfl, R4, s4, e6, ?_⟩
    cases o3 with
    | nx sl' S' => exact fun F σ2 n5 R5 s5 => ⟨F, S', sl', o2, rfl, n2.trans (nE.trans n5), R5, s5, e7, q2.mono (nE.trans n5)⟩
    | ct sl' S' => exact fun F σ2 n5 R5 s5 => ⟨F, S', sl', o2, rfl, n2.trans (nE.trans n5), R5, s5, e7, q2.mono (nE.trans n5)⟩
    | bk sl' S' => cases e7; exact fun F σ2 n5 R5 s5 => q2 F σ2 (nE.trans n5) R5 s5
    | rt w S' => cases e7; exact fun F v n5 R5 s5 => q2 F v (nE.trans n5) R5 s5
  · have hz : i = j.ws.length := by omega
    subst hz
    rw [List.drop_length, fLoop, if_pos hok] at e3
    cases e3
    exact .inl ⟨ir.2 (Nat.le_refl _), q2 C σ1 (Nx.refl C) R2 s2⟩⟩
/-! ### while -/
end
/-! ### [e for x in xs if ..] -/
def wipe3 (sl : Sl) : List Nat → Sl
  | [] => sl
  | v :: vs => (wipe3 sl vs).set v none
def cLoop (ok : List MO → Bool) (g : FG) (t : FT) (e : FE) (sl : Sl) : List W3 → List MO → Option (List PyData × List MO)
  | [], S => if ok S = true then some ([], S) else none
  | w :: ws, S => if ok S = true then (g w sl S).bind fun p => (t p.1 p.2).bind fun b => if b.1 = true then (e p.1 b.2).bind fun y => match y.1 with
        | .d x => (cLoop ok g t e sl ws y.2).map fun z => (x :: z.1, z.2)
        | _ => none
      else cLoop ok g t e sl ws b.2
    else none
/-- own: the comprehension's names' slots -/
def nLc (own : List Nat) (it : FI) (g : FG) (t : FT) (e : FE) : FN := fun sl S => (it sl S).bind fun p => if p.1.ws.length ≤ 100000 then cLoop p.1.ok g t e (wipe3 sl own) p.1.ws p.2 else none
def tYes3 : FT := fun _ S => some (true, S)
theorem cLoop_ok {ok : List MO → Bool} {g : FG} {t : FT} {e : FE} {sl : Sl} {ws : List W3} {S : List MO} {o : List PyData × List MO} (h : cLoop ok g t e sl ws S = some o) : ok S = true := by
  cases ws with
  | nil =>
    by_cases z : ok S = true
    · exact z
    · rw [cLoop, if_neg z] at h; cases h
  | cons w ws =>
    by_cases z : ok S = true
    · exact z
    · rw [cLoop, if_neg z] at h; cases h
theorem SR3.weak {K : PySem.W.Frag} {A : Wd} {σ : L2.St} {sl : Sl} (h : SR3 K A σ sl) : ∀ vs : List Nat, SR3 K A (wipe σ vs) (wipe3 sl vs)
  | [] => h
  | v :: vs => by
    have ih := h.weak vs
    refine ⟨?_, fun j u e => ?_⟩
    · show ((wipe σ vs).set v none).length = ((wipe3 sl vs).set v none).length
      rw [List.length_set, List.length_set, ih.len]
    · have e' : ((wipe3 sl vs).set v none)[j]? = some (some u) := e
      show ∃ x, ((wipe σ vs).set v none)[j]? = some (some x) ∧ _
      by_cases hj : v = j
      · subst hj
        have hi : v < (wipe3 sl vs).length := by have := (List.getElem?_eq_some_iff.mp e').1; rwa [List.length_set] at this
        rw [List.getElem?_set_self hi] at e'
        cases e'
      · rw [List.getElem?_set_ne hj] at e' ⊢
        exact ih.at_ j u e'
theorem wipe_get {σ : L2.St} {j : Nat} : ∀ {vs : List Nat}, (wipe σ vs)[j]? = if j ∈ vs then (σ[j]?).map fun _ => none else σ[j]?
  | [] => by simp [wipe]
  | v :: vs => by
    show ((wipe σ vs).set v none)[j]? = _
    by_cases hj : v = j
    · subst hj
      rw [if_pos List.mem_cons_self]
      by_cases hi : v < σ.length
      · rw [List.getElem?_set_self (by rw [wipe_length]; exact hi), List.getElem?_eq_getElem hi]; rfl
      · rw [List.getElem?_eq_none (by rw [List.length_set, wipe_length]; omega), List.getElem?_eq_none (by omega)]; rfl
    · rw [List.getElem?_set_ne hj, wipe_get (vs := vs)]
      by_cases h : j ∈ vs
      · rw [if_pos h, if_pos (List.mem_cons_of_mem _ h)]
      · rw [if_neg h, if_neg fun z => (List.mem_cons.mp z).elim (fun z => hj z.symm) h]
theorem wipe_same {σ σ' : L2.St} {vs ws : List Nat} (hl : σ'.length = σ.length) (h : ∀ j, j ∉ ws → σ'[j]? = (wipe σ vs)[j]?) (hw : ∀ j ∈ ws, j ∈ vs) : wipe σ' vs = wipe σ vs := by
  apply List.ext_getElem?
  intro j
  rw [wipe_get, wipe_get]
  by_cases hj : j ∈ vs
  · rw [if_pos hj, if_pos hj]
    by_cases hi : j < σ.length
    · rw [List.getElem?_eq_getElem hi, List.getElem?_eq_getElem (by rw [hl]; exact hi)]; rfl
    · rw [List.getElem?_eq_none (by omega), List.getElem?_eq_none (by omega)]
  · rw [if_neg hj, if_neg hj, h j fun z => hj (hw j z), wipe_get, if_neg hj]
section
variable {K : PySem.W.Frag} {X : Cx} {e : Expr} {es : List Expr} {pos : Pos}
structure PTs3 (K : PySem.W.Frag) (X : Cx) (ifs : List Expr) (f : FT) : Prop where
  p : PTs X ifs (ttO K f)
theorem t_nil : PTs3 K X [] tYes3 := ⟨⟨fun pins s σ H Q I h => by
  obtain ⟨A, S, sl, w, S', rfl, R, s', e, q⟩ := h
  cases e
  exact (pts_nil (X := X)).run pins s σ _ Q I (q A (Nx.refl A) R)⟩⟩
theorem t_one {c : Expr} {f : FT} (h : PT3 K X c f) : PTs3 K X [c] f := ⟨pts_one h.p⟩
/-- the comprehension's reading, for a new list at D -/
theorem lc_go {it : FI} {g : FG} {t : FT} {f : FE} {vs ws : List Nat} (hw : ∀ j ∈ ws, j ∈ vs) {σ : L2.St} {H : Hp} {Q : VK} (h : tnO K (nLc vs it g t f) σ H Q) : tLc (tiO K it) (tgO K ws g) (ttO K t) (teO K f) vs σ H Q := by
  obtain ⟨A, S, sl, ys, S', rfl, R, s, e, q⟩ := h
  obtain ⟨⟨j, S1⟩, e1, e2⟩ := Option.bind_eq_some_iff.mp e
  refine ⟨A, S, sl, j, S1, rfl, R, s, e1, fun B J n R' IR D hD => ?_⟩
  have hz : j.ws.length ≤ 100000 := by
    by_cases z : j.ws.length ≤ 100000
    · exact z
    · rw [if_neg z] at e2; cases e2
  rw [if_pos hz] at e2
  have gD : B.G D = none := R'.gh.free hD
  have niD : D ∉ B.ι := R'.new hD
  have aD : A.H D = none := by
    cases z : A.H D with
    | none => rfl
    | some u => exact absurd hD (n.dm D (by rw [z]; exact fun k => nomatch k))
  obtain ⟨nj, Rj⟩ := Nx.junk (o := .lst []) R' hD
  refine ⟨fun i m H => m = j.ws.length - i ∧ i ≤ j.ws.length ∧ ∃ (C : Wd) (S : List MO) (acc : List V) (ds rest : List PyData), C.H = H ∧ Nx B C ∧ Rl K C S ∧ C.G D = none ∧ D ∉ C.ι ∧ C.H D = some (.lst acc) ∧ DaA K C.G acc ds ∧ acc.length ≤ i ∧
      cLoop j.ok g t f (wipe3 sl vs) (j.ws.drop i) S = some (rest, S') ∧ ds ++ rest = ys,
    ⟨_, rfl, Nat.zero_le _, ⟨B.G, upd B.H D (.lst []), B.ι⟩, S1, [], [], ys, rfl, nj, Rj, gD, niD, upd_same, .nil, Nat.le_refl _, by rw [List.drop_zero]; exact e2, rfl⟩, ?_⟩
  rintro i m H1 ⟨rfl, hi, C, S2, acc, ds, rest, rfl, n2, R2, gC, niC, hC, hd, hl, e3, ey⟩
  have hok := cLoop_ok e3
  have ir := IR C S2 n2.toW R2 hok i
  by_cases hlt : i < j.ws.length
  · have hwi : j.ws[i]? = some j.ws[i] := List.getElem?_eq_getElem hlt
    obtain ⟨go, step⟩ := ir.1 _ hwi
    have hdr : j.ws.drop i = j.ws[i] :: j.ws.drop (i + 1) := List.drop_eq_getElem_cons hlt
    rw [hdr, cLoop, if_pos hok] at e3
    obtain ⟨⟨sl3, S3⟩, e4, e5⟩ := Option.bind_eq_some_iff.mp e3
    obtain ⟨⟨b3, S4⟩, e6, e7⟩ := Option.bind_eq_some_iff.mp e5
    refine .inr ⟨go, fun H' => i + 1 ≤ j.ws.length ∧ ∃ (C : Wd) (S : List MO) (acc : List V) (ds rest : List PyData), C.H = H' ∧ Nx B C ∧ Rl K C S ∧ C.G D = none ∧ D ∉ C.ι ∧ C.H D = some (.lst acc) ∧ DaA K C.G acc ds ∧ acc.length ≤ i + 1 ∧
      cLoop j.ok g t f (wipe3 sl vs) (j.ws.drop (i + 1)) S = some (rest, S') ∧ ds ++ rest = ys, fun H' w => ⟨j.ws.length - (i + 1), by omega, rfl, w⟩, fun v H' y => ?_⟩
    obtain ⟨C', rfl, n3, R3, r3⟩ := step v H' y
    -- the list is still there
    have keep : ∀ {E : Wd}, Nx C E → E.G D = none ∧ D ∉ E.ι ∧ E.H D = some (.lst acc) ∧ DaA K E.G acc ds := fun {E} nE =>
      ⟨nE.nw D niC gC (by rw [hC]; exact fun z => nomatch z), fun z => (nE.fr D z).elim niC (fun k => nomatch hC.symm.trans k), nE.hh D _ niC hC, hd.up nE.gg⟩
    refine ⟨C', S2, wipe3 sl vs, j.ws[i], sl3, S3, rfl, R3, ((s.mono n).mono (n2.trans n3)).weak vs, r3, e4, fun E σ' n4 R4 s4 k4 => ⟨?_, ?_⟩⟩
    · exact wipe_same (by rw [k4.1, wipe_length]) k4.2 hw
    · refine ⟨E, S3, sl3, b3, S4, rfl, R4, s4, e6, fun F n5 R5 => ?_⟩
      have nF : Nx C F := (n3.trans n4).trans n5
      cases b3 with
      | false =>
        obtain ⟨g1, g2, g3, g4⟩ := keep nF
        exact ⟨hlt, F, S4, acc, ds, rest, rfl, n2.trans nF, R5, g1, g2, g3, g4, by omega, e7, ey⟩
      | true =>
        obtain ⟨⟨y1, S5⟩, e8, e9⟩ := Option.bind_eq_some_iff.mp e7
        refine ⟨F, S4, sl3, y1, S5, rfl, R5, s4.mono n5, e8, fun L u n6 R6 r6 => ?_⟩
        cases y1 with
        | r _ => cases e9
        | sc _ => cases e9
        | ty _ => cases e9
        | d x =>
          obtain ⟨⟨r2, S6⟩, e10, e11⟩ := Option.map_eq_some_iff.mp e9
          cases e11
          obtain ⟨g1, g2, g3, g4⟩ := keep (nF.trans n6)
          refine ⟨acc, g3, Nat.lt_of_le_of_lt (Nat.le_trans hl (Nat.le_trans hi hz)) (by decide), hlt, ⟨L.G, upd L.H D (.lst (acc ++ [u])), L.ι⟩, S5, acc ++ [u], ds ++ [x], r2, rfl, ?_, ?_, g1, g2, upd_same, g4.app (.cons r6 .nil), by rw [List.length_append]; exact Nat.succ_le_succ hl, e10, ?_⟩
          · have nL : Nx B L := n2.trans (nF.trans n6)
            exact ⟨nL.gg, fun b o hb hh => by
              show upd L.H D _ b = _
              rw [upd_ne (fun z => by rw [z, hD] at hh; cases hh)]; exact nL.hh b o hb hh, nL.nw, fun b hb z => nL.dm b hb (upd_none z), nL.pre, nL.fr, fun b od ks e => by
              show upd L.H D _ b = _
              rw [upd_ne (fun z => by rw [z, hD] at e; cases e)]; exact nL.lk b od ks e⟩
          · refine ⟨fun b o hb => ?_, R6.nd, R6.len, fun i o a e1 e2 => (R6.ob i o a e1 e2).keep (Same.refl _) (fun g => g) fun u hu => ?_⟩
            · show upd L.H D _ b = _
              rw [upd_ne (ne_of_none hb g1)]; exact R6.gh b o hb
            · show upd L.H D _ a = _
              rw [upd_ne (fun z => g2 (by rw [← z]; exact List.mem_of_getElem? e2))]; exact hu
          · rw [List.append_assoc]; exact ey
  · have hz2 : i = j.ws.length := by omega
    subst hz2
    rw [List.drop_length, cLoop, if_pos hok] at e3
    cases e3
    rw [List.append_nil] at ey
    subst ey
    exact .inl ⟨ir.2 (Nat.le_refl _), q C acc D (n.trans n2) R2 aD niC gC hC hd⟩
end
end EA
namespace EA
open PySem PySem.Spec PyProof.Rows L2
/-! ### what a value is, as data -/
def view (S : List MO) : W3 → Option PyData
  | .d x => some x
  | .r i => match S[i]? with
    | some (.lst xs) => some (.list xs)
    | _ => none
  | .sc xs => some (.list (xs.map .int))
  | .ty _ => none
section
variable {K : PySem.W.Frag} {A : Wd} {S : List MO} {v : V} {w : W3} {x : PyData}
mutual
theorem Dp.ofDa {H : Hp} (s : Same A.G H) : ∀ {d : PyData} {v : V}, Da K A.G v d → Dp K H v d
  | .none, _, .non => .non
  | .bool _, _, .bl b => .bl b
  | .int _, _, .int i => .int i
  | .str _, _, .str x => .str x
  | .list _, _, .lst e h => .lst (SqL.of (s _ _ e)) (DpAll.ofDa s h)
  | .tuple _, _, .tup e h => .tup (sqT_up s e.sq) (DpAll.ofDa s h)
theorem DpAll.ofDa {H : Hp} (s : Same A.G H) : ∀ {ds : List PyData} {vs : List V}, DaA K A.G vs ds → DpAll K H vs ds
  | [], _, .nil => .nil
  | _ :: _, _, .cons h t => .cons (Dp.ofDa s h) (DpAll.ofDa s t)
end
theorem DpAll.ints {H : Hp} : ∀ bs : List Int, DpAll K H (bs.map V.int) (bs.map PyData.int)
  | [] => .nil
  | b :: r => .cons (.int b) (DpAll.ints r)
mutual
theorem dp_plain {H : Hp} : ∀ {d : PyData} {v : V}, Dp K H v d → d.plain = true
  | .none, _, .non => rfl
  | .bool _, _, .bl b => rfl
  | .int _, _, .int i => rfl
  | .str _, _, .str x => rfl
  | .list _, _, .lst e h => dpAll_plain h
  | .tuple _, _, .tup e h => dpAll_plain h
theorem dpAll_plain {H : Hp} : ∀ {ds : List PyData} {vs : List V}, DpAll K H vs ds → PyData.plainAll ds = true
  | [], _, .nil => rfl
  | d :: ds, _, .cons h t => by
    show (d.plain && PyData.plainAll ds) = true
    rw [dp_plain h, dpAll_plain t]; rfl
end
/-- a list, as it lies -/
theorem view_list (R : Rl K A S) (r : RW K A v w) {xs : List PyData} (e : view S w = some (.list xs)) : ∃ a vs, v = .ref a ∧ SqL K A.H a vs ∧ DpAll K A.H vs xs ∧ DaA K A.G vs xs := by
  cases w with
  | d y =>
    cases e
    obtain ⟨a, vs, rfl, h1, h2⟩ := Da.list_inv r
    exact ⟨a, vs, rfl, SqL.of (R.gh _ _ h1), DpAll.ofDa R.gh h2, h2⟩
  | r i =>
    obtain ⟨a, ha, rfl⟩ := r
    unfold view at e
    dsimp only at e
    cases o : S[i]? with
    | none => rw [o] at e; cases e
    | some m =>
      rw [o] at e
      cases m with
      | gone => cases e
      | dic _ => cases e
      | rcd _ => cases e
      | nls _ => cases e
      | ldic _ => cases e
      | ndc _ => cases e
      | lst ys =>
        cases e
        obtain ⟨g, vs, h1, h2⟩ := R.ob i _ a o ha
        exact ⟨a, vs, rfl, SqL.of h1, DpAll.ofDa R.gh h2, h2⟩
  | sc ys =>
    cases e
    obtain ⟨a, rfl, h⟩ := r
    exact ⟨a, _, rfl, R.gh.seq h, DpAll.ints ys, DaA.ints ys⟩
  | ty n => cases e
/-- a list whose object is its own -/
def viewL (S : List MO) : W3 → Option (List PyData)
  | .d (.list xs) => some xs
  | .r i => match S[i]? with
    | some (.lst xs) => some xs
    | _ => none
  | _ => none
theorem viewL_at (R : Rl K A S) (r : RW K A v w) {xs : List PyData} (e : viewL S w = some xs) : ∃ a vs, v = .ref a ∧ A.H a = some (.lst vs) ∧ DaA K A.G vs xs := by
  cases w with
  | d y =>
    cases y with
    | list ys =>
      cases e
      obtain ⟨a, vs, rfl, h1, h2⟩ := Da.list_inv r
      exact ⟨a, vs, rfl, R.gh _ _ h1, h2⟩
    | _ => cases e
  | r i =>
    obtain ⟨a, ha, rfl⟩ := r
    unfold viewL at e
    dsimp only at e
    cases o : S[i]? with
    | none => rw [o] at e; cases e
    | some m =>
      rw [o] at e
      cases m with
      | gone => cases e
      | dic _ => cases e
      | rcd _ => cases e
      | nls _ => cases e
      | ldic _ => cases e
      | ndc _ => cases e
      | lst ys =>
        cases e
        obtain ⟨g, vs, h1, h2⟩ := R.ob i _ a o ha
        exact ⟨a, vs, rfl, h1, h2⟩
  | sc ys => cases e
  | ty n => cases e
theorem view_dp (R : Rl K A S) (r : RW K A v w) (e : view S w = some x) : Dp K A.H v x := by
  cases w with
  | d y => cases e; exact Dp.ofDa R.gh r
  | r i =>
    have e0 := e
    unfold view at e
    dsimp only at e
    cases o : S[i]? with
    | none => rw [o] at e; cases e
    | some m =>
      rw [o] at e
      cases m with
      | gone => cases e
      | dic _ => cases e
      | rcd _ => cases e
      | nls _ => cases e
      | ldic _ => cases e
      | ndc _ => cases e
      | lst ys =>
        cases e
        obtain ⟨a, vs, rfl, h1, h2, _⟩ := view_list (K := K) R r e0
        exact .lst h1 h2
  | sc ys =>
    cases e
    obtain ⟨a, vs, rfl, h1, h2, _⟩ := view_list (K := K) (w := .sc ys) R r rfl
    exact .lst h1 h2
  | ty n => cases e
/-- a tuple, as it lies -/
theorem view_tup (R : Rl K A S) (r : RW K A v w) {xs : List PyData} (e : view S w = some (.tuple xs)) : ∃ a vs, v = .ref a ∧ SqT K A.H a vs ∧ DaA K A.G vs xs := by
  cases w with
  | d y =>
    cases e
    obtain ⟨a, vs, rfl, h1, h2⟩ := Da.tup_inv r
    exact ⟨a, vs, rfl, sqT_up R.gh h1, h2⟩
  | r i =>
    unfold view at e
    dsimp only at e
    cases o : S[i]? with
    | none => rw [o] at e; cases e
    | some m => rw [o] at e; cases m <;> cases e
  | sc ys => cases e
  | ty n => cases e
end
/-! ### comparisons -/
abbrev GB := PyData → PyData → Option Bool
def rB (K : PySem.W.Frag) (g : GB) : R2 := fun x y H Q => ∃ a b c, Dp K H x a ∧ Dp K H y b ∧ g a b = some c ∧ Q (.bl c) H
def gEq : GB := fun a b => if a.depth ≤ 40 ∨ b.depth ≤ 40 then some (PyData.eqv a b) else none
def gNe : GB := fun a b => if a.depth ≤ 40 ∨ b.depth ≤ 40 then some (!PyData.eqv a b) else none
def cmpOk (a b : PyData) : Bool := W.alike a b && (match a with | .none => false | _ => true) && (decide (a.depth ≤ 40) || decide (b.depth ≤ 40))
def gLt : GB := fun a b => if cmpOk a b = true then some (W.dataLt a b) else none
def gGt : GB := fun a b => if cmpOk a b = true then some (W.dataLt b a) else none
def gLe : GB := fun a b => if cmpOk a b = true then some (!W.dataLt b a) else none
def gGe : GB := fun a b => if cmpOk a b = true then some (!W.dataLt a b) else none
def isB : PyData → PyData → Bool
  | .none, .none => true
  | .bool a, .bool b => a == b
  | _, _ => false
def plainB : PyData → Bool
  | .none => true
  | .bool _ => true
  | _ => false
def gIs : GB := fun a b => if plainB b = true then some (isB a b) else none
def gIsN : GB := fun a b => if plainB b = true then some (!isB a b) else none
def gIn : GB := fun a b => match b with
  | .list xs => if PyData.depthAll xs ≤ 40 ∨ a.depth ≤ 40 then some (xs.any fun y => PyData.eqv y a) else none
  | .tuple xs => if PyData.depthAll xs ≤ 40 ∨ a.depth ≤ 40 then some (xs.any fun y => PyData.eqv y a) else none
  | .str j => match a with
    | .str i => some (!(Builtin.Str.occurrences j i 0 j.length 1).isEmpty)
    | _ => none
  | _ => none
def gNin : GB := fun a b => (gIn a b).map not
section
variable {X : Cx} {K : PySem.W.Frag}
theorem min_le40 {a b u c : Nat} (h : a ≤ 40 ∨ b ≤ 40) (hu : u + 64 < c) : u + min a b < c := by omega
theorem min_le41 {a b u c : Nat} (h : a ≤ 40 ∨ b ≤ 40) (hu : u + 64 < c) : u + 1 + min a b < c := by omega
theorem op_gEq (hu : X.A.units + 64 < cLine) : OpR X (compareOp .Eq) (rB X.K gEq) := by
  intro pins s σ H x y v u Q I rx ry h
  obtain ⟨a, b, c, ha, hb, e, q⟩ := h
  obtain ⟨as, ra⟩ := Dp.reads I a x v ha rx
  obtain ⟨bs, rb⟩ := Dp.reads I b y u hb ry
  unfold gEq at e
  by_cases z : a.depth ≤ 40 ∨ b.depth ≤ 40
  · rw [if_pos z] at e
    cases e
    exact SeqAt.eq_plain ra rb (dp_plain ha) (dp_plain hb) (min_le40 z hu) ⟨.bl _, H, I, rfl, q⟩
  · rw [if_neg z] at e; cases e
theorem op_gNe (hu : X.A.units + 64 < cLine) : OpR X (compareOp .NotEq) (rB X.K gNe) := by
  intro pins s σ H x y v u Q I rx ry h
  obtain ⟨a, b, c, ha, hb, e, q⟩ := h
  obtain ⟨as, ra⟩ := Dp.reads I a x v ha rx
  obtain ⟨bs, rb⟩ := Dp.reads I b y u hb ry
  unfold gNe at e
  by_cases z : a.depth ≤ 40 ∨ b.depth ≤ 40
  · rw [if_pos z] at e
    cases e
    exact SeqAt.ne_plain ra rb (dp_plain ha) (dp_plain hb) (min_le40 z hu) ⟨.bl _, H, I, rfl, q⟩
  · rw [if_neg z] at e; cases e
theorem cmpOk_of {a b : PyData} (h : cmpOk a b = true) : W.alike a b = true ∧ a ≠ .none ∧ (a.depth ≤ 40 ∨ b.depth ≤ 40) := by
  unfold cmpOk at h
  obtain ⟨h, h3⟩ := Bool.and_eq_true_iff.mp h
  obtain ⟨h1, h2⟩ := Bool.and_eq_true_iff.mp h
  refine ⟨h1, fun z => ?_, ?_⟩
  · subst z; cases h2
  · rcases Bool.or_eq_true_iff.mp h3 with k | k
    · exact .inl (of_decide_eq_true k)
    · exact .inr (of_decide_eq_true k)
theorem op_gLt (hu : X.A.units + 64 < cLine) : OpR X (compareOp .Lt) (rB X.K gLt) := by
  intro pins s σ H x y v u Q I rx ry h
  obtain ⟨a, b, c, ha, hb, e, q⟩ := h
  obtain ⟨as, ra⟩ := Dp.reads I a x v ha rx
  obtain ⟨bs, rb⟩ := Dp.reads I b y u hb ry
  unfold gLt at e
  by_cases z : cmpOk a b = true
  · rw [if_pos z] at e
    cases e
    obtain ⟨h1, h2, h3⟩ := cmpOk_of z
    exact W.lt_data ra rb h1 h2 (min_le40 h3 hu) ⟨.bl _, H, I, rfl, q⟩
  · rw [if_neg z] at e; cases e
theorem op_gGt (hu : X.A.units + 64 < cLine) : OpR X (compareOp .Gt) (rB X.K gGt) := by
  intro pins s σ H x y v u Q I rx ry h
  obtain ⟨a, b, c, ha, hb, e, q⟩ := h
  obtain ⟨as, ra⟩ := Dp.reads I a x v ha rx
  obtain ⟨bs, rb⟩ := Dp.reads I b y u hb ry
  unfold gGt at e
  by_cases z : cmpOk a b = true
  · rw [if_pos z] at e
    cases e
    obtain ⟨h1, h2, h3⟩ := cmpOk_of z
    exact W.gt_data ra rb h1 h2 (min_le40 h3 hu) ⟨.bl _, H, I, rfl, q⟩
  · rw [if_neg z] at e; cases e
theorem op_gLe (hu : X.A.units + 64 < cLine) : OpR X (compareOp .LtE) (rB X.K gLe) := by
  intro pins s σ H x y v u Q I rx ry h
  obtain ⟨a, b, c, ha, hb, e, q⟩ := h
  obtain ⟨as, ra⟩ := Dp.reads I a x v ha rx
  obtain ⟨bs, rb⟩ := Dp.reads I b y u hb ry
  unfold gLe at e
  by_cases z : cmpOk a b = true
  · rw [if_pos z] at e
    cases e
    obtain ⟨h1, h2, h3⟩ := cmpOk_of z
    exact W.le_data ra rb h1 h2 (min_le40 h3 hu) ⟨.bl _, H, I, rfl, q⟩
  · rw [if_neg z] at e; cases e
theorem is_iff {H : Hp} {x y : V} {v u : Value} {a b : PyData} (ha : Dp K H x a) (hb : Dp K H y b) (rx : RelV x v) (ry : RelV y u) (p : plainB b = true) : plainIs v u = true ∧ (v == u) = isB a b := by
  cases hb with
  | non =>
    cases ry
    cases ha with
    | non => cases rx; exact ⟨rfl, rfl⟩
    | bl _ => cases rx; exact ⟨rfl, rfl⟩
    | int _ => obtain ⟨t, rfl⟩ := rx; exact ⟨rfl, rfl⟩
    | str _ => obtain ⟨t, rfl⟩ := rx; exact ⟨rfl, rfl⟩
    | lst _ _ => cases rx; exact ⟨rfl, rfl⟩
    | tup _ _ => cases rx; exact ⟨rfl, rfl⟩
  | bl b =>
    cases ry
    cases ha with
    | non => cases rx; exact ⟨rfl, rfl⟩
    | bl c => cases rx; refine ⟨rfl, ?_⟩; cases b <;> cases c <;> rfl
    | int _ => obtain ⟨t, rfl⟩ := rx; exact ⟨rfl, rfl⟩
    | str _ => obtain ⟨t, rfl⟩ := rx; exact ⟨rfl, rfl⟩
    | lst _ _ => cases rx; exact ⟨rfl, rfl⟩
    | tup _ _ => cases rx; exact ⟨rfl, rfl⟩
  | _ => exact absurd (show false = true from p) Bool.false_ne_true
theorem op_gIs : OpR X (compareOp .Is) (rB X.K gIs) := by
  intro pins s σ H x y v u Q I rx ry h
  obtain ⟨a, b, c, ha, hb, e, q⟩ := h
  unfold gIs at e
  by_cases z : plainB b = true
  · rw [if_pos z] at e
    cases e
    obtain ⟨e1, e2⟩ := is_iff ha hb rx ry z
    exact wpAny_is_plain e1 (fin_bl I q e2.symm)
  · rw [if_neg z] at e; cases e
theorem op_gIsN : OpR X (compareOp .IsNot) (rB X.K gIsN) := by
  intro pins s σ H x y v u Q I rx ry h
  obtain ⟨a, b, c, ha, hb, e, q⟩ := h
  unfold gIsN at e
  by_cases z : plainB b = true
  · rw [if_pos z] at e
    cases e
    obtain ⟨e1, e2⟩ := is_iff ha hb rx ry z
    exact wpAny_isNot_plain e1 (fin_bl I q (by rw [e2]))
  · rw [if_neg z] at e; cases e
theorem op_gIn (hu : X.A.units + 64 < cLine) : OpR X (compareOp .In) (rB X.K gIn) := by
  intro pins s σ H x y v u Q I rx ry h
  obtain ⟨a, b, c, ha, hb, e, q⟩ := h
  obtain ⟨as, ra⟩ := Dp.reads I a x v ha rx
  obtain ⟨bs, rb⟩ := Dp.reads I b y u hb ry
  have pb := dp_plain hb
  cases b with
  | list xs =>
    unfold gIn at e
    dsimp only at e
    by_cases z : PyData.depthAll xs ≤ 40 ∨ a.depth ≤ 40
    · rw [if_pos z] at e
      cases e
      exact SeqAt.in_list_data rb ra pb (dp_plain ha) (min_le41 z hu) ⟨.bl _, H, I, rfl, q⟩
    · rw [if_neg z] at e; cases e
  | tuple xs =>
    unfold gIn at e
    dsimp only at e
    by_cases z : PyData.depthAll xs ≤ 40 ∨ a.depth ≤ 40
    · rw [if_pos z] at e
      cases e
      exact SeqAt.in_tuple_data rb ra pb (dp_plain ha) (min_le41 z hu) ⟨.bl _, H, I, rfl, q⟩
    · rw [if_neg z] at e; cases e
  | str j =>
    cases a with
    | str i =>
      cases e
      cases ha
      cases hb
      exact op_in_str pins s σ H _ _ v u Q I rx ry ⟨i, j, rfl, rfl, q⟩
    | _ => cases e
  | _ => cases e
theorem op_gNin (hu : X.A.units + 64 < cLine) : OpR X (compareOp .NotIn) (rB X.K gNin) := by
  intro pins s σ H x y v u Q I rx ry h
  obtain ⟨a, b, c, ha, hb, e, q⟩ := h
  obtain ⟨as, ra⟩ := Dp.reads I a x v ha rx
  obtain ⟨bs, rb⟩ := Dp.reads I b y u hb ry
  have pb := dp_plain hb
  obtain ⟨c', e0, rfl⟩ := Option.map_eq_some_iff.mp (show (gIn a b).map not = some c from e)
  clear e
  have fin : ∀ d : Bool, some d = some c' → Q (.bl (!d)) H := fun d h => by rw [Option.some.inj h]; exact q
  cases b with
  | list xs =>
    have e1 : (if PyData.depthAll xs ≤ 40 ∨ a.depth ≤ 40 then some (xs.any fun y => PyData.eqv y a) else none) = some c' := e0
    by_cases z : PyData.depthAll xs ≤ 40 ∨ a.depth ≤ 40
    · rw [if_pos z] at e1
      exact SeqAt.notIn_list_data rb ra pb (dp_plain ha) (min_le41 z hu) ⟨.bl _, H, I, rfl, fin _ e1⟩
    · rw [if_neg z] at e1; cases e1
  | tuple xs =>
    have e1 : (if PyData.depthAll xs ≤ 40 ∨ a.depth ≤ 40 then some (xs.any fun y => PyData.eqv y a) else none) = some c' := e0
    by_cases z : PyData.depthAll xs ≤ 40 ∨ a.depth ≤ 40
    · rw [if_pos z] at e1
      exact SeqAt.notIn_tuple_data rb ra pb (dp_plain ha) (min_le41 z hu) ⟨.bl _, H, I, rfl, fin _ e1⟩
    · rw [if_neg z] at e1; cases e1
  | str j =>
    cases a with
    | str i =>
      cases ha
      cases hb
      exact op_notIn_str pins s σ H _ _ v u Q I rx ry ⟨i, j, rfl, rfl, fin _ e0⟩
    | _ => cases e0
  | _ => cases e0
end
def eCmp (g : GB) (a b : FE) : FE := fun sl S => (a sl S).bind fun p => (b sl p.2).bind fun q => (view q.2 p.1).bind fun x => (view q.2 q.1).bind fun y => (g x y).map fun c => (.d (.bool c), q.2)
def tCmp (g : GB) (a b : FE) : FT := fun sl S => (a sl S).bind fun p => (b sl p.2).bind fun q => (view q.2 p.1).bind fun x => (view q.2 q.1).bind fun y => (g x y).map fun c => (c, q.2)
section
variable {K : PySem.W.Frag} {X : Cx} {a b : Expr} {fa fb : FE} {pos : Pos}
theorem e_cmp {op : CmpOp} {g : GB} (hK : X.K = K) (ho : OpR X (compareOp op) (rB X.K g)) (ha : PE3 K X a fa) (hb : PE3 K X b fb) (hm : behindInMarks op b = false) : PE3 K X (.Compare a [op] [b] pos) (eCmp g fa fb) := ⟨pe_imp (pe_cmpR ho ha.p hb.p hm) fun σ H Q h => by
  subst hK
  obtain ⟨A, S, sl, w, S', rfl, R, s, e, q⟩ := h
  obtain ⟨⟨w1, S1⟩, e1, e⟩ := Option.bind_eq_some_iff.mp e
  obtain ⟨⟨w2, S2⟩, e2, e⟩ := Option.bind_eq_some_iff.mp e
  obtain ⟨x, e3, e⟩ := Option.bind_eq_some_iff.mp e
  obtain ⟨y, e4, e⟩ := Option.bind_eq_some_iff.mp e
  obtain ⟨c, e5, e⟩ := Option.map_eq_some_iff.mp e
  cases e
  refine ⟨A, S, sl, w1, S1, rfl, R, s, e1, fun B v n R1 r1 => ⟨B, S1, sl, w2, S2, rfl, R1, s.mono n, e2, fun C u n2 R2 r2 => ?_⟩⟩
  exact ⟨x, y, c, view_dp R2 (r1.mono n2) e3, view_dp R2 r2 e4, e5, q C _ (n.trans n2) R2 (Da.bl c)⟩⟩
theorem t_cmp {op : CmpOp} {g : GB} (hK : X.K = K) (ho : OpR X (compareOp op) (rB X.K g)) (ha : PE3 K X a fa) (hb : PE3 K X b fb) (hm : behindInMarks op b = false) : PT3 K X (.Compare a [op] [b] pos) (tCmp g fa fb) := ⟨pt_imp (pt_cmpR ho ha.p hb.p hm) fun σ H Q h => by
  subst hK
  obtain ⟨A, S, sl, w, S', rfl, R, s, e, q⟩ := h
  obtain ⟨⟨w1, S1⟩, e1, e⟩ := Option.bind_eq_some_iff.mp e
  obtain ⟨⟨w2, S2⟩, e2, e⟩ := Option.bind_eq_some_iff.mp e
  obtain ⟨x, e3, e⟩ := Option.bind_eq_some_iff.mp e
  obtain ⟨y, e4, e⟩ := Option.bind_eq_some_iff.mp e
  obtain ⟨c, e5, e⟩ := Option.map_eq_some_iff.mp e
  cases e
  refine ⟨A, S, sl, w1, S1, rfl, R, s, e1, fun B v n R1 r1 => ⟨B, S1, sl, w2, S2, rfl, R1, s.mono n, e2, fun C u n2 R2 r2 => ?_⟩⟩
  exact ⟨x, y, _, view_dp R2 (r1.mono n2) e3, view_dp R2 r2 e4, e5, _, rfl, q C (n.trans n2) R2⟩⟩
/-! ### truth, and, or, not, if -/
def truD : PyData → Option Bool
  | .none => some false
  | .bool b => some b
  | .int i => some (i != 0)
  | .str x => if x.length ≤ 100000 then some ((x.length : Int) != 0) else none
  | .list xs => some (!xs.isEmpty)
  | .tuple xs => some (!xs.isEmpty)
  | .dict _ => none
def truW (S : List MO) (w : W3) : Option Bool := match w with
  | .r i => match S[i]? with
    | some (.dic ks) => some (!ks.isEmpty)
    | some (.lst xs) => some (!xs.isEmpty)
    | _ => none
  | w => (view S w).bind truD
theorem isEmpty_len {α β : Type} {xs : List α} {ys : List β} (h : xs.length = ys.length) : xs.isEmpty = ys.isEmpty := by
  cases xs with
  | nil =>
    cases ys with
    | nil => rfl
    | cons _ _ => simp at h
  | cons _ _ =>
    cases ys with
    | nil => simp at h
    | cons _ _ => rfl
theorem dpAll_len {H : Hp} : ∀ {vs : List V} {ds : List PyData}, DpAll K H vs ds → vs.length = ds.length
  | _, _, .nil => rfl
  | _, _, .cons _ t => by rw [List.length_cons, List.length_cons, dpAll_len t]
theorem DaK.len {G : Hp} {vs : List (Key × V)} {ds : List (Key × PyData)} (h : DaK K G vs ds) : vs.length = ds.length := by
  induction h with
  | nil => rfl
  | cons _ _ ih => rw [List.length_cons, List.length_cons, ih]
theorem tru_dp {H : Hp} {v : V} {x : PyData} {b : Bool} (h : Dp K H v x) (e : truD x = some b) : TruV K v H b := by
  cases h with
  | non => cases e; rfl
  | bl _ => cases e; rfl
  | int _ => cases e; rfl
  | str y =>
    unfold truD at e
    dsimp only at e
    by_cases z : y.length ≤ 100000
    · rw [if_pos z] at e; cases e; exact ⟨Nat.le_trans z (by decide), rfl⟩
    · rw [if_neg z] at e; cases e
  | lst h1 h2 => cases e; exact .inl ⟨_, h1, by rw [isEmpty_len (dpAll_len h2)]⟩
  | tup h1 h2 => cases e; exact .inr (.inl ⟨_, h1, by rw [isEmpty_len (dpAll_len h2)]⟩)
theorem tru_ok3 {A : Wd} {S : List MO} {v : V} {w : W3} {b : Bool} (R : Rl K A S) (r : RW K A v w) (e : truW S w = some b) : TruV K v A.H b := by
  cases w with
  | r i =>
    unfold truW at e
    obtain ⟨a, ha, rfl⟩ := r
    dsimp only at e
    cases o : S[i]? with
    | none => rw [o] at e; cases e
    | some m =>
      rw [o] at e
      cases m with
      | gone => cases e
      | rcd _ => cases e
      | nls _ => cases e
      | ldic _ => cases e
      | ndc _ => cases e
      | lst xs => cases e; obtain ⟨_, vs, h1, h2⟩ := R.ob i _ a o ha; exact .inl ⟨vs, SqL.of h1, by rw [isEmpty_len h2.len]⟩
      | dic ks => cases e; obtain ⟨_, vs, h1, h2⟩ := R.ob i _ a o ha; exact .inr (.inr ⟨vs, h1, by rw [isEmpty_len h2.len]⟩)
  | d y =>
    obtain ⟨x, e1, e2⟩ := Option.bind_eq_some_iff.mp (show (view S (.d y)).bind truD = some b from e)
    exact tru_dp (view_dp R r e1) e2
  | sc y =>
    obtain ⟨x, e1, e2⟩ := Option.bind_eq_some_iff.mp (show (view S (.sc y)).bind truD = some b from e)
    exact tru_dp (view_dp R r e1) e2
  | ty y => cases e
def tTr (f : FE) : FT := fun sl S => (f sl S).bind fun p => (truW p.2 p.1).map fun b => (b, p.2)
theorem t_tr (hK : X.K = K) (h : PE3 K X a fa) (he : ∀ whole, isTrue a X.env whole = (do let v ← whole; standAt a.pos; holding [v] (truthy v))) : PT3 K X a (tTr fa) := ⟨pt_imp (pt_truth h.p he) fun σ H Q h => by
  subst hK
  obtain ⟨A, S, sl, w, S', rfl, R, s, e, q⟩ := h
  obtain ⟨⟨w1, S1⟩, e1, e⟩ := Option.bind_eq_some_iff.mp e
  obtain ⟨c, e2, e⟩ := Option.map_eq_some_iff.mp e
  cases e
  exact ⟨A, S, sl, w1, S1, rfl, R, s, e1, fun B v n R1 r1 => ⟨_, tru_ok3 R1 r1 e2, q B n R1⟩⟩⟩
def eNot (f : FE) : FE := fun sl S => (f sl S).bind fun p => (truW p.2 p.1).map fun b => (.d (.bool (!b)), p.2)
theorem e_not (hK : X.K = K) (h : PE3 K X a fa) : PE3 K X (.UnaryOp .Not a pos) (eNot fa) := ⟨pe_imp (pe_notT h.p) fun σ H Q h => by
  subst hK
  obtain ⟨A, S, sl, w, S', rfl, R, s, e, q⟩ := h
  obtain ⟨⟨w1, S1⟩, e1, e⟩ := Option.bind_eq_some_iff.mp e
  obtain ⟨c, e2, e⟩ := Option.map_eq_some_iff.mp e
  cases e
  exact ⟨A, S, sl, w1, S1, rfl, R, s, e1, fun B v n R1 r1 => ⟨c, tru_ok3 R1 r1 e2, q B _ n R1 (Da.bl _)⟩⟩⟩
def tNt (f : FT) : FT := fun sl S => (f sl S).map fun p => (!p.1, p.2)
theorem t_not {f : FT} (h : PT3 K X a f) : PT3 K X (.UnaryOp .Not a pos) (tNt f) := ⟨pt_imp (pt_not h.p) fun σ H Q h => by
  obtain ⟨A, S, sl, w, S', rfl, R, s, e, q⟩ := h
  obtain ⟨⟨w1, S1⟩, e1, e⟩ := Option.map_eq_some_iff.mp e
  cases e
  exact ⟨A, S, sl, w1, S1, rfl, R, s, e1, fun B n R1 => q B n R1⟩⟩
def tAn (f g : FT) : FT := fun sl S => (f sl S).bind fun p => if p.1 = true then g sl p.2 else some (false, p.2)
def tOr3 (f g : FT) : FT := fun sl S => (f sl S).bind fun p => if p.1 = true then some (true, p.2) else g sl p.2
variable {rest : List Expr}
theorem w_and1 {f : FT} (h : PT3 K X a f) : PW3 K X (.BoolOp .And [a] pos) f := ⟨pw_and1 h.p⟩
theorem w_or1 {f : FT} (h : PT3 K X a f) : PW3 K X (.BoolOp .Or [a] pos) f := ⟨pw_or1 h.p⟩
theorem w_and {f g : FT} (h : PT3 K X a f) (hb : PW3 K X (.BoolOp .And (b :: rest) pos) g) : PW3 K X (.BoolOp .And (a :: b :: rest) pos) (tAn f g) := ⟨pw_imp (pw_and h.p hb.p) fun σ H Q h => by
  obtain ⟨A, S, sl, w, S', rfl, R, s, e, q⟩ := h
  obtain ⟨⟨w1, S1⟩, e1, e⟩ := Option.bind_eq_some_iff.mp e
  refine ⟨A, S, sl, w1, S1, rfl, R, s, e1, fun B n R1 => ?_⟩
  cases w1 with
  | true => exact ⟨B, S1, sl, w, S', rfl, R1, s.mono n, e, fun C n2 R2 => q C (n.trans n2) R2⟩
  | false => cases e; exact q B n R1⟩
theorem w_or {f g : FT} (h : PT3 K X a f) (hb : PW3 K X (.BoolOp .Or (b :: rest) pos) g) : PW3 K X (.BoolOp .Or (a :: b :: rest) pos) (tOr3 f g) := ⟨pw_imp (pw_or h.p hb.p) fun σ H Q h => by
  obtain ⟨A, S, sl, w, S', rfl, R, s, e, q⟩ := h
  obtain ⟨⟨w1, S1⟩, e1, e⟩ := Option.bind_eq_some_iff.mp e
  refine ⟨A, S, sl, w1, S1, rfl, R, s, e1, fun B n R1 => ?_⟩
  cases w1 with
  | false => exact ⟨B, S1, sl, w, S', rfl, R1, s.mono n, e, fun C n2 R2 => q C (n.trans n2) R2⟩
  | true => cases e; exact q B n R1⟩
theorem t_w {f : FT} (h : PW3 K X a f) : PT3 K X a f := ⟨h.p.pt⟩
/-- and, or of truths -/
def eAn (f g : FE) : FE := fun sl S => (f sl S).bind fun p => match p.1 with
  | .d (.bool true) => g sl p.2
  | .d (.bool false) => some (.d (.bool false), p.2)
  | _ => none
def eOr (f g : FE) : FE := fun sl S => (f sl S).bind fun p => match p.1 with
  | .d (.bool false) => g sl p.2
  | .d (.bool true) => some (.d (.bool true), p.2)
  | _ => none
theorem e_one {op : BoolOp} (h : PE3 K X a fa) : PE3 K X (.BoolOp op [a] pos) fa := ⟨pe_one h.p⟩
theorem e_and (h : PE3 K X a fa) (hb : PE3 K X (.BoolOp .And (b :: rest) pos) fb) : PE3 K X (.BoolOp .And (a :: b :: rest) pos) (eAn fa fb) := ⟨pe_imp (pe_and h.p hb.p) fun σ H Q h => by
  obtain ⟨A, S, sl, w, S', rfl, R, s, e, q⟩ := h
  obtain ⟨⟨w1, S1⟩, e1, e⟩ := Option.bind_eq_some_iff.mp e
  refine ⟨A, S, sl, w1, S1, rfl, R, s, e1, fun B v n R1 r1 => ?_⟩
  cases w1 with
  | d x =>
    cases x with
    | bool c =>
      have rv := Da.bool_inv r1
      refine ⟨c, rv, ?_⟩
      cases c with
      | true => exact ⟨B, S1, sl, w, S', rfl, R1, s.mono n, e, fun C v n2 R2 => q C v (n.trans n2) R2⟩
      | false => cases e; exact q B _ n R1 (Da.bl false)
    | _ => cases e
  | _ => cases e⟩
theorem e_or (h : PE3 K X a fa) (hb : PE3 K X (.BoolOp .Or (b :: rest) pos) fb) : PE3 K X (.BoolOp .Or (a :: b :: rest) pos) (eOr fa fb) := ⟨pe_imp (pe_or h.p hb.p) fun σ H Q h => by
  obtain ⟨A, S, sl, w, S', rfl, R, s, e, q⟩ := h
  obtain ⟨⟨w1, S1⟩, e1, e⟩ := Option.bind_eq_some_iff.mp e
  refine ⟨A, S, sl, w1, S1, rfl, R, s, e1, fun B v n R1 r1 => ?_⟩
  cases w1 with
  | d x =>
    cases x with
    | bool c =>
      have rv := Da.bool_inv r1
      refine ⟨c, rv, ?_⟩
      cases c with
      | false => exact ⟨B, S1, sl, w, S', rfl, R1, s.mono n, e, fun C v n2 R2 => q C v (n.trans n2) R2⟩
      | true => cases e; exact q B _ n R1 (Da.bl true)
    | _ => cases e
  | _ => cases e⟩
def eIf (t : FT) (f g : FE) : FE := fun sl S => (t sl S).bind fun p => if p.1 = true then f sl p.2 else g sl p.2
theorem e_if {c : Expr} {t : FT} (hc : PT3 K X c t) (ha : PE3 K X a fa) (hb : PE3 K X b fb) : PE3 K X (.IfExp c a b pos) (eIf t fa fb) := ⟨pe_imp (pe_ifExp hc.p ha.p hb.p) fun σ H Q h => by
  obtain ⟨A, S, sl, w, S', rfl, R, s, e, q⟩ := h
  obtain ⟨⟨w1, S1⟩, e1, e⟩ := Option.bind_eq_some_iff.mp e
  refine ⟨A, S, sl, w1, S1, rfl, R, s, e1, fun B n R1 => ?_⟩
  cases w1 with
  | true => exact ⟨B, S1, sl, w, S', rfl, R1, s.mono n, e, fun C v n2 R2 => q C v (n.trans n2) R2⟩
  | false => exact ⟨B, S1, sl, w, S', rfl, R1, s.mono n, e, fun C v n2 R2 => q C v (n.trans n2) R2⟩⟩
end
end EA
namespace EA
open PySem PySem.Spec PyProof.Rows L2
/-! ### data in a part of the heap: G holds the data, H all; what is changed stays out of G -/
mutual
inductive Dat (G : Hp) : V → PyData → Prop
  | non : Dat G .non .none
  | bl (b : Bool) : Dat G (.bl b) (.bool b)
  | int (i : Int) : Dat G (.int i) (.int i)
  | str (x : Str) : Dat G (.str x) (.str x)
  | lst {a : Addr} {xs : List V} {ds : List PyData} : G a = some (.lst xs) → DatA G xs ds → Dat G (.ref a) (.list ds)
  | tup {a : Addr} {xs : List V} {ds : List PyData} : G a = some (.tup xs) → DatA G xs ds → Dat G (.ref a) (.tuple ds)
inductive DatA (G : Hp) : List V → List PyData → Prop
  | nil : DatA G [] []
  | cons {v : V} {vs : List V} {d : PyData} {ds : List PyData} : Dat G v d → DatA G vs ds → DatA G (v :: vs) (d :: ds)
end
section
variable {G G' H : Hp} {K : PySem.W.Frag}
mutual
theorem Dat.up (s : Same G G') : ∀ {d : PyData} {v : V}, Dat G v d → Dat G' v d
  | .none, _, .non => .non
  | .bool _, _, .bl b => .bl b
  | .int _, _, .int i => .int i
  | .str _, _, .str x => .str x
  | .list _, _, .lst e h => .lst (s _ _ e) (DatA.up s h)
  | .tuple _, _, .tup e h => .tup (s _ _ e) (DatA.up s h)
theorem DatA.up (s : Same G G') : ∀ {ds : List PyData} {vs : List V}, DatA G vs ds → DatA G' vs ds
  | [], _, .nil => .nil
  | _ :: _, _, .cons h t => .cons (Dat.up s h) (DatA.up s t)
end
theorem DatA.len : ∀ {vs : List V} {ds : List PyData}, DatA G vs ds → vs.length = ds.length
  | _, _, .nil => rfl
  | _, _, .cons _ t => by rw [List.length_cons, List.length_cons, DatA.len t]
theorem DatA.get : ∀ {vs : List V} {ds : List PyData} {i : Nat} {d : PyData}, DatA G vs ds → ds[i]? = some d → ∃ v, vs[i]? = some v ∧ Dat G v d
  | _, _, _, _, .nil, e => by simp at e
  | _, _, 0, _, .cons h _, e => by simp at e; subst e; exact ⟨_, rfl, h⟩
  | _, _, i + 1, d, .cons _ t, e => by
    obtain ⟨v, h1, h2⟩ := DatA.get (i := i) (d := d) t (by simpa using e)
    exact ⟨v, by simpa using h1, h2⟩
theorem DatA.app : ∀ {vs ws : List V} {ds es : List PyData}, DatA G vs ds → DatA G ws es → DatA G (vs ++ ws) (ds ++ es)
  | _, _, _, _, .nil, h => h
  | _, _, _, _, .cons h t, h2 => .cons h (DatA.app t h2)
theorem DatA.take : ∀ {vs : List V} {ds : List PyData} (n : Nat), DatA G vs ds → DatA G (vs.take n) (ds.take n)
  | _, _, 0, _ => .nil
  | _, _, _ + 1, .nil => .nil
  | _, _, n + 1, .cons h t => .cons h (DatA.take n t)
theorem DatA.drop : ∀ {vs : List V} {ds : List PyData} (n : Nat), DatA G vs ds → DatA G (vs.drop n) (ds.drop n)
  | _, _, 0, h => h
  | _, _, _ + 1, .nil => .nil
  | _, _, n + 1, .cons _ t => DatA.drop n t
theorem DatA.erase : ∀ {vs : List V} {ds : List PyData} (n : Nat), DatA G vs ds → DatA G (vs.eraseIdx n) (ds.eraseIdx n)
  | _, _, _, .nil => .nil
  | _, _, 0, .cons _ t => t
  | _, _, n + 1, .cons h t => .cons h (DatA.erase n t)
theorem DatA.ints_inv : ∀ {bs : List Int} {vs : List V}, DatA G vs (bs.map PyData.int) → vs = bs.map V.int
  | [], _, .nil => rfl
  | _ :: _, _, .cons (.int _) t => by rw [List.map_cons, DatA.ints_inv t]
theorem DatA.strs_inv : ∀ {bs : List Str} {vs : List V}, DatA G vs (bs.map PyData.str) → vs = bs.map V.str
  | [], _, .nil => rfl
  | _ :: _, _, .cons (.str _) t => by rw [List.map_cons, DatA.strs_inv t]
end
/-! ### from one state to a later one: only objects of M and new ones are changed -/
structure Ex (M : List Addr) (G H G' H' : Hp) : Prop where
  gg : Same G G'
  gh : Same G' H'
  hh : ∀ b o, b ∉ M → H b = some o → H' b = some o
  nw : ∀ b, G b = none → H b ≠ none → G' b = none
  dm : ∀ b, H b ≠ none → H' b ≠ none
section
variable {M M' : List Addr} {G H G1 H1 G2 H2 : Hp} {p : Addr} {o : HO}
theorem Same.none {H H' : Hp} (s : Same H H') {p : Addr} (h : H' p = none) : H p = none := s.free h
theorem Ex.refl (s : Same G H) : Ex M G H G H := ⟨Same.refl _, s, fun _ _ _ h => h, fun _ h _ => h, fun _ h => h⟩
theorem Ex.step (a : Ex M G H G1 H1) (b : Ex M' G1 H1 G2 H2) (m : ∀ x ∈ M', x ∈ M ∨ H x = none) : Ex M G H G2 H2 where
  gg := a.gg.trans b.gg
  gh := b.gh
  hh := fun x o hx e => b.hh x o (fun z => (m x z).elim hx fun n => by rw [n] at e; cases e) (a.hh x o hx e)
  nw := fun x g h => b.nw x (a.nw x g h) (a.dm x h)
  dm := fun x h => b.dm x (a.dm x h)
theorem Ex.trans (a : Ex M G H G1 H1) (b : Ex M G1 H1 G2 H2) : Ex M G H G2 H2 := a.step b fun _ h => .inl h
theorem Ex.pure (a : Ex M G H G1 H1) (b : Ex [] G1 H1 G2 H2) : Ex M G H G2 H2 := a.step b fun _ h => nomatch h
theorem Ex.mono (a : Ex M G H G1 H1) (m : ∀ x ∈ M, x ∈ M' ∨ H x = none) : Ex M' G H G1 H1 :=
  ⟨a.gg, a.gh, fun x o hx e => a.hh x o (fun z => (m x z).elim hx fun n => by rw [n] at e; cases e) e, a.nw, a.dm⟩
/-- a new object that is not data -/
theorem Ex.new (a : Ex M G H G1 H1) (n : H1 p = none) : Ex M G H G1 (upd H1 p o) where
  gg := a.gg
  gh := fun b u e => by rw [upd_ne (ne_of_none (a.gh b u e) n)]; exact a.gh b u e
  hh := fun b u hb e => by rw [upd_ne (ne_of_none (a.hh b u hb e) n)]; exact a.hh b u hb e
  nw := a.nw
  dm := fun b h => by
    have q := a.dm b h
    by_cases e : b = p
    · subst e; exact absurd n q
    · rw [upd_ne e]; exact q
theorem Ex.free (a : Ex M G H G1 H1) {q : Addr} (h : H1 q = none) : H q = none := by
  cases e : H q with
  | none => rfl
  | some u => exact absurd h (a.dm q (by rw [e]; exact fun z => nomatch z))
theorem Ex.at_ (a : Ex M G H G1 H1) {q : Addr} {u : HO} (h : H q = some u) (m : q ∉ M) : H1 q = some u := a.hh q u m h
end
/-! ### a pure def: from data to data -/
/-! ### rules of our own -/
theorem line_lt {n : Nat} (h : n ≤ 100000) : n < sizeLine := Nat.lt_of_le_of_lt h (by decide)
theorem line_le {n : Nat} (h : n ≤ 100000) : n ≤ sizeLine := Nat.le_of_lt (line_lt h)
/-! ### steps -/
/-! ### items -/
theorem ixN_of {n : Nat} {k : Int} (h0 : 0 ≤ k) (h1 : k < n) : ixN n k = some k.toNat := by
  unfold ixN
  rw [if_pos h0, if_pos h1]
theorem atI_of {α : Type} {xs : List α} {k : Int} {v : α} (h0 : 0 ≤ k) (e : xs[k.toNat]? = some v) : atI xs k = some v := by
  have z : k = ((k.toNat : Nat) : Int) := by omega
  rw [z]
  exact atI_nat e
/-! ### the rules with the written part by name (a comprehension's block has it too) -/
section
variable {X : Cx} {K : PySem.W.Frag}
def rLen (K : PySem.W.Frag) : List V → Hp → VK → Prop := fun xs H Q => ∃ x n, xs = [x] ∧ LenV K x H n ∧ Q (.int (n : Nat)) H
theorem call_lenK (hK : X.K = K) : CallR X (.builtin "len") (rLen K) := by subst hK; exact call_len
def rListOf (K : PySem.W.Frag) : List V → Hp → VK → Prop := fun xs H Q => ∃ p ys, xs = [.ref p] ∧ (SqL K H p ys ∨ SqT K H p ys) ∧ ∀ l, H l = none → Q (.ref l) (upd H l (.lst ys))
theorem call_list_ofK (hK : X.K = K) : CallR X (.type "list") (rListOf K) := by subst hK; exact call_list_of
end
theorem perm_erase {d : PyData} : ∀ {rem : List PyData} {k : Nat}, rem[k]? = some d → (d :: rem.eraseIdx k).Perm rem
  | [], _, h => by simp at h
  | x :: r, 0, h => by
    have e : x = d := Option.some.inj h
    subst e
    exact List.Perm.refl _
  | x :: r, k + 1, h => by
    have ih := perm_erase (rem := r) (k := k) (by simpa using h)
    show (d :: x :: r.eraseIdx k).Perm (x :: r)
    exact (List.Perm.swap x d _).trans (ih.cons x)
theorem perm_turn {d : PyData} {acc rem ds : List PyData} {k : Nat} (h : rem[k]? = some d) (p : (acc ++ rem).Perm ds) : ((acc ++ [d]) ++ rem.eraseIdx k).Perm ds := by
  refine List.Perm.trans ?_ p
  rw [List.append_assoc]
  exact (perm_erase h).append_left acc
theorem popL {H : Hp} {p : Addr} {xs : List V} {k : Int} {v : V} {Q : VK} (h : H p = some (.lst xs)) (h0 : 0 ≤ k) (h1 : k < xs.length) (e : xs[k.toNat]? = some v) (hz : xs.length ≤ 100000) (q : Q v (upd H p (.lst (xs.eraseIdx k.toNat)))) : rPopAt (.ref p) [.int k] H Q :=
  ⟨p, xs, k, k.toNat, v, rfl, rfl, h, by omega, by omega, (ixN_seq (ixN_of h0 h1)).1, e, q⟩
theorem fn_none {P : Program} {w : World} {K : PySem.W.Frag} {mg : Str → Option Value} {base : Heap} {k : Nat} {f : Addr} {fd : FuncData} {ps : List Str} {sp : Sp} (no : ∀ vs H Q E, ¬ sp vs H Q E) : FnOk P w K mg base CX0 k f fd ps sp :=
  ⟨fun vs H Q E h => absurd h (no vs H Q E), fun A outer s H args us vs Q E _ _ _ _ h => absurd h (no vs H Q E)⟩
/-! ### isinstance of data -/
def tyN : PyData → String
  | .none => "NoneType"
  | .bool _ => "bool"
  | .int _ => "int"
  | .str _ => "str"
  | .list _ => "list"
  | .tuple _ => "tuple"
  | .dict _ => "dict"
/-! ### == of data -/
/-! ### in, of texts -/
/-! ### what a loop walks, by a count -/
end EA
namespace EA
open PySem PySem.Spec PyProof.Rows L2
theorem perm_short {α : Type} : ∀ {l m : List α}, l.length < 2 → m.Perm l → m = l
  | [], _, _, p => List.Perm.eq_nil p
  | [v], _, _, p => List.perm_singleton.mp p
  | _ :: _ :: _, _, h, _ => absurd h (by simp)
theorem sort_short {α : Type} (le : α → α → Bool) : ∀ {l : List α}, ¬ 2 ≤ l.length → l.mergeSort le = l
  | [], _ => by rw [List.mergeSort]
  | [v], _ => by rw [List.mergeSort]
  | _ :: _ :: _, h => absurd (by simp) h
theorem swo_no : SrtO.Swo (fun _ _ : Value => false) := ⟨fun _ _ _ => rfl, fun _ _ _ _ _ => rfl⟩
end EA
namespace EA
open PySem PySem.Spec PyProof.Rows L2
section
variable {K : PySem.W.Frag} {A : Wd} {S : List MO}
theorem tup_of (R : Rl K A S) {ds : List PyData} {vs : List V} (hd : DaA K A.G vs ds) {Q : VK} (q : ∀ B v, Nx A B → Rl K B S → Da K B.G v (.tuple ds) → Q v B.H) (p : Addr) (o : Obj) (od : o.dict = none) (hp : A.H p = none) : Q (.ref p) (upd A.H p (.frz o (.tup vs))) := by
  obtain ⟨n2, R2⟩ := Nx.dat (o := .frz o (.tup vs)) R hp
  exact q ⟨upd A.G p (.frz o (.tup vs)), upd A.H p (.frz o (.tup vs)), A.ι⟩ _ n2 R2 (Da.tup (.inl ⟨o, upd_same, od⟩) (hd.up n2.gg))
theorem lst_of (R : Rl K A S) {ds : List PyData} {vs : List V} (hd : DaA K A.G vs ds) {Q : VK} (q : ∀ B v, Nx A B → Rl K B S → Da K B.G v (.list ds) → Q v B.H) (p : Addr) (hp : A.H p = none) : Q (.ref p) (upd A.H p (.lst vs)) := by
  obtain ⟨n2, R2⟩ := Nx.dat (o := .lst vs) R hp
  exact q ⟨upd A.G p (.lst vs), upd A.H p (.lst vs), A.ι⟩ _ n2 R2 (Da.lst upd_same (hd.up n2.gg))
theorem new_of (R : Rl K A S) {ds : List PyData} {vs : List V} (hd : DaA K A.G vs ds) {Q : VK} (q : ∀ B vs p, Nx A B → Rl K B S → A.H p = none → p ∉ B.ι → B.G p = none → B.H p = some (.lst vs) → DaA K B.G vs ds → Q (.ref p) B.H) (p : Addr) (hp : A.H p = none) : Q (.ref p) (upd A.H p (.lst vs)) := by
  obtain ⟨n2, R2⟩ := Nx.junk (o := .lst vs) R hp
  exact q ⟨A.G, upd A.H p (.lst vs), A.ι⟩ vs p n2 R2 hp (R.new hp) (R.gh.free hp) upd_same hd
end
/-! ### two-place operations -/
abbrev GO := List MO → W3 → W3 → Option PyData
def OpOk (K : PySem.W.Frag) (r : R2) (g : GO) : Prop := ∀ (A : Wd) (S : List MO) (x y : W3) (vx vy : V) (d : PyData) (Q : VK), Rl K A S → RW K A vx x → RW K A vy y → g S x y = some d → (∀ B v, Nx A B → Rl K B S → Da K B.G v d → Q v B.H) → r vx vy A.H Q
def eOp (g : GO) (a b : FE) : FE := fun sl S => (a sl S).bind fun p => (b sl p.2).bind fun q => (g q.2 p.1 q.1).map fun d => (.d d, q.2)
theorem eop_imp {K : PySem.W.Frag} {r : R2} {g : GO} (ok : OpOk K r g) {fa fb : FE} {σ : L2.St} {H : Hp} {Q : VK} (h : teO K (eOp g fa fb) σ H Q) : tOp r (teO K fa) (teO K fb) σ H Q := by
  obtain ⟨A, S, sl, w, S', rfl, R, s, e, q⟩ := h
  obtain ⟨⟨w1, S1⟩, e1, e⟩ := Option.bind_eq_some_iff.mp e
  obtain ⟨⟨w2, S2⟩, e2, e⟩ := Option.bind_eq_some_iff.mp e
  obtain ⟨d, e3, e⟩ := Option.map_eq_some_iff.mp e
  cases e
  refine ⟨A, S, sl, w1, S1, rfl, R, s, e1, fun B v n R1 r1 => ⟨B, S1, sl, w2, _, rfl, R1, s.mono n, e2, fun C u n2 R2 r2 => ?_⟩⟩
  exact ok C _ w1 w2 v u d Q R2 (r1.mono n2) r2 e3 fun D v n3 R3 r3 => q D v ((n.trans n2).trans n3) R3 r3
section
variable {K : PySem.W.Frag} {X : Cx} {a b : Expr} {fa fb : FE} {pos : Pos}
theorem e_op {op : Operator} {r : R2} {g : GO} (ho : OpR X (binaryOp op) r) (ok : OpOk K r g) (ha : PE3 K X a fa) (hb : PE3 K X b fb) : PE3 K X (.BinOp a op b pos) (eOp g fa fb) := ⟨pe_imp (pe_op ho ha.p hb.p) fun _ _ _ h => eop_imp ok h⟩
theorem e_ix {r : R2} {g : GO} (ho : IxR X r) (ok : OpOk K r g) (ha : PE3 K X a fa) (hb : PE3 K X b fb) (hs : PlainIx b) : PE3 K X (.Subscript a b pos) (eOp g fa fb) := ⟨pe_imp (pe_ix ho ha.p hb.p hs) fun _ _ _ h => eop_imp ok h⟩
end
/-- ints -/
def gI (C : Int → Int → Bool) (f : Int → Int → Int) : GO := fun _ x y => match x, y with
  | .d (.int i), .d (.int j) => if C i j = true then some (.int (f i j)) else none
  | _, _ => none
def gSub : GO := gI (fun _ _ => true) fun i j => i - j
def CMul3 (i j : Int) : Prop := CMul i j ∨ CMulW i j
theorem op_mul3 {X : Cx} : OpR X (binaryOp .Mult) (rI CMul3 fun i j => .int (i * j)) := opI fun _ _ _ _ _ _ _ hc q => mul_int q (hc.elim CMul.ok CMulW.ok)
def gMul : GO := gI (fun i j => (decide (-(2 ^ 64) < i ∧ i < 2 ^ 64) || decide (-(2 ^ 64) < j ∧ j < 2 ^ 64)) || decide (i.natAbs.log2 + j.natAbs.log2 < 1000000)) fun i j => i * j
def gFdiv : GO := gI (fun _ j => decide (0 < j ∧ j < 1073741824)) fun i j => i / j
def gMod : GO := gI (fun _ j => decide (0 < j)) fun i j => i % j
def gPow : GO := gI (fun i j => decide (0 ≤ j ∧ j ≤ 1000000 ∧ i.natAbs < 2 ^ 64)) fun i j => i ^ j.toNat
section
variable {K : PySem.W.Frag} {X : Cx}
theorem okI {C : Int → Int → Bool} {f : Int → Int → Int} {P : Int → Int → Prop} (h : ∀ i j, C i j = true → P i j) : OpOk K (rI P fun i j => .int (f i j)) (gI C f) := by
  intro A S x y vx vy d Q R rx ry e q
  unfold gI at e
  split at e
  · rename_i i j
    by_cases z : C i j = true
    · rw [if_pos z] at e
      cases e
      cases Da.int_inv rx
      cases Da.int_inv ry
      exact ⟨i, j, rfl, rfl, h i j z, q A _ (Nx.refl A) R (Da.int _)⟩
    · rw [if_neg z] at e; cases e
  · cases e
theorem okI0 {f : Int → Int → Int} : OpOk K (rI0 fun i j => .int (f i j)) (gI (fun _ _ => true) f) := by
  intro A S x y vx vy d Q R rx ry e q
  obtain ⟨i, j, e1, e2, _, h⟩ := okI (K := K) (C := fun _ _ => true) (f := f) (P := fun _ _ => True) (fun _ _ _ => trivial) A S x y vx vy d Q R rx ry e q
  exact ⟨i, j, e1, e2, h⟩
theorem ok_sub : OpOk K (rI0 fun i j => .int (i - j)) gSub := okI0
theorem ok_mul : OpOk K (rI CMul3 fun i j => .int (i * j)) gMul := okI fun i j h => by
  rcases Bool.or_eq_true_iff.mp h with h | h
  · rcases Bool.or_eq_true_iff.mp h with h | h
    · exact .inl (.inl (of_decide_eq_true h))
    · exact .inl (.inr (of_decide_eq_true h))
  · exact .inr (of_decide_eq_true (p := i.natAbs.log2 + j.natAbs.log2 < 1000000) h)
theorem ok_fdiv : OpOk K (rI CDiv fun i j => .int (i / j)) gFdiv := okI fun i j h => (of_decide_eq_true (p := 0 < j ∧ j < 1073741824) h)
theorem ok_mod : OpOk K (rI (fun _ j => 0 < j) fun i j => .int (i % j)) gMod := okI fun i j h => (of_decide_eq_true h :)
theorem ok_pow : OpOk K (rI CPow fun i j => .int (i ^ j.toNat)) gPow := okI fun i j h => (of_decide_eq_true (p := 0 ≤ j ∧ j ≤ 1000000 ∧ i.natAbs < 2 ^ 64) h)
/-- + of ints, texts, lists, tuples -/
def rAd (K : PySem.W.Frag) : R2 := fun x y H Q => (∃ i j, x = .int i ∧ y = .int j ∧ Q (.int (i + j)) H) ∨ (∃ i j, x = .str i ∧ y = .str j ∧ i.length + j.length ≤ sizeLine ∧ Q (.str (i ++ j)) H) ∨ rCat x y H Q ∨ rCatP K x y H Q
theorem op_ad (hK : X.K = K) : OpR X (binaryOp .Add) (rAd K) := by subst hK; exact OpR.or op_add (OpR.or op_add_str (OpR.or op_cat op_catP))
def gAddD : PyData → PyData → Option PyData
  | .int i, .int j => some (.int (i + j))
  | .str i, .str j => if i.length + j.length ≤ 100000 then some (.str (i ++ j)) else none
  | .tuple i, .tuple j => if i.length + j.length ≤ 100000 then some (.tuple (i ++ j)) else none
  | _, _ => none
def gCatL (S : List MO) (x y : W3) : Option (List PyData) := (viewL S x).bind fun xs => (viewL S y).bind fun ys => if xs.length + ys.length ≤ 100000 then some (xs ++ ys) else none
def gAdd : GO := fun S x y => match x, y with
  | .d a, .d b => (gAddD a b).or ((gCatL S x y).map .list)
  | _, _ => (gCatL S x y).map .list
theorem lineD {n : Nat} (h : n ≤ 100000) : n ≤ sizeLine := Nat.le_trans h (by decide)
theorem catL_ok {A : Wd} {S : List MO} {x y : W3} {vx vy : V} {ds : List PyData} (R : Rl K A S) (rx : RW K A vx x) (ry : RW K A vy y) (e : gCatL S x y = some ds) :
    ∃ l b xs zs, vx = .ref l ∧ vy = .ref b ∧ A.H l = some (.lst xs) ∧ A.H b = some (.lst zs) ∧ xs.length + zs.length ≤ sizeLine ∧ DaA K A.G (xs ++ zs) ds := by
  obtain ⟨xs, e1, e⟩ := Option.bind_eq_some_iff.mp e
  obtain ⟨ys, e2, e⟩ := Option.bind_eq_some_iff.mp e
  by_cases z : xs.length + ys.length ≤ 100000
  · rw [if_pos z] at e
    cases e
    obtain ⟨l, us, rfl, h1, d1⟩ := viewL_at R rx e1
    obtain ⟨b, ws, rfl, h2, d2⟩ := viewL_at R ry e2
    exact ⟨l, b, us, ws, rfl, rfl, h1, h2, by rw [d1.len, d2.len]; exact lineD z, d1.app d2⟩
  · rw [if_neg z] at e; cases e
theorem ok_add : OpOk K (rAd K) gAdd := by
  intro A S x y vx vy d Q R rx ry e q
  have lists : (gCatL S x y).map PyData.list = some d → rAd K vx vy A.H Q := fun e => by
    obtain ⟨ds, e1, e2⟩ := Option.map_eq_some_iff.mp e
    subst e2
    obtain ⟨l, b, xs, zs, rfl, rfl, h1, h2, hz, hd⟩ := catL_ok R rx ry e1
    exact .inr (.inr (.inl ⟨l, b, xs, zs, rfl, rfl, h1, h2, hz, lst_of R hd q⟩))
  unfold gAdd at e
  split at e
  · rename_i a b
    cases z : gAddD a b with
    | none => rw [z] at e; exact lists e
    | some c =>
      rw [z] at e
      cases e
      unfold gAddD at z
      split at z
      · cases z
        cases Da.int_inv rx
        cases Da.int_inv ry
        exact .inl ⟨_, _, rfl, rfl, q A _ (Nx.refl A) R (Da.int _)⟩
      · rename_i i j
        by_cases h : i.length + j.length ≤ 100000
        · rw [if_pos h] at z
          cases z
          cases Da.str_inv rx
          cases Da.str_inv ry
          exact .inr (.inl ⟨_, _, rfl, rfl, lineD h, q A _ (Nx.refl A) R (Da.str _)⟩)
        · rw [if_neg h] at z; cases z
      · rename_i i j
        by_cases h : i.length + j.length ≤ 100000
        · rw [if_pos h] at z
          cases z
          obtain ⟨a1, xs, rfl, h1, d1⟩ := Da.tup_inv rx
          obtain ⟨a2, ys, rfl, h2, d2⟩ := Da.tup_inv ry
          refine .inr (.inr (.inr ⟨a1, a2, xs, ys, rfl, rfl, sqT_up R.gh h1, sqT_up R.gh h2, by rw [d1.len, d2.len]; exact lineD h, fun z => ?_, fun _ z => ?_, fun _ _ => tup_of R (d1.app d2) q⟩))
          · subst z
            cases d1
            exact q A _ (Nx.refl A) R ry
          · subst z
            cases d2
            refine q A _ (Nx.refl A) R ?_
            rw [List.append_nil]; exact rx
        · rw [if_neg h] at z; cases z
      · cases z
  · exact lists e
/-- list + list, a new list -/
def nOp (g : List MO → W3 → W3 → Option (List PyData)) (a b : FE) : FN := fun sl S => (a sl S).bind fun p => (b sl p.2).bind fun q => (g q.2 p.1 q.1).map fun d => (d, q.2)
variable {a b : Expr} {fa fb : FE} {pos : Pos}
theorem fresh_back {A B : Wd} (n : Nx A B) {p : Addr} (h : B.H p = none) : A.H p = none := by
  cases z : A.H p with
  | none => rfl
  | some u => exact absurd h (n.dm p (by rw [z]; exact fun k => nomatch k))
theorem n_cat (ha : PE3 K X a fa) (hb : PE3 K X b fb) : PN3 K X (.BinOp a .Add b pos) (nOp gCatL fa fb) := ⟨pe_imp (pe_op op_cat ha.p hb.p) fun σ H Q h => by
  obtain ⟨A, S, sl, w, S', rfl, R, s, e, q⟩ := h
  obtain ⟨⟨w1, S1⟩, e1, e⟩ := Option.bind_eq_some_iff.mp e
  obtain ⟨⟨w2, S2⟩, e2, e⟩ := Option.bind_eq_some_iff.mp e
  obtain ⟨d, e3, e⟩ := Option.map_eq_some_iff.mp e
  cases e
  refine ⟨A, S, sl, w1, S1, rfl, R, s, e1, fun B v n R1 r1 => ⟨B, S1, sl, w2, _, rfl, R1, s.mono n, e2, fun C u n2 R2 r2 => ?_⟩⟩
  obtain ⟨l, b, xs, zs, rfl, rfl, h1, h2, hz, hd⟩ := catL_ok R2 (r1.mono n2) r2 e3
  refine ⟨l, b, xs, zs, rfl, rfl, h1, h2, hz, new_of R2 hd fun D vs p n3 R3 np ni g hh hd => q D vs p ((n.trans n2).trans n3) R3 (fresh_back (n.trans n2) np) ni g hh hd⟩⟩
/-! ### items -/
def gIx : GO := fun S x y => match y with
  | .d (.int k) => match view S x with
    | some (.list xs) => atI xs k
    | some (.tuple xs) => atI xs k
    | some (.str z) => if z.length ≤ 100000 then (atI z.cps.toList k).map fun c => .str ⟨#[c]⟩ else none
    | _ => none
  | _ => none
theorem atI_daa {G : Hp} {vs : List V} {ds : List PyData} {k : Int} {d : PyData} (h : DaA K G vs ds) (e : atI ds k = some d) : ∃ v, atI vs k = some v ∧ Da K G v d := by
  unfold atI at e ⊢
  rw [h.len]
  obtain ⟨j, e1, e2⟩ := Option.bind_eq_some_iff.mp e
  rw [e1]
  exact h.get e2
theorem ok_ix : OpOk K (rIx K) gIx := by
  intro A S x y vx vy d Q R rx ry e q
  unfold gIx at e
  split at e
  · rename_i k
    cases Da.int_inv ry
    split at e
    · rename_i xs hx
      obtain ⟨a, vs, rfl, h1, _, hd⟩ := view_list R rx hx
      obtain ⟨v, h3, h4⟩ := atI_daa hd e
      exact .inl ⟨a, vs, k, v, rfl, rfl, h1, h3, q A _ (Nx.refl A) R h4⟩
    · rename_i xs hx
      obtain ⟨a, vs, rfl, h1, hd⟩ := view_tup R rx hx
      obtain ⟨v, h3, h4⟩ := atI_daa hd e
      exact .inr (.inl ⟨a, vs, k, v, rfl, rfl, h1, h3, q A _ (Nx.refl A) R h4⟩)
    · rename_i z hz
      by_cases h : z.length ≤ 100000
      · rw [if_pos h] at e
        obtain ⟨c, e1, e2⟩ := Option.map_eq_some_iff.mp e
        subst e2
        have dz := view_dp R rx hz
        cases dz
        exact .inr (.inr ⟨z, k, c, rfl, rfl, lineD h, e1, q A _ (Nx.refl A) R (Da.str _)⟩)
      · rw [if_neg h] at e; cases e
    · cases e
  · cases e
theorem ix_sq (hK : X.K = K) : IxR X (rIx K) := by subst hK; exact ix_seq
/-! ### slices -/
def oNone : FO := fun _ S => some (none, S)
def oSome (f : FE) : FO := fun sl S => (f sl S).bind fun p => match p.1 with
  | .d (.int i) => some (some i, p.2)
  | _ => none
theorem o_none : PO3 K X none oNone := ⟨⟨fun pins s σ H Q I h => by
  obtain ⟨A, S, sl, w, S', rfl, R, s', e, q⟩ := h
  cases e
  exact (po_none (X := X)).run pins s σ _ Q I (q A (Nx.refl A) R)⟩⟩
theorem o_some (h : PE3 K X a fa) : PO3 K X (some a) (oSome fa) := ⟨⟨fun pins s σ H Q I hh => by
  refine (po_some h.p).run pins s σ _ Q I ?_
  obtain ⟨A, S, sl, w, S', rfl, R, s', e, q⟩ := hh
  obtain ⟨⟨w1, S1⟩, e1, e⟩ := Option.bind_eq_some_iff.mp e
  dsimp only at e
  refine ⟨A, S, sl, w1, S1, rfl, R, s', e1, fun B v n R1 r1 => ?_⟩
  split at e
  · cases e
    exact ⟨_, Da.int_inv r1, q B n R1⟩
  · cases e⟩⟩
def cutD {α : Type} (xs : List α) (lo hi : Option Int) : List α := (xs.drop (HT.sIx xs.length 0 lo)).take (HT.sIx xs.length xs.length hi - HT.sIx xs.length 0 lo)
theorem cut_daa {G : Hp} {vs : List V} {ds : List PyData} (h : DaA K G vs ds) (lo hi : Option Int) : DaA K G (cutV vs lo hi) (cutD ds lo hi) := by
  unfold cutV cutD
  rw [h.len]
  exact (h.drop _).take _
/-- texts, tuples, lists -/
def rSl3 (K : PySem.W.Frag) : V → Option Int → Option Int → Hp → VK → Prop := fun x lo hi H Q => rSlL K x lo hi H Q ∨ rSlP K x lo hi H Q ∨ rSlS x lo hi H Q
theorem sl_3 (hK : X.K = K) : SlR X (rSl3 K) := by subst hK; exact SlR.or sl_list (SlR.or sl_tupP sl_str)
def eSl (a : FE) (l h : FO) : FE := fun sl S => (a sl S).bind fun p => (l sl p.2).bind fun q => (h sl q.2).bind fun u => match view u.2 p.1 with
  | some (.list xs) => some (.d (.list (cutD xs q.1 u.1)), u.2)
  | some (.tuple xs) => some (.d (.tuple (cutD xs q.1 u.1)), u.2)
  | some (.str z) => if z.length ≤ 100000 then some (.d (.str (cutS z q.1 u.1)), u.2) else none
  | _ => none
def nSl (a : FE) (l h : FO) : FN := fun sl S => (a sl S).bind fun p => (l sl p.2).bind fun q => (h sl q.2).bind fun u => match view u.2 p.1 with
  | some (.list xs) => some (cutD xs q.1 u.1, u.2)
  | _ => none
end
end EA
namespace EA
open PySem PySem.Spec PyProof.Rows L2
/-! ### sets over any kind of keys -/
section
variable {P : Program} {w : World} {Kt : Type} [DecidableEq Kt]
/-- no key twice -/
def Apart (knd : PySem.KeyKind P w Kt) (l : List (Int × Value)) : Prop := l.Pairwise fun e f => ∀ k, knd.is k e.2 = true → knd.is k f.2 = true → False
theorem Apart.perm {knd : PySem.KeyKind P w Kt} {l m : List (Int × Value)} (h : Apart knd l) (p : m.Perm l) : Apart knd m :=
  (p.pairwise_iff (fun {x y} g k a b => g k b a)).mpr h
/-- what a set's entries and table keep -/
structure GS (knd : PySem.KeyKind P w Kt) (es : Array (Int × Value)) (t : SetTable) (S : Kt → Bool) : Prop where
  el : ElemsOf knd es.toList
  ap : Apart knd es.toList
  mem : ∀ k, S k = true ↔ ∃ e ∈ es.toList, knd.is k e.2 = true
  bd : es.size < scanBound
  fit : t.fits es.size = true
  ris : Ris t.place.toList
  led : w.params.followText "set-order" = true ∨ t.led = true
def SetG (knd : PySem.KeyKind P w Kt) (h : Heap) (a : Addr) (S : Kt → Bool) (n : Nat) : Prop :=
  ∃ o es ep t, h.get? a = some o ∧ o.ExactSet ∧ o.data = .set es ep t ∧ GS knd es t S ∧ es.size = n
theorem SetG.at {knd : PySem.KeyKind P w Kt} {h h' : Heap} {a : Addr} {S : Kt → Bool} {n : Nat} (R : SetG knd h a S n) (k : ∀ o, h.get? a = some o → h'.get? a = some o) : SetG knd h' a S n := by
  obtain ⟨o, es, ep, t, ho, r⟩ := R
  exact ⟨o, es, ep, t, k o ho, r⟩
theorem SetG.congr {knd : PySem.KeyKind P w Kt} {h : Heap} {a : Addr} {S S' : Kt → Bool} {n : Nat} (R : SetG knd h a S n) (e : ∀ k, S' k = S k) : SetG knd h a S' n := by
  have q : S' = S := funext e
  rw [q]; exact R
variable {knd : PySem.KeyKind P w Kt} {A : Around} {E : Value → Shared → Prop} {s : Shared} {a : Addr} {S : Kt → Bool} {n : Nat}
theorem set_stored {h : Heap} {o : Obj} {es es' : Array (Int × Value)} {ep : Nat} {t t' : SetTable} (ho : h.get? a = some o) (hd : o.data = .set es ep t) :
    (h.update a (Obj.putSet es' t')).get? a = some { o with data := .set es' (ep + 1) t' } := by
  have q := Heap.get?_update_self (Obj.putSet es' t') ho (by rw [putSet_of es' t' hd]; rfl)
  rw [putSet_of es' t' hd] at q
  exact q
/-- entries put down, and laid out anew where the table is too full -/
theorem set_put {g : Bool → Sem Unit} (hg : ∀ (b : Bool) (s₁ : Shared) (Q' : Unit → Shared → Prop), Q' () s₁ → wpAny (model P w) A (g b) Q' E s₁)
    {o : Obj} {es es1 : Array (Int × Value)} {ep : Nat} {t t2 : SetTable} (ho : s.heap.get? a = some o) (hex : o.ExactSet) (hd : o.data = .set es ep t) (G : GS knd es1 t2 S)
    {was : Bool} {R : Option Bool → Shared → Prop} (hR : ∀ h', Heap.SameBut a s.heap h' → SetG knd h' a S es1.size → R (some true) { s with heap := h' }) :
    wpAny (model P w) A (do
        storeSet a es1 t2
        if (!was && t2.tooFull) = true then do
            g (relayAll t2 es1 (SetTable.grown es1.size)).2.2
            storeSet a (relayAll t2 es1 (SetTable.grown es1.size)).1 (relayAll t2 es1 (SetTable.grown es1.size)).2.1
            pure (some true)
          else pure (some true)) R E s := by
  refine wpAny_bind (wpAny_storeSet_of ho hd ?_ (fits_of_scanBound G.bd))
  have ho1 := set_stored (es' := es1) (t' := t2) ho hd
  have sb1 := Heap.SameBut.update s.heap a (Obj.putSet es1 t2)
  by_cases full : (!was && t2.tooFull) = true
  · rw [if_pos full]
    have pm := relayAll_perm t2 es1 (SetTable.grown es1.size)
    have f3 := relayAll_fits t2 es1 (SetTable.grown es1.size)
    have r3 := relayAll_ris t2 es1 (SetTable.grown es1.size)
    have l3 := relayAll_led t2 es1 (SetTable.grown es1.size)
    have z3 : (relayAll t2 es1 (SetTable.grown es1.size)).1.size = es1.size := by rw [← Array.length_toList, pm.length_eq, Array.length_toList]
    refine wpAny_bind (hg _ _ _ ?_)
    refine wpAny_bind (wpAny_storeSet_of ho1 rfl ?_ (fits_of_scanBound (by rw [z3]; exact G.bd)))
    have ho2 := set_stored (es' := (relayAll t2 es1 (SetTable.grown es1.size)).1) (t' := (relayAll t2 es1 (SetTable.grown es1.size)).2.1) ho1 rfl
    refine wpAny_pure (hR _ (sb1.trans (Heap.SameBut.update _ a _)) ⟨_, _, _, _, ho2, hex, rfl, ⟨G.el.perm pm, G.ap.perm pm, fun k => (G.mem k).trans ?_, by rw [z3]; exact G.bd, f3, r3, G.led.imp id fun z => by rw [l3]; exact z⟩, z3⟩)
    exact ⟨fun ⟨e, he, q⟩ => ⟨e, pm.mem_iff.mpr he, q⟩, fun ⟨e, he, q⟩ => ⟨e, pm.mem_iff.mp he, q⟩⟩
  · rw [if_neg full]
    exact wpAny_pure (hR _ sb1 ⟨_, es1, _, t2, ho1, hex, rfl, G, rfl⟩)
theorem setG_add {k : Kt} {x : Value} {Q : Bool → Shared → Prop} (hkey : knd.is k x = true) (hsc : x.scannable = true) (R : SetG knd s.heap a S n) (room : n + 1 < scanBound)
    (hQ : ∀ h' m, Heap.SameBut a s.heap h' → m ≤ n + 1 → SetG knd h' a (fun j => S j || decide (j = k)) m → Q (!S k) { s with heap := h' }) :
    wpAny (model P w) A (setAddHashed a x (knd.hash k)) Q E s := by
  obtain ⟨o, es, ep, t, ho, hex, hd, G, hn⟩ := R
  unfold setAddHashed setAddHashedIn
  refine wpAny_holding (wpAny_bind (wpAny_setState_of ho hd G.fit ?_))
  dsimp only
  rw [byScan_of hsc G.bd G.el]
  simp only [↓reduceIte]
  unfold setAddByScan
  refine wpAny_bind ?_
  refine wpAny_bind (wpAny_rule ?_)
  refine wpAny_bind (wpAny_setScan_of hkey ho hd G.fit G.el ?_)
  cases met : List.findIdx? (fun e => knd.is k e.2) es.toList with
  | some j =>
    dsimp only
    obtain ⟨hj, pj, _⟩ := List.findIdx?_eq_some_iff_getElem.mp met
    have yes : S k = true := (G.mem k).mpr ⟨es.toList[j], List.getElem_mem hj, pj⟩
    refine wpAny_pure (wpAny_pure ?_)
    have q := hQ s.heap n (Heap.SameBut.refl a s.heap) (Nat.le_succ n) (SetG.congr ⟨o, es, ep, t, ho, hex, hd, G, hn⟩ fun i => by
      by_cases e : i = k
      · rw [e, yes]; rfl
      · rw [decide_eq_false e, Bool.or_false])
    rw [yes] at q
    exact q
  | none =>
    dsimp only
    have none_is : ∀ e ∈ es.toList, knd.is k e.2 = false := fun e he => by simpa using List.findIdx?_eq_none_iff.mp met e he
    have no : S k = false := by
      cases q : S k with
      | false => rfl
      | true =>
        obtain ⟨e, he, h⟩ := (G.mem k).mp q
        rw [none_is e he] at h
        exact absurd h Bool.false_ne_true
    have gw : ∀ (b : Bool) {s₁ : Shared} {Q' : Unit → Shared → Prop}, Q' () s₁ → wpAny (model P w) A (match b with | true => rule "set.scan.the-table-gave-way" | false => pure ()) Q' E s₁ :=
      fun b s₁ Q' q => by cases b <;> first | exact wpAny_pure q | exact wpAny_rule q
    have pm := layNew_perm t es (knd.hash k) x
    have f1 := layNew_fits t es (knd.hash k) x
    have r1 := layNew_ris t es (knd.hash k) x G.ris
    have l1 := layNew_led t es (knd.hash k) x
    generalize layNew t es (knd.hash k) x = Z at pm f1 r1 l1 ⊢
    obtain ⟨es1, t1, was, gave⟩ := Z
    dsimp only at pm f1 r1 l1 ⊢
    rw [Array.toList_push] at pm
    have sz : es1.size = n + 1 := by rw [← Array.length_toList, pm.length_eq, List.length_append, Array.length_toList, hn]; rfl
    have G1 : GS knd es1 t1 (fun j => S j || decide (j = k)) := by
      refine ⟨(G.el.push hkey hsc).perm pm, Apart.perm ?_ pm, mem_push_iff hkey G.mem pm, by rw [sz]; exact room, f1, r1, G.led.imp id fun z => by rw [l1]; exact z⟩
      refine List.pairwise_append.mpr ⟨G.ap, List.pairwise_singleton _ _, fun e he f hf i h1 h2 => ?_⟩
      have ef : f = (knd.hash k, x) := by simpa using hf
      subst ef
      have ik : i = k := knd.inj x i k h2 hkey
      subst ik
      rw [none_is e he] at h1
      exact absurd h1 Bool.false_ne_true
    have fin : ∀ h', Heap.SameBut a s.heap h' → SetG knd h' a (fun j => S j || decide (j = k)) es1.size → Q true { s with heap := h' } := fun h' sb r => by
      have q := hQ h' es1.size sb (Nat.le_of_eq sz) r
      rw [no] at q
      exact q
    refine wpAny_bind (gw _ ?_)
    split
    · refine wpAny_bind ?_
      rw [hashByValue_scannable 8 hsc]
      refine wpAny_pure ?_
      refine set_put (knd := knd) (S := fun j => S j || decide (j = k)) ?_ ho hex hd ?_ ?_
      · intro b s₁ Q' q; cases b <;> first | exact wpAny_pure q | exact wpAny_rule q
      · split
        · exact G1
        · exact ⟨G1.el, G1.ap, G1.mem, G1.bd, SetTable.fits_plain_off f1, G1.ris, G1.led⟩
      · intro h' sb r; dsimp only; exact wpAny_pure (fin h' sb r)
    · refine wpAny_bind (wpAny_pure ?_)
      simp only [↓reduceIte]
      refine set_put (knd := knd) (S := fun j => S j || decide (j = k)) ?_ ho hex hd G1 ?_
      · intro b s₁ Q' q; cases b <;> first | exact wpAny_pure q | exact wpAny_rule q
      · intro h' sb r; dsimp only; exact wpAny_pure (fin h' sb r)
end
end EA
namespace EA
open PySem PySem.Spec PyProof.Rows L2
abbrev newS (w : World) : Obj := { cls := .type "set", dict := none, data := .set #[] 0 (.fresh 0 0 (!w.params.followText "set-order")) }
section
variable {P : Program} {w : World} {Kt : Type} [DecidableEq Kt] {knd : PySem.KeyKind P w Kt}
theorem setG_new {h : Heap} {a : Addr} (ho : h.get? a = some (newS w)) : SetG knd h a (fun _ => false) 0 :=
  ⟨_, #[], 0, _, ho, ⟨rfl, rfl, rfl⟩, rfl, ⟨fun e he => (by simp at he), List.Pairwise.nil, fun k => by simp, by decide, by rfl, List.Pairwise.nil, by
    show _ ∨ (!w.params.followText "set-order") = true
    cases w.params.followText "set-order"
    · exact .inr rfl
    · exact .inl rfl⟩, rfl⟩
/-- the keys of a set's items, in any order -/
theorem keys_out {es : Array (Int × Value)} {t : SetTable} {S : Kt → Bool} {vs : List Value} (g : GS knd es t S) (pm : vs.Perm (es.toList.map (·.2))) :
    ∃ ks : List Kt, W.EachIs (fun v k => knd.is k v = true) vs ks ∧ ks.Nodup ∧ ∀ k, k ∈ ks ↔ S k = true := by
  have ap : vs.Pairwise fun u v => ∀ k, knd.is k u = true → knd.is k v = true → False :=
    (pm.pairwise_iff (fun {x y} g k a b => g k b a)).mpr (List.pairwise_map.mpr g.ap)
  have ex : ∀ v ∈ vs, ∃ k, knd.is k v = true := fun v hv => by
    obtain ⟨e, he, rfl⟩ := List.mem_map.mp (pm.mem_iff.mp hv)
    obtain ⟨⟨k, hk, _⟩, _⟩ := g.el e he
    exact ⟨k, hk⟩
  have mem : ∀ k, S k = true ↔ ∃ v ∈ vs, knd.is k v = true := fun k => (g.mem k).trans
    ⟨fun ⟨e, he, q⟩ => ⟨e.2, pm.mem_iff.mpr (List.mem_map.mpr ⟨e, he, rfl⟩), q⟩, fun ⟨v, hv, q⟩ => by
      obtain ⟨e, he, rfl⟩ := List.mem_map.mp (pm.mem_iff.mp hv)
      exact ⟨e, he, q⟩⟩
  clear pm
  suffices h : ∃ ks : List Kt, W.EachIs (fun v k => knd.is k v = true) vs ks ∧ ks.Nodup ∧ ∀ k, k ∈ ks ↔ ∃ v ∈ vs, knd.is k v = true by
    obtain ⟨ks, h1, h2, h3⟩ := h
    exact ⟨ks, h1, h2, fun k => (h3 k).trans (mem k).symm⟩
  clear mem
  induction vs with
  | nil => exact ⟨[], .nil, List.nodup_nil, fun k => ⟨fun h => (nomatch h), fun ⟨_, h, _⟩ => (nomatch h)⟩⟩
  | cons v vs ih =>
    obtain ⟨a1, a2⟩ := List.pairwise_cons.mp ap
    obtain ⟨ks, h1, h2, h3⟩ := ih a2 fun u hu => ex u (List.mem_cons_of_mem _ hu)
    obtain ⟨k, hk⟩ := ex v List.mem_cons_self
    refine ⟨k :: ks, .cons hk h1, List.nodup_cons.mpr ⟨fun m => ?_, h2⟩, fun j => ?_⟩
    · obtain ⟨u, hu, q⟩ := (h3 k).mp m
      exact a1 u hu k hk q
    · rw [List.mem_cons, h3]
      constructor
      · rintro (rfl | ⟨u, hu, q⟩)
        · exact ⟨v, List.mem_cons_self, hk⟩
        · exact ⟨u, List.mem_cons_of_mem _ hu, q⟩
      · rintro ⟨u, hu, q⟩
        rcases List.mem_cons.mp hu with rfl | hu
        · exact .inl (knd.inj _ _ _ q hk)
        · exact .inr ⟨u, hu, q⟩
variable {A : Around} {E : Value → Shared → Prop} {s : Shared}
/-- the walk that puts each item in -/
theorem set_fill {I : Addr} {fp wr : List Addr} {G : Array GenState → Array GenState → Prop} {n : Nat} {Pv : Nat → Value → Prop} {St : Nat → Shared → Prop} {R : Result → Shared → Prop}
    (W : WalksS P w A.in1 I fp wr G n Pv St) (D : Addr) (hD : D ∉ fp) (ks : List Kt) (hn : n = ks.length) (hb : ks.length + 1 < scanBound) (hval : ∀ i v, Pv i v → ∃ k, ks[i]? = some k ∧ knd.is k v = true ∧ v.scannable = true) :
    ∀ (left i : Nat) (s : Shared), n - i = left → i ≤ n → St i s → (∃ c, c ≤ i ∧ SetG knd s.heap D (fun j => decide (j ∈ ks.take i)) c) →
      (∀ s' c, Moved (D :: wr) G s s' → c ≤ n → SetG knd s'.heap D (fun j => decide (j ∈ ks)) c → R (.ok (.ret .none)) s') →
      codeAny (model P w) A (.builtin "set.update.loop" ⟨[.ref D, .ref I], []⟩) R s := by
  have notin : D ∉ wr := fun h => hD (W.sub _ h)
  have more : ∀ b ∈ wr, b ∈ D :: wr := fun b hb => List.mem_cons_of_mem _ hb
  intro left
  induction left with
  | zero =>
    intro i s e hi st ⟨c, hc, g⟩ hR
    have ein : i = n := by omega
    subst ein
    refine codeAny_builtin F.entry_set_update_loop ?_
    rw [Around.under_plainId F.plain_set_update_loop _]
    show wpAny _ A.in1 (pyNext (.ref I) >>= _) _ _ s
    refine wpAny_bind (W.done s _ _ st fun s' mv => ?_)
    show wpAny _ A.in1 (ret Value.none) _ _ s'
    rw [List.take_of_length_le (Nat.le_of_eq hn.symm)] at g
    exact wpAny_pure (hR s' c (mv.mono more) hc (g.at fun o e => mv.heap D o notin e))
  | succ left ih =>
    intro i s e hi st ⟨c, hc, g⟩ hR
    have lt : i < n := by omega
    refine codeAny_builtin F.entry_set_update_loop ?_
    rw [Around.under_plainId F.plain_set_update_loop _]
    show wpAny _ A.in1 (pyNext (.ref I) >>= _) _ _ s
    refine wpAny_bind (W.item i s _ _ lt st fun v s' hv st' mv => ?_)
    obtain ⟨z, hz, isz, sc⟩ := hval i v hv
    have g' : SetG knd s'.heap D (fun j => decide (j ∈ ks.take i)) c := g.at fun o e => mv.heap D o notin e
    show wpAny _ A.in1 (holding [v] (setAdd D v) >>= _) _ _ s'
    refine wpAny_bind (wpAny_holding ?_)
    unfold setAdd
    refine wpAny_holding ?_
    refine wpAny_bind (knd.pyHash isz ?_)
    refine setG_add (s := { s' with toks := s'.toks + 1 }) isz sc g' (by omega) fun h' m sb hm g2 => ?_
    have g3 : SetG knd h' D (fun j => decide (j ∈ ks.take (i + 1))) m := g2.congr fun j => by
      rw [List.take_add_one, hz]
      simp [List.mem_append]
    refine wpAny_pure ⟨plainId_quiet F.plain_set_update_loop _, ih (i + 1) _ (by omega) lt (W.frame _ s' _ _ st' (Nat.le_succ _) fun b hb o e => ?_) ⟨m, by omega, g3⟩ fun s'' c2 mv2 hc2 g4 => ?_⟩
    · rw [sb.2 b (fun h : b = D => hD (by rw [← h]; exact hb))]; exact e
    · refine hR s'' c2 (Moved.trans W.gtrans ((mv.mono more).then_heap (Nat.le_succ _) fun b o hb e => ?_) mv2) hc2 g4
      rw [sb.2 b (fun h : b = D => hb (by rw [h]; exact List.mem_cons_self))]; exact e
/-- set(x), x a list -/
theorem call_set_list {l : Addr} {items : Array Value} (ks : List Kt) {Q : Value → Shared → Prop} (hh : A.handled = none) (hl : s.heap.IsList l items) (hn : items.size = ks.length) (hit : ∀ (i : Nat) v, items[i]? = some v → ∃ k, ks[i]? = some k ∧ knd.is k v = true ∧ v.scannable = true) (hb : ks.length + 1 < scanBound)
    (h : ∀ (h' : Heap) (tk c : Nat), SetG knd h' s.heap.objs.size (fun j => decide (j ∈ ks)) c → c ≤ ks.length → (∀ b o, s.heap.get? b = some o → h'.get? b = some o) → Q (.ref s.heap.objs.size) { s with heap := h', toks := tk }) :
    wpAny (model P w) A (call (.type "set") [.ref l]) Q E s := by
  obtain ⟨c, tl, hmro⟩ := F.called_set.mro
  have hmade := F.called_set.made
  have hsub := F.called_set.sub
  refine wpAny_call (codeAny_of_tree ?_)
  show wpAny _ _ (callAny (.type "set") _) _ _ _
  refine wpAny_pure ⟨Code.quiet_builtin _ (by decide +kernel), codeAny_builtin F.entry_type_call ?_⟩
  rw [Around.under_plain (weight_type_call_type "set" [.ref l] []) rfl]
  have h1 := F.called_set.notType
  have h2 := F.called_set.canCreate
  have hct := F.typeCall_set_1 (.ref l)
  repeat (any_goals (first | assumption | wp_step))
  refine codeAny_mono (code_set_led1 (.ref l) (E := E) (Q₁ := fun obj s₁ => obj = .ref s.heap.objs.size ∧ s₁ = { s with heap := s.heap.push (newS w) }) ⟨rfl, rfl⟩) fun r s₁ hr => ?_
  cases r with
  | error e => exact hr
  | ok fl =>
    cases fl with
    | ret obj =>
      obtain ⟨rfl, rfl⟩ := hr
      have hS : (s.heap.push (newS w)).get? s.heap.objs.size = some (newS w) := Heap.get?_push_size _ rfl
      have hT : Shared.TypeIs { s with heap := s.heap.push (newS w) } (.ref s.heap.objs.size) "set" := ⟨_, hS, rfl⟩
      have hli := F.called_set.init.lookup
      have hbi := F.called_set.init.bind (.ref s.heap.objs.size)
      repeat (any_goals (first | assumption | wp_step))
      refine codeAny_mono (codeAny_call_builtin (R := wants (fun r s₂ => r = .none ∧ ∃ h' tk c, s₂ = { s with heap := h', toks := tk } ∧ SetG knd h' s.heap.objs.size (fun j => decide (j ∈ ks)) c ∧ c ≤ ks.length ∧
          (∀ b o, s.heap.get? b = some o → h'.get? b = some o)) E) F.called_set.init.plain F.entry_set_init (check_set_init_1 hT ?_)) fun r₂ s₂ hr₂ => ?_
      · obtain ⟨ol, hol, hcl, nl, hdl⟩ := hl
        obtain ⟨ocls, odict, odata, oslots⟩ := ol
        simp only at hcl hdl
        subst hcl; subst hdl
        have hol' : (s.heap.push (newS w)).get? l = some { cls := .type "list", dict := odict, data := .seq items nl, slots := oslots } := Heap.get?_push_of_some _ hol
        have hsls := F.sub_list_set
        have hslf := F.sub_list_frozenset
        have hne : (Value.type "list" == Value.type "dict") = false := by decide
        have hl1 : (s.heap.push (newS w)).IsList l items := ⟨_, hol', rfl, nl, rfl⟩
        unfold Builtin.«set.__init__» noKeywords Builtin.Frozenset.updateFrom
        generalize hPI : pyIter = PI
        wp_walk
        subst hPI
        refine wpAny_pyIter_list hl1 ?_
        refine wpAny_bind (wpAny_runValue ?_)
        have lS : l < s.heap.objs.size := Heap.lt_size hol
        have hh3 : A.in1.in1.in1.handled = none := by simp [hh]
        have zI : (s.heap.push (newS w)).objs.size = s.heap.objs.size + 1 := Heap.size_push ..
        have neI : l ≠ (s.heap.push (newS w)).objs.size := by rw [zI]; exact Nat.ne_of_lt (Nat.lt_succ_of_lt lS)
        have notin : s.heap.objs.size ∉ [(s.heap.push (newS w)).objs.size, l] := by
          rw [zI]
          simp only [List.mem_cons, List.not_mem_nil, or_false, not_or]
          exact ⟨Nat.ne_of_lt (Nat.lt_succ_self _), Nat.ne_of_gt lS⟩
        refine set_fill ((Walks.list hh3 _ l neI items).toS) s.heap.objs.size notin ks hn hb hit (items.size - 0) 0 _ rfl (Nat.zero_le _)
          ⟨⟨_, Heap.get?_push_size _ rfl, rfl, rfl⟩, (hl1.push _)⟩ ⟨0, Nat.le_refl 0, SetG.congr (setG_new (Heap.get?_push_of_some _ hS)) fun k => (by simp)⟩ fun s' c' mv hc' g => ?_
        obtain ⟨h', g2, d', tk', os'⟩ := s'
        have eg : g2 = s.gens := mv.gens
        have ed : d' = s.drawn := mv.drawn
        have eo : os' = s.os := mv.os
        subst eg; subst ed; subst eo
        show wpAny _ _ _ _ _ _
        refine wpAny_pure ?_
        show wpAny _ _ (ret Value.none) _ _ _
        rw [hn] at hc'
        refine wpAny_pure ⟨rfl, h', tk', c', rfl, g, hc', fun b o e => ?_⟩
        have b0 : b < s.heap.objs.size := Heap.lt_size e
        refine mv.heap b o ?_ (Heap.get?_push_of_some _ (Heap.get?_push_of_some _ e))
        rw [zI]
        simp only [List.mem_cons, List.not_mem_nil, or_false, not_or]
        exact ⟨Nat.ne_of_lt b0, Nat.ne_of_lt (Nat.lt_succ_of_lt b0)⟩
      · cases r₂ with
        | error e => exact hr₂
        | ok fl₂ =>
          cases fl₂ with
          | ret r =>
            obtain ⟨rfl, h', tk, c', rfl, g, hc', k'⟩ := hr₂
            repeat (any_goals (first | assumption | wp_step))
            exact h _ _ _ g hc' k'
          | _ => exact hr₂.elim
    | _ => exact hr.elim
/-- set(x), x a tuple -/
theorem call_set_tuple {l : Addr} {items : Array Value} (ks : List Kt) {Q : Value → Shared → Prop} (hh : A.handled = none) (hl : s.heap.IsTuple l items) (hn : items.size = ks.length) (hit : ∀ (i : Nat) v, items[i]? = some v → ∃ k, ks[i]? = some k ∧ knd.is k v = true ∧ v.scannable = true) (hb : ks.length + 1 < scanBound)
    (h : ∀ (h' : Heap) (tk c : Nat), SetG knd h' s.heap.objs.size (fun j => decide (j ∈ ks)) c → c ≤ ks.length → (∀ b o, s.heap.get? b = some o → h'.get? b = some o) → Q (.ref s.heap.objs.size) { s with heap := h', toks := tk }) :
    wpAny (model P w) A (call (.type "set") [.ref l]) Q E s := by
  obtain ⟨c, tl, hmro⟩ := F.called_set.mro
  have hmade := F.called_set.made
  have hsub := F.called_set.sub
  refine wpAny_call (codeAny_of_tree ?_)
  show wpAny _ _ (callAny (.type "set") _) _ _ _
  refine wpAny_pure ⟨Code.quiet_builtin _ (by decide +kernel), codeAny_builtin F.entry_type_call ?_⟩
  rw [Around.under_plain (weight_type_call_type "set" [.ref l] []) rfl]
  have h1 := F.called_set.notType
  have h2 := F.called_set.canCreate
  have hct := F.typeCall_set_1 (.ref l)
  repeat (any_goals (first | assumption | wp_step))
  refine codeAny_mono (code_set_led1 (.ref l) (E := E) (Q₁ := fun obj s₁ => obj = .ref s.heap.objs.size ∧ s₁ = { s with heap := s.heap.push (newS w) }) ⟨rfl, rfl⟩) fun r s₁ hr => ?_
  cases r with
  | error e => exact hr
  | ok fl =>
    cases fl with
    | ret obj =>
      obtain ⟨rfl, rfl⟩ := hr
      have hS : (s.heap.push (newS w)).get? s.heap.objs.size = some (newS w) := Heap.get?_push_size _ rfl
      have hT : Shared.TypeIs { s with heap := s.heap.push (newS w) } (.ref s.heap.objs.size) "set" := ⟨_, hS, rfl⟩
      have hli := F.called_set.init.lookup
      have hbi := F.called_set.init.bind (.ref s.heap.objs.size)
      repeat (any_goals (first | assumption | wp_step))
      refine codeAny_mono (codeAny_call_builtin (R := wants (fun r s₂ => r = .none ∧ ∃ h' tk c, s₂ = { s with heap := h', toks := tk } ∧ SetG knd h' s.heap.objs.size (fun j => decide (j ∈ ks)) c ∧ c ≤ ks.length ∧
          (∀ b o, s.heap.get? b = some o → h'.get? b = some o)) E) F.called_set.init.plain F.entry_set_init (check_set_init_1 hT ?_)) fun r₂ s₂ hr₂ => ?_
      · obtain ⟨ol, hol, hcl, nl, hdl⟩ := hl
        obtain ⟨ocls, odict, odata, oslots⟩ := ol
        simp only at hcl hdl
        subst hcl; subst hdl
        have hol' : (s.heap.push (newS w)).get? l = some { cls := .type "tuple", dict := odict, data := .seq items nl, slots := oslots } := Heap.get?_push_of_some _ hol
        have hsls := F.sub_tuple_set
        have hslf := F.sub_tuple_frozenset
        have hne : (Value.type "tuple" == Value.type "dict") = false := by decide
        have hl1 : (s.heap.push (newS w)).IsTuple l items := ⟨_, hol', rfl, nl, rfl⟩
        unfold Builtin.«set.__init__» noKeywords Builtin.Frozenset.updateFrom
        generalize hPI : pyIter = PI
        wp_walk
        subst hPI
        refine wpAny_pyIter_tuple hl1 ?_
        refine wpAny_bind (wpAny_runValue ?_)
        have lS : l < s.heap.objs.size := Heap.lt_size hol
        have hh3 : A.in1.in1.in1.handled = none := by simp [hh]
        have zI : (s.heap.push (newS w)).objs.size = s.heap.objs.size + 1 := Heap.size_push ..
        have neI : l ≠ (s.heap.push (newS w)).objs.size := by rw [zI]; exact Nat.ne_of_lt (Nat.lt_succ_of_lt lS)
        have notin : s.heap.objs.size ∉ [(s.heap.push (newS w)).objs.size, l] := by
          rw [zI]
          simp only [List.mem_cons, List.not_mem_nil, or_false, not_or]
          exact ⟨Nat.ne_of_lt (Nat.lt_succ_self _), Nat.ne_of_gt lS⟩
        refine set_fill ((Walks.tuple hh3 _ l neI items).toS) s.heap.objs.size notin ks hn hb hit (items.size - 0) 0 _ rfl (Nat.zero_le _)
          ⟨⟨_, Heap.get?_push_size _ rfl, rfl, rfl⟩, (hl1.push _)⟩ ⟨0, Nat.le_refl 0, SetG.congr (setG_new (Heap.get?_push_of_some _ hS)) fun k => (by simp)⟩ fun s' c' mv hc' g => ?_
        obtain ⟨h', g2, d', tk', os'⟩ := s'
        have eg : g2 = s.gens := mv.gens
        have ed : d' = s.drawn := mv.drawn
        have eo : os' = s.os := mv.os
        subst eg; subst ed; subst eo
        show wpAny _ _ _ _ _ _
        refine wpAny_pure ?_
        show wpAny _ _ (ret Value.none) _ _ _
        rw [hn] at hc'
        refine wpAny_pure ⟨rfl, h', tk', c', rfl, g, hc', fun b o e => ?_⟩
        have b0 : b < s.heap.objs.size := Heap.lt_size e
        refine mv.heap b o ?_ (Heap.get?_push_of_some _ (Heap.get?_push_of_some _ e))
        rw [zI]
        simp only [List.mem_cons, List.not_mem_nil, or_false, not_or]
        exact ⟨Nat.ne_of_lt b0, Nat.ne_of_lt (Nat.lt_succ_of_lt b0)⟩
      · cases r₂ with
        | error e => exact hr₂
        | ok fl₂ =>
          cases fl₂ with
          | ret r =>
            obtain ⟨rfl, h', tk, c', rfl, g, hc', k'⟩ := hr₂
            repeat (any_goals (first | assumption | wp_step))
            exact h _ _ _ g hc' k'
          | _ => exact hr₂.elim
    | _ => exact hr.elim
/-- sorted(x), x a set -/
theorem sorted_setG {enc : Kt → PyData} {a : Addr} {S : Kt → Bool} {n : Nat} {Q : Value → Shared → Prop} (R : SetG knd s.heap a S n) (hh : A.handled = none) (hu : A.units + 64 < cLine) (hn : n ≤ 100000)
    (hread : ∀ (h : Heap) k v, knd.is k v = true → Reads h v (enc k) []) (hal : ∀ j k, W.alike (enc j) (enc k) = true) (hne : ∀ k, enc k ≠ .none ∧ ∀ xs, enc k ≠ .tuple xs) (hdp : ∀ k, (enc k).depth ≤ 40)
    (hQ : ∀ s' p (out : List Value) (c : Nat) (ks : List Kt), (∀ b o, s.heap.get? b = some o → s'.heap.get? b = some o) → s'.gens = s.gens → s'.os = s.os → s.heap.objs.size ≤ p →
      s'.heap.get? p = some (seqObj "list" out.toArray c) → ks.Nodup → (∀ k, k ∈ ks ↔ S k = true) → ks.length = n → W.EachIs (fun v k => knd.is k v = true) out (ks.mergeSort (W.dataLe false enc)) → Q (.ref p) s') :
    wpAny (model P w) A (call (.builtin "sorted") [.ref a]) Q E s := by
  obtain ⟨o, es, ep, t, ho, hex, hd, g, sz⟩ := R
  refine Calls.call_function_entry kind_sorted plain_sorted entry_sorted (args_sorted1 _) ?_
  unfold Builtin.«sorted»
  refine wpAny_bind (m := checkCount "sorted" 1 1 _) (wpAny_pure ?_)
  refine wpAny_bind (collect_set (A := A.in1) hh ⟨o, ho, hex.1, hd⟩ g.fit g.bd g.ris g.led fun s1 vs k1 hz g1 o1 pm => ?_)
  have lv : vs.length = n := by rw [pm.length_eq, List.length_map, Array.length_toList]; exact sz
  obtain ⟨ks, ek, nd, mk⟩ := keys_out g pm
  have lk : ks.length = n := by rw [← ek.length]; exact lv
  refine wpAny_bind (wpAny_newList ?_ (by rw [lv]; exact line_le hn))
  have hoL : (s1.heap.push (seqObj "list" vs.toArray 0)).get? s1.heap.objs.size = some (seqObj "list" vs.toArray 0) := Heap.get?_push_size _ rfl
  refine wpAny_bind (wpAny_holding (W.list_sort_data (R := fun v k => knd.is k v = true) (enc := enc) (bs := ks) hoL ek (ek.mono fun v k h => ⟨[], hread _ k v h, by simp⟩) (W.AllAlike.of hal) (W.Sortable.others hne) (by rw [lk]; exact line_le hn) (fun k _ => ?_) fun out lo eo => ?_))
  · exact Nat.lt_of_le_of_lt (Nat.add_le_add (Nat.le_refl (A.units + 1 + 1)) (hdp k)) (Nat.lt_of_le_of_lt (Nat.le_trans (Nat.le_of_eq (by rw [Nat.add_assoc, Nat.add_assoc])) (Nat.add_le_add_left (by decide) _)) hu)
  obtain ⟨c, hc⟩ := sortedHeap_at (vs := vs) (out := out.toArray) hoL
  refine wpAny_pure ⟨_, rfl, hQ _ s1.heap.objs.size out c ks (fun b u e => ?_) g1 o1 hz hc nd mk lk eo⟩
  have q := k1 b u e
  have lt := Heap.lt_size q
  show (sortedHeap (s1.heap.push (seqObj "list" vs.toArray 0)) s1.heap.objs.size vs out.toArray).get? b = some u
  rw [sortedHeap_old (Nat.ne_of_lt lt) (by rw [size_push']; exact Nat.lt_succ_of_lt lt)]
  exact Heap.get?_push_of_some _ q
end
end EA
namespace EA
open PySem PySem.Spec PyProof.Rows L2
/-! ### texts in order -/
def slt (a b : Str) : Prop := a.cps.toList < b.cps.toList
instance (a b : Str) : Decidable (slt a b) := inferInstanceAs (Decidable (a.cps.toList < b.cps.toList))
theorem str_ext {a b : Str} (h : a.cps.toList = b.cps.toList) : a = b := by
  cases a; cases b
  simp only [Str.mk.injEq]
  exact Array.ext' h
theorem slt_irrefl (a : Str) : ¬ slt a a := List.lt_irrefl _
theorem slt_tri {a b : Str} (h : ¬ slt a b) (k : ¬ slt b a) : a = b := str_ext (List.le_antisymm (List.not_lt.mp k) (List.not_lt.mp h))
theorem slt_ne {a b : Str} (h : slt a b) : a ≠ b := fun e => slt_irrefl b (by rw [e] at h; exact h)
/-! ### conditions -/
inductive C where
  | b (v : Bool)
  | nd (s : Str) (on off : C)
  deriving DecidableEq
def C.enc : C → PyData
  | .b v => .bool v
  | .nd s x y => .tuple [.str s, x.enc, y.enc]
def C.ev (f : Str → Bool) : C → Bool
  | .b v => v
  | .nd s x y => if f s then x.ev f else y.ev f
def C.formed (s : Str) (x y : C) : C := if x = y then x else .nd s x y
def C.vars : C → List Str
  | .b _ => []
  | .nd s x y => s :: (x.vars ++ y.vars)
/-- of the one form, over these switches in this order -/
inductive OC : List Str → C → Prop where
  | leaf {ns : List Str} (v : Bool) : OC ns (.b v)
  | node {x : Str} {xs : List Str} {a b : C} : OC xs a → OC xs b → a ≠ b → OC (x :: xs) (.nd x a b)
  | skip {x : Str} {xs : List Str} {c : C} : OC xs c → OC (x :: xs) c
theorem C.ev_formed (f : Str → Bool) (s : Str) (x y : C) : (C.formed s x y).ev f = if f s then x.ev f else y.ev f := by
  unfold C.formed
  split
  · rename_i e
    subst e
    split <;> rfl
  · rfl
theorem OC.formed {x : Str} {xs : List Str} {a b : C} (ha : OC xs a) (hb : OC xs b) : OC (x :: xs) (C.formed x a b) := by
  unfold C.formed
  split
  · exact .skip ha
  · rename_i e
    exact .node ha hb e
theorem OC.app {ns : List Str} {c : C} (h : OC ns c) : ∀ pre : List Str, OC (pre ++ ns) c
  | [] => h
  | x :: r => .skip (OC.app h r)
theorem OC.bool_of {c : C} (h : OC [] c) : ∃ v, c = .b v := by
  cases h with
  | leaf v => exact ⟨v, rfl⟩
/-- where the first switch stands -/
theorem OC.split {ns : List Str} {s : Str} {x y : C} (h : OC ns (.nd s x y)) : ∃ pre ys, ns = pre ++ s :: ys ∧ OC ys x ∧ OC ys y ∧ x ≠ y := by
  generalize e : C.nd s x y = c at h
  induction h with
  | leaf v => cases e
  | node ha hb ne _ _ => cases e; exact ⟨[], _, rfl, ha, hb, ne⟩
  | @skip z xs c h ih =>
    obtain ⟨pre, ys, e1, r⟩ := ih e
    exact ⟨z :: pre, ys, by rw [e1]; rfl, r⟩
theorem OC.vars {ns : List Str} {c : C} (h : OC ns c) : ∀ s ∈ c.vars, s ∈ ns := by
  induction h with
  | leaf v => intro s hs; cases hs
  | @node x xs a b _ _ _ ha hb =>
    intro s hs
    rcases List.mem_cons.mp hs with e | hs
    · rw [e]; exact List.mem_cons_self
    · rcases List.mem_append.mp hs with hs | hs
      · exact List.mem_cons_of_mem _ (ha s hs)
      · exact List.mem_cons_of_mem _ (hb s hs)
  | skip _ ih => exact fun s hs => List.mem_cons_of_mem _ (ih s hs)
theorem C.ev_congr {f g : Str → Bool} : ∀ (c : C), (∀ s ∈ c.vars, f s = g s) → c.ev f = c.ev g
  | .b _, _ => rfl
  | .nd s x y, h => by
    show (if f s then x.ev f else y.ev f) = (if g s then x.ev g else y.ev g)
    rw [h s List.mem_cons_self, C.ev_congr x fun t ht => h t (List.mem_cons_of_mem _ (List.mem_append_left _ ht)), C.ev_congr y fun t ht => h t (List.mem_cons_of_mem _ (List.mem_append_right _ ht))]
def fset (f : Str → Bool) (s : Str) (o : Bool) : Str → Bool := fun t => if t = s then o else f t
theorem C.ev_fset {f : Str → Bool} {s : Str} {o : Bool} {c : C} (h : s ∉ c.vars) : c.ev (fset f s o) = c.ev f :=
  C.ev_congr c fun t ht => by
    unfold fset
    rw [if_neg fun e => h (by rw [← e]; exact ht)]
theorem OC.ev_fset {ns : List Str} {f : Str → Bool} {s : Str} {o : Bool} {c : C} (h : OC ns c) (n : s ∉ ns) : c.ev (fset f s o) = c.ev f := C.ev_fset fun m => n (h.vars s m)
/-- one set of settings, one form -/
theorem OC.uniq : ∀ {ns : List Str}, ns.Nodup → ∀ {c d : C}, OC ns c → OC ns d → (∀ f, c.ev f = d.ev f) → c = d
  | [], _, c, d, hc, hd, h => by
    obtain ⟨v, rfl⟩ := hc.bool_of
    obtain ⟨w, rfl⟩ := hd.bool_of
    exact congrArg C.b (h fun _ => true)
  | x :: xs, nd, c, d, hc, hd, h => by
    obtain ⟨nx, nd'⟩ := List.nodup_cons.mp nd
    have cof : ∀ {c : C}, OC (x :: xs) c → ∃ p q, OC xs p ∧ OC xs q ∧ (∀ f, c.ev f = if f x then p.ev f else q.ev f) ∧ c = C.formed x p q := fun {c} hc => by
      cases hc with
      | leaf v => exact ⟨.b v, .b v, .leaf v, .leaf v, fun f => by simp [C.ev], by simp [C.formed]⟩
      | @node _ _ a b ha hb ne => exact ⟨a, b, ha, hb, fun f => rfl, by simp [C.formed, ne]⟩
      | skip h => exact ⟨c, c, h, h, fun f => by simp, by simp [C.formed]⟩
    obtain ⟨p, q, hp, hq, e1, r1⟩ := cof hc
    obtain ⟨p', q', hp', hq', e2, r2⟩ := cof hd
    have ep : p = p' := OC.uniq nd' hp hp' fun f => by
      have z := h (fset f x true)
      rw [e1, e2] at z
      simp only [fset, if_true] at z
      have z1 := hp.ev_fset (f := f) (o := true) nx
      have z2 := hp'.ev_fset (f := f) (o := true) nx
      rw [← z1, ← z2]
      exact z
    have eq : q = q' := OC.uniq nd' hq hq' fun f => by
      have z := h (fset f x false)
      rw [e1, e2] at z
      simp only [fset, if_true, Bool.false_eq_true, if_false] at z
      have z1 := hq.ev_fset (f := f) (o := false) nx
      have z2 := hq'.ev_fset (f := f) (o := false) nx
      rw [← z1, ← z2]
      exact z
    rw [r1, r2, ep, eq]
/-- sorted names -/
structure NS (ns : List Str) : Prop where
  srt : ns.Pairwise slt
  ok : ∀ n ∈ ns, PyData.strOk n = true ∧ n.length ≤ 100
  few : ns.length ≤ 12
theorem pw_nodup {ns : List Str} (h : ns.Pairwise slt) : ns.Nodup := h.imp fun h => slt_ne h
theorem NS.nd {ns : List Str} (h : NS ns) : ns.Nodup := pw_nodup h.srt
/-! ### what the data must be for == -/
theorem C.depth_le {ns : List Str} {c : C} (h : OC ns c) : c.enc.depth ≤ ns.length := by
  induction h with
  | leaf v => exact Nat.zero_le _
  | @node x xs a b _ _ _ ha hb =>
    show max (PyData.depth (.str x)) (max a.enc.depth (max b.enc.depth 0)) + 1 ≤ _
    have : PyData.depth (.str x) = 0 := rfl
    rw [List.length_cons]
    omega
  | skip _ ih => rw [List.length_cons]; omega
theorem C.canLay {ns : List Str} {c : C} (h : OC ns c) (k : ∀ n ∈ ns, PyData.strOk n = true) : c.enc.canLay0 = true := by
  induction h with
  | leaf v => rfl
  | @node x xs a b _ _ _ ha hb =>
    show (PyData.canLay0 (.str x) && (a.enc.canLay0 && (b.enc.canLay0 && true))) = true
    rw [ha fun n m => k n (List.mem_cons_of_mem _ m), hb fun n m => k n (List.mem_cons_of_mem _ m)]
    have : PyData.canLay0 (.str x) = PyData.strOk x := rfl
    rw [this, k x List.mem_cons_self]
    rfl
  | skip _ ih => exact ih fun n m => k n (List.mem_cons_of_mem _ m)
theorem OC.shaped {ns : List Str} {c : C} (h : OC ns c) (n : NS ns) : SeqAt.shaped c.enc = true := by
  show (c.enc.canLay0 && decide (c.enc.depth ≤ 64)) = true
  have d := C.depth_le h
  have f := n.few
  rw [C.canLay h fun x m => (n.ok x m).1, decide_eq_true (by omega)]
  rfl
/-! ### keys of a dict, sorted texts -/
def C.size : C → Nat
  | .b _ => 1
  | .nd _ x y => x.size + y.size + 1
end EA
namespace EA
open PySem PySem.Spec PyProof.Rows L2
def SetGO {P : Program} {w : World} {Kt : Type} [DecidableEq Kt] (knd : PySem.KeyKind P w Kt) (a : Addr) (S : Kt → Bool) (n : Nat) : HO := .ext fun h => SetG knd h a S n
section
variable {X : Cx} {Kt : Type} [DecidableEq Kt] {knd : PySem.KeyKind X.prog X.w Kt}
theorem setGO_new {H : Hp} {h : Heap} {a : Addr} {S : Kt → Bool} {n : Nat} (R : SetG knd h a S n) : ObjOk X.prog X.w H h a (SetGO knd a S n) := by
  have ⟨o, _, _, _, ho, _⟩ := R
  exact ⟨R, ⟨o, ho⟩, fun h1 h2 p k => SetG.at p k⟩
theorem setGO_get {pins : List (Addr × Obj)} {σ : L2.St} {H : Hp} {s : Shared} {a : Addr} {S : Kt → Bool} {n : Nat} (I : Inv X pins σ H s) (ha : H a = some (SetGO knd a S n)) : SetG knd s.heap a S n := (I.hok a _ ha).1
end
/-! ### texts -/
def rSetOfS (K : PySem.W.Frag) (P : Program) (w : World) : List V → Hp → VK → Prop := fun xs H Q => ∃ (p : Addr) (ks : List Str), xs = [.ref p] ∧ (SqL K H p (ks.map V.str) ∨ SqT K H p (ks.map V.str)) ∧ ks.length ≤ 2000 ∧
  ∀ D n, H D = none → n ≤ ks.length → Q (.ref D) (upd H D (SetGO (PySem.strKind P w) D (fun k => decide (k ∈ ks)) n))
def rSortedSetS (P : Program) (w : World) : List V → Hp → VK → Prop := fun xs H Q => ∃ (a : Addr) (S : Str → Bool) (n : Nat), xs = [.ref a] ∧ H a = some (SetGO (PySem.strKind P w) a S n) ∧ n ≤ 2000 ∧
  ∀ (ss : List Str) p, ss.Pairwise slt → (∀ k, k ∈ ss ↔ S k = true) → ss.length = n → H p = none → Q (.ref p) (upd H p (.lst (ss.map V.str)))
theorem strs_keys {P : Program} {w : World} {ks : List Str} {its : List Value} (r : Vals (ks.map V.str) its) : ∀ (i : Nat) v, its.toArray[i]? = some v → ∃ k, ks[i]? = some k ∧ (PySem.strKind P w).is k v = true ∧ v.scannable = true := by
  intro i v hv
  have hv' : its[i]? = some v := by simpa using hv
  have hl := r.length
  rw [List.length_map] at hl
  have hi : i < ks.length := by rw [hl]; exact (List.getElem?_eq_some_iff.mp hv').1
  obtain ⟨u, hu, ru⟩ := r.get (i := i) (x := .str ks[i]) (by rw [List.getElem?_map, List.getElem?_eq_getElem hi]; rfl)
  rw [hv'] at hu
  cases hu
  obtain ⟨t, rfl⟩ := ru
  exact ⟨ks[i], List.getElem?_eq_getElem hi, strKind_is _ _ _ _, rfl⟩
theorem scan_small {n : Nat} (h : n ≤ 2000) : n + 1 < scanBound := Nat.lt_of_le_of_lt (Nat.succ_le_succ h) (by decide)
section
variable {X : Cx}
theorem cr_setOfS (hc : X.calm = true) : CallR X (.type "set") (rSetOfS X.K X.prog X.w) := by
  intro pins s σ H vs us Q I r h
  obtain ⟨p, ks, rfl, hq, hk, q⟩ := h
  obtain ⟨u, rfl, ru⟩ := vals1 r
  obtain rfl : u = Value.ref p := ru
  have fin : ∀ (h' : Heap) (tk c : Nat), SetG (PySem.strKind X.prog X.w) h' s.heap.objs.size (fun j => decide (j ∈ ks)) c → c ≤ ks.length → (∀ b o, s.heap.get? b = some o → h'.get? b = some o) → EP X pins σ Q (.ref s.heap.objs.size) { s with heap := h', toks := tk } :=
    fun h' tk c g hc' k => ⟨.ref s.heap.objs.size, upd H s.heap.objs.size (SetGO (PySem.strKind X.prog X.w) s.heap.objs.size (fun j => decide (j ∈ ks)) c), I.laid (t' := tk) k (Nat.le_refl _) (setGO_new g), rfl, q _ c (I.hok.fresh (Nat.le_refl _)) hc'⟩
  rcases hq with hq | hq
  · obtain ⟨its, rv, pl, hz⟩ := I.list hq
    exact call_set_list (knd := PySem.strKind X.prog X.w) ks (I.ok.hd hc) pl.isList (by rw [List.size_toArray, ← rv.length, List.length_map]) (strs_keys rv) (scan_small hk) fin
  · obtain ⟨its, rv, pl, hz⟩ := I.tuple hq
    exact call_set_tuple (knd := PySem.strKind X.prog X.w) ks (I.ok.hd hc) pl (by rw [List.size_toArray, ← rv.length, List.length_map]) (strs_keys rv) (scan_small hk) fin
theorem each_strs {P : Program} {w : World} : ∀ {out : List Value} {ks : List Str}, W.EachIs (fun v k => (PySem.strKind P w).is k v = true) out ks → Vals (ks.map V.str) out
  | _, _, .nil => .nil
  | _, _, .cons h t => by
    obtain ⟨u, rfl⟩ := Value.isStrOf_shape h
    exact .cons ⟨u, rfl⟩ (each_strs t)
theorem strs_strict {ks : List Str} (nd : ks.Nodup) : (ks.mergeSort (W.dataLe false PyData.str)).Pairwise slt ∧ ∀ k, k ∈ ks.mergeSort (W.dataLe false PyData.str) ↔ k ∈ ks := by
  have T := W.sortLe_total (PyProof.Rows.listOrd itemOrd) false (fun b : Str => W.keyToks (.str b))
  have pw := List.pairwise_mergeSort (le := W.dataLe false PyData.str) (fun a b c => T.trans a b c) (fun a b => by
    rcases T.total a b with h | h
    · rw [show W.dataLe false PyData.str a b = true from h]; rfl
    · rw [show W.dataLe false PyData.str b a = true from h]; exact Bool.or_true _) ks
  have pm := List.mergeSort_perm ks (W.dataLe false PyData.str)
  refine ⟨?_, fun k => pm.mem_iff⟩
  have nd2 : (ks.mergeSort (W.dataLe false PyData.str)).Nodup := pm.nodup_iff.mpr nd
  refine List.Pairwise.imp₂ (fun a b h ne => ?_) pw nd2
  have e : W.dataLe false PyData.str = fun a b => decide (a.cps.toList ≤ b.cps.toList) := W.dataLe_str (fun b => b)
  rw [e] at h
  have h := of_decide_eq_true h
  exact Classical.byContradiction fun n => ne (str_ext (List.le_antisymm h (List.not_lt.mp n)))
theorem cr_sortedSetS (hc : X.calm = true) (hu : X.A.units + 64 < cLine) : CallR X (.builtin "sorted") (rSortedSetS X.prog X.w) := by
  intro pins s σ H vs us Q I r h
  obtain ⟨a, S, n, rfl, ha, hn, q⟩ := h
  have R := setGO_get I ha
  rw [Vals.ref1 r]
  refine sorted_setG (enc := PyData.str) R (I.ok.hd hc) hu (by omega) (fun h k v e => ?_) (fun j k => rfl) (fun k => ⟨(fun z => by cases z), (fun xs z => by cases z)⟩) (fun k => Nat.zero_le _) fun s' p out c ks k g o hp hg nd mem hl eo => ?_
  · obtain ⟨t, rfl⟩ := Value.isStrOf_shape e
    exact Reads.str k t
  obtain ⟨st, mm⟩ := strs_strict nd
  have rv := each_strs eo
  generalize he : ks.mergeSort (W.dataLe false PyData.str) = ss at *
  have hls : ss.length = n := by rw [← he, List.length_mergeSort]; exact hl
  have hlen : (ss.map V.str).length ≤ sizeLine := by rw [List.length_map, hls]; exact line_le (by omega)
  have hf : H p = none := I.hok.fresh hp
  have J : Inv X pins σ (upd H p (.lst (ss.map V.str))) { s with heap := s'.heap, gens := s'.gens, drawn := s'.drawn, toks := s'.toks } :=
    I.call (ch := []) (Un.laid k hp hf) (I.hok.laid k hp ⟨hlen, out, c, rv, hg⟩) (by rw [g]; exact I.bare) (fun _ z => nomatch z)
  have e : s' = { s with heap := s'.heap, gens := s'.gens, drawn := s'.drawn, toks := s'.toks } := by
    cases s'
    cases s
    cases o
    rfl
  rw [e]
  exact ⟨.ref p, _, J, rfl, q ss p st (fun k => (mm k).trans (mem k)) hls hf⟩
end
end EA
namespace EA
open PySem PySem.Spec PyProof.Rows L2
/-! ### whole numbers -/
def rSetOfI (K : PySem.W.Frag) (P : Program) (w : World) : List V → Hp → VK → Prop := fun xs H Q => ∃ (p : Addr) (ks : List Int), xs = [.ref p] ∧ (SqL K H p (ks.map V.int) ∨ SqT K H p (ks.map V.int)) ∧ ks.length ≤ 2000 ∧
  ∀ D n, H D = none → n ≤ ks.length → Q (.ref D) (upd H D (SetGO (PySem.intKind P w) D (fun k => decide (k ∈ ks)) n))
def rSortedSetI (P : Program) (w : World) : List V → Hp → VK → Prop := fun xs H Q => ∃ (a : Addr) (S : Int → Bool) (n : Nat), xs = [.ref a] ∧ H a = some (SetGO (PySem.intKind P w) a S n) ∧ n ≤ 2000 ∧
  ∀ (ss : List Int) p, ss.Pairwise (· < ·) → (∀ k, k ∈ ss ↔ S k = true) → ss.length = n → H p = none → Q (.ref p) (upd H p (.lst (ss.map V.int)))
theorem ints_keys {P : Program} {w : World} {ks : List Int} {its : List Value} (r : Vals (ks.map V.int) its) : ∀ (i : Nat) v, its.toArray[i]? = some v → ∃ k, ks[i]? = some k ∧ (PySem.intKind P w).is k v = true ∧ v.scannable = true := by
  intro i v hv
  have hv' : its[i]? = some v := by simpa using hv
  have hl := r.length
  rw [List.length_map] at hl
  have hi : i < ks.length := by rw [hl]; exact (List.getElem?_eq_some_iff.mp hv').1
  obtain ⟨u, hu, ru⟩ := r.get (i := i) (x := .int ks[i]) (by rw [List.getElem?_map, List.getElem?_eq_getElem hi]; rfl)
  rw [hv'] at hu
  cases hu
  obtain ⟨t, rfl⟩ := ru
  exact ⟨ks[i], List.getElem?_eq_getElem hi, intKind_is _ _ _ _, rfl⟩
theorem int_shape {P : Program} {w : World} {k : Int} {v : Value} (h : (PySem.intKind P w).is k v = true) : ∃ t, v = .int k t := Value.isInt_shape h
section
variable {X : Cx}
theorem cr_setOfI (hc : X.calm = true) : CallR X (.type "set") (rSetOfI X.K X.prog X.w) := by
  intro pins s σ H vs us Q I r h
  obtain ⟨p, ks, rfl, hq, hk, q⟩ := h
  obtain ⟨u, rfl, ru⟩ := vals1 r
  obtain rfl : u = Value.ref p := ru
  have fin : ∀ (h' : Heap) (tk c : Nat), SetG (PySem.intKind X.prog X.w) h' s.heap.objs.size (fun j => decide (j ∈ ks)) c → c ≤ ks.length → (∀ b o, s.heap.get? b = some o → h'.get? b = some o) → EP X pins σ Q (.ref s.heap.objs.size) { s with heap := h', toks := tk } :=
    fun h' tk c g hc' k => ⟨.ref s.heap.objs.size, upd H s.heap.objs.size (SetGO (PySem.intKind X.prog X.w) s.heap.objs.size (fun j => decide (j ∈ ks)) c), I.laid (t' := tk) k (Nat.le_refl _) (setGO_new g), rfl, q _ c (I.hok.fresh (Nat.le_refl _)) hc'⟩
  rcases hq with hq | hq
  · obtain ⟨its, rv, pl, hz⟩ := I.list hq
    exact call_set_list (knd := PySem.intKind X.prog X.w) ks (I.ok.hd hc) pl.isList (by rw [List.size_toArray, ← rv.length, List.length_map]) (ints_keys rv) (scan_small hk) fin
  · obtain ⟨its, rv, pl, hz⟩ := I.tuple hq
    exact call_set_tuple (knd := PySem.intKind X.prog X.w) ks (I.ok.hd hc) pl (by rw [List.size_toArray, ← rv.length, List.length_map]) (ints_keys rv) (scan_small hk) fin
theorem each_ints {P : Program} {w : World} : ∀ {out : List Value} {ks : List Int}, W.EachIs (fun v k => (PySem.intKind P w).is k v = true) out ks → Vals (ks.map V.int) out
  | _, _, .nil => .nil
  | _, _, .cons h t => by
    obtain ⟨u, rfl⟩ := int_shape h
    exact .cons ⟨u, rfl⟩ (each_ints t)
theorem ints_strict {ks : List Int} (nd : ks.Nodup) : (ks.mergeSort (W.dataLe false PyData.int)).Pairwise (· < ·) ∧ ∀ k, k ∈ ks.mergeSort (W.dataLe false PyData.int) ↔ k ∈ ks := by
  have T := W.sortLe_total (PyProof.Rows.listOrd itemOrd) false (fun b : Int => W.keyToks (.int b))
  have pw := List.pairwise_mergeSort (le := W.dataLe false PyData.int) (fun a b c => T.trans a b c) (fun a b => by
    rcases T.total a b with h | h
    · rw [show W.dataLe false PyData.int a b = true from h]; rfl
    · rw [show W.dataLe false PyData.int b a = true from h]; exact Bool.or_true _) ks
  have pm := List.mergeSort_perm ks (W.dataLe false PyData.int)
  refine ⟨?_, fun k => pm.mem_iff⟩
  have nd2 : (ks.mergeSort (W.dataLe false PyData.int)).Nodup := pm.nodup_iff.mpr nd
  refine List.Pairwise.imp₂ (fun a b h ne => ?_) pw nd2
  have e : W.dataLe false PyData.int = fun a b => decide (a ≤ b) := W.dataLe_int (fun b => b)
  rw [e] at h
  have h := of_decide_eq_true h
  omega
theorem cr_sortedSetI (hc : X.calm = true) (hu : X.A.units + 64 < cLine) : CallR X (.builtin "sorted") (rSortedSetI X.prog X.w) := by
  intro pins s σ H vs us Q I r h
  obtain ⟨a, S, n, rfl, ha, hn, q⟩ := h
  have R := setGO_get I ha
  rw [Vals.ref1 r]
  refine sorted_setG (enc := PyData.int) R (I.ok.hd hc) hu (by omega) (fun h k v e => ?_) (fun j k => rfl) (fun k => ⟨(fun z => by cases z), (fun xs z => by cases z)⟩) (fun k => Nat.zero_le _) fun s' p out c ks k g o hp hg nd mem hl eo => ?_
  · obtain ⟨t, rfl⟩ := int_shape e
    exact Reads.int k t
  obtain ⟨st, mm⟩ := ints_strict nd
  have rv := each_ints eo
  generalize he : ks.mergeSort (W.dataLe false PyData.int) = ss at *
  have hls : ss.length = n := by rw [← he, List.length_mergeSort]; exact hl
  have hlen : (ss.map V.int).length ≤ sizeLine := by rw [List.length_map, hls]; exact line_le (by omega)
  have hf : H p = none := I.hok.fresh hp
  have J : Inv X pins σ (upd H p (.lst (ss.map V.int))) { s with heap := s'.heap, gens := s'.gens, drawn := s'.drawn, toks := s'.toks } :=
    I.call (ch := []) (Un.laid k hp hf) (I.hok.laid k hp ⟨hlen, out, c, rv, hg⟩) (by rw [g]; exact I.bare) (fun _ z => nomatch z)
  have e : s' = { s with heap := s'.heap, gens := s'.gens, drawn := s'.drawn, toks := s'.toks } := by
    cases s'
    cases s
    cases o
    rfl
  rw [e]
  exact ⟨.ref p, _, J, rfl, q ss p st (fun k => (mm k).trans (mem k)) hls hf⟩
/-! ### any, all of a list of truths -/
def rAll (K : PySem.W.Frag) : List V → Hp → VK → Prop := fun xs H Q => ∃ (p : Addr) (bs : List Bool), xs = [.ref p] ∧ SqL K H p (bs.map V.bl) ∧ Q (.bl (bs.all id)) H
theorem reads_bools {h : Heap} : ∀ {bs : List Bool} {us : List Value}, Vals (bs.map V.bl) us → ∃ as, ReadsAll h us (bs.map PyData.bool) as
  | [], _, .nil => ⟨_, .nil⟩
  | b :: bs, _, .cons r rs => by
    cases r
    obtain ⟨as, q⟩ := reads_bools rs
    exact ⟨_, .cons (.bool b) q⟩
theorem plain_bools : ∀ bs : List Bool, PyData.plainAll (bs.map PyData.bool) = true
  | [] => rfl
  | b :: bs => by
    show (true && PyData.plainAll (bs.map PyData.bool)) = true
    rw [plain_bools bs]
    rfl
theorem all_bools_id : ∀ bs : List Bool, (bs.map PyData.bool).all PyData.truthy = bs.all id
  | [] => rfl
  | b :: bs => by
    rw [List.map_cons, List.all_cons, List.all_cons, all_bools_id bs]
    rfl
theorem cr_all (hc : X.calm = true) : CallR X (.builtin "all") (rAll X.K) := by
  intro pins s σ H vs us Q I r h
  obtain ⟨p, bs, rfl, hq, q⟩ := h
  obtain ⟨u, rfl, ru⟩ := vals1 r
  obtain rfl : u = Value.ref p := ru
  obtain ⟨its, rv, pl, hz⟩ := I.list hq
  obtain ⟨as, ra⟩ := reads_bools (h := s.heap) rv
  refine W.all_list_data (I.ok.hd hc) pl.isList (by simpa using ra) (plain_bools bs) (fun x hx => ?_) fun h' tk k => ?_
  · obtain ⟨b, _, rfl⟩ := List.mem_map.mp hx
    trivial
  · rw [all_bools_id]
    exact ⟨.bl _, H, I.kept (t' := tk) k, rfl, q⟩
end
end EA
namespace EA
open PySem PySem.Spec PyProof.Rows L2
/-! ### the settings by their numbers -/
def asg : List Str → Nat → Str → Bool
  | [], _, _ => false
  | x :: xs, k, s => if s = x then decide (k / 2 ^ xs.length % 2 = 1) else asg xs k s
theorem div_mod_add {a m k q : Nat} (h : q < a) : (2 ^ a * m + k) / 2 ^ q % 2 = k / 2 ^ q % 2 := by
  have e : 2 ^ a = 2 ^ q * (2 * 2 ^ (a - q - 1)) := by
    rw [← Nat.pow_succ', ← Nat.pow_add]
    congr 1
    omega
  rw [e, Nat.mul_assoc, Nat.add_comm, Nat.add_mul_div_left _ _ (Nat.two_pow_pos q), Nat.mul_assoc, Nat.add_mul_mod_self_left]
theorem asg_add (m : Nat) : ∀ (xs : List Str) (a k : Nat) (s : Str), xs.length ≤ a → asg xs (2 ^ a * m + k) s = asg xs k s
  | [], _, _, _, _ => rfl
  | x :: xs, a, k, s, h => by
    rw [List.length_cons] at h
    show (if s = x then _ else _) = if s = x then _ else _
    rw [div_mod_add (by omega), asg_add m xs a k s (by omega)]
/-- the number of a setting -/
def idx : List Str → (Str → Bool) → Nat
  | [], _ => 0
  | x :: xs, f => (if f x then 2 ^ xs.length else 0) + idx xs f
theorem idx_lt : ∀ (ns : List Str) (f : Str → Bool), idx ns f < 2 ^ ns.length
  | [], _ => Nat.zero_lt_one
  | x :: xs, f => by
    have ih := idx_lt xs f
    show (if f x then 2 ^ xs.length else 0) + idx xs f < _
    rw [List.length_cons, Nat.pow_succ]
    split <;> omega
theorem asg_idx : ∀ {ns : List Str} {f : Str → Bool}, ns.Nodup → ∀ s ∈ ns, asg ns (idx ns f) s = f s
  | [], _, _, s, h => nomatch h
  | x :: xs, f, nd, s, h => by
    obtain ⟨nx, nd'⟩ := List.nodup_cons.mp nd
    have ih := idx_lt xs f
    have p := Nat.two_pow_pos xs.length
    show (if s = x then decide (((if f x then 2 ^ xs.length else 0) + idx xs f) / 2 ^ xs.length % 2 = 1) else asg xs ((if f x then 2 ^ xs.length else 0) + idx xs f) s) = f s
    by_cases e : s = x
    · rw [if_pos e, e]
      cases hf : f x with
      | true =>
        simp only [if_true]
        rw [Nat.add_div_left _ p, Nat.div_eq_of_lt ih]
        rfl
      | false =>
        simp only [Bool.false_eq_true, if_false, Nat.zero_add]
        rw [Nat.div_eq_of_lt ih]
        rfl
    · rw [if_neg e]
      have hs : s ∈ xs := (List.mem_cons.mp h).resolve_left e
      have ihs := asg_idx (f := f) nd' s hs
      split
      · have z := asg_add 1 xs xs.length (idx xs f) s (Nat.le_refl _)
        rw [Nat.mul_one] at z
        rw [z]
        exact ihs
      · rw [Nat.zero_add]
        exact ihs
/-- the truth row of a condition -/
structure Rep (ns : List Str) (c : C) (row : List Bool) : Prop where
  oc : OC ns c
  len : row.length = 2 ^ ns.length
  at_ : ∀ k, k < 2 ^ ns.length → row[k]? = some (c.ev (asg ns k))
theorem ev_idx {ns : List Str} {c : C} (h : OC ns c) (nd : ns.Nodup) (f : Str → Bool) : c.ev f = c.ev (asg ns (idx ns f)) :=
  C.ev_congr c fun s hs => (asg_idx nd s (h.vars s hs)).symm
theorem Rep.all {ns : List Str} {c : C} {row : List Bool} (h : Rep ns c row) (nd : ns.Nodup) {d : C} (hd : OC ns d) (e : ∀ k, k < 2 ^ ns.length → c.ev (asg ns k) = d.ev (asg ns k)) : c = d :=
  OC.uniq nd h.oc hd fun f => by rw [ev_idx h.oc nd, ev_idx hd nd]; exact e _ (idx_lt ns f)
/-- a switch and the rows of both sides -/
theorem Rep.form {x : Str} {xs : List Str} {a b : C} {r1 r2 : List Bool} (ha : Rep xs a r1) (hb : Rep xs b r2) (nx : x ∉ xs) : Rep (x :: xs) (C.formed x b a) (r1 ++ r2) := by
  have p := Nat.two_pow_pos xs.length
  refine ⟨OC.formed hb.oc ha.oc, by rw [List.length_append, ha.len, hb.len, List.length_cons, Nat.pow_succ]; omega, fun k hk => ?_⟩
  rw [List.length_cons, Nat.pow_succ] at hk
  rw [C.ev_formed]
  have ax : ∀ k s, asg (x :: xs) k s = if s = x then decide (k / 2 ^ xs.length % 2 = 1) else asg xs k s := fun k s => rfl
  have cut : ∀ (c : C), OC xs c → ∀ k, c.ev (asg (x :: xs) k) = c.ev (asg xs k) := fun c hc k => C.ev_congr c fun s hs => by
    rw [ax, if_neg fun e => nx (by rw [← e]; exact hc.vars s hs)]
  rw [cut _ ha.oc, cut _ hb.oc, ax, if_pos rfl]
  by_cases h : k < 2 ^ xs.length
  · rw [List.getElem?_append_left (by rw [ha.len]; exact h), ha.at_ k h, Nat.div_eq_of_lt h]
    rfl
  · have hk2 : k - 2 ^ xs.length < 2 ^ xs.length := by omega
    rw [List.getElem?_append_right (by rw [ha.len]; omega), ha.len, hb.at_ _ hk2]
    have e1 : k = 2 ^ xs.length * 1 + (k - 2 ^ xs.length) := by omega
    have e2 : k / 2 ^ xs.length = 1 := by
      rw [e1, Nat.add_comm, Nat.add_mul_div_left _ _ p, Nat.div_eq_of_lt hk2]
    rw [e2]
    simp only [Nat.mod_eq_of_lt (show 1 < 2 by decide), decide_true, if_true]
    congr 1
    refine C.ev_congr b fun s hs => ?_
    conv => rhs; rw [e1]
    rw [asg_add 1 xs xs.length _ s (Nat.le_refl _)]
/-! ### a setting with one switch turned -/
end EA
namespace EA
open PySem PySem.Spec PyProof.Rows L2
theorem perm_map_inv {α β : Type} {f : α → β} : ∀ {l k : List β}, l.Perm k → ∀ {m : List α}, k = m.map f → ∃ m' : List α, l = m'.map f ∧ m'.Perm m := by
  intro l k h
  induction h with
  | nil =>
    intro m e
    have z : m = [] := List.map_eq_nil_iff.mp e.symm
    subst z
    exact ⟨[], rfl, List.Perm.refl _⟩
  | cons x _ ih =>
    intro m e
    cases m with
    | nil => cases e
    | cons y r =>
      rw [List.map_cons, List.cons.injEq] at e
      obtain ⟨m', e1, p⟩ := ih e.2
      exact ⟨y :: m', by rw [List.map_cons, ← e1, e.1], p.cons y⟩
  | swap x y l =>
    intro m e
    match m, e with
    | a :: b :: r, e =>
      rw [List.map_cons, List.map_cons, List.cons.injEq, List.cons.injEq] at e
      exact ⟨b :: a :: r, by rw [List.map_cons, List.map_cons, e.1, e.2.1, e.2.2], List.Perm.swap a b r⟩
  | trans _ _ ih1 ih2 =>
    intro m e
    obtain ⟨m1, e1, p1⟩ := ih2 e
    obtain ⟨m2, e2, p2⟩ := ih1 e1
    exact ⟨m2, e2, p2.trans p1⟩
/-! ### drawn names -/
abbrev cl (s : Str) : List Nat := s.cps.toList
def Tag (k : Nat) (s : Str) : Prop := cl s = [109, 49 + k] ∨ cl s = [101, 49 + k] ∨ ∃ (c : Nat) (mid : List Nat), cl s = c :: (mid ++ [48 + k]) ∧ 65 ≤ c ∧ c ≤ 90 ∧ (∀ x ∈ mid, 97 ≤ x ∧ x ≤ 122) ∧ mid.length ≤ 7
theorem Tag.inj {i j : Nat} {s : Str} (h : Tag i s) (k : Tag j s) : i = j := by
  have last : ∀ {c : Nat} {mid mid' : List Nat} {c' x y : Nat}, c :: (mid ++ [x]) = c' :: (mid' ++ [y]) → x = y := fun {c mid mid' c' x y} e => by
    have e2 : mid ++ [x] = mid' ++ [y] := (List.cons.inj e).2
    have := congrArg List.getLast? e2
    simpa using this
  rcases h with h | h | ⟨c, mid, h, c1, c2, _, _⟩ <;> rcases k with k | k | ⟨c', mid', k, d1, d2, _, _⟩ <;> rw [h] at k
  · simp at k; omega
  · simp at k
  · have := (List.cons.inj k).1; omega
  · simp at k
  · simp at k; omega
  · have := (List.cons.inj k).1; omega
  · have := (List.cons.inj k).1; omega
  · have := (List.cons.inj k).1; omega
  · have := last k; omega
theorem Tag.ok {k : Nat} {s : Str} (h : Tag k s) (hk : k ≤ 8) : PyData.strOk s = true ∧ s.length ≤ 100 := by
  have len : s.length = (cl s).length := by
    show s.cps.size = s.cps.toList.length
    rw [Array.length_toList]
  have al : PyData.strOk s = (cl s).all fun x => decide (x < 0x110000) := by
    show s.cps.all (· < 0x110000) = _
    rw [Array.all_toList]
  rw [al, len, List.all_eq_true]
  rcases h with h | h | ⟨c, mid, h, c1, c2, m1, m2⟩ <;> rw [h]
  · refine ⟨fun x hx => ?_, by simp⟩
    have : x = 109 ∨ x = 49 + k := by simpa using hx
    exact decide_eq_true (by omega)
  · refine ⟨fun x hx => ?_, by simp⟩
    have : x = 101 ∨ x = 49 + k := by simpa using hx
    exact decide_eq_true (by omega)
  · refine ⟨fun x hx => ?_, by simp; omega⟩
    rcases List.mem_cons.mp hx with e | hx
    · exact decide_eq_true (by omega)
    · rcases List.mem_append.mp hx with hx | hx
      · have := m1 x hx
        exact decide_eq_true (by omega)
      · have : x = 48 + k := by simpa using hx
        exact decide_eq_true (by omega)
end EA
namespace EA
open PySem PySem.Spec PyProof.Rows L2
section
variable {K : PySem.W.Frag} {X : Cx} {a b : Expr} {fa fb : FE} {pos p2 : Pos} {es : List Expr}
theorem e_sl {lo hi : Option Expr} {l h : FO} (hK : X.K = K) (ha : PE3 K X a fa) (hl : PO3 K X lo l) (hh : PO3 K X hi h) : PE3 K X (.Subscript a (.Slice lo hi none p2) pos) (eSl fa l h) := ⟨pe_imp (pe_slice (sl_3 hK) ha.p hl.p hh.p) fun σ H Q h => by
  obtain ⟨A, S, sl, w, S', rfl, R, s, e, q⟩ := h
  obtain ⟨⟨w1, S1⟩, e1, e⟩ := Option.bind_eq_some_iff.mp e
  obtain ⟨⟨w2, S2⟩, e2, e⟩ := Option.bind_eq_some_iff.mp e
  obtain ⟨⟨w3, S3⟩, e3, e⟩ := Option.bind_eq_some_iff.mp e
  dsimp only at e
  refine ⟨A, S, sl, w1, S1, rfl, R, s, e1, fun B v n R1 r1 => ⟨B, S1, sl, w2, S2, rfl, R1, s.mono n, e2, fun C n2 R2 => ⟨C, S2, sl, w3, S3, rfl, R2, (s.mono n).mono n2, e3, fun D n3 R3 => ?_⟩⟩⟩
  have n' := (n.trans n2).trans n3
  have r3 := (r1.mono n2).mono n3
  split at e
  · rename_i xs hx
    cases e
    obtain ⟨a, vs, rfl, h1, _, hd⟩ := view_list R3 r3 hx
    exact .inl ⟨a, vs, rfl, h1, lst_of R3 (cut_daa hd _ _) fun B v m R r => q B v (n'.trans m) R r⟩
  · rename_i xs hx
    cases e
    obtain ⟨a, vs, rfl, h1, hd⟩ := view_tup R3 r3 hx
    refine .inr (.inl ⟨a, vs, rfl, h1, fun hw => ?_, fun _ => tup_of R3 (cut_daa hd _ _) fun B v m R r => q B v (n'.trans m) R r⟩)
    have ec : cutD xs w2 w3 = xs := by
      unfold cutD
      rw [← hd.len, hw.1, hw.2, List.drop_zero, Nat.sub_zero, hd.len, List.take_length]
    rw [ec] at q
    cases w1 with
    | d y => cases hx; exact q D _ n' R3 r3
    | r i =>
      unfold view at hx
      dsimp only at hx
      cases o : S'[i]? with
      | none => rw [o] at hx; cases hx
      | some m => rw [o] at hx; cases m <;> cases hx
    | sc _ => cases hx
    | ty _ => cases hx
  · rename_i z hz
    by_cases h : z.length ≤ 100000
    · rw [if_pos h] at e
      cases e
      have dz := view_dp R3 r3 hz
      cases dz
      exact .inr (.inr ⟨z, rfl, lineD h, q D _ n' R3 (Da.str _)⟩)
    · rw [if_neg h] at e; cases e
  · cases e⟩
/-! ### calls of known things -/
abbrev GC := List MO → List W3 → Option PyData
def CkOk (K : PySem.W.Frag) (r : List V → Hp → VK → Prop) (g : GC) : Prop := ∀ (A : Wd) (S : List MO) (ws : List W3) (vs : List V) (d : PyData) (Q : VK), Rl K A S → RWs K A vs ws → g S ws = some d → (∀ B v, Nx A B → Rl K B S → Da K B.G v d → Q v B.H) → r vs A.H Q
def NkOk (K : PySem.W.Frag) (r : List V → Hp → VK → Prop) (g : List MO → List W3 → Option (List PyData)) : Prop := ∀ (A : Wd) (S : List MO) (ws : List W3) (vs : List V) (d : List PyData) (Q : VK), Rl K A S → RWs K A vs ws → g S ws = some d →
  (∀ B vs p, Nx A B → Rl K B S → A.H p = none → p ∉ B.ι → B.G p = none → B.H p = some (.lst vs) → DaA K B.G vs d → Q (.ref p) B.H) → r vs A.H Q
def eB (g : GC) (a : FA) : FE := fun sl S => (a sl S).bind fun p => (g p.2 p.1).map fun d => (.d d, p.2)
def nB (g : List MO → List W3 → Option (List PyData)) (a : FA) : FN := fun sl S => (a sl S).bind fun p => (g p.2 p.1).map fun d => (d, p.2)
theorem eb_imp {r : List V → Hp → VK → Prop} {g : GC} (ok : CkOk K r g) {f : FA} {σ : L2.St} {H : Hp} {Q : VK} (h : teO K (eB g f) σ H Q) : taO K f σ H fun vs H1 => r vs H1 Q := by
  obtain ⟨A, S, sl, w, S', rfl, R, s, e, q⟩ := h
  obtain ⟨⟨w1, S1⟩, e1, e⟩ := Option.bind_eq_some_iff.mp e
  obtain ⟨d, e2, e⟩ := Option.map_eq_some_iff.mp e
  cases e
  exact ⟨A, S, sl, w1, _, rfl, R, s, e1, fun B vs n R1 r1 => ok B _ w1 vs d Q R1 r1 e2 fun C v m R r => q C v (n.trans m) R r⟩
theorem nb_imp {r : List V → Hp → VK → Prop} {g : List MO → List W3 → Option (List PyData)} (ok : NkOk K r g) {f : FA} {σ : L2.St} {H : Hp} {Q : VK} (h : tnO K (nB g f) σ H Q) : taO K f σ H fun vs H1 => r vs H1 Q := by
  obtain ⟨A, S, sl, w, S', rfl, R, s, e, q⟩ := h
  obtain ⟨⟨w1, S1⟩, e1, e⟩ := Option.bind_eq_some_iff.mp e
  obtain ⟨d, e2, e⟩ := Option.map_eq_some_iff.mp e
  cases e
  exact ⟨A, S, sl, w1, _, rfl, R, s, e1, fun B vs n R1 r1 => ok B _ w1 vs _ Q R1 r1 e2 fun C us p m R np ni g hh hd => q C us p (n.trans m) R (fresh_back n np) ni g hh hd⟩
variable {r : List V → Hp → VK → Prop} {x : Str} {e : Expr} {f : FA} {bid : String} {T : String} {pp : Pos}
theorem e_cB {g : GC} (hc : CallR X (.builtin bid) r) (ok : CkOk K r g) (hg : Gl X x) (hm : X.mg x = none) (hv : bootBuiltins x = some (.builtin bid)) (ha : PA3 K X (e :: es) f) (hn : x ≠ "__name__" := by decide) (hdb : (x == ("__debug__" : Str)) = false := by decide)
    (he : starEach (e :: es) X.env = (false, eval e X.env) :: starEach es X.env := by rfl) (hpl : (backTo pos (starEach es X.env)).any (·.1) = false := by rfl) : PE3 K X (.Call (.Name x pp) (e :: es) [] pos) (eB g f) := ⟨pe_imp (pe_callB hc hg hm hv ha.p hn hdb he hpl) fun _ _ _ h => eb_imp ok h⟩
theorem e_cT {g : GC} (hc : CallR X (.type T) r) (ok : CkOk K r g) (hg : Gl X x) (hm : X.mg x = none) (hv : bootBuiltins x = some (.type T)) (ha : PA3 K X (e :: es) f) (hn : x ≠ "__name__" := by decide) (hdb : (x == ("__debug__" : Str)) = false := by decide)
    (he : starEach (e :: es) X.env = (false, eval e X.env) :: starEach es X.env := by rfl) (hpl : (backTo pos (starEach es X.env)).any (·.1) = false := by rfl) : PE3 K X (.Call (.Name x pp) (e :: es) [] pos) (eB g f) := ⟨pe_imp (pe_callTy hc hg hm hv ha.p hn hdb he hpl) fun _ _ _ h => eb_imp ok h⟩
theorem n_cB {g : List MO → List W3 → Option (List PyData)} (hc : CallR X (.builtin bid) r) (ok : NkOk K r g) (hg : Gl X x) (hm : X.mg x = none) (hv : bootBuiltins x = some (.builtin bid)) (ha : PA3 K X (e :: es) f) (hn : x ≠ "__name__" := by decide) (hdb : (x == ("__debug__" : Str)) = false := by decide)
    (he : starEach (e :: es) X.env = (false, eval e X.env) :: starEach es X.env := by rfl) (hpl : (backTo pos (starEach es X.env)).any (·.1) = false := by rfl) : PN3 K X (.Call (.Name x pp) (e :: es) [] pos) (nB g f) := ⟨pe_imp (pe_callB hc hg hm hv ha.p hn hdb he hpl) fun _ _ _ h => nb_imp ok h⟩
theorem n_cT {g : List MO → List W3 → Option (List PyData)} (hc : CallR X (.type T) r) (ok : NkOk K r g) (hg : Gl X x) (hm : X.mg x = none) (hv : bootBuiltins x = some (.type T)) (ha : PA3 K X (e :: es) f) (hn : x ≠ "__name__" := by decide) (hdb : (x == ("__debug__" : Str)) = false := by decide)
    (he : starEach (e :: es) X.env = (false, eval e X.env) :: starEach es X.env := by rfl) (hpl : (backTo pos (starEach es X.env)).any (·.1) = false := by rfl) : PN3 K X (.Call (.Name x pp) (e :: es) [] pos) (nB g f) := ⟨pe_imp (pe_callTy hc hg hm hv ha.p hn hdb he hpl) fun _ _ _ h => nb_imp ok h⟩
def g1 (g : PyData → Option PyData) : GC := fun S ws => match ws with
  | [w] => (view S w).bind g
  | _ => none
theorem ck1 {r : List V → Hp → VK → Prop} {g : PyData → Option PyData} (h : ∀ (A : Wd) (S : List MO) (v : V) (x d : PyData) (Q : VK), Rl K A S → Dp K A.H v x → g x = some d → (∀ B v, Nx A B → Rl K B S → Da K B.G v d → Q v B.H) → r [v] A.H Q) : CkOk K r (g1 g) := by
  intro A S ws vs d Q R rs e q
  unfold g1 at e
  split at e
  · obtain ⟨x, e1, e2⟩ := Option.bind_eq_some_iff.mp e
    cases rs with
    | cons rv rr =>
      cases rr
      exact h A S _ x d Q R (view_dp R rv e1) e2 q
  · cases e
/-- len, also of a dict -/
def gLen : GC := fun S ws => match ws with
  | [w] => match view S w with
    | some (.list xs) => some (.int (xs.length : Nat))
    | some (.tuple xs) => some (.int (xs.length : Nat))
    | some (.str x) => if x.length ≤ 100000 then some (.int (x.length : Nat)) else none
    | _ => none
  | _ => none
theorem ck_len : CkOk K (rLen K) gLen := by
  intro A S ws vs d Q R rs e q
  unfold gLen at e
  split at e
  · rename_i w
    cases rs with
    | cons rv rr =>
      cases rr
      split at e
      · rename_i xs hx
        cases e
        obtain ⟨a, us, rfl, h1, _, hd⟩ := view_list R rv hx
        exact ⟨_, us.length, rfl, .inl ⟨us, h1, rfl⟩, by rw [hd.len]; exact q A _ (Nx.refl A) R (Da.int _)⟩
      · rename_i xs hx
        cases e
        obtain ⟨a, us, rfl, h1, hd⟩ := view_tup R rv hx
        exact ⟨_, us.length, rfl, .inr ⟨us, h1, rfl⟩, by rw [hd.len]; exact q A _ (Nx.refl A) R (Da.int _)⟩
      · rename_i y hy
        by_cases h : y.length ≤ 100000
        · rw [if_pos h] at e
          cases e
          have dz := view_dp R rv hy
          cases dz
          exact ⟨_, y.length, rfl, ⟨lineD h, rfl⟩, q A _ (Nx.refl A) R (Da.int _)⟩
        · rw [if_neg h] at e; cases e
      · cases e
  · cases e
def intD : PyData → Option PyData
  | .int i => some (.int i)
  | .bool b => some (.int (if b then 1 else 0))
  | _ => none
def rInt1 : List V → Hp → VK → Prop := fun xs H Q => (∃ i, xs = [.int i] ∧ Q (.int i) H) ∨ ∃ k, xs = [.bl k] ∧ Q (.int (if k then 1 else 0)) H
theorem ck_int : CkOk K rInt1 (g1 intD) := ck1 fun A S v x d Q R h e q => by
  cases h with
  | int i => cases e; exact .inl ⟨i, rfl, q A _ (Nx.refl A) R (Da.int _)⟩
  | bl b => cases e; exact .inr ⟨b, rfl, q A _ (Nx.refl A) R (Da.int _)⟩
  | _ => cases e
def absD : PyData → Option PyData
  | .int i => some (.int (if i < 0 then -i else i))
  | _ => none
def rAbs : List V → Hp → VK → Prop := fun xs H Q => ∃ i, xs = [.int i] ∧ Q (.int (if i < 0 then -i else i)) H
theorem ck_abs : CkOk K rAbs (g1 absD) := ck1 fun A S v x d Q R h e q => by
  cases h with
  | int i => cases e; exact ⟨i, rfl, q A _ (Nx.refl A) R (Da.int _)⟩
  | _ => cases e
def strD : PyData → Option PyData
  | .int i => if i.natAbs.log2 < 1920 then some (.str (toString i)) else none
  | _ => none
def rStrI : List V → Hp → VK → Prop := fun xs H Q => ∃ i, xs = [.int i] ∧ i.natAbs.log2 < 1920 ∧ Q (.str (toString i)) H
theorem ck_str : CkOk K rStrI (g1 strD) := ck1 fun A S v x d Q R h e q => by
  cases h with
  | int i =>
    unfold strD at e
    dsimp only at e
    by_cases z : i.natAbs.log2 < 1920
    · rw [if_pos z] at e; cases e; exact ⟨i, rfl, z, q A _ (Nx.refl A) R (Da.str _)⟩
    · rw [if_neg z] at e; cases e
  | _ => cases e
/-- isinstance(x, T), T a builtin type -/
def gIsi : GC := fun S ws => match ws with
  | [w, .ty c] => (view S w).bind fun x => (kitB (tyN x) c).map .bool
  | _ => none
theorem tyX_dp {H : Hp} {v : V} {d : PyData} (h : Dp K H v d) : TyX K H v (.type (tyN d)) := by
  cases h with
  | non => exact .base .non
  | bl b => exact .base (.bl b)
  | int i => exact .base (.int i)
  | str x => exact .base (.str x)
  | lst h _ =>
    rcases h with (h | ⟨o, h⟩) | ⟨o, its, n, h, c, _⟩
    · exact .base (.lst h)
    · exact .base (.frz h)
    · exact .kList h c
  | tup h _ =>
    rcases h with (h | ⟨o, h⟩) | ⟨o, its, n, h, c, _⟩
    · exact .base (.tup h)
    · exact .fTuple h
    · exact .kTuple h c
theorem ck_isi : CkOk K (rIsi K) gIsi := by
  intro A S ws vs d Q R rs e q
  unfold gIsi at e
  split at e
  · rename_i w c
    cases rs with
    | cons rv rr =>
      cases rr with
      | cons rc rr =>
        cases rr
        obtain ⟨x, e1, e2⟩ := Option.bind_eq_some_iff.mp e
        obtain ⟨b, e3, e4⟩ := Option.map_eq_some_iff.mp e2
        subst e4
        obtain rfl := (rc : _ = V.ty c)
        exact ⟨_, .ty c, .type (tyN x), .type c, b, rfl, .ty c, tyX_dp (view_dp R rv e1), kit_ty e3, q A _ (Nx.refl A) R (Da.bl _)⟩
  · cases e
/-- tuple(xs), list(xs) -/
def gTupOf : GC := fun S ws => match ws with
  | [w] => match view S w with
    | some (.list xs) => some (.tuple xs)
    | some (.tuple xs) => some (.tuple xs)
    | _ => none
  | _ => none
theorem ck_tupOf : CkOk K (rTupP K) gTupOf := by
  intro A S ws vs d Q R rs e q
  unfold gTupOf at e
  split at e
  · rename_i w
    cases rs with
    | cons rv rr =>
      cases rr
      split at e
      · rename_i xs hx
        cases e
        obtain ⟨a, us, rfl, h1, _, hd⟩ := view_list R rv hx
        exact ⟨a, us, rfl, .inl ⟨h1, tup_of R hd q⟩⟩
      · rename_i xs hx
        cases e
        obtain ⟨a, us, rfl, h1, hd⟩ := view_tup R rv hx
        refine ⟨a, us, rfl, .inr ⟨h1, ?_⟩⟩
        cases w with
        | d y => cases hx; exact q A _ (Nx.refl A) R rv
        | r i =>
          unfold view at hx
          dsimp only at hx
          cases o : S[i]? with
          | none => rw [o] at hx; cases hx
          | some m => rw [o] at hx; cases m <;> cases hx
        | sc _ => cases hx
        | ty _ => cases hx
      · cases e
  · cases e
def gSeq (S : List MO) (ws : List W3) : Option (List PyData) := match ws with
  | [w] => match view S w with
    | some (.list xs) => some xs
    | some (.tuple xs) => some xs
    | _ => none
  | _ => none
theorem nk_list : NkOk K (rListOf K) gSeq := by
  intro A S ws vs d Q R rs e q
  unfold gSeq at e
  split at e
  · rename_i w
    cases rs with
    | cons rv rr =>
      cases rr
      split at e
      · rename_i xs hx
        cases e
        obtain ⟨a, us, rfl, h1, _, hd⟩ := view_list R rv hx
        exact ⟨a, us, rfl, .inl h1, new_of R hd q⟩
      · rename_i xs hx
        cases e
        obtain ⟨a, us, rfl, h1, hd⟩ := view_tup R rv hx
        exact ⟨a, us, rfl, .inr h1, new_of R hd q⟩
      · cases e
  · cases e
/-- sorted(xs) of a list -/
def rSortD (K : PySem.W.Frag) : List V → Hp → VK → Prop := fun vs H Q => ∃ (G : Hp) (a : Addr) (xs : List V) (ds : List PyData), vs = [V.ref a] ∧ SqL K H a xs ∧ Same G H ∧ DaA K G xs ds ∧ W.AllAlike ds ∧ (2 ≤ ds.length → W.Sortable ds) ∧ (∀ d ∈ ds, d.depth ≤ 40) ∧
  ∀ ys p, DaA K G ys (ds.mergeSort (W.dataLe false id)) → H p = none → Q (.ref p) (upd H p (.lst ys))
theorem each_daa {G : Hp} : ∀ {xs : List V} {us : List Value} {ds : List PyData}, Vals xs us → DaA K G xs ds → W.EachIs (fun v d => ∃ x : V, RelV x v ∧ Da K G x d) us ds
  | _, _, _, .nil, .nil => .nil
  | _, _, _, .cons r rs, .cons d hd => .cons ⟨_, r, d⟩ (each_daa rs hd)
theorem daa_each {G : Hp} : ∀ {us : List Value} {ds : List PyData}, W.EachIs (fun v d => ∃ x : V, RelV x v ∧ Da K G x d) us ds → ∃ xs, Vals xs us ∧ DaA K G xs ds
  | _, _, .nil => ⟨[], .nil, .nil⟩
  | _, _, .cons ⟨x, r, d⟩ h => by
    obtain ⟨xs, a, b⟩ := daa_each h
    exact ⟨x :: xs, .cons r a, .cons d b⟩
theorem cr_sortD (hu : X.A.units + 64 < cLine) : CallR X (.builtin "sorted") (rSortD X.K) := by
  intro pins s σ H vs us Q I r h
  obtain ⟨G, a, xs, ds, rfl, ha, sm, hx, hal, hk, hdp, q⟩ := h
  obtain ⟨its, rv, hl, hz⟩ := I.list ha
  obtain ⟨u, rfl, ru⟩ := vals1 r
  obtain rfl : u = Value.ref a := ru
  have hz' : its.length ≤ sizeLine := by rw [← rv.length]; exact hz
  have e0 := each_daa rv hx
  have fin : ∀ out : List Value, out.length = its.length → W.EachIs (fun v d => ∃ x : V, RelV x v ∧ Da X.K G x d) out (ds.mergeSort (W.dataLe false id)) →
      EP X pins σ Q (.ref (s.heap.objs.size + 1)) { s with heap := sortedAll s.heap its out.toArray } := by
    intro out ho eo
    obtain ⟨ys, rys, dys⟩ := daa_each eo
    obtain ⟨n, hn⟩ := sortedAll_at s.heap its out.toArray
    refine ⟨.ref (s.heap.objs.size + 1), upd H (s.heap.objs.size + 1) (.lst ys), I.laid (t' := s.toks) (fun b o e => sortedAll_old e) (Nat.le_succ _) ⟨?_, out, n, rys, hn⟩, rfl, q _ _ dys (I.hok.fresh (Nat.le_succ _))⟩
    rw [rys.length, ho]
    exact hz'
  by_cases h2 : 2 ≤ ds.length
  · refine W.sorted_data (s := s) (vs := its) (bs := ds) (enc := id) hl.isList e0 (e0.mono fun v d ⟨x, rx, dx⟩ => Dp.reads I d x v (Da.dp (dx.up sm)) rx) (by rw [List.map_id]; exact hal) (by rw [List.map_id]; exact hk h2) (by rw [← e0.length]; exact hz') (fun d hd => ?_) fun out ho eo => fin out (ho.trans e0.length.symm) eo
    exact Nat.lt_of_le_of_lt (Nat.add_le_add (Nat.le_refl (X.A.units + 2)) (hdp d hd)) (Nat.lt_of_le_of_lt (Nat.le_trans (Nat.le_of_eq (Nat.add_assoc _ 2 40)) (Nat.add_le_add_left (by decide) _)) hu)
  · have hl2 : its.length < 2 := by rw [e0.length]; omega
    refine SrtO.sorted_ord (s := s) (vs := its) swo_no hl.isList hz' (fun h => absurd h (by omega)) fun out h1 hb => ?_
    have eo : out = its := perm_short hl2 hb.perm
    have es : ds.mergeSort (W.dataLe false id) = ds := sort_short _ h2
    refine fin out (by rw [eo]) ?_
    rw [es, eo]
    exact e0
open Classical in
noncomputable def sortD (ds : List PyData) : Option (List PyData) := if W.AllAlike ds ∧ (2 ≤ ds.length → W.Sortable ds) ∧ (∀ d ∈ ds, d.depth ≤ 40) then some (ds.mergeSort (W.dataLe false id)) else none
noncomputable def gSorted (S : List MO) (ws : List W3) : Option (List PyData) := match ws with
  | [w] => match view S w with
    | some (.list xs) => sortD xs
    | _ => none
  | _ => none
theorem nk_sorted : NkOk K (rSortD K) gSorted := by
  intro A S ws vs d Q R rs e q
  unfold gSorted at e
  split at e
  · rename_i w
    cases rs with
    | cons rv rr =>
      cases rr
      split at e
      · rename_i xs hx
        obtain ⟨a, us, rfl, h1, _, hd⟩ := view_list R rv hx
        unfold sortD at e
        by_cases z : W.AllAlike xs ∧ (2 ≤ xs.length → W.Sortable xs) ∧ (∀ d ∈ xs, d.depth ≤ 40)
        · rw [if_pos z] at e
          cases e
          exact ⟨A.G, a, us, xs, rfl, h1, R.gh, hd, z.1, z.2.1, z.2.2, fun ys p hy hp => new_of R hy q p hp⟩
        · rw [if_neg z] at e; cases e
      · cases e
  · cases e
/-- any, all of a list of truths -/
def boolsOf : List PyData → Option (List Bool)
  | [] => some []
  | .bool b :: r => (boolsOf r).map (b :: ·)
  | _ :: _ => none
theorem boolsOf_eq : ∀ {ds : List PyData} {bs : List Bool}, boolsOf ds = some bs → ds = bs.map .bool
  | [], _, e => by cases e; rfl
  | .bool b :: r, _, e => by
    obtain ⟨bs, e1, rfl⟩ := Option.map_eq_some_iff.mp (show (boolsOf r).map (b :: ·) = some _ from e)
    rw [boolsOf_eq e1]; rfl
  | .none :: _, _, e => by cases e
  | .int _ :: _, _, e => by cases e
  | .str _ :: _, _, e => by cases e
  | .list _ :: _, _, e => by cases e
  | .tuple _ :: _, _, e => by cases e
  | .dict _ :: _, _, e => by cases e
theorem boolsOf_map : ∀ bs : List Bool, boolsOf (bs.map .bool) = some bs
  | [] => rfl
  | b :: r => by
    show (boolsOf (r.map .bool)).map (b :: ·) = _
    rw [boolsOf_map r]; rfl
def anyD (f : List Bool → Bool) : PyData → Option PyData
  | .list xs => (boolsOf xs).map fun bs => .bool (f bs)
  | _ => none
theorem dp_bls {H : Hp} : ∀ {bs : List Bool} {vs : List V}, DpAll K H vs (bs.map PyData.bool) → vs = bs.map V.bl
  | [], _, .nil => rfl
  | _ :: _, _, .cons (.bl _) t => by rw [List.map_cons, dp_bls t]
theorem ck_all : CkOk K (EA.rAll K) (g1 (anyD fun bs => bs.all id)) := ck1 fun A S v x d Q R h e q => by
  cases h with
  | lst h1 h2 =>
    obtain ⟨bs, e1, rfl⟩ := Option.map_eq_some_iff.mp (show (boolsOf _).map (fun bs => PyData.bool (bs.all id)) = some d from e)
    have eb := boolsOf_eq e1
    subst eb
    have hv := dp_bls h2
    subst hv
    exact ⟨_, bs, rfl, h1, q A _ (Nx.refl A) R (Da.bl _)⟩
  | _ => cases e
end
end EA
namespace EA
open PySem PySem.Spec PyProof.Rows L2
/-! ### defs -/
def sp3 (K : PySem.W.Frag) (f : F3) : Sp := fun vs H Q _ => ∃ (A : Wd) (S : List MO) (ws : List W3) (w : W3) (S' : List MO), A.H = H ∧ Rl K A S ∧ RWs K A vs ws ∧ f ws S = some (w, S') ∧ ∀ B v, Nx A B → Rl K B S' → RW K B v w → Q v B.H
def eCall (f : F3) (a : FA) : FE := fun sl S => (a sl S).bind fun p => f p.1 p.2
/-- with written defaults behind the arguments -/
def eCallD (f : F3) (a : FA) (ds : List PyData) : FE := fun sl S => (a sl S).bind fun p => f (p.1 ++ ds.map .d) p.2
/-- what a body's end comes to: own: a list made here is handed on as a changeable object; S0: the store at the entry -/
noncomputable def ret3 (own : Bool) (S0 : List MO) : Out → Option (W3 × List MO)
  | .nx _ S => if cutRel S0 S then some (.d .none, S.take S0.length) else none
  | .rt (.d x) S => if cutRel S0 S then some (.d x, S.take S0.length) else none
  | .rt (.r i) S => if i < S0.length then (if cutRel S0 S then some (.r i, S.take S0.length) else none) else match S[i]? with
    | some (.lst xs) => if cutRel S0 S then (if own = true then some (.r S0.length, S.take S0.length ++ [.lst xs]) else some (.d (.list xs), S.take S0.length)) else none
    | some (.dic ks) => if cutRel S0 S then (if own = true then some (.r S0.length, S.take S0.length ++ [.dic ks]) else none) else none
    | some (.rcd _) => if own = true then some (.r i, S) else none
    | some (.nls _) => if own = true then some (.r i, S) else none
    | some (.ndc _) => if own = true then some (.r i, S) else none
    | _ => none
  | _ => none
noncomputable def fdef (own : Bool) (np nl : Nat) (body : FS) : F3 := fun ws S => if ws.length = np then (body (ws.map some ++ List.replicate nl none) S).bind (ret3 own S) else none
/-- the store is kept whole -/
def retK : Out → Option (W3 × List MO)
  | .nx _ S => some (.d .none, S)
  | .rt w S => some (w, S)
  | _ => none
def fdefK (np nl : Nat) (body : FS) : F3 := fun ws S => if ws.length = np then (body (ws.map some ++ List.replicate nl none) S).bind retK else none
section
variable {K : PySem.W.Frag} {X : Cx} {a b e : Expr} {fa fb : FE} {pos p2 : Pos} {es : List Expr}
theorem e_call {k : Nat} {f : Addr} {fd : FuncData} {ps : List Str} {x : Str} {p : Pos} {f3 : F3} {fa : FA} (hK : X.K = K) (F : FnOk X.prog X.w X.K X.mg X.base CX0 k f fd ps (sp3 K f3)) (hr : Room k X.A) (hg : Gl X x) (hm : X.mg x = some (.ref f)) (hk : PySem.W.keepIn X.K (.ref f) = true) (hb : Binds X.K fd ps [])
    (ha : PA3 K X (e :: es) fa) (hdb : (x == ("__debug__" : Str)) = false := by decide) (he : starEach (e :: es) X.env = (false, eval e X.env) :: starEach es X.env := by rfl) (hpl : (backTo pos (starEach es X.env)).any (·.1) = false := by rfl) :
    PE3 K X (.Call (.Name x p) (e :: es) [] pos) (eCall f3 fa) := ⟨pe_imp (pe_call (dvs := []) F hr hg hm hk hb .nil pass0 ha.p hdb he hpl) fun σ H Q h => by
  obtain ⟨A, S, sl, w, S', rfl, R, s, e, q⟩ := h
  obtain ⟨⟨w1, S1⟩, e1, e⟩ := Option.bind_eq_some_iff.mp e
  refine ⟨A, S, sl, w1, S1, rfl, R, s, e1, fun B vs n R1 r1 => ⟨B, S1, w1, w, S', rfl, R1, by rw [List.append_nil]; exact r1, e, fun C v n2 R2 r2 => q C v (n.trans n2) R2 r2⟩⟩⟩
theorem e_callD {k : Nat} {f : Addr} {fd : FuncData} {ps : List Str} {x : Str} {p : Pos} {f3 : F3} {fa : FA} {dvs : List V} {dus : List Value} {ds : List PyData} (hK : X.K = K) (F : FnOk X.prog X.w X.K X.mg X.base CX0 k f fd ps (sp3 K f3)) (hr : Room k X.A) (hg : Gl X x) (hm : X.mg x = some (.ref f)) (hk : PySem.W.keepIn X.K (.ref f) = true) (hb : Binds X.K fd ps dus) (hd : Vals dvs dus) (hds : ∀ G, DaA K G dvs ds)
    (ha : PA3 K X (e :: es) fa) (hdb : (x == ("__debug__" : Str)) = false := by decide) (he : starEach (e :: es) X.env = (false, eval e X.env) :: starEach es X.env := by rfl) (hpl : (backTo pos (starEach es X.env)).any (·.1) = false := by rfl) :
    PE3 K X (.Call (.Name x p) (e :: es) [] pos) (eCallD f3 fa ds) := ⟨pe_imp (pe_call F hr hg hm hk hb hd pass0 ha.p hdb he hpl) fun σ H Q h => by
  obtain ⟨A, S, sl, w, S', rfl, R, s, e, q⟩ := h
  obtain ⟨⟨w1, S1⟩, e1, e⟩ := Option.bind_eq_some_iff.mp e
  refine ⟨A, S, sl, w1, S1, rfl, R, s, e1, fun B vs n R1 r1 => ⟨B, S1, w1 ++ ds.map .d, w, S', rfl, R1, r1.app (RWs.of (hds B.G)), e, fun C v n2 R2 r2 => q C v (n.trans n2) R2 r2⟩⟩⟩
theorem sr3_start {A : Wd} {vs : List V} {ws : List W3} (h : RWs K A vs ws) (n : Nat) : SR3 K A (vs.map some ++ List.replicate n none) (ws.map some ++ List.replicate n none) := by
  refine ⟨by rw [List.length_append, List.length_append, List.length_map, List.length_map, h.len, List.length_replicate, List.length_replicate], fun i w e => ?_⟩
  by_cases hi : i < ws.length
  · rw [List.getElem?_append_left (by rw [List.length_map]; exact hi), List.getElem?_map] at e
    rw [List.getElem?_append_left (by rw [List.length_map, h.len]; exact hi), List.getElem?_map]
    clear hi
    induction h generalizing i with
    | nil => simp at e
    | @cons v w' vs ws hv t ih =>
      cases i with
      | zero => simp at e; subst e; exact ⟨v, rfl, hv⟩
      | succ i => exact ih i (by simpa using e)
  · rw [List.getElem?_append_right (by rw [List.length_map]; omega), List.getElem?_replicate] at e
    split at e <;> cases e
theorem ret_nx {own : Bool} {A : Wd} {S : List MO} (R : Rl K A S) {o : Out} {w : W3} {S' : List MO} (e : ret3 own S o = some (w, S')) {Q : VK} (q : ∀ B v, Nx A B → Rl K B S' → RW K B v w → Q v B.H) :
    EndsOk K A { nx := fun _ H' => Q .non H', rt := Q } o := by
  have len := R.len
  have cut : ∀ {B : Wd} {S1 : List MO}, cutRel S S1 → Nx A B → Rl K B S1 → Nx A ⟨B.G, B.H, A.ι⟩ ∧ Rl K ⟨B.G, B.H, A.ι⟩ (S1.take S.length) := fun {B S1} c n R1 => by
    have z := Nx.cut n R1 fun i o hi e => R.cut_ok c hi e
    rw [len] at z
    exact z
  cases o with
  | nx sl S1 =>
    by_cases c : cutRel S S1
    · have e' : (if cutRel S S1 then some (W3.d .none, S1.take S.length) else none) = some (w, S') := e
      rw [if_pos c] at e'
      cases e'
      intro B σ' n R1 _
      obtain ⟨n2, R2⟩ := cut c n R1
      exact q ⟨B.G, B.H, A.ι⟩ _ n2 R2 Da.non
    · have e' : (if cutRel S S1 then some (W3.d .none, S1.take S.length) else none) = some (w, S') := e
      rw [if_neg c] at e'; cases e'
  | bk _ _ => cases e
  | ct _ _ => cases e
  | rt u S1 =>
    intro B v n R1 r
    cases u with
    | ty _ => cases e
    | sc _ => cases e
    | d x =>
      by_cases c : cutRel S S1
      · have e' : (if cutRel S S1 then some (W3.d x, S1.take S.length) else none) = some (w, S') := e
        rw [if_pos c] at e'
        cases e'
        obtain ⟨n2, R2⟩ := cut c n R1
        exact q ⟨B.G, B.H, A.ι⟩ _ n2 R2 r
      · have e' : (if cutRel S S1 then some (W3.d x, S1.take S.length) else none) = some (w, S') := e
        rw [if_neg c] at e'; cases e'
    | r i =>
      have e : (if i < S.length then (if cutRel S S1 then some (W3.r i, S1.take S.length) else none) else match S1[i]? with
        | some (.lst xs) => if cutRel S S1 then (if own = true then some (W3.r S.length, S1.take S.length ++ [.lst xs]) else some (.d (.list xs), S1.take S.length)) else none
        | some (.dic ks) => if cutRel S S1 then (if own = true then some (W3.r S.length, S1.take S.length ++ [.dic ks]) else none) else none
        | some (.rcd _) => if own = true then some (W3.r i, S1) else none
        | some (.nls _) => if own = true then some (W3.r i, S1) else none
        | some (.ndc _) => if own = true then some (W3.r i, S1) else none
        | _ => none) = some (w, S') := e
      by_cases hi : i < S.length
      · rw [if_pos hi] at e
        by_cases c : cutRel S S1
        · rw [if_pos c] at e
          cases e
          obtain ⟨n2, R2⟩ := cut c n R1
          exact q ⟨B.G, B.H, A.ι⟩ _ n2 R2 (rw_cut n.pre (by rw [len]; exact hi) r)
        · rw [if_neg c] at e; cases e
      · rw [if_neg hi] at e
        have r0 := r
        obtain ⟨p, hp, rfl⟩ := r
        have np : p ∉ A.ι := fun z => by
          obtain ⟨j, hj, ej⟩ := List.getElem_of_mem z
          have : A.ι[j]? = some p := by rw [List.getElem?_eq_getElem hj, ej]
          have := nodup_at R1.nd hp (ix_pre n.pre this)
          rw [len] at hj; omega
        have fp : A.H p = none := (n.fr p (List.mem_of_getElem? hp)).elim (fun z => absurd z np) id
        cases o : S1[i]? with
        | none => rw [o] at e; cases e
        | some m =>
          rw [o] at e
          have ob := R1.ob i m p o hp
          have owned : ∀ m', m'.flat = true → OR K B p m' → cutRel S S1 → w = .r S.length → S' = S1.take S.length ++ [m'] → Q (.ref p) B.H := fun m' hf ob c ew es => by
            subst ew es
            obtain ⟨n2, R2⟩ := cut c n R1
            obtain ⟨n3, R3⟩ := Nx.own0 (B := ⟨B.G, B.H, A.ι⟩) (o := m') n2 R2 fp np (ob.flat hf)
            have l2 : A.ι.length = (S1.take S.length).length := R2.len
            have r3 : RW K ⟨B.G, B.H, A.ι ++ [p]⟩ (.ref p) (.r (S1.take S.length).length) := RW.last (B := ⟨B.G, B.H, A.ι⟩) l2
            rw [← l2, len] at r3
            exact q ⟨B.G, B.H, A.ι ++ [p]⟩ _ n3 R3 r3
          have whole : (if own = true then some (W3.r i, S1) else none) = some (w, S') → Q (.ref p) B.H := fun e => by
            by_cases ho : own = true
            · rw [if_pos ho] at e
              cases e
              exact q B _ n R1 r0
            · rw [if_neg ho] at e; cases e
          cases m with
          | gone => cases e
          | ldic ks => cases e
          | rcd ks => exact whole e
          | nls ks => exact whole e
          | ndc ks => exact whole e
          | dic ks =>
            dsimp only at e
            by_cases c : cutRel S S1
            · rw [if_pos c] at e
              by_cases ho : own = true
              · rw [if_pos ho] at e
                cases e
                exact owned _ rfl ob c rfl rfl
              · rw [if_neg ho] at e; cases e
            · rw [if_neg c] at e; cases e
          | lst xs =>
            dsimp only at e
            by_cases c : cutRel S S1
            · rw [if_pos c] at e
              by_cases ho : own = true
              · rw [if_pos ho] at e
                cases e
                exact owned _ rfl ob c rfl rfl
              · rw [if_neg ho] at e
                cases e
                obtain ⟨n2, R2⟩ := cut c n R1
                obtain ⟨g, vs, hh, hd⟩ := ob
                obtain ⟨n3, R3⟩ := Nx.fix (B := ⟨B.G, B.H, A.ι⟩) n2 R2 fp np g hh
                exact q ⟨upd B.G p (.lst vs), B.H, A.ι⟩ _ n3 R3 (Da.lst upd_same (hd.up (fun b u e => by
                  show upd B.G p _ b = _
                  rw [upd_ne (ne_of_none e g)]; exact e)))
            · rw [if_neg c] at e; cases e
theorem retK_nx {A : Wd} {o : Out} {w : W3} {S' : List MO} (e : retK o = some (w, S')) {Q : VK} (q : ∀ B v, Nx A B → Rl K B S' → RW K B v w → Q v B.H) :
    EndsOk K A { nx := fun _ H' => Q .non H', rt := Q } o := by
  cases o with
  | nx sl S1 => cases e; exact fun B σ' n R1 _ => q B _ n R1 Da.non
  | rt u S1 => cases e; exact fun B v n R1 r => q B v n R1 r
  | bk _ _ => cases e
  | ct _ _ => cases e
/-- THE RULE for a def -/
theorem fn3 {P : Program} {w : World} {mg : Str → Option Value} {base : Heap} {x qual : Str} {st : Stmt} {f : Addr} {fd : FuncData} {N ps : List Str} {k np nl : Nat} {own : Bool} {body : FS} (F : Fun K x qual st f fd) (S : FnScope N ps (defScope st)) (hnp : ps.length = np) (hnl : N.length = np + nl)
    (hb : ∀ (cdv : Value) (A : Around) (outer : List Env) (s : Shared) (H : Hp) (E : XK), Room k (A.deeper (envOfC qual (defScope st) s.heap.objs.size f cdv)) → PSs3 K (cxOf CX0 P w K mg base N qual (defScope st) f cdv A outer s H E).nox (defBody st) body) : FnOk P w K mg base CX0 (k + 1) f fd ps (sp3 K (fdef own np nl body)) := by
  have arity : ∀ {ws : List W3} {S0 : List MO} {r}, fdef own np nl body ws S0 = some r → ws.length = np ∧ (body (ws.map some ++ List.replicate nl none) S0).bind (ret3 own S0) = some r := fun {ws S0 r} e => by
    unfold fdef at e
    by_cases z : ws.length = np
    · rw [if_pos z] at e; exact ⟨z, e⟩
    · rw [if_neg z] at e; cases e
  refine F.ok S (fun vs H Q E h => ?_) fun cdv A outer s H vs Q E hr h => ?_
  · obtain ⟨A, S0, ws, w, S', _, _, r, e, _⟩ := h
    rw [r.len, (arity e).1, hnp]
  · obtain ⟨B, S0, ws, w, S', rfl, R, r, e, q⟩ := h
    obtain ⟨hl, e⟩ := arity e
    obtain ⟨o, e1, e2⟩ := Option.bind_eq_some_iff.mp e
    refine ⟨_, (hb cdv A outer s B.H E hr).p, B, S0, _, o, rfl, R, ?_, e1, ret_nx R e2 q⟩
    have z := sr3_start r nl
    have ez : N.length - vs.length = nl := by rw [r.len, hl]; omega
    unfold L2.start
    rw [ez]; exact z
/-- the same, the store kept whole -/
theorem fn3K {P : Program} {w : World} {mg : Str → Option Value} {base : Heap} {x qual : Str} {st : Stmt} {f : Addr} {fd : FuncData} {N ps : List Str} {k np nl : Nat} {body : FS} (F : Fun K x qual st f fd) (S : FnScope N ps (defScope st)) (hnp : ps.length = np) (hnl : N.length = np + nl)
    (hb : ∀ (cdv : Value) (A : Around) (outer : List Env) (s : Shared) (H : Hp) (E : XK), Room k (A.deeper (envOfC qual (defScope st) s.heap.objs.size f cdv)) → PSs3 K (cxOf CX0 P w K mg base N qual (defScope st) f cdv A outer s H E).nox (defBody st) body) : FnOk P w K mg base CX0 (k + 1) f fd ps (sp3 K (fdefK np nl body)) := by
  have arity : ∀ {ws : List W3} {S0 : List MO} {r}, fdefK np nl body ws S0 = some r → ws.length = np ∧ (body (ws.map some ++ List.replicate nl none) S0).bind retK = some r := fun {ws S0 r} e => by
    unfold fdefK at e
    by_cases z : ws.length = np
    · rw [if_pos z] at e; exact ⟨z, e⟩
    · rw [if_neg z] at e; cases e
  refine F.ok S (fun vs H Q E h => ?_) fun cdv A outer s H vs Q E hr h => ?_
  · obtain ⟨A, S0, ws, w, S', _, _, r, e, _⟩ := h
    rw [r.len, (arity e).1, hnp]
  · obtain ⟨B, S0, ws, w, S', rfl, R, r, e, q⟩ := h
    obtain ⟨hl, e⟩ := arity e
    obtain ⟨o, e1, e2⟩ := Option.bind_eq_some_iff.mp e
    refine ⟨_, (hb cdv A outer s B.H E hr).p, B, S0, _, o, rfl, R, ?_, e1, retK_nx e2 q⟩
    have z := sr3_start r nl
    have ez : N.length - vs.length = nl := by rw [r.len, hl]; omega
    unfold L2.start
    rw [ez]; exact z
/-! ### comprehensions -/
theorem n_lc {elt tg iter : Expr} {ifs : List Expr} {scope : Scope} {own : List (Str × Nat)} {vs ws : List Nat} {it : FI} {g : FG} {t : FT} {f : FE} (hc : X.calm = true) (hN : X.N.Nodup) (hi : PI3 K X tg iter it) (ok : BlkOk X.N X.env.scope scope own) (hv : own.map (·.2) = vs) (hw : ∀ j ∈ ws, j ∈ vs)
    (hg : ∀ (s : Shared) (H : Hp) (C : Addr) (cl : List (Str × Addr)) (fp : List Addr), PG3 K (X.blk s H scope (compEnvC scope cl C X.env) fp) tg ws g) (ht : ∀ (s : Shared) (H : Hp) (C : Addr) (cl : List (Str × Addr)) (fp : List Addr), PTs3 K (X.blk s H scope (compEnvC scope cl C X.env) fp) ifs t)
    (he : ∀ (s : Shared) (H : Hp) (C : Addr) (cl : List (Str × Addr)) (fp : List Addr), PE3 K (X.blk s H scope (compEnvC scope cl C X.env) fp) elt f) (hs : ∀ x, foldedSetIterable iter X.env x = pure x := by intro _; rfl) :
    PN3 K X (.ListComp elt [⟨tg, iter, ifs, 0⟩] scope pos) (nLc vs it g t f) := ⟨pe_imp (pe_lc hc hN hi.p ok (fun s H C cl fp => (hg s H C cl fp).p) (fun s H C cl fp => (ht s H C cl fp).p) (fun s H C cl fp => (he s H C cl fp).p) hs) fun _ _ _ h => by rw [hv]; exact lc_go hw h⟩
theorem nd_imp {f : FN} {σ : L2.St} {H : Hp} {Q : VK} (h : teO K (eNd f) σ H Q) : tnO K f σ H Q := by
  obtain ⟨A, S, sl, w, S', rfl, R, s, e, q⟩ := h
  obtain ⟨⟨w1, S1⟩, e1, e2⟩ := Option.map_eq_some_iff.mp e
  cases e2
  refine ⟨A, S, sl, w1, _, rfl, R, s, e1, fun B vs p n R' np ni g hh hd => ?_⟩
  obtain ⟨n2, R2⟩ := Nx.fix n R' np ni g hh
  exact q ⟨upd B.G p (.lst vs), B.H, B.ι⟩ _ n2 R2 (Da.lst upd_same (hd.up (fun b u e => by
    show upd B.G p _ b = _
    rw [upd_ne (ne_of_none e g)]; exact e)))
theorem no_imp {f : FN} {σ : L2.St} {H : Hp} {Q : VK} (h : teO K (eNo f) σ H Q) : tnO K f σ H Q := by
  obtain ⟨A, S, sl, w, S', rfl, R, s, e, q⟩ := h
  obtain ⟨⟨w1, S1⟩, e1, e2⟩ := Option.map_eq_some_iff.mp e
  cases e2
  refine ⟨A, S, sl, w1, _, rfl, R, s, e1, fun B vs p n R' np ni g hh hd => ?_⟩
  obtain ⟨n2, R2⟩ := Nx.own0 (o := .lst w1) n R' np ni ⟨g, vs, hh, hd⟩
  exact q ⟨B.G, B.H, B.ι ++ [p]⟩ _ n2 R2 (RW.last R'.len)
theorem set_imp {i : Nat} {f : FE} {D : Ends} {σ : L2.St} {H : Hp} (h : tsO K (sSet i f) D σ H) : teO K f σ H fun x H1 => D.nx (σ.set i (some x)) H1 := by
  obtain ⟨A, S, sl, o, rfl, R, s, e, q⟩ := h
  obtain ⟨⟨w1, S1⟩, e1, e2⟩ := Option.map_eq_some_iff.mp e
  cases e2
  exact ⟨A, S, sl, w1, S1, rfl, R, s, e1, fun B v n R' r => q B _ n R' ((s.mono n).set i r)⟩
/-- name = [..] on one line, the name a local: as data (eNd), as its own (eNo) -/
theorem s_setLc {i : Nat} {y : Str} {py spos : Pos} {elt tg iter : Expr} {ifs : List Expr} {scope : Scope} {own : List (Str × Nat)} {vs ws : List Nat} {it : FI} {g : FG} {t : FT} {f : FE} (w : FN → FE) (hwrap : w = eNd ∨ w = eNo) (hc : X.calm = true) (hN : X.N.Nodup) (hy : X.N[i]? = some y) (hyl : X.env.scope.names.lookup y = some .local)
    (hsw : swapsWith (.ListComp elt [⟨tg, iter, ifs, 0⟩] scope pos) (some (.Name y py)) spos.line X.env = pure true) (hi : PI3 K X tg iter it) (ok : BlkOk X.N X.env.scope scope own) (hv : own.map (·.2) = vs) (hw : ∀ j ∈ ws, j ∈ vs)
    (hg : ∀ (s : Shared) (H : Hp) (C : Addr) (cl : List (Str × Addr)) (fp : List Addr), PG3 K (X.blk s H scope (compEnvC scope cl C X.env) fp) tg ws g) (ht : ∀ (s : Shared) (H : Hp) (C : Addr) (cl : List (Str × Addr)) (fp : List Addr), PTs3 K (X.blk s H scope (compEnvC scope cl C X.env) fp) ifs t)
    (he : ∀ (s : Shared) (H : Hp) (C : Addr) (cl : List (Str × Addr)) (fp : List Addr), PE3 K (X.blk s H scope (compEnvC scope cl C X.env) fp) elt f) (hs : ∀ x, foldedSetIterable iter X.env x = pure x := by intro _; rfl) :
    PS3 K X (.Assign [.Name y py] (.ListComp elt [⟨tg, iter, ifs, 0⟩] scope pos) spos) (sSet i (w (nLc vs it g t f))) := ⟨ps_imp (ps_setLc hc hN hy hyl hsw hi.p ok (fun s H C cl fp => (hg s H C cl fp).p) (fun s H C cl fp => (ht s H C cl fp).p) (fun s H C cl fp => (he s H C cl fp).p) hs) fun D σ H h => by
  have h' := set_imp h
  have h2 : tnO K (nLc vs it g t f) σ H fun x H1 => D.nx (σ.set i (some x)) H1 := by
    rcases hwrap with rfl | rfl
    · exact nd_imp h'
    · exact no_imp h'
  have h3 := lc_go hw h2
  rw [← hv] at h3
  exact h3⟩
/-! ### what is walked -/
open Classical in
/-- the store still has the list that is walked -/
noncomputable def seqOk (w : W3) (x : PyData) : List MO → Bool := match w with
  | .d _ => fun _ => true
  | .sc _ => fun _ => true
  | w => fun S => decide (view S w = some x)
noncomputable def iSq (f : FE) : FI := fun sl S => (f sl S).bind fun p => match view p.2 p.1 with
  | some (.list xs) => some (⟨xs.map .d, seqOk p.1 (.list xs)⟩, p.2)
  | some (.tuple xs) => some (⟨xs.map .d, seqOk p.1 (.tuple xs)⟩, p.2)
  | _ => none
theorem seqOk_view {S S1 : List MO} {w : W3} {x : PyData} (h : seqOk w x S = true) (e : view S1 w = some x) : view S w = some x := by
  cases w with
  | d y => exact e
  | sc y => exact e
  | r i => simpa [seqOk] using h
  | ty y => cases e
end
end EA
namespace EA
open PySem PySem.Spec PyProof.Rows L2
/-! ### what is walked: lists, tuples, ranges, backwards -/
theorem pi_or {X : Cx} {tg e : Expr} {t u : TI} (h1 : PI X tg e t) (h2 : PI X tg e u) : PI X tg e (fun σ H R => t σ H R ∨ u σ H R) := ⟨fun pins s σ H R I h => h.elim (h1.run pins s σ H R I) (h2.run pins s σ H R I)⟩
section
variable {K : PySem.W.Frag} {X : Cx} {a b e tg : Expr} {fa fb : FE} {pos p2 pp : Pos} {es : List Expr}
theorem ws_get {xs : List PyData} {i : Nat} {w : W3} (h : (xs.map W3.d)[i]? = some w) : ∃ x, xs[i]? = some x ∧ w = .d x := by
  rw [List.getElem?_map] at h
  obtain ⟨x, h1, h2⟩ := Option.map_eq_some_iff.mp h
  exact ⟨x, h1, h2.symm⟩
theorem i_sq (hK : X.K = K) (h : PE3 K X e fa) : PI3 K X tg e (iSq fa) := ⟨pi_imp (pi_or (pi_list h.p) (pi_tup h.p)) fun σ H R h => by
  subst hK
  obtain ⟨A, S, sl, j, S', rfl, R0, s, e, q⟩ := h
  obtain ⟨⟨w1, S1⟩, e1, e⟩ := Option.bind_eq_some_iff.mp e
  dsimp only at e
  split at e
  · rename_i xs hx
    cases e
    refine .inl ⟨A, S, sl, w1, S', rfl, R0, s, e1, fun B v n R1 r1 => ?_⟩
    obtain ⟨a, vs, rfl, h1, _, hd⟩ := view_list R1 r1 hx
    refine ⟨a, rfl, ⟨vs, h1⟩, q B _ n R1 fun C S2 n2 R2 ok i => ?_⟩
    obtain ⟨a2, vs2, ea, h2, _, hd2⟩ := view_list R2 (r1.monov n2) (seqOk_view ok hx)
    cases ea
    refine ⟨fun w hw => ?_, fun hi => ⟨vs2, h2, by rw [hd2.len]; simpa using hi⟩⟩
    obtain ⟨x, hx2, rfl⟩ := ws_get hw
    obtain ⟨u, hu, du⟩ := hd2.get hx2
    refine ⟨⟨vs2, u, h2, hu⟩, fun v H' y => ?_⟩
    obtain ⟨rfl, y2⟩ := y
    have := y2 vs2 h2
    rw [hu] at this
    cases this
    exact ⟨C, rfl, Nx.refl C, R2, du⟩
  · rename_i xs hx
    cases e
    refine .inr ⟨A, S, sl, w1, S', rfl, R0, s, e1, fun B v n R1 r1 => ?_⟩
    obtain ⟨a, vs, rfl, h1, hd⟩ := view_tup R1 r1 hx
    refine ⟨a, rfl, ⟨vs, h1⟩, q B _ n R1 fun C S2 n2 R2 ok i => ?_⟩
    obtain ⟨a2, vs2, ea, h2, hd2⟩ := view_tup R2 (r1.monov n2) (seqOk_view ok hx)
    cases ea
    refine ⟨fun w hw => ?_, fun hi => ⟨vs2, h2, by rw [hd2.len]; simpa using hi⟩⟩
    obtain ⟨x, hx2, rfl⟩ := ws_get hw
    obtain ⟨u, hu, du⟩ := hd2.get hx2
    refine ⟨⟨vs2, u, h2, hu⟩, fun v H' y => ?_⟩
    obtain ⟨rfl, y2⟩ := y
    have := y2 vs2 h2
    rw [hu] at this
    cases this
    exact ⟨C, rfl, Nx.refl C, R2, du⟩
  · cases e⟩
def yes : List MO → Bool := fun _ => true
/-- the numbers lo, lo + 1, .. -/
def intsW (lo : Int) (n : Nat) : List W3 := (List.range n).map fun i => .d (.int (lo + (i : Nat)))
theorem intsW_get {lo : Int} {n i : Nat} {w : W3} (h : (intsW lo n)[i]? = some w) : i < n ∧ w = .d (.int (lo + (i : Nat))) := by
  unfold intsW at h
  rw [List.getElem?_map] at h
  obtain ⟨k, h1, h2⟩ := Option.map_eq_some_iff.mp h
  obtain ⟨h3, h4⟩ := List.getElem?_eq_some_iff.mp h1
  rw [List.getElem_range] at h4
  rw [List.length_range] at h3
  subst h4
  exact ⟨h3, h2.symm⟩
theorem itr_r {B : Wd} {lo : Int} {n : Nat} : ItR K B (Itr lo n) ⟨intsW lo n, yes⟩ := fun C S n1 R1 _ i => by
  refine ⟨fun w hw => ?_, fun hi => ?_⟩
  · obtain ⟨hi, rfl⟩ := intsW_get hw
    refine ⟨hi, fun v H' y => ?_⟩
    obtain ⟨rfl, rfl⟩ := y
    exact ⟨C, rfl, Nx.refl C, R1, Da.int _⟩
  · have z : (intsW lo n).length = n := by unfold intsW; rw [List.length_map, List.length_range]
    show n ≤ i
    have hi : (intsW lo n).length ≤ i := hi
    omega
def iR1 (f : FA) : FI := fun sl S => (f sl S).bind fun p => match p.1 with
  | [.d (.int j)] => if -(2 ^ 62) ≤ j ∧ j < 2 ^ 62 then some (⟨intsW 0 j.toNat, yes⟩, p.2) else none
  | _ => none
def iR2 (f : FA) : FI := fun sl S => (f sl S).bind fun p => match p.1 with
  | [.d (.int i), .d (.int j)] => if -(2 ^ 62) ≤ i ∧ i < 2 ^ 62 ∧ -(2 ^ 62) ≤ j ∧ j < 2 ^ 62 then some (⟨intsW i (j - i).toNat, yes⟩, p.2) else none
  | _ => none
theorem i_r1 {f : FA} (hg : Gl X "range") (hm : X.mg "range" = none) (ha : PA3 K X [a] f) (hs : starEach [a] X.env = [(false, eval a X.env)] := by rfl) : PI3 K X tg (.Call (.Name "range" pp) [a] [] pos) (iR1 f) := ⟨pi_imp (pi_range1 hg hm ha.p hs) fun σ H R h => by
  obtain ⟨A, S, sl, j, S', rfl, R0, s, e, q⟩ := h
  obtain ⟨⟨w1, S1⟩, e1, e⟩ := Option.bind_eq_some_iff.mp e
  dsimp only at e
  split at e
  · rename_i k
    by_cases z : -(2 ^ 62) ≤ k ∧ k < 2 ^ 62
    · rw [if_pos z] at e
      cases e
      refine ⟨A, S, sl, _, S', rfl, R0, s, e1, fun B vs n R1 rs => ?_⟩
      cases rs with
      | cons r rr =>
        cases rr
        cases Da.int_inv r
        exact ⟨k, rfl, z.1, z.2, q B _ n R1 itr_r⟩
    · rw [if_neg z] at e; cases e
  · cases e⟩
/-- reversed(x) of a list or a tuple that is data -/
def iRv (f : FE) : FI := fun sl S => (f sl S).bind fun p => match p.1 with
  | .d (.list xs) => some (⟨xs.reverse.map .d, yes⟩, p.2)
  | .d (.tuple xs) => some (⟨xs.reverse.map .d, yes⟩, p.2)
  | _ => none
/-! ### methods of lists -/
def listAt (S : List MO) : W3 → Option (List PyData)
  | .r i => match S[i]? with
    | some (.lst xs) => some xs
    | _ => none
  | _ => none
theorem listAt_of {A : Wd} {S : List MO} {v : V} {w : W3} {xs : List PyData} (R : Rl K A S) (r : RW K A v w) (e : listAt S w = some xs) : ∃ i a vs, w = .r i ∧ A.ι[i]? = some a ∧ S[i]? = some (.lst xs) ∧ v = .ref a ∧ A.G a = none ∧ A.H a = some (.lst vs) ∧ DaA K A.G vs xs := by
  cases w with
  | r i =>
    obtain ⟨a, ha, rfl⟩ := r
    unfold listAt at e
    dsimp only at e
    cases o : S[i]? with
    | none => rw [o] at e; cases e
    | some m =>
      rw [o] at e
      cases m with
      | lst ys =>
        cases e
        obtain ⟨g, vs, h1, h2⟩ := R.ob i _ a o ha
        exact ⟨i, a, vs, rfl, ha, o, rfl, g, h1, h2⟩
      | _ => cases e
  | _ => cases e
def setAt (S : List MO) (w : W3) (o : MO) : List MO := match w with
  | .r i => S.set i o
  | _ => S
/-- a method that may change its list: what it gives, the list behind it -/
abbrev GM := List PyData → List W3 → Option (PyData × List PyData)
def MkOk (K : PySem.W.Frag) (r : V → List V → Hp → VK → Prop) (g : GM) : Prop := ∀ (A : Wd) (a : Addr) (vs : List V) (xs : List PyData) (S : List MO) (ws : List W3) (us : List V) (d : PyData) (ys : List PyData) (Q : VK), Rl K A S → A.H a = some (.lst vs) → DaA K A.G vs xs → RWs K A us ws → g xs ws = some (d, ys) →
  (∀ (v : V) (vs' : List V), Da K A.G v d → DaA K A.G vs' ys → Q v (upd A.H a (.lst vs'))) → r (.ref a) us A.H Q
def eM (g : GM) (o : FE) (a : FA) : FE := fun sl S => (o sl S).bind fun p => if (listAt p.2 p.1).isSome = true then (a sl p.2).bind fun q => (listAt q.2 p.1).bind fun xs => (g xs q.1).map fun z => (.d z.1, setAt q.2 p.1 (.lst z.2)) else none
theorem eM_imp {r : V → List V → Hp → VK → Prop} {g : GM} (ok : MkOk K r g) {o : FE} {f : FA} {σ : L2.St} {H : Hp} {Q : VK} (h : teO K (eM g o f) σ H Q) : tBM K "list" r (teO K o) (taO K f) σ H Q := by
  obtain ⟨A, S, sl, w, S', rfl, R, s, e, q⟩ := h
  obtain ⟨⟨w1, S1⟩, e1, e⟩ := Option.bind_eq_some_iff.mp e
  dsimp only at e
  by_cases z : (listAt S1 w1).isSome = true
  · rw [if_pos z] at e
    obtain ⟨⟨w2, S2⟩, e2, e⟩ := Option.bind_eq_some_iff.mp e
    obtain ⟨xs, e3, e⟩ := Option.bind_eq_some_iff.mp e
    obtain ⟨⟨d, ys⟩, e4, e⟩ := Option.map_eq_some_iff.mp e
    cases e
    obtain ⟨xs0, h0⟩ := Option.isSome_iff_exists.mp z
    refine ⟨A, S, sl, w1, S1, rfl, R, s, e1, fun B v n R1 r1 => ⟨?_, B, S1, sl, w2, S2, rfl, R1, s.mono n, e2, fun C us n2 R2 r2 => ?_⟩⟩
    · obtain ⟨i, a, vs, rfl, _, _, rfl, _, h, _⟩ := listAt_of R1 r1 h0
      exact .inl ⟨rfl, _, SqL.of h⟩
    · obtain ⟨i, a, vs, rfl, ha, hS, rfl, g0, h, hd⟩ := listAt_of R2 (r1.mono n2) e3
      refine ok C a vs xs S2 w2 us d ys Q R2 h hd r2 e4 fun v vs' dv dvs => ?_
      obtain ⟨n3, R3⟩ := Nx.wr (u := .lst vs') (o := .lst ys) R2 ha g0 ⟨g0, vs', upd_same, dvs⟩ (by rw [h]; rfl)
      exact q ⟨C.G, upd C.H a (.lst vs'), C.ι⟩ v ((n.trans n2).trans n3) R3 dv
  · rw [if_neg z] at e; cases e
variable {o : Expr} {fo : FE} {f : FA} {name : Str} {apos cpos : Pos} {mid : String} {r : V → List V → Hp → VK → Prop} {g : GM}
theorem e_m (hK : X.K = K) (slot : Slot "list" name mid) (hty : typeOf (.builtin mid) = Pure.pure (.type "method_descriptor")) (hm : MtR X mid r) (ok : MkOk K r g) (ho : PE3 K X o fo) (ha : PA3 K X (e :: es) f)
    (hbase : attributeBase o name X.env (eval o X.env) = eval o X.env := by rfl)
    (hfew : ((backTo cpos (starEach (e :: es) X.env)).all (fun x => !x.1) && (backToKw cpos (keywordEach [] X.env)).all (fun x => x.1.isSome)
      && decide ((e :: es).length + ([] : List Keyword).length + (if ([] : List Keyword).isEmpty then 0 else 1) < 30)) = true := by rfl)
    (hline : (apos.endLine == cpos.line) = true := by rfl) (hs : starEach (e :: es) X.env = (false, eval e X.env) :: starEach es X.env := by rfl) (hplain : (backTo cpos (starEach es X.env)).any (·.1) = false := by rfl) :
    PE3 K X (.Call (.Attribute o name apos) (e :: es) [] cpos) (eM g fo f) := ⟨pe_imp (pe_bm PySem.F.plainAttrs_list slot hty hm ho.p ha.p hbase hfew hline hs hplain) fun _ _ _ h => by subst hK; exact eM_imp ok h⟩
def mApp : GM := fun xs ws => match ws with
  | [.d x] => if xs.length ≤ 100000 then some (.none, xs ++ [x]) else none
  | _ => none
def mPopAt : GM := fun xs ws => match ws with
  | [.d (.int k)] => if 0 ≤ k ∧ k < xs.length ∧ xs.length ≤ 100000 then (xs[k.toNat]?).map fun x => (x, xs.eraseIdx k.toNat) else none
  | _ => none
theorem mk_app : MkOk K rAppend mApp := by
  intro A a vs xs S ws us d ys Q R h hd rs e q
  unfold mApp at e
  split at e
  · by_cases z : xs.length ≤ 100000
    · rw [if_pos z] at e
      cases e
      cases rs with
      | cons r rr =>
        cases rr
        exact ⟨a, vs, _, rfl, rfl, h, by rw [hd.len]; exact line_lt z, q _ _ Da.non (hd.app (.cons r .nil))⟩
    · rw [if_neg z] at e; cases e
  · cases e
theorem mk_popAt : MkOk K rPopAt mPopAt := by
  intro A a vs xs S ws us d ys Q R h hd rs e q
  unfold mPopAt at e
  split at e
  · rename_i k
    by_cases z : 0 ≤ k ∧ k < xs.length ∧ xs.length ≤ 100000
    · rw [if_pos z] at e
      obtain ⟨x, hx, e⟩ := Option.map_eq_some_iff.mp e
      cases e
      cases rs with
      | cons r rr =>
        cases rr
        cases Da.int_inv r
        obtain ⟨u, hu, du⟩ := hd.get hx
        exact popL h z.1 (by rw [hd.len]; exact z.2.1) hu (by rw [hd.len]; exact z.2.2) (q _ _ du (hd.erase _))
    · rw [if_neg z] at e; cases e
  · cases e
/-! ### x[i] = v -/
def gSubL (o i : FE) : FG := fun w sl S => match w with
  | .d x => (o sl S).bind fun p => (i sl p.2).bind fun q => match q.1 with
    | .d (.int k) => (listAt q.2 p.1).bind fun xs => (ixN xs.length k).map fun j => (sl, setAt q.2 p.1 (.lst (xs.set j x)))
    | _ => none
  | _ => none
theorem g_sub {i : Expr} {fi : FE} (ho : PE3 K X o fo) (hi : PE3 K X i fi) (ha : ∀ v, assign (.Subscript o i pos) X.env v = (do let ov ← holding [v] (eval o X.env); let iv ← holding [v, ov] (eval i X.env); standAt pos; holding [v, ov, iv] (setItem ov iv v); release [v, ov, iv] []) := by intro _; rfl) : PG3 K X (.Subscript o i pos) [] (gSubL fo fi) := ⟨pg_imp (pg_sub ho.p hi.p set_list ha) fun v σ H Q h => by
  obtain ⟨A, S, sl, w, sl', S', rfl, R, s, r, e, q⟩ := h
  cases w with
  | d x =>
    obtain ⟨⟨w1, S1⟩, e1, e⟩ := Option.bind_eq_some_iff.mp e
    obtain ⟨⟨w2, S2⟩, e2, e⟩ := Option.bind_eq_some_iff.mp e
    dsimp only at e
    refine ⟨A, S, sl, w1, S1, rfl, R, s, e1, fun B u n R1 r1 => ⟨B, S1, sl, w2, S2, rfl, R1, s.mono n, e2, fun C t n2 R2 r2 => ?_⟩⟩
    split at e
    · rename_i k
      obtain ⟨xs, e3, e⟩ := Option.bind_eq_some_iff.mp e
      obtain ⟨j, e4, e⟩ := Option.map_eq_some_iff.mp e
      cases e
      cases Da.int_inv r2
      obtain ⟨i, a, vs, rfl, ha, hS, rfl, g0, h, hd⟩ := listAt_of R2 (r1.mono n2) e3
      have n' := n.trans n2
      refine ⟨a, vs, k, j, rfl, rfl, h, by rw [hd.len]; exact e4, ?_⟩
      obtain ⟨n3, R3⟩ := Nx.wr (u := .lst (vs.set j v)) (o := .lst (xs.set j x)) R2 ha g0 ⟨g0, vs.set j v, upd_same, DaA.set (Da.up n'.gg r) j hd⟩ (by rw [h]; rfl)
      exact q ⟨C.G, upd C.H a (.lst (vs.set j v)), C.ι⟩ σ (n'.trans n3) R3 (s.mono (n'.trans n3)) ⟨rfl, fun _ _ => rfl⟩
    · cases e
  | _ => cases e⟩
/-! ### name += e, of numbers -/
/-! ### a, b = x, y -/
def sPar (i j : Nat) (f : FA) : FS := fun sl S => (f sl S).bind fun p => match p.1 with
  | [x, y] => some (.nx ((sl.set i (some x)).set j (some y)) p.2)
  | _ => none
end
end EA
namespace EA
open PySem PySem.Spec PyProof.Rows L2
/-! ### in order, each once -/
section
variable {α : Type} [DecidableEq α] (lt : α → α → Bool)
def insS (a : α) : List α → List α
  | [] => [a]
  | b :: l => if a = b then b :: l else if lt a b = true then a :: b :: l else b :: insS a l
def sset : List α → List α
  | [] => []
  | a :: l => insS lt a (sset l)
variable {lt}
structure Strict (lt : α → α → Bool) : Prop where
  tr : ∀ a b c, lt a b = true → lt b c = true → lt a c = true
  ir : ∀ a, lt a a = false
  tot : ∀ a b, a ≠ b → lt a b = true ∨ lt b a = true
theorem mem_insS {a x : α} : ∀ {l : List α}, x ∈ insS lt a l ↔ x = a ∨ x ∈ l
  | [] => by simp [insS]
  | b :: l => by
    unfold insS
    by_cases e : a = b
    · rw [if_pos e]; subst e; simp
    · rw [if_neg e]
      by_cases h : lt a b = true
      · rw [if_pos h]; simp
      · rw [if_neg h, List.mem_cons, mem_insS (l := l), List.mem_cons]
        constructor
        · rintro (h | h | h)
          · exact .inr (.inl h)
          · exact .inl h
          · exact .inr (.inr h)
        · rintro (h | h | h)
          · exact .inr (.inl h)
          · exact .inl h
          · exact .inr (.inr h)
theorem mem_sset {x : α} : ∀ {l : List α}, x ∈ sset lt l ↔ x ∈ l
  | [] => Iff.rfl
  | a :: l => by rw [sset, mem_insS, mem_sset (l := l), List.mem_cons]
theorem insS_strict (O : Strict lt) {a : α} : ∀ {l : List α}, l.Pairwise (fun x y => lt x y = true) → (insS lt a l).Pairwise (fun x y => lt x y = true)
  | [], _ => by simp [insS]
  | b :: l, h => by
    obtain ⟨h1, h2⟩ := List.pairwise_cons.mp h
    unfold insS
    by_cases e : a = b
    · rw [if_pos e]; exact h
    · rw [if_neg e]
      by_cases k : lt a b = true
      · rw [if_pos k]
        exact List.pairwise_cons.mpr ⟨fun y hy => (List.mem_cons.mp hy).elim (fun z => by rw [z]; exact k) fun z => O.tr _ _ _ k (h1 y z), h⟩
      · rw [if_neg k]
        refine List.pairwise_cons.mpr ⟨fun y hy => ?_, insS_strict O h2⟩
        rcases mem_insS.mp hy with z | z
        · rw [z]; exact (O.tot a b e).elim (fun z => absurd z k) id
        · exact h1 y z
theorem sset_strict (O : Strict lt) : ∀ l : List α, (sset lt l).Pairwise (fun x y => lt x y = true)
  | [] => .nil
  | a :: l => insS_strict O (sset_strict O l)
theorem strict_uniq (O : Strict lt) : ∀ {l m : List α}, l.Pairwise (fun x y => lt x y = true) → m.Pairwise (fun x y => lt x y = true) → (∀ x, x ∈ l ↔ x ∈ m) → l = m
  | [], [], _, _, _ => rfl
  | [], b :: m, _, _, h => absurd ((h b).mpr List.mem_cons_self) (by simp)
  | a :: l, [], _, _, h => absurd ((h a).mp List.mem_cons_self) (by simp)
  | a :: l, b :: m, hl, hm, h => by
    obtain ⟨l1, l2⟩ := List.pairwise_cons.mp hl
    obtain ⟨m1, m2⟩ := List.pairwise_cons.mp hm
    have e : a = b := by
      refine Classical.byContradiction fun ne => ?_
      have ha : a ∈ m := (List.mem_cons.mp ((h a).mp List.mem_cons_self)).elim (fun z => absurd z ne) id
      have hb : b ∈ l := (List.mem_cons.mp ((h b).mpr List.mem_cons_self)).elim (fun z => absurd z.symm ne) id
      have := O.tr _ _ _ (l1 b hb) (m1 a ha)
      rw [O.ir] at this; cases this
    subst e
    have t : l = m := strict_uniq O l2 m2 fun x => by
      constructor
      · intro hx
        exact (List.mem_cons.mp ((h x).mp (List.mem_cons_of_mem _ hx))).elim (fun z => by subst z; have := l1 x hx; rw [O.ir] at this; cases this) id
      · intro hx
        exact (List.mem_cons.mp ((h x).mpr (List.mem_cons_of_mem _ hx))).elim (fun z => by subst z; have := m1 x hx; rw [O.ir] at this; cases this) id
    rw [t]
theorem sset_of (O : Strict lt) {l m : List α} (h1 : m.Pairwise (fun x y => lt x y = true)) (h2 : ∀ x, x ∈ m ↔ x ∈ l) : sset lt l = m := strict_uniq O (sset_strict O l) h1 fun x => mem_sset.trans (h2 x).symm
end
def ltI (a b : Int) : Bool := decide (a < b)
def ltS (a b : Str) : Bool := decide (a.cps.toList < b.cps.toList)
theorem strictI : Strict ltI := ⟨fun a b c h k => decide_eq_true (Int.lt_trans (of_decide_eq_true h) (of_decide_eq_true k)), fun a => decide_eq_false (Int.lt_irrefl a), fun a b h => (Int.lt_or_gt_of_ne h).imp (fun z => decide_eq_true z) fun z => decide_eq_true z⟩
theorem strictS : Strict ltS := ⟨fun a b c h k => decide_eq_true (List.lt_trans (of_decide_eq_true h) (of_decide_eq_true k)), fun a => decide_eq_false (List.lt_irrefl _), fun a b h => by
  by_cases z : a.cps.toList < b.cps.toList
  · exact .inl (decide_eq_true z)
  · refine .inr (decide_eq_true (Classical.byContradiction fun n => h (str_ext (List.le_antisymm (List.not_lt.mp n) (List.not_lt.mp z)))))⟩
def intsOf : List PyData → Option (List Int)
  | [] => some []
  | .int b :: r => (intsOf r).map (b :: ·)
  | _ :: _ => none
def strsOf : List PyData → Option (List Str)
  | [] => some []
  | .str b :: r => (strsOf r).map (b :: ·)
  | _ :: _ => none
theorem strsOf_map : ∀ bs : List Str, strsOf (bs.map .str) = some bs
  | [] => rfl
  | b :: r => by
    show (strsOf (r.map .str)).map (b :: ·) = _
    rw [strsOf_map r]; rfl
theorem intsOf_eq : ∀ {ds : List PyData} {bs : List Int}, intsOf ds = some bs → ds = bs.map .int
  | [], _, e => by cases e; rfl
  | .int b :: r, _, e => by
    obtain ⟨bs, e1, rfl⟩ := Option.map_eq_some_iff.mp (show (intsOf r).map (b :: ·) = some _ from e)
    rw [intsOf_eq e1]; rfl
  | .none :: _, _, e => by cases e
  | .bool _ :: _, _, e => by cases e
  | .str _ :: _, _, e => by cases e
  | .list _ :: _, _, e => by cases e
  | .tuple _ :: _, _, e => by cases e
  | .dict _ :: _, _, e => by cases e
theorem strsOf_eq : ∀ {ds : List PyData} {bs : List Str}, strsOf ds = some bs → ds = bs.map .str
  | [], _, e => by cases e; rfl
  | .str b :: r, _, e => by
    obtain ⟨bs, e1, rfl⟩ := Option.map_eq_some_iff.mp (show (strsOf r).map (b :: ·) = some _ from e)
    rw [strsOf_eq e1]; rfl
  | .none :: _, _, e => by cases e
  | .bool _ :: _, _, e => by cases e
  | .int _ :: _, _, e => by cases e
  | .list _ :: _, _, e => by cases e
  | .tuple _ :: _, _, e => by cases e
  | .dict _ :: _, _, e => by cases e
/-- the members of a set of numbers or of texts, in order -/
def ssD (ds : List PyData) : Option (List PyData) := if ds.length ≤ 2000 then ((intsOf ds).map fun ks => (sset ltI ks).map .int).or ((strsOf ds).map fun ks => (sset ltS ks).map .str) else none
def gSS (S : List MO) (ws : List W3) : Option (List PyData) := (gSeq S ws).bind ssD
theorem ssD_strs {ks : List Str} (h : ks.length ≤ 2000) : ssD (ks.map .str) = some ((sset ltS ks).map .str) := by
  unfold ssD
  rw [if_pos (by rw [List.length_map]; exact h)]
  cases ks with
  | nil => rfl
  | cons k ks => rw [strsOf_map]; rfl
section
variable {K : PySem.W.Frag} {X : Cx} {e o : Expr} {fa fo fi : FE} {pos pos2 pp pp2 : Pos} {P : Program} {w : World}
theorem gSeq_of {B : Wd} {S : List MO} {ws : List W3} {vs : List V} {xs : List PyData} (R1 : Rl K B S) (rs : RWs K B vs ws) (e3 : gSeq S ws = some xs) : ∃ p us, vs = [.ref p] ∧ (SqL K B.H p us ∨ SqT K B.H p us) ∧ DaA K B.G us xs := by
  unfold gSeq at e3
  split at e3
  · rename_i u
    cases rs with
    | cons rv rr =>
      cases rr
      split at e3
      · rename_i ys hy
        cases e3
        obtain ⟨a, us, rfl, h1, _, hd⟩ := view_list R1 rv hy
        exact ⟨a, us, rfl, .inl h1, hd⟩
      · rename_i ys hy
        cases e3
        obtain ⟨a, us, rfl, h1, hd⟩ := view_tup R1 rv hy
        exact ⟨a, us, rfl, .inr h1, hd⟩
      · cases e3
  · cases e3
theorem n_ss {f : FA} (hK : X.K = K) (hP : X.prog = P) (hw : X.w = w) (hc : X.calm = true) (hu : X.A.units + 64 < cLine) (hg : Gl X "sorted") (hm : X.mg "sorted" = none) (hg2 : Gl X "set") (hm2 : X.mg "set" = none) (ha : PA3 K X [e] f)
    (he : starEach [e] X.env = (false, eval e X.env) :: starEach [] X.env := by rfl) (he2 : starEach [.Call (.Name "set" pp2) [e] [] pos2] X.env = (false, eval (.Call (.Name "set" pp2) [e] [] pos2) X.env) :: starEach [] X.env := by rfl)
    (hpl : (backTo pos (starEach [] X.env)).any (·.1) = false := by rfl) (hpl2 : (backTo pos2 (starEach [] X.env)).any (·.1) = false := by rfl) :
    PN3 K X (.Call (.Name "sorted" pp) [.Call (.Name "set" pp2) [e] [] pos2] [] pos) (nB gSS f) := ⟨pe_imp (pe_callB (CallR.or (cr_sortedSetI hc hu) (cr_sortedSetS hc hu)) hg hm (by decide +kernel) (pa_cons (pe_callTy (CallR.or (cr_setOfI hc) (cr_setOfS hc)) hg2 hm2 (by decide +kernel) ha.p (he := he) (hpl := hpl2)) pa_nil he2) (he := he2) (hpl := hpl)) fun σ H Q h => by
  subst hK hP hw
  obtain ⟨A, S, sl, w0, S', rfl, R, s, e, q⟩ := h
  obtain ⟨⟨w1, S1⟩, e1, e⟩ := Option.bind_eq_some_iff.mp e
  obtain ⟨d, e2, e⟩ := Option.map_eq_some_iff.mp e
  cases e
  obtain ⟨xs, e3, e4⟩ := Option.bind_eq_some_iff.mp e2
  refine ⟨A, S, sl, w1, _, rfl, R, s, e1, fun B vs n R1 rs => ?_⟩
  have at_ := gSeq_of R1 rs e3
  obtain ⟨p, us, rfl, hq, hd⟩ := at_
  unfold ssD at e4
  by_cases hl : xs.length ≤ 2000
  · rw [if_pos hl] at e4
    cases hi : intsOf xs with
    | some ks =>
      rw [hi] at e4
      cases e4
      have ex := intsOf_eq hi
      subst ex
      have hu := hd.ints_inv
      subst hu
      rw [List.length_map] at hl
      refine .inl ⟨p, ks, rfl, hq, hl, fun D m hD hm => .inl ⟨D, _, m, rfl, upd_same, by omega, fun ss p2 st mem _ hp => ?_⟩⟩
      obtain ⟨n2, R2⟩ := Nx.junk (o := SetGO (PySem.intKind X.prog X.w) D (fun k => decide (k ∈ ks)) m) R1 hD
      have es : sset ltI ks = ss := sset_of strictI (st.imp fun h => decide_eq_true h) fun x => (mem x).trans decide_eq_true_iff
      dsimp only at q
      rw [es] at q
      exact new_of (A := ⟨B.G, upd B.H D _, B.ι⟩) R2 (DaA.ints ss) (fun C us p3 n3 R3 np ni g hh hd3 => q C us p3 ((n.trans n2).trans n3) R3 (fresh_back (n.trans n2) np) ni g hh hd3) p2 hp
    | none =>
      rw [hi] at e4
      obtain ⟨ks, hs, e5⟩ := Option.map_eq_some_iff.mp (show (strsOf xs).map (fun ks => (sset ltS ks).map PyData.str) = some _ from e4)
      subst e5
      have ex := strsOf_eq hs
      subst ex
      have hu := hd.strs_inv
      subst hu
      rw [List.length_map] at hl
      refine .inr ⟨p, ks, rfl, hq, hl, fun D m hD hm => .inr ⟨D, _, m, rfl, upd_same, by omega, fun ss p2 st mem _ hp => ?_⟩⟩
      obtain ⟨n2, R2⟩ := Nx.junk (o := SetGO (PySem.strKind X.prog X.w) D (fun k => decide (k ∈ ks)) m) R1 hD
      have es : sset ltS ks = ss := sset_of strictS (st.imp fun h => decide_eq_true h) fun x => (mem x).trans decide_eq_true_iff
      dsimp only at q
      rw [es] at q
      exact new_of (A := ⟨B.G, upd B.H D _, B.ι⟩) R2 (DaA.strs ss) (fun C us p3 n3 R3 np ni g hh hd3 => q C us p3 ((n.trans n2).trans n3) R3 (fresh_back (n.trans n2) np) ni g hh hd3) p2 hp
  · rw [if_neg hl] at e4; cases e4⟩
/-! ### dicts with numbers and texts as keys -/
def keyD : PyData → Option Key
  | .int i => some (.inl i)
  | .str x => some (.inr x)
  | _ => none
def dicAt (S : List MO) : W3 → Option (List (Key × PyData))
  | .r i => match S[i]? with
    | some (.dic xs) => some xs
    | _ => none
  | _ => none
def valD (kvs : List (Key × PyData)) (k : Key) : Option PyData := (kvs.find? fun kv => decide (kv.1 = k)).map (·.2)
def putD (kvs : List (Key × PyData)) (k : Key) (v : PyData) : List (Key × PyData) :=
  if (kvs.any fun kv => decide (kv.1 = k)) = true then kvs.map (fun kv => if kv.1 = k then (kv.1, v) else kv) else kvs ++ [(k, v)]
theorem dicAt_of {A : Wd} {S : List MO} {v : V} {w : W3} {xs : List (Key × PyData)} (R : Rl K A S) (r : RW K A v w) (e : dicAt S w = some xs) : ∃ i a vs, w = .r i ∧ A.ι[i]? = some a ∧ S[i]? = some (.dic xs) ∧ v = .ref a ∧ A.G a = none ∧ A.H a = some (.dK vs) ∧ DaK K A.G vs xs := by
  cases w with
  | r i =>
    obtain ⟨a, ha, rfl⟩ := r
    unfold dicAt at e
    dsimp only at e
    cases o : S[i]? with
    | none => rw [o] at e; cases e
    | some m =>
      rw [o] at e
      cases m with
      | dic ys =>
        cases e
        obtain ⟨g, vs, h1, h2⟩ := R.ob i _ a o ha
        exact ⟨i, a, vs, rfl, ha, o, rfl, g, h1, h2⟩
      | _ => cases e
  | _ => cases e
theorem key_da {G : Hp} {v : V} {x : PyData} {k : Key} (h : Da K G v x) (e : keyD x = some k) : v = kV k := by
  cases h with
  | int i => cases e; rfl
  | str i => cases e; rfl
  | _ => cases e
theorem daK_app {G : Hp} {vs us : List (Key × V)} {ds es : List (Key × PyData)} (h : DaK K G vs ds) (h2 : DaK K G us es) : DaK K G (vs ++ us) (ds ++ es) := by
  induction h with
  | nil => exact h2
  | cons a _ ih => exact .cons a ih
theorem daK_put {G : Hp} {vs : List (Key × V)} {ds : List (Key × PyData)} {k : Key} {v : V} {d : PyData} (h : DaK K G vs ds) (hv : Da K G v d) : DaK K G (putK vs k v) (putD ds k d) := by
  have e : (vs.any fun kv => decide (kv.1 = k)) = (ds.any fun kv => decide (kv.1 = k)) := by
    induction h with
    | nil => rfl
    | cons a _ ih => rw [List.any_cons, List.any_cons, ih]
  unfold putK putD
  rw [e]
  by_cases z : (ds.any fun kv => decide (kv.1 = k)) = true
  · rw [if_pos z, if_pos z]
    clear e z
    induction h with
    | nil => exact .nil
    | @cons k' v' d' vs ds a _ ih =>
      rw [List.map_cons, List.map_cons]
      by_cases c : k' = k
      · rw [if_pos c, if_pos c]; exact .cons hv ih
      · rw [if_neg c, if_neg c]; exact .cons a ih
  · rw [if_neg z, if_neg z]
    exact daK_app h (.cons hv .nil)
theorem daK_val {G : Hp} {vs : List (Key × V)} {ds : List (Key × PyData)} {k : Key} (h : DaK K G vs ds) : (valD ds k = none ∧ valV vs k = none) ∨ ∃ v d, valD ds k = some d ∧ valV vs k = some v ∧ Da K G v d := by
  induction h with
  | nil => exact .inl ⟨rfl, rfl⟩
  | @cons k' v' d' vs ds a _ ih =>
    unfold valD valV at ih ⊢
    rw [List.find?_cons, List.find?_cons]
    by_cases c : k' = k
    · have : decide (k' = k) = true := decide_eq_true c
      dsimp only
      rw [this]
      exact .inr ⟨v', d', rfl, rfl, a⟩
    · have : decide (k' = k) = false := decide_eq_false c
      dsimp only
      rw [this]
      exact ih
def eDN : FE := fun _ S => some (.r S.length, S ++ [.dic []])
theorem e_dn : PE3 K X (.Dict [] [] pos) eDN := ⟨pe_imp pe_dnewK fun σ H Q h => by
  obtain ⟨A, S, sl, w, S', rfl, R, s, e, q⟩ := h
  cases e
  intro p hp
  obtain ⟨n, R2⟩ := Nx.own (u := .dK []) (o := .dic []) R hp ⟨R.gh.free hp, [], upd_same, .nil⟩
  exact q ⟨A.G, upd A.H p (.dK []), A.ι ++ [p]⟩ _ n R2 (RW.last (B := ⟨A.G, upd A.H p (.dK []), A.ι⟩) R.len)⟩
def sDP (o i v : FE) : FS := fun sl S => (v sl S).bind fun p => match p.1 with
  | .d x => (o sl p.2).bind fun q => (i sl q.2).bind fun u => match u.1 with
    | .d y => (keyD y).bind fun k => (dicAt u.2 q.1).bind fun kvs => if kvs.length ≤ 100000 then some (.nx sl (setAt u.2 q.1 (.dic (putD kvs k x)))) else none
    | _ => none
  | _ => none
theorem s_dp {i v : Expr} {fv : FE} {pos' : Pos} (hu : X.A.units + 1 < cLine) (ho : PE3 K X o fo) (hi : PE3 K X i fi) (hv : PE3 K X v fv) (hs : swapsWith v (some (.Subscript o i pos')) pos.line X.env = pure false) : PS3 K X (.Assign [.Subscript o i pos'] v pos) (sDP fo fi fv) := ⟨ps_imp (ps_dput hu ho.p hi.p hv.p hs) fun D σ H h => by
  obtain ⟨A, S, sl, oo, rfl, R, s, e, q⟩ := h
  obtain ⟨⟨w1, S1⟩, e1, e⟩ := Option.bind_eq_some_iff.mp e
  cases w1 with
  | d x =>
    obtain ⟨⟨w2, S2⟩, e2, e⟩ := Option.bind_eq_some_iff.mp e
    obtain ⟨⟨w3, S3⟩, e3, e⟩ := Option.bind_eq_some_iff.mp e
    dsimp only at e
    refine ⟨A, S, sl, _, S1, rfl, R, s, e1, fun B v1 n R1 r1 => ⟨B, S1, sl, w2, S2, rfl, R1, s.mono n, e2, fun C v2 n2 R2 r2 => ⟨C, S2, sl, w3, S3, rfl, R2, (s.mono n).mono n2, e3, fun E v3 n3 R3 r3 => ?_⟩⟩⟩
    split at e
    · rename_i y
      obtain ⟨k, e4, e⟩ := Option.bind_eq_some_iff.mp e
      obtain ⟨kvs, e5, e⟩ := Option.bind_eq_some_iff.mp e
      by_cases z : kvs.length ≤ 100000
      · rw [if_pos z] at e
        cases e
        cases key_da r3 e4
        obtain ⟨i, a, vs, rfl, ha, hS, rfl, g0, h, hd⟩ := dicAt_of R3 (r2.mono n3) e5
        have n' := (n.trans n2).trans n3
        refine ⟨a, upd E.H a (.dK (putK vs k v1)), rfl, DPut.k h (by rw [hd.len]; exact line_lt z), ?_⟩
        obtain ⟨n4, R4⟩ := Nx.wr (u := .dK (putK vs k v1)) (o := .dic (putD kvs k x)) R3 ha g0 ⟨g0, putK vs k v1, upd_same, daK_put hd (Da.up (n2.trans n3).gg r1)⟩ (by rw [h]; rfl)
        exact q ⟨E.G, upd E.H a (.dK (putK vs k v1)), E.ι⟩ σ (n'.trans n4) R4 (s.mono (n'.trans n4))
      · rw [if_neg z] at e; cases e
    · cases e
  | _ => cases e⟩
def keyP : Key → PyData
  | .inl i => .int i
  | .inr x => .str x
/-- list(d): the keys -/
def gKeys (S : List MO) (ws : List W3) : Option (List PyData) := match ws with
  | [w] => (dicAt S w).map fun kvs => kvs.map fun kv => keyP kv.1
  | _ => none
theorem daK_keys {G : Hp} {vs : List (Key × V)} {ds : List (Key × PyData)} (h : DaK K G vs ds) : DaA K G (vs.map fun kv => kV kv.1) (ds.map fun kv => keyP kv.1) := by
  induction h with
  | nil => exact .nil
  | @cons k v d vs ds a _ ih =>
    refine .cons ?_ ih
    cases k with
    | inl i => exact .int i
    | inr x => exact .str x
def rKeys : List V → Hp → VK → Prop := fun xs H Q => ∃ (a : Addr) (kvs : List (Key × V)), xs = [.ref a] ∧ Rd H a (.dK kvs) ∧ ∀ p, H p = none → Q (.ref p) (upd H p (.lst (kvs.map fun kv => kV kv.1)))
theorem nk_keys : NkOk K rKeys gKeys := by
  intro A S ws vs d Q R rs e q
  unfold gKeys at e
  split at e
  · rename_i w
    obtain ⟨kvs, e1, rfl⟩ := Option.map_eq_some_iff.mp e
    cases rs with
    | cons rv rr =>
      cases rr
      obtain ⟨i, a, us, rfl, ha, hS, rfl, g0, h, hd⟩ := dicAt_of R rv e1
      exact ⟨a, us, rfl, Rd.of h, new_of R (daK_keys hd) q⟩
  · cases e
/-- list(x) of a list, a tuple or a dict -/
def rLst3 (K : PySem.W.Frag) : List V → Hp → VK → Prop := fun xs H Q => rListOf K xs H Q ∨ rKeys xs H Q
def gLst3 (S : List MO) (ws : List W3) : Option (List PyData) := (gSeq S ws).or (gKeys S ws)
theorem nk_lst3 : NkOk K (rLst3 K) gLst3 := by
  intro A S ws vs d Q R rs e q
  unfold gLst3 at e
  cases h : gSeq S ws with
  | some z => rw [h] at e; cases e; exact .inl (nk_list A S ws vs _ Q R rs h q)
  | none => rw [h] at e; exact .inr (nk_keys A S ws vs _ Q R rs e q)
theorem cr_lst3 (hK : X.K = K) (hc : X.calm = true) : CallR X (.type "list") (rLst3 K) := CallR.or (call_list_ofK hK) (call_listD hc)
end
end EA
namespace EA
open PySem PySem.Spec PyProof.Rows L2
section
variable {K : PySem.W.Frag} {X : Cx}
theorem v3 (i : Nat) {x : Str} {pos : Pos} (hN : X.N[i]? = some x := by rfl) (hv : Vis X.env.scope x := by first | exact Or.inl rfl | exact Or.inr (Or.inl rfl) | exact Or.inr (Or.inr rfl)) (hd : (x == ("__debug__" : Str)) = false := by decide)
    (hcd : (x == ("__classdict__" : Str)) = false := by decide) : PE3 K X (.Name x pos) (eVar i) := e_var hN hv hd hcd
theorem lenK3 (hK : X.K = K) : CallR X (.builtin "len") (rLen K) := call_lenK hK
theorem isiK3 (hK : X.K = K) : CallR X (.builtin "isinstance") (rIsi K) := by subst hK; exact call_isi
theorem tupK3 (hK : X.K = K) : CallR X (.type "tuple") (rTupP K) := by subst hK; exact call_tupP
theorem sortK3 (hK : X.K = K) (hu : X.A.units + 64 < cLine) : CallR X (.builtin "sorted") (rSortD K) := by subst hK; exact cr_sortD hu
theorem allK3 (hK : X.K = K) (hc : X.calm = true) : CallR X (.builtin "all") (EA.rAll K) := by subst hK; exact EA.cr_all hc
theorem int1_3 : CallR X (.type "int") rInt1 := call_int1
theorem abs_3 : CallR X (.builtin "abs") rAbs := call_abs
theorem str_3 : CallR X (.type "str") rStrI := call_str_int
theorem fn3_none {P : Program} {w : World} {mg : Str → Option Value} {base : Heap} {k : Nat} {f : Addr} {fd : FuncData} {ps : List Str} : FnOk P w K mg base CX0 k f fd ps (sp3 K fun _ _ => none) :=
  fn_none fun vs H Q E h => by obtain ⟨_, _, _, _, _, _, _, _, e, _⟩ := h; cases e
/-! ### "sep".join(xs) -/
def joinD (a : Str) (ys : List Str) : Option PyData := if (ys.map (·.length)).sum + ys.length * a.length ≤ 100000 then some (.str (Txt.join a ys)) else none
def eJoin (o e : FE) : FE := fun sl S => (o sl S).bind fun p => match p.1 with
  | .d (.str a) => (e sl p.2).bind fun q => (gSeq q.2 [q.1]).bind fun xs => (strsOf xs).bind fun ys => (joinD a ys).map fun d => (.d d, q.2)
  | _ => none
end
theorem _root_.L2.Room.units1 {k : Nat} {A : Around} (r : Room k A) : A.units + 1 < cLine := by have := r.un; omega
/-- the law, from its function -/
def spLaw3 (K : PySem.W.Frag) : Sp := fun vs H Q _ => ∃ (a : Addr) (ns : List Int), vs = [.ref a] ∧ SqL K H a (ns.map V.int) ∧ ns.length ≤ 63 ∧ ∀ H', Q (.bl true) H'
theorem law3 {P : Program} {w : World} {K : PySem.W.Frag} {mg : Str → Option Value} {base : Heap} {k : Nat} {f : Addr} {fd : FuncData} {x : Str} {f3 : F3} (F : FnOk P w K mg base CX0 k f fd [x] (sp3 K f3)) (h : ∀ ns : List Int, ns.length ≤ 63 → ∃ S, f3 [.sc ns] [] = some (.d (.bool true), S)) : FnOk P w K mg base CX0 k f fd [x] (spLaw3 K) :=
  F.imp fun vs H Q E hh => by
    obtain ⟨a, ns, rfl, hS, hl, q⟩ := hh
    obtain ⟨S, e⟩ := h ns hl
    refine ⟨⟨H, H, []⟩, [], [.sc ns], .d (.bool true), S, rfl, ⟨Same.refl _, .nil, rfl, fun i o a e => by simp at e⟩, .cons ⟨a, rfl, hS⟩ .nil, e, fun B v n R r => ?_⟩
    cases Da.bool_inv r
    exact q B.H
end EA
namespace EA
open PySem PySem.Spec PyProof.Rows L2
/-! ### it comes to a value that is so -/
def Wp {α : Type} (x : Option α) (Q : α → Prop) : Prop := ∃ a, x = some a ∧ Q a
section
variable {α β : Type} {x : Option α} {Q : α → Prop}
theorem wp_some {a : α} : Wp (some a) Q ↔ Q a := ⟨fun ⟨_, e, q⟩ => by cases e; exact q, fun q => ⟨a, rfl, q⟩⟩
theorem wp_bind {f : α → Option β} {Q : β → Prop} : Wp (x.bind f) Q ↔ Wp x fun a => Wp (f a) Q :=
  ⟨fun ⟨b, e, q⟩ => by obtain ⟨a, h1, h2⟩ := Option.bind_eq_some_iff.mp e; exact ⟨a, h1, b, h2, q⟩, fun ⟨a, h1, b, h2, q⟩ => ⟨b, by rw [h1]; exact h2, q⟩⟩
theorem wp_map {f : α → β} {Q : β → Prop} : Wp (x.map f) Q ↔ Wp x fun a => Q (f a) :=
  ⟨fun ⟨b, e, q⟩ => by obtain ⟨a, h1, rfl⟩ := Option.map_eq_some_iff.mp e; exact ⟨a, h1, q⟩, fun ⟨a, h1, q⟩ => ⟨f a, by rw [h1]; rfl, q⟩⟩
theorem Wp.imp {Q' : α → Prop} (h : Wp x Q) (i : ∀ a, Q a → Q' a) : Wp x Q' := let ⟨a, e, q⟩ := h; ⟨a, e, i a q⟩
theorem wp_eq {a : α} (h : x = some a) (q : Q a) : Wp x Q := ⟨a, h, q⟩
end
/-- .. with the store behind it -/
def Wp2 {α β : Type} (x : Option (α × β)) (Q : α → β → Prop) : Prop := Wp x fun a => Q a.1 a.2
theorem Wp2.imp {α β : Type} {x : Option (α × β)} {Q Q' : α → β → Prop} (h : Wp2 x Q) (i : ∀ a b, Q a b → Q' a b) : Wp2 x Q' := Wp.imp h fun a h => i a.1 a.2 h
theorem wp2_eq {α β : Type} {x : Option (α × β)} {Q : α → β → Prop} {a : α} {b : β} (h : x = some (a, b)) (q : Q a b) : Wp2 x Q := ⟨(a, b), h, q⟩
theorem wp2_some {α β : Type} {Q : α → β → Prop} {a : α} {b : β} (q : Q a b) : Wp2 (some (a, b)) Q := ⟨(a, b), rfl, q⟩
/-! ### the parts, run -/
section
variable {sl : Sl} {S : List MO}
theorem r_fdef {own : Bool} {np nl : Nat} {body : FS} {ws : List W3} (h : ws.length = np) : fdef own np nl body ws S = (body (ws.map some ++ List.replicate nl none) S).bind (ret3 own S) := by unfold fdef; rw [if_pos h]
theorem r_viewd {x : PyData} : view S (.d x) = some x := rfl
theorem r_viewr {i : Nat} {xs : List PyData} (h : S[i]? = some (.lst xs)) : view S (.r i) = some (.list xs) := by unfold view; dsimp only; rw [h]
theorem r_listAt {i : Nat} {xs : List PyData} (h : S[i]? = some (.lst xs)) : listAt S (.r i) = some xs := by unfold listAt; dsimp only; rw [h]
theorem r_dicAt {i : Nat} {xs : List (Key × PyData)} (h : S[i]? = some (.dic xs)) : dicAt S (.r i) = some xs := by unfold dicAt; dsimp only; rw [h]
theorem r_setAt {i : Nat} {o : MO} : setAt S (.r i) o = S.set i o := rfl
end
theorem gI_ok {C : Int → Int → Bool} {f : Int → Int → Int} {S : List MO} {i j : Int} (h : C i j = true) : gI C f S (.d (.int i)) (.d (.int j)) = some (.int (f i j)) := by
  unfold gI
  dsimp only
  rw [if_pos h]
theorem r_sub {S : List MO} {i j : Int} : gSub S (.d (.int i)) (.d (.int j)) = some (.int (i - j)) := gI_ok rfl
theorem r_mod {S : List MO} {i j : Int} (h : 0 < j) : gMod S (.d (.int i)) (.d (.int j)) = some (.int (i % j)) := gI_ok (decide_eq_true h)
theorem r_fdiv {S : List MO} {i j : Int} (h : 0 < j) (h2 : j < 1073741824) : gFdiv S (.d (.int i)) (.d (.int j)) = some (.int (i / j)) := gI_ok (decide_eq_true ⟨h, h2⟩)
theorem r_mulr {S : List MO} {i j : Int} (h : -(2 ^ 64) < j) (h2 : j < 2 ^ 64) : gMul S (.d (.int i)) (.d (.int j)) = some (.int (i * j)) := gI_ok (by
  show ((_ || _) || _) = true
  rw [show decide (-(2 ^ 64) < j ∧ j < 2 ^ 64) = true from decide_eq_true ⟨h, h2⟩, Bool.or_true, Bool.true_or])
theorem r_mull {S : List MO} {i j : Int} (h : -(2 ^ 64) < i) (h2 : i < 2 ^ 64) : gMul S (.d (.int i)) (.d (.int j)) = some (.int (i * j)) := gI_ok (by
  show ((_ || _) || _) = true
  rw [show decide (-(2 ^ 64) < i ∧ i < 2 ^ 64) = true from decide_eq_true ⟨h, h2⟩, Bool.true_or, Bool.true_or])
/-! ### the parts, by what they come to -/
section
variable {sl : Sl} {S : List MO} {Q : W3 → List MO → Prop} {QA : List W3 → List MO → Prop} {QT : Bool → List MO → Prop} {QS : Out → Prop} {QN : List PyData → List MO → Prop} {QO : Option Int → List MO → Prop} {QG : Sl → List MO → Prop} {QI : It3 → List MO → Prop}
theorem wp_var {i : Nat} {w : W3} (h : sl[i]?.join = some w) (q : Q w S) : Wp2 (eVar i sl S) Q := by unfold eVar; rw [h]; exact wp_some.mpr q
theorem wp_d {x : PyData} (q : Q (.d x) S) : Wp2 (eD x sl S) Q := wp_some.mpr q
theorem wp_ty {n : String} (q : Q (.ty n) S) : Wp2 (eTy n sl S) Q := wp_some.mpr q
theorem wp_frz {f : FE} (h : Wp2 (f sl S) fun p1 p2 => Wp2 (match p1 with
  | .r i => match p2[i]? with
    | some (.lst xs) => some (W3.d (.list xs), p2.set i .gone)
    | _ => none
  | w => some (w, p2)) Q) : Wp2 (eFrz f sl S) Q := wp_bind.mpr h
theorem wp_frzr {i : Nat} {xs : List PyData} (h : S[i]? = some (.lst xs)) (q : Q (.d (.list xs)) (S.set i .gone)) : Wp2 (match W3.r i with
  | .r i => match S[i]? with
    | some (.lst xs) => some (W3.d (.list xs), S.set i .gone)
    | _ => none
  | w => some (w, S)) Q := by dsimp only; rw [h]; exact wp_some.mpr q
theorem wp_nil (q : QA [] S) : Wp2 (aNil sl S) QA := wp_some.mpr q
theorem wp_cons {e : FE} {r : FA} (h : Wp2 (e sl S) fun p1 p2 => Wp2 (r sl p2) fun q1 q2 => QA (p1 :: q1) q2) : Wp2 (aCons e r sl S) QA := wp_bind.mpr (Wp.imp h fun _ h => wp_map.mpr h)
theorem wp_tup {a : FA} (h : Wp2 (a sl S) fun p1 p2 => Wp (dsOf p1) fun ds => Q (.d (.tuple ds)) p2) : Wp2 (eTup a sl S) Q := wp_bind.mpr (Wp.imp h fun _ h => wp_map.mpr h)
theorem wp_nlst {a : FA} (h : Wp2 (a sl S) fun p1 p2 => Wp (dsOf p1) fun ds => QN ds p2) : Wp2 (nLst a sl S) QN := wp_bind.mpr (Wp.imp h fun _ h => wp_map.mpr h)
theorem wp_ds0 {Q : List PyData → Prop} (q : Q []) : Wp (dsOf []) Q := wp_some.mpr q
theorem wp_ds1 {Q : List PyData → Prop} {x : PyData} {r : List W3} (h : Wp (dsOf r) fun ds => Q (x :: ds)) : Wp (dsOf (.d x :: r)) Q := wp_map.mpr h
theorem wp_nd {n : FN} (h : Wp2 (n sl S) fun p1 p2 => Q (.d (.list p1)) p2) : Wp2 (eNd n sl S) Q := wp_map.mpr h
theorem wp_no {n : FN} (h : Wp2 (n sl S) fun p1 p2 => Q (.r p2.length) (p2 ++ [.lst p1])) : Wp2 (eNo n sl S) Q := wp_map.mpr h
theorem wp_nx (q : QS (.nx sl S)) : Wp (sNx sl S) QS := wp_some.mpr q
theorem wp_bk (q : QS (.bk sl S)) : Wp (sBk sl S) QS := wp_some.mpr q
theorem wp_ct (q : QS (.ct sl S)) : Wp (sCt sl S) QS := wp_some.mpr q
/-- behind a statement -/
def then3 (g : FS) (Q : Out → Prop) : Out → Prop
  | .nx sl S => Wp (g sl S) Q
  | o => Q o
theorem wp_seq {f g : FS} (h : Wp (f sl S) (then3 g QS)) : Wp (sSeq f g sl S) QS := wp_bind.mpr (Wp.imp h fun o h => by
  cases o with
  | nx _ _ => exact h
  | rt _ _ => exact wp_some.mpr h
  | bk _ _ => exact wp_some.mpr h
  | ct _ _ => exact wp_some.mpr h)
theorem th_nx {g : FS} (h : Wp (g sl S) QS) : then3 g QS (.nx sl S) := h
theorem th_rt {g : FS} {w : W3} (h : QS (.rt w S)) : then3 g QS (.rt w S) := h
theorem th_bk {g : FS} (h : QS (.bk sl S)) : then3 g QS (.bk sl S) := h
theorem th_ct {g : FS} (h : QS (.ct sl S)) : then3 g QS (.ct sl S) := h
theorem wp_ex {f : FE} (h : Wp2 (f sl S) fun p1 p2 => QS (.nx sl p2)) : Wp (sEx f sl S) QS := wp_map.mpr h
theorem wp_rt {f : FE} (h : Wp2 (f sl S) fun p1 p2 => QS (.rt p1 p2)) : Wp (sRt f sl S) QS := wp_map.mpr h
theorem wp_rtn (h : QS (.rt (.d .none) S)) : Wp (sRtN sl S) QS := wp_some.mpr h
theorem wp_sif {t : FT} {a b : FS} (h : Wp2 (t sl S) fun p1 p2 => if p1 = true then Wp (a sl p2) QS else Wp (b sl p2) QS) : Wp (sIf t a b sl S) QS := wp_bind.mpr (Wp.imp h fun p h => by
  dsimp only at h
  by_cases c : p.1 = true
  · rw [if_pos c] at h ⊢; exact h
  · rw [if_neg c] at h ⊢; exact h)
theorem wp_set {i : Nat} {f : FE} (h : Wp2 (f sl S) fun p1 p2 => QS (.nx (sl.set i (some p1)) p2)) : Wp (sSet i f sl S) QS := wp_map.mpr h
theorem wp_asg {f : FE} {g : FG} (h : Wp2 (f sl S) fun p1 p2 => Wp2 (g p1 sl p2) fun q1 q2 => QS (.nx q1 q2)) : Wp (sAsg f g sl S) QS := wp_bind.mpr (Wp.imp h fun _ h => wp_map.mpr h)
theorem wp_gnm {i : Nat} {w : W3} (h : QG (sl.set i (some w)) S) : Wp2 (gNm i w sl S) QG := wp_some.mpr h
theorem wp_gtp {r : List PyData → Sl → List MO → Option (Sl × List MO)} {xs : List PyData} (h : Wp2 (r xs sl S) QG) : Wp2 (gTp r (.d (.tuple xs)) sl S) QG := h
theorem wp_gsn (h : QG sl S) : Wp2 (gsNil [] sl S) QG := wp_some.mpr h
theorem wp_gsc {g : FG} {r : List PyData → Sl → List MO → Option (Sl × List MO)} {x : PyData} {xs : List PyData} (h : Wp2 (g (.d x) sl S) fun p1 p2 => Wp2 (r xs p1 p2) QG) : Wp2 (gsCons g r (x :: xs) sl S) QG := wp_bind.mpr h
theorem wp_for {it : FI} {g : FG} {b : FS} (h : Wp2 (it sl S) fun p1 p2 => Wp (fLoop p1.ok g b p1.ws sl p2) QS) : Wp (sFor it g b sl S) QS := wp_bind.mpr h
theorem wp_lc {own : List Nat} {it : FI} {g : FG} {t : FT} {e : FE} (h : Wp2 (it sl S) fun p1 p2 => p1.ws.length ≤ 100000 ∧ Wp2 (cLoop p1.ok g t e (wipe3 sl own) p1.ws p2) QN) : Wp2 (nLc own it g t e sl S) QN := wp_bind.mpr (Wp.imp h fun _ ⟨h1, h2⟩ => by rw [if_pos h1]; exact h2)
theorem wp_ecmp {g : GB} {a b : FE} (h : Wp2 (a sl S) fun p1 p2 => Wp2 (b sl p2) fun q1 q2 => Wp (view q2 p1) fun x => Wp (view q2 q1) fun y => Wp (g x y) fun c => Q (.d (.bool c)) q2) : Wp2 (eCmp g a b sl S) Q :=
  wp_bind.mpr (Wp.imp h fun _ h => wp_bind.mpr (Wp.imp h fun _ h => wp_bind.mpr (Wp.imp h fun _ h => wp_bind.mpr (Wp.imp h fun _ h => wp_map.mpr h))))
theorem wp_tcmp {g : GB} {a b : FE} (h : Wp2 (a sl S) fun p1 p2 => Wp2 (b sl p2) fun q1 q2 => Wp (view q2 p1) fun x => Wp (view q2 q1) fun y => Wp (g x y) fun c => QT c q2) : Wp2 (tCmp g a b sl S) QT :=
  wp_bind.mpr (Wp.imp h fun _ h => wp_bind.mpr (Wp.imp h fun _ h => wp_bind.mpr (Wp.imp h fun _ h => wp_bind.mpr (Wp.imp h fun _ h => wp_map.mpr h))))
theorem wp_ttr {f : FE} (h : Wp2 (f sl S) fun p1 p2 => Wp (truW p2 p1) fun b => QT b p2) : Wp2 (tTr f sl S) QT := wp_bind.mpr (Wp.imp h fun _ h => wp_map.mpr h)
theorem wp_not {f : FE} (h : Wp2 (f sl S) fun p1 p2 => Wp (truW p2 p1) fun b => Q (.d (.bool (!b))) p2) : Wp2 (eNot f sl S) Q := wp_bind.mpr (Wp.imp h fun _ h => wp_map.mpr h)
theorem wp_tnt {f : FT} (h : Wp2 (f sl S) fun p1 p2 => QT (!p1) p2) : Wp2 (tNt f sl S) QT := wp_map.mpr h
theorem wp_tan {f g : FT} (h : Wp2 (f sl S) fun p1 p2 => if p1 = true then Wp2 (g sl p2) QT else QT false p2) : Wp2 (tAn f g sl S) QT := wp_bind.mpr (Wp.imp h fun p h => by
  dsimp only at h
  by_cases c : p.1 = true
  · rw [if_pos c] at h ⊢; exact h
  · rw [if_neg c] at h ⊢; exact wp_some.mpr h)
theorem wp_tor {f g : FT} (h : Wp2 (f sl S) fun p1 p2 => if p1 = true then QT true p2 else Wp2 (g sl p2) QT) : Wp2 (tOr3 f g sl S) QT := wp_bind.mpr (Wp.imp h fun p h => by
  dsimp only at h
  by_cases c : p.1 = true
  · rw [if_pos c] at h ⊢; exact wp_some.mpr h
  · rw [if_neg c] at h ⊢; exact h)
theorem wp_ean {f g : FE} (h : Wp2 (f sl S) fun p1 p2 => ∃ c, p1 = .d (.bool c) ∧ if c = true then Wp2 (g sl p2) Q else Q (.d (.bool false)) p2) : Wp2 (eAn f g sl S) Q := wp_bind.mpr (Wp.imp h fun p h => by
  obtain ⟨c, e, h⟩ := h
  rw [e]
  cases c with
  | true => exact h
  | false => exact wp_some.mpr h)
theorem wp_eor {f g : FE} (h : Wp2 (f sl S) fun p1 p2 => ∃ c, p1 = .d (.bool c) ∧ if c = true then Q (.d (.bool true)) p2 else Wp2 (g sl p2) Q) : Wp2 (eOr f g sl S) Q := wp_bind.mpr (Wp.imp h fun p h => by
  obtain ⟨c, e, h⟩ := h
  rw [e]
  cases c with
  | true => exact wp_some.mpr h
  | false => exact h)
theorem wp_eif {t : FT} {f g : FE} (h : Wp2 (t sl S) fun p1 p2 => if p1 = true then Wp2 (f sl p2) Q else Wp2 (g sl p2) Q) : Wp2 (eIf t f g sl S) Q := wp_bind.mpr (Wp.imp h fun p h => by
  dsimp only at h
  by_cases c : p.1 = true
  · rw [if_pos c] at h ⊢; exact h
  · rw [if_neg c] at h ⊢; exact h)
theorem wp_op {g : GO} {a b : FE} (h : Wp2 (a sl S) fun p1 p2 => Wp2 (b sl p2) fun q1 q2 => Wp (g q2 p1 q1) fun d => Q (.d d) q2) : Wp2 (eOp g a b sl S) Q := wp_bind.mpr (Wp.imp h fun _ h => wp_bind.mpr (Wp.imp h fun _ h => wp_map.mpr h))
theorem wp_nop {g : List MO → W3 → W3 → Option (List PyData)} {a b : FE} (h : Wp2 (a sl S) fun p1 p2 => Wp2 (b sl p2) fun q1 q2 => Wp (g q2 p1 q1) fun d => QN d q2) : Wp2 (nOp g a b sl S) QN := wp_bind.mpr (Wp.imp h fun _ h => wp_bind.mpr (Wp.imp h fun _ h => wp_map.mpr h))
theorem wp_onone (h : QO none S) : Wp2 (oNone sl S) QO := wp_some.mpr h
theorem wp_osome {f : FE} (h : Wp2 (f sl S) fun p1 p2 => ∃ i, p1 = .d (.int i) ∧ QO (some i) p2) : Wp2 (oSome f sl S) QO := wp_bind.mpr (Wp.imp h fun p h => by
  obtain ⟨i, e, h⟩ := h
  rw [e]; exact wp_some.mpr h)
/-- a part of a sequence -/
def gCut (l h : Option Int) : PyData → Option PyData
  | .list xs => some (.list (cutD xs l h))
  | .tuple xs => some (.tuple (cutD xs l h))
  | .str z => if z.length ≤ 100000 then some (.str (cutS z l h)) else none
  | _ => none
theorem wp_esl {a : FE} {l h : FO} (hh : Wp2 (a sl S) fun p1 p2 => Wp2 (l sl p2) fun q1 q2 => Wp2 (h sl q2) fun u1 u2 => Wp (view u2 p1) fun x => Wp (gCut q1 u1 x) fun d => Q (.d d) u2) : Wp2 (eSl a l h sl S) Q :=
  wp_bind.mpr (Wp.imp hh fun _ h => wp_bind.mpr (Wp.imp h fun _ h => wp_bind.mpr (Wp.imp h fun u h => by
    obtain ⟨x, e, d, e2, q⟩ := h
    rw [e]
    unfold gCut at e2
    split at e2
    · cases e2; exact wp_some.mpr q
    · cases e2; exact wp_some.mpr q
    · rename_i z
      by_cases c : z.length ≤ 100000
      · rw [if_pos c] at e2
        cases e2
        dsimp only
        rw [if_pos c]; exact wp_some.mpr q
      · rw [if_neg c] at e2; cases e2
    · cases e2)))
theorem wp_nsl {a : FE} {l h : FO} (hh : Wp2 (a sl S) fun p1 p2 => Wp2 (l sl p2) fun q1 q2 => Wp2 (h sl q2) fun u1 u2 => ∃ xs, view u2 p1 = some (.list xs) ∧ QN (cutD xs q1 u1) u2) : Wp2 (nSl a l h sl S) QN :=
  wp_bind.mpr (Wp.imp hh fun _ h => wp_bind.mpr (Wp.imp h fun _ h => wp_bind.mpr (Wp.imp h fun u h => by
    obtain ⟨x, e, q⟩ := h
    rw [e]; exact wp_some.mpr q)))
theorem wp_b {g : GC} {a : FA} (h : Wp2 (a sl S) fun p1 p2 => Wp (g p2 p1) fun d => Q (.d d) p2) : Wp2 (eB g a sl S) Q := wp_bind.mpr (Wp.imp h fun _ h => wp_map.mpr h)
theorem wp_nb {g : List MO → List W3 → Option (List PyData)} {a : FA} (h : Wp2 (a sl S) fun p1 p2 => Wp (g p2 p1) fun d => QN d p2) : Wp2 (nB g a sl S) QN := wp_bind.mpr (Wp.imp h fun _ h => wp_map.mpr h)
theorem wp_call {f : F3} {a : FA} (h : Wp2 (a sl S) fun p1 p2 => Wp2 (f p1 p2) Q) : Wp2 (eCall f a sl S) Q := wp_bind.mpr h
theorem wp_isq {f : FE} (h : Wp2 (f sl S) fun p1 p2 => ∃ x xs, view p2 p1 = some x ∧ (x = .list xs ∨ x = .tuple xs) ∧ QI (⟨xs.map .d, seqOk p1 x⟩) p2) : Wp2 (iSq f sl S) QI := wp_bind.mpr (Wp.imp h fun p h => by
  obtain ⟨x, xs, e, h1, q⟩ := h
  rw [e]
  rcases h1 with rfl | rfl
  · exact wp_some.mpr q
  · exact wp_some.mpr q)
theorem wp_ir1 {f : FA} (h : Wp2 (f sl S) fun p1 p2 => ∃ j : Int, p1 = [.d (.int j)] ∧ (-(2 ^ 62) ≤ j ∧ j < 2 ^ 62) ∧ QI (⟨intsW 0 j.toNat, yes⟩) p2) : Wp2 (iR1 f sl S) QI := wp_bind.mpr (Wp.imp h fun p h => by
  obtain ⟨j, e, c, q⟩ := h
  rw [e]
  dsimp only
  rw [if_pos c]; exact wp_some.mpr q)
theorem wp_ir2 {f : FA} (h : Wp2 (f sl S) fun p1 p2 => ∃ i j : Int, p1 = [.d (.int i), .d (.int j)] ∧ (-(2 ^ 62) ≤ i ∧ i < 2 ^ 62 ∧ -(2 ^ 62) ≤ j ∧ j < 2 ^ 62) ∧ QI (⟨intsW i (j - i).toNat, yes⟩) p2) : Wp2 (iR2 f sl S) QI := wp_bind.mpr (Wp.imp h fun p h => by
  obtain ⟨i, j, e, c, q⟩ := h
  rw [e]
  dsimp only
  rw [if_pos c]; exact wp_some.mpr q)
theorem wp_irv {f : FE} (h : Wp2 (f sl S) fun p1 p2 => ∃ xs, (p1 = .d (.list xs) ∨ p1 = .d (.tuple xs)) ∧ QI (⟨xs.reverse.map .d, yes⟩) p2) : Wp2 (iRv f sl S) QI := wp_bind.mpr (Wp.imp h fun p h => by
  obtain ⟨xs, e, q⟩ := h
  rcases e with e | e
  · rw [e]; exact wp_some.mpr q
  · rw [e]; exact wp_some.mpr q)
theorem wp_m {g : GM} {o : FE} {a : FA} (h : Wp2 (o sl S) fun p1 p2 => ∃ x0, listAt p2 p1 = some x0 ∧ Wp2 (a sl p2) fun q1 q2 => Wp (listAt q2 p1) fun xs => Wp2 (g xs q1) fun z1 z2 => Q (.d z1) (setAt q2 p1 (.lst z2))) : Wp2 (eM g o a sl S) Q := wp_bind.mpr (Wp.imp h fun p h => by
  obtain ⟨x0, e, h⟩ := h
  rw [e]
  exact wp_bind.mpr (Wp.imp h fun _ h => wp_bind.mpr (Wp.imp h fun _ h => wp_map.mpr h)))
theorem wp_gsub {o i : FE} {x : PyData} (h : Wp2 (o sl S) fun p1 p2 => Wp2 (i sl p2) fun q1 q2 => ∃ k, q1 = .d (.int k) ∧ Wp (listAt q2 p1) fun xs => Wp (ixN xs.length k) fun j => QG sl (setAt q2 p1 (.lst (xs.set j x)))) : Wp2 (gSubL o i (.d x) sl S) QG := wp_bind.mpr (Wp.imp h fun _ h => wp_bind.mpr (Wp.imp h fun q h => by
  obtain ⟨k, e, h⟩ := h
  rw [e]
  exact wp_bind.mpr (Wp.imp h fun _ h => wp_map.mpr h)))
theorem wp_par {i j : Nat} {f : FA} (h : Wp2 (f sl S) fun p1 p2 => ∃ x y, p1 = [x, y] ∧ QS (.nx ((sl.set i (some x)).set j (some y)) p2)) : Wp (sPar i j f sl S) QS := wp_bind.mpr (Wp.imp h fun p h => by
  obtain ⟨x, y, e, q⟩ := h
  rw [e]; exact wp_some.mpr q)
theorem wp_dn (h : Q (.r S.length) (S ++ [.dic []])) : Wp2 (eDN sl S) Q := wp_some.mpr h
theorem wp_dp {o i v : FE} (h : Wp2 (v sl S) fun p1 p2 => ∃ x, p1 = .d x ∧ Wp2 (o sl p2) fun q1 q2 => Wp2 (i sl q2) fun u1 u2 => ∃ y k, u1 = .d y ∧ keyD y = some k ∧ ∃ kvs, dicAt u2 q1 = some kvs ∧ kvs.length ≤ 100000 ∧ QS (.nx sl (setAt u2 q1 (.dic (putD kvs k x))))) : Wp (sDP o i v sl S) QS := wp_bind.mpr (Wp.imp h fun p h => by
  obtain ⟨x, e, h⟩ := h
  rw [e]
  refine wp_bind.mpr (Wp.imp h fun q h => wp_bind.mpr (Wp.imp h fun u h => ?_))
  obtain ⟨y, k, e1, e2, kvs, e3, e4, q⟩ := h
  rw [e1]
  refine wp_bind.mpr (wp_eq e2 (wp_bind.mpr (wp_eq e3 ?_)))
  rw [if_pos e4]; exact wp_some.mpr q)
theorem wp_join {o e : FE} (h : Wp2 (o sl S) fun p1 p2 => ∃ a, p1 = .d (.str a) ∧ Wp2 (e sl p2) fun q1 q2 => ∃ ys, gSeq q2 [q1] = some (ys.map .str) ∧ Wp (joinD a ys) fun d => Q (.d d) q2) : Wp2 (eJoin o e sl S) Q := wp_bind.mpr (Wp.imp h fun p h => by
  obtain ⟨a, e1, h⟩ := h
  rw [e1]
  refine wp_bind.mpr (Wp.imp h fun q h => ?_)
  obtain ⟨ys, e2, h⟩ := h
  exact wp_bind.mpr (wp_eq e2 (wp_bind.mpr (wp_eq (strsOf_map ys) (wp_map.mpr h)))))
theorem wp_viewd {QV : PyData → Prop} {x : PyData} (h : QV x) : Wp (view S (.d x)) QV := wp_some.mpr h
theorem wp_viewr {QV : PyData → Prop} {i : Nat} {xs : List PyData} (e : S[i]? = some (.lst xs)) (h : QV (.list xs)) : Wp (view S (.r i)) QV := wp_eq (r_viewr e) h
theorem wp_lat {QV : List PyData → Prop} {i : Nat} {xs : List PyData} (e : S[i]? = some (.lst xs)) (h : QV xs) : Wp (listAt S (.r i)) QV := wp_eq (r_listAt e) h
/-- an object that speaks of no later one -/
class NoN (o : MO) : Prop where
  h : ∀ n, o.inn n
instance {xs : List PyData} : NoN (.lst xs) := ⟨fun _ => trivial⟩
instance {xs : List (Key × PyData)} : NoN (.dic xs) := ⟨fun _ => trivial⟩
instance {xs : List (Str × W3)} : NoN (.rcd xs) := ⟨fun _ => trivial⟩
instance {xs : List (Key × PyData)} : NoN (.ldic xs) := ⟨fun _ => trivial⟩
instance : NoN .gone := ⟨fun _ => trivial⟩
/-- the store may be cut -/
class CutR (Se S : List MO) : Prop where
  h : cutRel Se S
instance {S : List MO} : CutR S S := ⟨fun i o hi e => .inr e⟩
instance CutR.set {Se S : List MO} {i : Nat} {o : MO} [c : CutR Se S] [n : NoN o] : CutR Se (S.set i o) := ⟨fun k u hk e => by
  by_cases z : i = k
  · subst z
    rw [List.getElem?_set] at e
    split at e
    · split at e
      · cases e; exact .inl (n.h _)
      · cases e
    · exact c.h _ _ hk e
  · rw [List.getElem?_set_ne z] at e
    exact c.h _ _ hk e⟩
instance {Se S : List MO} {w : W3} {o : MO} [c : CutR Se S] [n : NoN o] : CutR Se (setAt S w o) := by
  cases w with
  | r i => exact CutR.set (Se := Se) (S := S) (i := i) (o := o)
  | _ => exact c
instance {Se S : List MO} {k : Nat} [c : CutR Se S] : CutR Se (S.take k) := ⟨fun i o hi e => c.h i o hi (by
  by_cases z : i < k
  · rw [List.getElem?_take_of_lt z] at e; exact e
  · rw [List.getElem?_eq_none (by rw [List.length_take]; omega)] at e; cases e)⟩
instance {S : List MO} : CutR S [] := ⟨fun i o hi e => by simp at e⟩
instance CutR.app {Se S : List MO} {o : MO} [c : CutR Se S] [n : NoN o] : CutR Se (S ++ [o]) := ⟨fun i u hi e => by
  rcases get_snoc e with e | ⟨_, rfl⟩
  · exact c.h i u hi e
  · exact .inl (n.h _)⟩
instance CutR.app2 {Se S t : List MO} {o : MO} [c : CutR Se (S ++ [o] ++ t)] : CutR Se (S ++ (o :: t)) := by
  rw [show S ++ (o :: t) = S ++ [o] ++ t by simp]; exact c
instance CutR.app0 {Se S : List MO} [c : CutR Se S] : CutR Se (S ++ []) := by rw [List.append_nil]; exact c
theorem MO.inn_mono {o : MO} {n m : Nat} (h : o.inn n) (l : n ≤ m) : o.inn m := by
  cases o with
  | nls ws => exact fun j z => Nat.lt_of_lt_of_le (h j z) l
  | ndc ws => exact fun k j z => Nat.lt_of_lt_of_le (h k j z) l
  | _ => trivial
instance CutR.cons {Se S : List MO} {o o' : MO} [c : CutR Se S] [n : NoN o] : CutR (o' :: Se) (o :: S) := ⟨fun i u hi e => by
  cases i with
  | zero => cases e; exact .inl (n.h _)
  | succ i =>
    rcases c.h i u (by simpa using hi) (by simpa using e) with h | h
    · exact .inl (MO.inn_mono h (by simp))
    · exact .inr (by simpa using h)⟩
theorem CutR.of_take {Se S : List MO} (h : S.take Se.length = Se) : CutR Se S := ⟨fun i o hi e => .inr (by
  rw [← h, List.getElem?_take_of_lt hi]; exact e)⟩
def retQ (own : Bool) (Se : List MO) (Q : W3 → List MO → Prop) : Out → Prop := fun o => Wp2 (ret3 own Se o) Q
theorem wp_fdef {own : Bool} {np nl : Nat} {body : FS} {ws : List W3} (hl : ws.length = np) (h : Wp (body (ws.map some ++ List.replicate nl none) S) (retQ own S Q)) : Wp2 (fdef own np nl body ws S) Q := by
  rw [r_fdef hl]
  exact wp_bind.mpr h
theorem rq_nx {own : Bool} {Se : List MO} [c : CutR Se S] (h : Q (.d .none) (S.take Se.length)) : retQ own Se Q (.nx sl S) := by
  have e2 : ret3 own Se (.nx sl S) = if cutRel Se S then some (.d .none, S.take Se.length) else none := rfl
  unfold retQ
  rw [e2, if_pos c.h]
  exact wp_some.mpr h
theorem rq_d {own : Bool} {Se : List MO} {x : PyData} [c : CutR Se S] (h : Q (.d x) (S.take Se.length)) : retQ own Se Q (.rt (.d x) S) := by
  have e2 : ret3 own Se (.rt (.d x) S) = if cutRel Se S then some (.d x, S.take Se.length) else none := rfl
  unfold retQ
  rw [e2, if_pos c.h]
  exact wp_some.mpr h
theorem rq_new {own : Bool} {Se : List MO} {i : Nat} {xs : List PyData} [c : CutR Se S] (hi : ¬ i < Se.length) (e : S[i]? = some (.lst xs)) (h : if own = true then Q (.r Se.length) (S.take Se.length ++ [.lst xs]) else Q (.d (.list xs)) (S.take Se.length)) : retQ own Se Q (.rt (.r i) S) := by
  have e2 : ret3 own Se (.rt (.r i) S) = if own = true then some (.r Se.length, S.take Se.length ++ [.lst xs]) else some (.d (.list xs), S.take Se.length) := by
    show (if i < Se.length then _ else _) = _
    rw [if_neg hi, e]
    dsimp only
    rw [if_pos c.h]
  unfold retQ
  rw [e2]
  cases own with
  | true => exact wp_some.mpr h
  | false => exact wp_some.mpr h
/-! ### operations on known things -/
variable {P : PyData → Prop} {PB : Bool → Prop}
theorem wp_addi {i j : Int} (h : P (.int (i + j))) : Wp (gAdd S (.d (.int i)) (.d (.int j))) P := wp_some.mpr h
theorem wp_sub {i j : Int} (h : P (.int (i - j))) : Wp (gSub S (.d (.int i)) (.d (.int j))) P := wp_eq r_sub h
theorem wp_mod {i j : Int} (hj : 0 < j) (h : P (.int (i % j))) : Wp (gMod S (.d (.int i)) (.d (.int j))) P := wp_eq (r_mod hj) h
theorem wp_fdiv {i j : Int} (hj : 0 < j ∧ j < 1073741824) (h : P (.int (i / j))) : Wp (gFdiv S (.d (.int i)) (.d (.int j))) P := wp_eq (r_fdiv hj.1 hj.2) h
theorem wp_mulr {i j : Int} (hj : -(2 ^ 64) < j ∧ j < 2 ^ 64) (h : P (.int (i * j))) : Wp (gMul S (.d (.int i)) (.d (.int j))) P := wp_eq (r_mulr hj.1 hj.2) h
theorem wp_mull {i j : Int} (hj : -(2 ^ 64) < i ∧ i < 2 ^ 64) (h : P (.int (i * j))) : Wp (gMul S (.d (.int i)) (.d (.int j))) P := wp_eq (r_mull hj.1 hj.2) h
theorem wp_pow {i j : Int} (hj : 0 ≤ j ∧ j ≤ 1000000 ∧ i.natAbs < 2 ^ 64) (h : P (.int (i ^ j.toNat))) : Wp (gPow S (.d (.int i)) (.d (.int j))) P := wp_eq (gI_ok (decide_eq_true hj)) h
theorem wp_int {i : Int} (h : P (.int i)) : Wp (g1 intD S [.d (.int i)]) P := wp_some.mpr h
theorem wp_abs {i : Int} (h : P (.int (if i < 0 then -i else i))) : Wp (g1 absD S [.d (.int i)]) P := wp_some.mpr h
theorem wp_str {i : Int} (hi : i.natAbs.log2 < 1920) (h : P (.str (toString i))) : Wp (g1 strD S [.d (.int i)]) P := by
  show Wp (if i.natAbs.log2 < 1920 then some (PyData.str (toString i)) else none) P
  rw [if_pos hi]; exact wp_some.mpr h
theorem wp_adds {i j : Str} (hl : i.length + j.length ≤ 100000) (h : P (.str (i ++ j))) : Wp (gAdd S (.d (.str i)) (.d (.str j))) P := by
  refine wp_eq (a := .str (i ++ j)) ?_ h
  show ((if i.length + j.length ≤ 100000 then some (PyData.str (i ++ j)) else none).or _) = _
  rw [if_pos hl]; rfl
theorem wp_cat {x y : W3} {xs ys : List PyData} {QL : List PyData → Prop} (hx : viewL S x = some xs) (hy : viewL S y = some ys) (hl : xs.length + ys.length ≤ 100000) (h : QL (xs ++ ys)) : Wp (gCatL S x y) QL := by
  refine wp_eq (a := xs ++ ys) ?_ h
  unfold gCatL
  rw [hx, hy]
  show (if _ then _ else _) = _
  rw [if_pos hl]
theorem wp_addl {i j : List PyData} (hl : i.length + j.length ≤ 100000) (h : P (.list (i ++ j))) : Wp (gAdd S (.d (.list i)) (.d (.list j))) P := by
  refine wp_eq (a := .list (i ++ j)) ?_ h
  show ((gCatL S (.d (.list i)) (.d (.list j))).map PyData.list) = _
  obtain ⟨a, e, q⟩ := wp_cat (S := S) (x := .d (.list i)) (y := .d (.list j)) (QL := fun l => l = i ++ j) rfl rfl hl rfl
  rw [e, q]; rfl
theorem wp_ixd {xs : List PyData} {k : Int} {d : PyData} (e : atI xs k = some d) (h : P d) : Wp (gIx S (.d (.list xs)) (.d (.int k))) P := wp_eq e h
theorem wp_ixt {xs : List PyData} {k : Int} {d : PyData} (e : atI xs k = some d) (h : P d) : Wp (gIx S (.d (.tuple xs)) (.d (.int k))) P := wp_eq e h
theorem wp_ixr {i : Nat} {xs : List PyData} {k : Int} {d : PyData} (e0 : S[i]? = some (.lst xs)) (e : atI xs k = some d) (h : P d) : Wp (gIx S (.r i) (.d (.int k))) P := by
  refine wp_eq (a := d) ?_ h
  unfold gIx
  dsimp only
  rw [r_viewr e0]; exact e
theorem wp_lenl {xs : List PyData} (h : P (.int (xs.length : Nat))) : Wp (gLen S [.d (.list xs)]) P := wp_some.mpr h
theorem wp_lent {xs : List PyData} (h : P (.int (xs.length : Nat))) : Wp (gLen S [.d (.tuple xs)]) P := wp_some.mpr h
theorem wp_lensc {xs : List Int} (h : P (.int (xs.length : Nat))) : Wp (gLen S [.sc xs]) P := by
  rw [show xs.length = (xs.map PyData.int).length by rw [List.length_map]] at h
  exact wp_some.mpr h
theorem wp_lenr {i : Nat} {xs : List PyData} (e0 : S[i]? = some (.lst xs)) (h : P (.int (xs.length : Nat))) : Wp (gLen S [.r i]) P := by
  refine wp_eq (a := .int (xs.length : Nat)) ?_ h
  unfold gLen
  dsimp only
  rw [r_viewr e0]
theorem wp_glti {i j : Int} (h : PB (decide (i < j))) : Wp (gLt (.int i) (.int j)) PB := wp_eq (if_pos rfl) (by rw [W.dataLt_int]; exact h)
theorem wp_ggti {i j : Int} (h : PB (decide (j < i))) : Wp (gGt (.int i) (.int j)) PB := wp_eq (if_pos rfl) (by rw [W.dataLt_int]; exact h)
theorem wp_glei {i j : Int} (h : PB (decide (i ≤ j))) : Wp (gLe (.int i) (.int j)) PB := wp_eq (if_pos rfl) (by
  rw [W.dataLt_int]
  have : decide (i ≤ j) = !decide (j < i) := by by_cases c : i ≤ j <;> simp [c] <;> omega
  rw [← this]; exact h)
theorem wp_ggei {i j : Int} (h : PB (decide (j ≤ i))) : Wp (gGe (.int i) (.int j)) PB := wp_eq (if_pos rfl) (by
  rw [W.dataLt_int]
  have : decide (j ≤ i) = !decide (i < j) := by by_cases c : j ≤ i <;> simp [c] <;> omega
  rw [← this]; exact h)
theorem wp_glts {i j : Str} (h : PB (decide (i.cps.toList < j.cps.toList))) : Wp (gLt (.str i) (.str j)) PB := wp_eq (if_pos rfl) (by rw [W.dataLt_str]; exact h)
theorem wp_ggts {i j : Str} (h : PB (decide (j.cps.toList < i.cps.toList))) : Wp (gGt (.str i) (.str j)) PB := wp_eq (if_pos rfl) (by rw [W.dataLt_str]; exact h)
theorem wp_geq {a b : PyData} (c : a.depth ≤ 40 ∨ b.depth ≤ 40) (h : PB (PyData.eqv a b)) : Wp (gEq a b) PB := wp_eq (if_pos c) h
theorem wp_gne {a b : PyData} (c : a.depth ≤ 40 ∨ b.depth ≤ 40) (h : PB (!PyData.eqv a b)) : Wp (gNe a b) PB := wp_eq (if_pos c) h
theorem wp_geqi {i j : Int} (h : PB (i == j)) : Wp (gEq (.int i) (.int j)) PB := wp_geq (.inl (by show PyData.depth (.int i) ≤ 40; rw [PyData.depth]; decide)) h
theorem wp_gnei {i j : Int} (h : PB (!(i == j))) : Wp (gNe (.int i) (.int j)) PB := wp_gne (.inl (by show PyData.depth (.int i) ≤ 40; rw [PyData.depth]; decide)) h
theorem wp_gis {a b : PyData} (c : plainB b = true) (h : PB (isB a b)) : Wp (gIs a b) PB := wp_eq (if_pos c) h
theorem wp_gisn {a b : PyData} (c : plainB b = true) (h : PB (!isB a b)) : Wp (gIsN a b) PB := wp_eq (if_pos c) h
theorem wp_app {xs : List PyData} {x : PyData} {QM : PyData → List PyData → Prop} (hl : xs.length ≤ 100000) (h : QM .none (xs ++ [x])) : Wp2 (mApp xs [.d x]) QM := wp_eq (if_pos hl) h
theorem wp_popAt {xs : List PyData} {k : Int} {x : PyData} {QM : PyData → List PyData → Prop} (h0 : 0 ≤ k) (h1 : k < xs.length) (hl : xs.length ≤ 100000) (e : xs[k.toNat]? = some x) (h : QM x (xs.eraseIdx k.toNat)) : Wp2 (mPopAt xs [.d (.int k)]) QM := by
  unfold mPopAt
  dsimp only
  rw [if_pos ⟨h0, h1, hl⟩, e]
  exact wp_some.mpr h
theorem wp_trub {b : Bool} (h : PB b) : Wp (truW S (.d (.bool b))) PB := wp_some.mpr h
theorem wp_isi {x : PyData} {c : String} {b : Bool} (e : kitB (tyN x) c = some b) (h : P (.bool b)) : Wp (gIsi S [.d x, .ty c]) P := by
  refine wp_eq (a := .bool b) ?_ h
  show ((kitB (tyN x) c).map PyData.bool) = _
  rw [e]; rfl
theorem wp_tupl {xs : List PyData} (h : P (.tuple xs)) : Wp (gTupOf S [.d (.list xs)]) P := wp_some.mpr h
theorem wp_tupt {xs : List PyData} (h : P (.tuple xs)) : Wp (gTupOf S [.d (.tuple xs)]) P := wp_some.mpr h
theorem wp_tupr {i : Nat} {xs : List PyData} (e0 : S[i]? = some (.lst xs)) (h : P (.tuple xs)) : Wp (gTupOf S [.r i]) P := by
  refine wp_eq (a := .tuple xs) ?_ h
  unfold gTupOf
  dsimp only
  rw [r_viewr e0]
end
/-! ### loops -/
theorem get_set0 {S : List MO} {h : Nat} {o o' : MO} (e : S[h]? = some o) : (S.set h o')[h]? = some o' := List.getElem?_set_self (List.getElem?_eq_some_iff.mp e).1
def loopQ (I : Sl → List MO → Prop) (QS : Out → Prop) : Out → Prop
  | .nx sl S => I sl S
  | .ct sl S => I sl S
  | .bk sl S => QS (.nx sl S)
  | .rt w S => QS (.rt w S)
section
variable {I : Sl → List MO → Prop} {QS : Out → Prop} {sl : Sl} {S : List MO}
theorem lq_nx (h : I sl S) : loopQ I QS (.nx sl S) := h
theorem lq_ct (h : I sl S) : loopQ I QS (.ct sl S) := h
theorem lq_bk (h : QS (.nx sl S)) : loopQ I QS (.bk sl S) := h
theorem lq_rt {w : W3} (h : QS (.rt w S)) : loopQ I QS (.rt w S) := h
end
/-- a for loop by an invariant over the turns -/
theorem wp_loop {ok : List MO → Bool} {g : FG} {b : FS} {QS : Out → Prop} (Inv : Nat → Sl → List MO → Prop) : ∀ {ws : List W3} {n : Nat} {sl : Sl} {S : List MO}, Inv n sl S → (∀ i sl S, Inv i sl S → ok S = true) →
    (∀ i w sl S, ws[i - n]? = some w → n ≤ i → Inv i sl S → Wp2 (g w sl S) fun p1 p2 => Wp (b p1 p2) (loopQ (Inv (i + 1)) QS)) → (∀ sl S, Inv (n + ws.length) sl S → QS (.nx sl S)) → Wp (fLoop ok g b ws sl S) QS
  | [], n, sl, S, h0, hok, hs, he => by
    unfold fLoop
    rw [if_pos (hok _ _ _ h0)]
    exact wp_some.mpr (he sl S h0)
  | w :: ws, n, sl, S, h0, hok, hs, he => by
    unfold fLoop
    rw [if_pos (hok _ _ _ h0)]
    refine wp_bind.mpr (Wp.imp (hs n w sl S (by rw [Nat.sub_self]; rfl) (Nat.le_refl _) h0) fun p h => wp_bind.mpr (Wp.imp h fun o h => ?_))
    have go : ∀ {sl S}, Inv (n + 1) sl S → Wp (fLoop ok g b ws sl S) QS := fun {sl S} h1 => wp_loop Inv h1 hok (fun i w sl S e hi => hs i w sl S (by
      have : i - n = (i - (n + 1)) + 1 := by omega
      rw [this]; exact e) (by omega)) fun sl S h2 => he sl S (by rw [List.length_cons, show n + (ws.length + 1) = n + 1 + ws.length by omega]; exact h2)
    cases o with
    | nx sl S => exact go h
    | ct sl S => exact go h
    | bk sl S => exact wp_some.mpr h
    | rt w S => exact wp_some.mpr h
def DatW (w : W3) (K : PyData → Prop) : Prop := ∃ x, w = .d x ∧ K x
theorem datW_i {x : PyData} {K : PyData → Prop} (h : K x) : DatW (.d x) K := ⟨x, rfl, h⟩
theorem wp_ty3 {sl : Sl} {S : List MO} {QT : Bool → List MO → Prop} (h : QT true S) : Wp2 (tYes3 sl S) QT := wp_some.mpr h
theorem set_same {S : List MO} {h : Nat} {o : MO} (e : S[h]? = some o) : S.set h o = S := by
  apply List.ext_getElem?
  intro j
  by_cases z : h = j
  · subst z; rw [get_set0 e, e]
  · rw [List.getElem?_set_ne z]
/-- a comprehension whose turns keep the store in a state and give each a value -/
theorem wp_comp {ok : List MO → Bool} {g : FG} {t : FT} {e : FE} {sl : Sl} {QN : List PyData → List MO → Prop} (Inv : Nat → List PyData → List MO → Prop) : ∀ {ws : List W3} {n : Nat} {acc : List PyData} {S : List MO}, Inv n acc S → (∀ i acc S, Inv i acc S → ok S = true) →
    (∀ i w acc S, ws[i - n]? = some w → n ≤ i → Inv i acc S → Wp2 (g w sl S) fun p1 p2 => Wp2 (t p1 p2) fun c1 c2 => if c1 = true then Wp2 (e p1 c2) fun y1 y2 => DatW y1 fun x => Inv (i + 1) (acc ++ [x]) y2 else Inv (i + 1) acc c2) →
    (∀ ys S, Inv (n + ws.length) (acc ++ ys) S → QN ys S) → Wp2 (cLoop ok g t e sl ws S) QN
  | [], n, acc, S, h0, hok, hs, he => by
    unfold cLoop
    rw [if_pos (hok _ _ _ h0)]
    exact wp_some.mpr (he [] S (by rw [List.append_nil]; exact h0))
  | w :: ws, n, acc, S, h0, hok, hs, he => by
    unfold cLoop
    rw [if_pos (hok _ _ _ h0)]
    refine wp_bind.mpr (Wp.imp (hs n w acc S (by rw [Nat.sub_self]; rfl) (Nat.le_refl _) h0) fun p h => wp_bind.mpr (Wp.imp h fun c h => ?_))
    have go : ∀ {acc' S} {QN' : List PyData → List MO → Prop}, Inv (n + 1) acc' S → (∀ ys S, Inv (n + 1 + ws.length) (acc' ++ ys) S → QN' ys S) → Wp2 (cLoop ok g t e sl ws S) QN' := fun {acc' S QN'} h1 h2 => wp_comp Inv h1 hok (fun i w acc S e hi => hs i w acc S (by
      have : i - n = (i - (n + 1)) + 1 := by omega
      rw [this]; exact e) (by omega)) h2
    have en : n + (w :: ws).length = n + 1 + ws.length := by rw [List.length_cons]; omega
    rw [en] at he
    by_cases hc : c.1 = true
    · rw [if_pos hc] at h ⊢
      refine wp_bind.mpr (Wp.imp h fun y h => ?_)
      obtain ⟨x, e1, h1⟩ := h
      rw [e1]
      exact wp_map.mpr (go h1 fun ys S h2 => he (x :: ys) S (by rw [List.append_assoc] at h2; exact h2))
    · rw [if_neg hc] at h ⊢
      exact go h he
/-- a comprehension that leaves the store as it is -/
theorem wp_pure {ok : List MO → Bool} {g : FG} {t : FT} {e : FE} {sl : Sl} {S : List MO} {QN : List PyData → List MO → Prop} {ws : List W3} {α : Type} (xs : List α) (w : α → W3) (c : α → Bool) (v : α → PyData) (hws : ws = xs.map w) (hok : ok S = true)
    (hs : ∀ x ∈ xs, Wp2 (g (w x) sl S) fun p1 p2 => Wp2 (t p1 p2) fun b1 b2 => b1 = c x ∧ b2 = S ∧ (c x = true → Wp2 (e p1 S) fun y1 y2 => y1 = .d (v x) ∧ y2 = S)) (h : QN ((xs.filter c).map v) S) : Wp2 (cLoop ok g t e sl ws S) QN := by
  subst hws
  have main : ∀ xs : List α, (∀ x ∈ xs, Wp2 (g (w x) sl S) fun p1 p2 => Wp2 (t p1 p2) fun b1 b2 => b1 = c x ∧ b2 = S ∧ (c x = true → Wp2 (e p1 S) fun y1 y2 => y1 = .d (v x) ∧ y2 = S)) → cLoop ok g t e sl (xs.map w) S = some ((xs.filter c).map v, S) := by
    intro xs
    induction xs with
    | nil => intro _; show (if ok S = true then _ else _) = _; rw [if_pos hok]; rfl
    | cons x xs ih =>
      intro hs
      obtain ⟨p, e1, ⟨b1, b2⟩, e2, e3, e3', h3⟩ := hs x List.mem_cons_self
      dsimp only at e3 e3'
      subst e3 e3'
      have ih := ih fun y hy => hs y (List.mem_cons_of_mem _ hy)
      rw [List.map_cons]
      unfold cLoop
      rw [if_pos hok, e1]
      show (t p.1 p.2).bind _ = _
      rw [e2]
      show (if c x = true then _ else _) = _
      by_cases hc : c x = true
      · rw [if_pos hc, List.filter_cons_of_pos hc, List.map_cons]
        obtain ⟨⟨y1, y2⟩, e4, e5, e6⟩ := h3 hc
        dsimp only at e5 e6
        subst e5 e6
        show (e p.1 _).bind _ = _
        rw [e4]
        show (cLoop ok g t e sl (xs.map w) _).map _ = _
        rw [ih]; rfl
      · rw [if_neg hc, List.filter_cons_of_neg hc]
        exact ih
  exact wp_eq (main xs hs) h
theorem get_set {S : List MO} {h : Nat} {o o' : MO} (e : S[h]? = some o) : (S.set h o')[h]? = some o' := List.getElem?_set_self (List.getElem?_eq_some_iff.mp e).1
theorem take_set {S : List MO} {h : Nat} {o : MO} : (S.set h o).take S.length = S.set h o := List.take_of_length_le (by rw [List.length_set]; exact Nat.le_refl _)
theorem take_app {S l : List MO} : (S ++ l).take S.length = S := by rw [List.take_append_of_le_length (Nat.le_refl _), List.take_length]
theorem rq_dt {own : Bool} {Se : List MO} {x : PyData} {S S2 : List MO} {Q : W3 → List MO → Prop} [CutR Se S] (e : S.take Se.length = S2) (h : Q (.d x) S2) : retQ own Se Q (.rt (.d x) S) := rq_d (by rw [e]; exact h)
theorem rq_nxt {own : Bool} {Se : List MO} {sl : Sl} {S S2 : List MO} {Q : W3 → List MO → Prop} [CutR Se S] (e : S.take Se.length = S2) (h : Q (.d .none) S2) : retQ own Se Q (.nx sl S) := rq_nx (by rw [e]; exact h)
theorem set_app {S l : List MO} {h : Nat} {o u : MO} (e : S[h]? = some u) : (S ++ l).set h o = S.set h o ++ l := List.set_append_left _ _ (List.getElem?_eq_some_iff.mp e).1
theorem get_app {S l : List MO} {h : Nat} {u : MO} (e : S[h]? = some u) : (S ++ l)[h]? = some u := by rw [List.getElem?_append_left (List.getElem?_eq_some_iff.mp e).1]; exact e
theorem get_last {S : List MO} {u : MO} : (S ++ [u])[S.length]? = some u := by rw [List.getElem?_append_right (Nat.le_refl _), Nat.sub_self]; rfl
theorem set_last {S : List MO} {u o : MO} : (S ++ [u]).set S.length o = S ++ [o] := by rw [List.set_append_right _ _ (Nat.le_refl _), Nat.sub_self]; rfl
section
variable {sl : Sl} {S : List MO} {Q : W3 → List MO → Prop} {QG : Sl → List MO → Prop}
def AtSet (p q : W3) (S : List MO) (x : PyData) (K : List MO → Prop) : Prop := ∃ h k xs j, p = .r h ∧ q = .d (.int k) ∧ S[h]? = some (.lst xs) ∧ ixN xs.length k = some j ∧ K (S.set h (.lst (xs.set j x)))
theorem atSet_i {S : List MO} {x : PyData} {K : List MO → Prop} {h j : Nat} {k : Int} {xs : List PyData} (e1 : S[h]? = some (.lst xs)) (e2 : ixN xs.length k = some j) (q : K (S.set h (.lst (xs.set j x)))) : AtSet (.r h) (.d (.int k)) S x K := ⟨h, k, xs, j, rfl, rfl, e1, e2, q⟩
theorem wp_gs {o i : FE} {x : PyData} (h : Wp2 (o sl S) fun p1 p2 => Wp2 (i sl p2) fun q1 q2 => AtSet p1 q1 q2 x (QG sl)) : Wp2 (gSubL o i (.d x) sl S) QG :=
  wp_gsub (h.imp fun p1 p2 h => h.imp fun q1 q2 ⟨h, k, xs, j, e1, e2, e3, e4, q⟩ => ⟨k, e2, wp_eq (by rw [e1]; exact r_listAt e3) (wp_eq e4 (by rw [e1]; exact q))⟩)
def AtLst (p : W3) (S : List MO) (K : Nat → Prop) : Prop := ∃ h x0, p = .r h ∧ S[h]? = some (.lst x0) ∧ K h
def NowLst (h : Nat) (S : List MO) (K : List PyData → Prop) : Prop := ∃ xs, S[h]? = some (.lst xs) ∧ K xs
theorem atLst_i {h : Nat} {S : List MO} {K : Nat → Prop} {xs : List PyData} (e : S[h]? = some (.lst xs)) (q : K h) : AtLst (.r h) S K := ⟨h, xs, rfl, e, q⟩
theorem nowLst_i {h : Nat} {S : List MO} {K : List PyData → Prop} {xs : List PyData} (e : S[h]? = some (.lst xs)) (q : K xs) : NowLst h S K := ⟨xs, e, q⟩
theorem wp_me {g : GM} {o : FE} {a : FA} (h : Wp2 (o sl S) fun p1 p2 => AtLst p1 p2 fun h => Wp2 (a sl p2) fun q1 q2 => NowLst h q2 fun xs => Wp2 (g xs q1) fun z1 z2 => Q (.d z1) (q2.set h (.lst z2))) : Wp2 (eM g o a sl S) Q :=
  wp_m (h.imp fun p1 p2 ⟨h, x0, e1, e2, hh⟩ => ⟨x0, by rw [e1]; exact r_listAt e2, hh.imp fun q1 q2 ⟨xs, e3, q⟩ => wp_eq (by rw [e1]; exact r_listAt e3) (q.imp fun z1 z2 q => by rw [e1]; exact q)⟩)
end
theorem take_set2 {S : List MO} {h : Nat} {a b : MO} : ((S.set h a).set h b).take S.length = S.set h b := by rw [List.set_set, take_set]
theorem take_set3 {S : List MO} {h : Nat} {a b c : MO} : (((S.set h a).set h b).set h c).take S.length = S.set h c := by rw [List.set_set, List.set_set, take_set]
theorem take_aset {S l : List MO} {o : MO} : ((S ++ [o]).set S.length o).take S.length = S := by rw [set_last, take_app]
/-- what is walked: a list, a tuple -/
def SeqW (S : List MO) (w : W3) (K : It3 → Prop) : Prop := ∃ x xs, view S w = some x ∧ (x = .list xs ∨ x = .tuple xs) ∧ K ⟨xs.map .d, seqOk w x⟩
section
variable {S : List MO} {K : It3 → Prop} {xs : List PyData} {QL : List PyData → Prop}
theorem sq_l (h : K ⟨xs.map .d, yes⟩) : SeqW S (.d (.list xs)) K := ⟨_, xs, rfl, .inl rfl, h⟩
theorem sq_t (h : K ⟨xs.map .d, yes⟩) : SeqW S (.d (.tuple xs)) K := ⟨_, xs, rfl, .inr rfl, h⟩
theorem sq_sc {ns : List Int} (h : K ⟨(ns.map PyData.int).map .d, yes⟩) : SeqW S (.sc ns) K := ⟨_, _, rfl, .inl rfl, h⟩
theorem sq_r {i : Nat} (e : S[i]? = some (.lst xs)) (h : K ⟨xs.map .d, seqOk (.r i) (.list xs)⟩) : SeqW S (.r i) K := ⟨_, xs, r_viewr e, .inl rfl, h⟩
theorem seqOk_r {i : Nat} (e : S[i]? = some (.lst xs)) : seqOk (.r i) (.list xs) S = true := by simp [seqOk, r_viewr e]
theorem wp_sq {sl : Sl} {f : FE} {QI : It3 → List MO → Prop} (h : Wp2 (f sl S) fun p1 p2 => SeqW p2 p1 fun j => QI j p2) : Wp2 (iSq f sl S) QI := wp_isq h
theorem wp_l3l (h : QL xs) : Wp (gLst3 S [.d (.list xs)]) QL := wp_eq rfl h
theorem wp_l3t (h : QL xs) : Wp (gLst3 S [.d (.tuple xs)]) QL := wp_eq rfl h
theorem wp_l3r {i : Nat} (e : S[i]? = some (.lst xs)) (h : QL xs) : Wp (gLst3 S [.r i]) QL := by
  refine wp_eq (a := xs) ?_ h
  unfold gLst3 gSeq
  dsimp only
  rw [r_viewr e]; rfl
theorem wp_l3d {i : Nat} {ks : List (Key × PyData)} (e : S[i]? = some (.dic ks)) (h : QL (ks.map fun kv => keyP kv.1)) : Wp (gLst3 S [.r i]) QL := by
  refine wp_eq (a := _) ?_ h
  unfold gLst3 gSeq gKeys
  have e1 : view S (.r i) = none := by unfold view; dsimp only; rw [e]
  dsimp only
  rw [e1, r_dicAt e]; rfl
def Rng1 (p : List W3) (K : It3 → Prop) : Prop := ∃ j : Int, p = [.d (.int j)] ∧ (-(2 ^ 62) ≤ j ∧ j < 2 ^ 62) ∧ K ⟨intsW 0 j.toNat, yes⟩
def Rng2 (p : List W3) (K : It3 → Prop) : Prop := ∃ i j : Int, p = [.d (.int i), .d (.int j)] ∧ (-(2 ^ 62) ≤ i ∧ i < 2 ^ 62 ∧ -(2 ^ 62) ≤ j ∧ j < 2 ^ 62) ∧ K ⟨intsW i (j - i).toNat, yes⟩
theorem rng1_i {j : Int} (e : -(2 ^ 62) ≤ j ∧ j < 2 ^ 62) (h : K ⟨intsW 0 j.toNat, yes⟩) : Rng1 [.d (.int j)] K := ⟨j, rfl, e, h⟩
theorem rng2_i {i j : Int} (e : -(2 ^ 62) ≤ i ∧ i < 2 ^ 62 ∧ -(2 ^ 62) ≤ j ∧ j < 2 ^ 62) (h : K ⟨intsW i (j - i).toNat, yes⟩) : Rng2 [.d (.int i), .d (.int j)] K := ⟨i, j, rfl, e, h⟩
theorem wp_r1 {sl : Sl} {f : FA} {QI : It3 → List MO → Prop} (h : Wp2 (f sl S) fun p1 p2 => Rng1 p1 fun j => QI j p2) : Wp2 (iR1 f sl S) QI := wp_ir1 h
theorem wp_r2 {sl : Sl} {f : FA} {QI : It3 → List MO → Prop} (h : Wp2 (f sl S) fun p1 p2 => Rng2 p1 fun j => QI j p2) : Wp2 (iR2 f sl S) QI := wp_ir2 h
theorem intsW_len {lo : Int} {n : Nat} : (intsW lo n).length = n := by unfold intsW; rw [List.length_map, List.length_range]
/-- an int, a truth as it is told -/
def IntW (w : W3) (K : Int → Prop) : Prop := ∃ i, w = .d (.int i) ∧ K i
theorem intW_i {i : Int} {K : Int → Prop} (h : K i) : IntW (.d (.int i)) K := ⟨i, rfl, h⟩
theorem wp_os {sl : Sl} {f : FE} {QO : Option Int → List MO → Prop} (h : Wp2 (f sl S) fun p1 p2 => IntW p1 fun i => QO (some i) p2) : Wp2 (oSome f sl S) QO := wp_osome h
def BoolW (w : W3) (K : Bool → Prop) : Prop := ∃ c, w = .d (.bool c) ∧ K c
theorem boolW_i {c : Bool} {K : Bool → Prop} (h : K c) : BoolW (.d (.bool c)) K := ⟨c, rfl, h⟩
theorem wp_an {sl : Sl} {f g : FE} {Q : W3 → List MO → Prop} (h : Wp2 (f sl S) fun p1 p2 => BoolW p1 fun c => if c = true then Wp2 (g sl p2) Q else Q (.d (.bool false)) p2) : Wp2 (eAn f g sl S) Q := wp_ean h
theorem wp_or {sl : Sl} {f g : FE} {Q : W3 → List MO → Prop} (h : Wp2 (f sl S) fun p1 p2 => BoolW p1 fun c => if c = true then Q (.d (.bool true)) p2 else Wp2 (g sl p2) Q) : Wp2 (eOr f g sl S) Q := wp_eor h
def PairW (p : List W3) (K : W3 → W3 → Prop) : Prop := ∃ x y, p = [x, y] ∧ K x y
theorem pairW_i {x y : W3} {K : W3 → W3 → Prop} (h : K x y) : PairW [x, y] K := ⟨x, y, rfl, h⟩
theorem wp_pr {sl : Sl} {i j : Nat} {f : FA} {QS : Out → Prop} (h : Wp2 (f sl S) fun p1 p2 => PairW p1 fun x y => QS (.nx ((sl.set i (some x)).set j (some y)) p2)) : Wp (sPar i j f sl S) QS := wp_par h
end
def frzO (S : List MO) : W3 → Option (W3 × List MO)
  | .r i => match S[i]? with
    | some (.lst xs) => some (W3.d (.list xs), S.set i .gone)
    | _ => none
  | w => some (w, S)
section
variable {sl : Sl} {S : List MO} {Q : W3 → List MO → Prop}
theorem wp_fz {f : FE} (h : Wp2 (f sl S) fun p1 p2 => Wp2 (frzO p2 p1) Q) : Wp2 (eFrz f sl S) Q := wp_frz h
theorem fz_r {i : Nat} {xs : List PyData} (e : S[i]? = some (.lst xs)) (q : Q (.d (.list xs)) (S.set i .gone)) : Wp2 (frzO S (.r i)) Q := wp_frzr e q
theorem fz_d {x : PyData} (q : Q (.d x) S) : Wp2 (frzO S (.d x)) Q := wp2_some q
/-- a list made here is handed back -/
theorem rq_own {S0 Se : List MO} {ds : List PyData} [CutR Se S] (e : S.take Se.length = S0) (hn : Se.length ≤ S.length) (q : Q (.r Se.length) (S0 ++ [.lst ds])) : retQ true Se Q (.rt (.r S.length) (S ++ [.lst ds])) := by
  refine rq_new (xs := ds) (by omega) get_last ?_
  rw [if_pos rfl, List.take_append_of_le_length hn, e]
  exact q
/-- a list at i is handed back as data -/
theorem rq_dat {S0 Se : List MO} {i : Nat} {ds : List PyData} [CutR Se S] (hi : Se.length ≤ i) (e1 : S[i]? = some (.lst ds)) (e : S.take Se.length = S0) (q : Q (.d (.list ds)) S0) : retQ false Se Q (.rt (.r i) S) := by
  refine rq_new (xs := ds) (by omega) e1 ?_
  rw [if_neg Bool.false_ne_true, e]
  exact q
end
theorem take_setapp {S l : List MO} {h : Nat} {o : MO} : (S.set h o ++ l).take S.length = S.set h o := by
  rw [List.take_append_of_le_length (by rw [List.length_set]; exact Nat.le_refl _), take_set]
theorem get_setapp {S l : List MO} {h : Nat} {o u : MO} (e : S[h]? = some u) : (S.set h o ++ l)[h]? = some o := get_app (get_set e)
theorem get_setlast {S : List MO} {h : Nat} {o u : MO} : (S.set h o ++ [u])[S.length]? = some u := by
  have := get_last (S := S.set h o) (u := u)
  rwa [List.length_set] at this
theorem set_setlast {S : List MO} {h : Nat} {o u u' : MO} : (S.set h o ++ [u]).set S.length u' = S.set h o ++ [u'] := by
  have := set_last (S := S.set h o) (u := u) (o := u')
  rwa [List.length_set] at this
theorem set_setapp {S l : List MO} {h : Nat} {o o' u : MO} (e : S[h]? = some u) : (S.set h o ++ l).set h o' = S.set h o' ++ l := by rw [set_app (get_set e), List.set_set]
section
variable {S : List MO} {P : PyData → Prop} {c : String} {r : Bool}
theorem isi_b {b : Bool} (e : kitB "bool" c = some r) (h : P (.bool r)) : Wp (gIsi S [.d (.bool b), .ty c]) P := wp_isi e h
theorem isi_i {b : Int} (e : kitB "int" c = some r) (h : P (.bool r)) : Wp (gIsi S [.d (.int b), .ty c]) P := wp_isi e h
theorem isi_s {b : Str} (e : kitB "str" c = some r) (h : P (.bool r)) : Wp (gIsi S [.d (.str b), .ty c]) P := wp_isi e h
theorem isi_n (e : kitB "NoneType" c = some r) (h : P (.bool r)) : Wp (gIsi S [.d .none, .ty c]) P := wp_isi e h
theorem isi_t {xs : List PyData} (e : kitB "tuple" c = some r) (h : P (.bool r)) : Wp (gIsi S [.d (.tuple xs), .ty c]) P := wp_isi e h
theorem isi_l {xs : List PyData} (e : kitB "list" c = some r) (h : P (.bool r)) : Wp (gIsi S [.d (.list xs), .ty c]) P := wp_isi e h
end
theorem atI_cons0 {α : Type} {x : α} {xs : List α} : atI (x :: xs) 0 = some x := by
  have : atI (x :: xs) ((0 : Nat) : Int) = some x := atI_nat rfl
  exact this
theorem atI_map0 {α β : Type} {f : α → β} {x : α} {xs : List α} : atI ((x :: xs).map f) 0 = some (f x) := atI_cons0
theorem atI_nat' {α : Type} {xs : List α} {k : Int} {x : α} (h0 : 0 ≤ k) (e : xs[k.toNat]? = some x) : atI xs k = some x := atI_of h0 e
section
variable {PB : Bool → Prop}
theorem is_bt_bt (h : PB true) : Wp (gIs (.bool true) (.bool true)) PB := wp_gis rfl h
theorem isn_bt_bt (h : PB false) : Wp (gIsN (.bool true) (.bool true)) PB := wp_gisn rfl h
theorem is_bt_bf (h : PB false) : Wp (gIs (.bool true) (.bool false)) PB := wp_gis rfl h
theorem isn_bt_bf (h : PB true) : Wp (gIsN (.bool true) (.bool false)) PB := wp_gisn rfl h
theorem is_bt_n (h : PB false) : Wp (gIs (.bool true) .none) PB := wp_gis rfl h
theorem isn_bt_n (h : PB true) : Wp (gIsN (.bool true) .none) PB := wp_gisn rfl h
theorem is_bf_bt (h : PB false) : Wp (gIs (.bool false) (.bool true)) PB := wp_gis rfl h
theorem isn_bf_bt (h : PB true) : Wp (gIsN (.bool false) (.bool true)) PB := wp_gisn rfl h
theorem is_bf_bf (h : PB true) : Wp (gIs (.bool false) (.bool false)) PB := wp_gis rfl h
theorem isn_bf_bf (h : PB false) : Wp (gIsN (.bool false) (.bool false)) PB := wp_gisn rfl h
theorem is_bf_n (h : PB false) : Wp (gIs (.bool false) .none) PB := wp_gis rfl h
theorem isn_bf_n (h : PB true) : Wp (gIsN (.bool false) .none) PB := wp_gisn rfl h
theorem is_n_bt (h : PB false) : Wp (gIs .none (.bool true)) PB := wp_gis rfl h
theorem isn_n_bt (h : PB true) : Wp (gIsN .none (.bool true)) PB := wp_gisn rfl h
theorem is_n_bf (h : PB false) : Wp (gIs .none (.bool false)) PB := wp_gis rfl h
theorem isn_n_bf (h : PB true) : Wp (gIsN .none (.bool false)) PB := wp_gisn rfl h
theorem is_n_n (h : PB true) : Wp (gIs .none .none) PB := wp_gis rfl h
theorem isn_n_n (h : PB false) : Wp (gIsN .none .none) PB := wp_gisn rfl h
theorem is_t_bt {xs : List PyData} (h : PB false) : Wp (gIs (.tuple xs) (.bool true)) PB := wp_gis rfl h
theorem isn_t_bt {xs : List PyData} (h : PB true) : Wp (gIsN (.tuple xs) (.bool true)) PB := wp_gisn rfl h
theorem is_t_bf {xs : List PyData} (h : PB false) : Wp (gIs (.tuple xs) (.bool false)) PB := wp_gis rfl h
theorem isn_t_bf {xs : List PyData} (h : PB true) : Wp (gIsN (.tuple xs) (.bool false)) PB := wp_gisn rfl h
theorem is_t_n {xs : List PyData} (h : PB false) : Wp (gIs (.tuple xs) .none) PB := wp_gis rfl h
theorem isn_t_n {xs : List PyData} (h : PB true) : Wp (gIsN (.tuple xs) .none) PB := wp_gisn rfl h
theorem is_l_bt {xs : List PyData} (h : PB false) : Wp (gIs (.list xs) (.bool true)) PB := wp_gis rfl h
theorem isn_l_bt {xs : List PyData} (h : PB true) : Wp (gIsN (.list xs) (.bool true)) PB := wp_gisn rfl h
theorem is_l_bf {xs : List PyData} (h : PB false) : Wp (gIs (.list xs) (.bool false)) PB := wp_gis rfl h
theorem isn_l_bf {xs : List PyData} (h : PB true) : Wp (gIsN (.list xs) (.bool false)) PB := wp_gisn rfl h
theorem is_l_n {xs : List PyData} (h : PB false) : Wp (gIs (.list xs) .none) PB := wp_gis rfl h
theorem isn_l_n {xs : List PyData} (h : PB true) : Wp (gIsN (.list xs) .none) PB := wp_gisn rfl h
theorem is_i_bt {i : Int} (h : PB false) : Wp (gIs (.int i) (.bool true)) PB := wp_gis rfl h
theorem isn_i_bt {i : Int} (h : PB true) : Wp (gIsN (.int i) (.bool true)) PB := wp_gisn rfl h
theorem is_i_bf {i : Int} (h : PB false) : Wp (gIs (.int i) (.bool false)) PB := wp_gis rfl h
theorem isn_i_bf {i : Int} (h : PB true) : Wp (gIsN (.int i) (.bool false)) PB := wp_gisn rfl h
theorem is_i_n {i : Int} (h : PB false) : Wp (gIs (.int i) .none) PB := wp_gis rfl h
theorem isn_i_n {i : Int} (h : PB true) : Wp (gIsN (.int i) .none) PB := wp_gisn rfl h
theorem is_s_bt {x : Str} (h : PB false) : Wp (gIs (.str x) (.bool true)) PB := wp_gis rfl h
theorem isn_s_bt {x : Str} (h : PB true) : Wp (gIsN (.str x) (.bool true)) PB := wp_gisn rfl h
theorem is_s_bf {x : Str} (h : PB false) : Wp (gIs (.str x) (.bool false)) PB := wp_gis rfl h
theorem isn_s_bf {x : Str} (h : PB true) : Wp (gIsN (.str x) (.bool false)) PB := wp_gisn rfl h
theorem is_s_n {x : Str} (h : PB false) : Wp (gIs (.str x) .none) PB := wp_gis rfl h
theorem isn_s_n {x : Str} (h : PB true) : Wp (gIsN (.str x) .none) PB := wp_gisn rfl h
end
/-! ### steps: the rules with one premise, found by their conclusion -/
class Step (G : Prop) (N : outParam Prop) : Prop where
  of : N → G
theorem step_of {G N : Prop} [h : Step G N] (n : N) : G := h.of n
section
variable {sl : Sl} {S : List MO} {Q : W3 → List MO → Prop} {QA : List W3 → List MO → Prop} {QT : Bool → List MO → Prop} {QS : Out → Prop} {QN : List PyData → List MO → Prop} {QO : Option Int → List MO → Prop} {QG : Sl → List MO → Prop} {QI : It3 → List MO → Prop} {P : PyData → Prop} {PB : Bool → Prop} {I : Sl → List MO → Prop} {K : It3 → Prop} {xs : List PyData} {QL : List PyData → Prop}
instance st_wp_d {x : PyData} : Step (Wp2 (eD x sl S) Q) (Q (.d x) S) := ⟨wp_d⟩
instance st_wp_cons {e : FE} {r : FA} : Step (Wp2 (aCons e r sl S) QA) (Wp2 (e sl S) fun p1 p2 => Wp2 (r sl p2) fun q1 q2 => QA (p1 :: q1) q2) := ⟨wp_cons⟩
instance st_wp_nil  : Step (Wp2 (aNil sl S) QA) (QA [] S) := ⟨wp_nil⟩
instance st_wp_op {g : GO} {a b : FE} : Step (Wp2 (eOp g a b sl S) Q) (Wp2 (a sl S) fun p1 p2 => Wp2 (b sl p2) fun q1 q2 => Wp (g q2 p1 q1) fun d => Q (.d d) q2) := ⟨wp_op⟩
instance st_wp_tcmp {g : GB} {a b : FE} : Step (Wp2 (tCmp g a b sl S) QT) (Wp2 (a sl S) fun p1 p2 => Wp2 (b sl p2) fun q1 q2 => Wp (view q2 p1) fun x => Wp (view q2 q1) fun y => Wp (g x y) fun c => QT c q2) := ⟨wp_tcmp⟩
instance st_wp_call {f : F3} {a : FA} : Step (Wp2 (eCall f a sl S) Q) (Wp2 (a sl S) fun p1 p2 => Wp2 (f p1 p2) Q) := ⟨wp_call⟩
instance st_intW_i {i : Int} {K : Int → Prop} : Step (IntW (.d (.int i)) K) (K i) := ⟨intW_i⟩
instance st_datW_i {x : PyData} {K : PyData → Prop} : Step (DatW (.d x) K) (K x) := ⟨datW_i⟩
instance st_wp_seq {f g : FS} : Step (Wp (sSeq f g sl S) QS) (Wp (f sl S) (then3 g QS)) := ⟨wp_seq⟩
instance st_th_nx {g : FS} : Step (then3 g QS (.nx sl S)) (Wp (g sl S) QS) := ⟨th_nx⟩
instance st_th_rt {g : FS} {w : W3} : Step (then3 g QS (.rt w S)) (QS (.rt w S)) := ⟨th_rt⟩
instance st_th_bk {g : FS} : Step (then3 g QS (.bk sl S)) (QS (.bk sl S)) := ⟨th_bk⟩
instance st_th_ct {g : FS} : Step (then3 g QS (.ct sl S)) (QS (.ct sl S)) := ⟨th_ct⟩
instance st_wp_set {i : Nat} {f : FE} : Step (Wp (sSet i f sl S) QS) (Wp2 (f sl S) fun p1 p2 => QS (.nx (sl.set i (some p1)) p2)) := ⟨wp_set⟩
instance st_wp_ex {f : FE} : Step (Wp (sEx f sl S) QS) (Wp2 (f sl S) fun p1 p2 => QS (.nx sl p2)) := ⟨wp_ex⟩
instance st_wp_rt {f : FE} : Step (Wp (sRt f sl S) QS) (Wp2 (f sl S) fun p1 p2 => QS (.rt p1 p2)) := ⟨wp_rt⟩
instance st_wp_rtn  : Step (Wp (sRtN sl S) QS) (QS (.rt (.d .none) S)) := ⟨wp_rtn⟩
instance st_wp_sif {t : FT} {a b : FS} : Step (Wp (sIf t a b sl S) QS) (Wp2 (t sl S) fun p1 p2 => if p1 = true then Wp (a sl p2) QS else Wp (b sl p2) QS) := ⟨wp_sif⟩
instance st_wp_asg {f : FE} {g : FG} : Step (Wp (sAsg f g sl S) QS) (Wp2 (f sl S) fun p1 p2 => Wp2 (g p1 sl p2) fun q1 q2 => QS (.nx q1 q2)) := ⟨wp_asg⟩
instance st_wp_for {it : FI} {g : FG} {b : FS} : Step (Wp (sFor it g b sl S) QS) (Wp2 (it sl S) fun p1 p2 => Wp (fLoop p1.ok g b p1.ws sl p2) QS) := ⟨wp_for⟩
instance st_wp_pr {sl : Sl} {i j : Nat} {f : FA} {QS : Out → Prop} : Step (Wp (sPar i j f sl S) QS) (Wp2 (f sl S) fun p1 p2 => PairW p1 fun x y => QS (.nx ((sl.set i (some x)).set j (some y)) p2)) := ⟨wp_pr⟩
instance st_pairW_i {x y : W3} {K : W3 → W3 → Prop} : Step (PairW [x, y] K) (K x y) := ⟨pairW_i⟩
instance st_lq_nx  : Step (loopQ I QS (.nx sl S)) (I sl S) := ⟨lq_nx⟩
instance st_lq_ct  : Step (loopQ I QS (.ct sl S)) (I sl S) := ⟨lq_ct⟩
instance st_lq_bk  : Step (loopQ I QS (.bk sl S)) (QS (.nx sl S)) := ⟨lq_bk⟩
instance st_lq_rt {w : W3} : Step (loopQ I QS (.rt w S)) (QS (.rt w S)) := ⟨lq_rt⟩
instance st_wp_dp {o i v : FE} : Step (Wp (sDP o i v sl S) QS) (Wp2 (v sl S) fun p1 p2 => ∃ x, p1 = .d x ∧ Wp2 (o sl p2) fun q1 q2 => Wp2 (i sl q2) fun u1 u2 => ∃ y k, u1 = .d y ∧ keyD y = some k ∧ ∃ kvs, dicAt u2 q1 = some kvs ∧ kvs.length ≤ 100000 ∧ QS (.nx sl (setAt u2 q1 (.dic (putD kvs k x))))) := ⟨wp_dp⟩
instance st_wp_nx  : Step (Wp (sNx sl S) QS) (QS (.nx sl S)) := ⟨wp_nx⟩
instance st_wp_bk  : Step (Wp (sBk sl S) QS) (QS (.bk sl S)) := ⟨wp_bk⟩
instance st_wp_ct  : Step (Wp (sCt sl S) QS) (QS (.ct sl S)) := ⟨wp_ct⟩
instance st_wp_ty {n : String} : Step (Wp2 (eTy n sl S) Q) (Q (.ty n) S) := ⟨wp_ty⟩
instance st_wp_fz {f : FE} : Step (Wp2 (eFrz f sl S) Q) (Wp2 (f sl S) fun p1 p2 => Wp2 (frzO p2 p1) Q) := ⟨wp_fz⟩
instance st_fz_d {x : PyData} : Step (Wp2 (frzO S (.d x)) Q) (Q (.d x) S) := ⟨fz_d⟩
instance st_wp_tup {a : FA} : Step (Wp2 (eTup a sl S) Q) (Wp2 (a sl S) fun p1 p2 => Wp (dsOf p1) fun ds => Q (.d (.tuple ds)) p2) := ⟨wp_tup⟩
instance st_wp_nlst {a : FA} : Step (Wp2 (nLst a sl S) QN) (Wp2 (a sl S) fun p1 p2 => Wp (dsOf p1) fun ds => QN ds p2) := ⟨wp_nlst⟩
instance st_wp_ds0 {Q : List PyData → Prop} : Step (Wp (dsOf []) Q) (Q []) := ⟨wp_ds0⟩
instance st_wp_ds1 {Q : List PyData → Prop} {x : PyData} {r : List W3} : Step (Wp (dsOf (.d x :: r)) Q) (Wp (dsOf r) fun ds => Q (x :: ds)) := ⟨wp_ds1⟩
instance st_wp_nd {n : FN} : Step (Wp2 (eNd n sl S) Q) (Wp2 (n sl S) fun p1 p2 => Q (.d (.list p1)) p2) := ⟨wp_nd⟩
instance st_wp_no {n : FN} : Step (Wp2 (eNo n sl S) Q) (Wp2 (n sl S) fun p1 p2 => Q (.r p2.length) (p2 ++ [.lst p1])) := ⟨wp_no⟩
instance st_wp_gnm {i : Nat} {w : W3} : Step (Wp2 (gNm i w sl S) QG) (QG (sl.set i (some w)) S) := ⟨wp_gnm⟩
instance st_wp_gtp {r : List PyData → Sl → List MO → Option (Sl × List MO)} {xs : List PyData} : Step (Wp2 (gTp r (.d (.tuple xs)) sl S) QG) (Wp2 (r xs sl S) QG) := ⟨wp_gtp⟩
instance st_wp_gsn  : Step (Wp2 (gsNil [] sl S) QG) (QG sl S) := ⟨wp_gsn⟩
instance st_wp_gsc {g : FG} {r : List PyData → Sl → List MO → Option (Sl × List MO)} {x : PyData} {xs : List PyData} : Step (Wp2 (gsCons g r (x :: xs) sl S) QG) (Wp2 (g (.d x) sl S) fun p1 p2 => Wp2 (r xs p1 p2) QG) := ⟨wp_gsc⟩
instance st_wp_gs {o i : FE} {x : PyData} : Step (Wp2 (gSubL o i (.d x) sl S) QG) (Wp2 (o sl S) fun p1 p2 => Wp2 (i sl p2) fun q1 q2 => AtSet p1 q1 q2 x (QG sl)) := ⟨wp_gs⟩
instance st_wp_ty3 {sl : Sl} {S : List MO} {QT : Bool → List MO → Prop} : Step (Wp2 (tYes3 sl S) QT) (QT true S) := ⟨wp_ty3⟩
instance st_wp_lc {own : List Nat} {it : FI} {g : FG} {t : FT} {e : FE} : Step (Wp2 (nLc own it g t e sl S) QN) (Wp2 (it sl S) fun p1 p2 => p1.ws.length ≤ 100000 ∧ Wp2 (cLoop p1.ok g t e (wipe3 sl own) p1.ws p2) QN) := ⟨wp_lc⟩
instance st_wp_ecmp {g : GB} {a b : FE} : Step (Wp2 (eCmp g a b sl S) Q) (Wp2 (a sl S) fun p1 p2 => Wp2 (b sl p2) fun q1 q2 => Wp (view q2 p1) fun x => Wp (view q2 q1) fun y => Wp (g x y) fun c => Q (.d (.bool c)) q2) := ⟨wp_ecmp⟩
instance st_wp_ttr {f : FE} : Step (Wp2 (tTr f sl S) QT) (Wp2 (f sl S) fun p1 p2 => Wp (truW p2 p1) fun b => QT b p2) := ⟨wp_ttr⟩
instance st_wp_not {f : FE} : Step (Wp2 (eNot f sl S) Q) (Wp2 (f sl S) fun p1 p2 => Wp (truW p2 p1) fun b => Q (.d (.bool (!b))) p2) := ⟨wp_not⟩
instance st_wp_tnt {f : FT} : Step (Wp2 (tNt f sl S) QT) (Wp2 (f sl S) fun p1 p2 => QT (!p1) p2) := ⟨wp_tnt⟩
instance st_wp_tan {f g : FT} : Step (Wp2 (tAn f g sl S) QT) (Wp2 (f sl S) fun p1 p2 => if p1 = true then Wp2 (g sl p2) QT else QT false p2) := ⟨wp_tan⟩
instance st_wp_tor {f g : FT} : Step (Wp2 (tOr3 f g sl S) QT) (Wp2 (f sl S) fun p1 p2 => if p1 = true then QT true p2 else Wp2 (g sl p2) QT) := ⟨wp_tor⟩
instance st_wp_an {sl : Sl} {f g : FE} {Q : W3 → List MO → Prop} : Step (Wp2 (eAn f g sl S) Q) (Wp2 (f sl S) fun p1 p2 => BoolW p1 fun c => if c = true then Wp2 (g sl p2) Q else Q (.d (.bool false)) p2) := ⟨wp_an⟩
instance st_boolW_i {c : Bool} {K : Bool → Prop} : Step (BoolW (.d (.bool c)) K) (K c) := ⟨boolW_i⟩
instance st_wp_or {sl : Sl} {f g : FE} {Q : W3 → List MO → Prop} : Step (Wp2 (eOr f g sl S) Q) (Wp2 (f sl S) fun p1 p2 => BoolW p1 fun c => if c = true then Q (.d (.bool true)) p2 else Wp2 (g sl p2) Q) := ⟨wp_or⟩
instance st_wp_eif {t : FT} {f g : FE} : Step (Wp2 (eIf t f g sl S) Q) (Wp2 (t sl S) fun p1 p2 => if p1 = true then Wp2 (f sl p2) Q else Wp2 (g sl p2) Q) := ⟨wp_eif⟩
instance st_wp_nop {g : List MO → W3 → W3 → Option (List PyData)} {a b : FE} : Step (Wp2 (nOp g a b sl S) QN) (Wp2 (a sl S) fun p1 p2 => Wp2 (b sl p2) fun q1 q2 => Wp (g q2 p1 q1) fun d => QN d q2) := ⟨wp_nop⟩
instance st_wp_onone  : Step (Wp2 (oNone sl S) QO) (QO none S) := ⟨wp_onone⟩
instance st_wp_os {sl : Sl} {f : FE} {QO : Option Int → List MO → Prop} : Step (Wp2 (oSome f sl S) QO) (Wp2 (f sl S) fun p1 p2 => IntW p1 fun i => QO (some i) p2) := ⟨wp_os⟩
instance st_wp_esl {a : FE} {l h : FO} : Step (Wp2 (eSl a l h sl S) Q) (Wp2 (a sl S) fun p1 p2 => Wp2 (l sl p2) fun q1 q2 => Wp2 (h sl q2) fun u1 u2 => Wp (view u2 p1) fun x => Wp (gCut q1 u1 x) fun d => Q (.d d) u2) := ⟨wp_esl⟩
instance st_wp_nsl {a : FE} {l h : FO} : Step (Wp2 (nSl a l h sl S) QN) (Wp2 (a sl S) fun p1 p2 => Wp2 (l sl p2) fun q1 q2 => Wp2 (h sl q2) fun u1 u2 => ∃ xs, view u2 p1 = some (.list xs) ∧ QN (cutD xs q1 u1) u2) := ⟨wp_nsl⟩
instance st_wp_b {g : GC} {a : FA} : Step (Wp2 (eB g a sl S) Q) (Wp2 (a sl S) fun p1 p2 => Wp (g p2 p1) fun d => Q (.d d) p2) := ⟨wp_b⟩
instance st_wp_nb {g : List MO → List W3 → Option (List PyData)} {a : FA} : Step (Wp2 (nB g a sl S) QN) (Wp2 (a sl S) fun p1 p2 => Wp (g p2 p1) fun d => QN d p2) := ⟨wp_nb⟩
instance st_wp_sq {sl : Sl} {f : FE} {QI : It3 → List MO → Prop} : Step (Wp2 (iSq f sl S) QI) (Wp2 (f sl S) fun p1 p2 => SeqW p2 p1 fun j => QI j p2) := ⟨wp_sq⟩
instance st_sq_l  : Step (SeqW S (.d (.list xs)) K) (K ⟨xs.map .d, yes⟩) := ⟨sq_l⟩
instance st_sq_t  : Step (SeqW S (.d (.tuple xs)) K) (K ⟨xs.map .d, yes⟩) := ⟨sq_t⟩
instance st_sq_sc {ns : List Int} : Step (SeqW S (.sc ns) K) (K ⟨(ns.map PyData.int).map .d, yes⟩) := ⟨sq_sc⟩
instance st_wp_r1 {sl : Sl} {f : FA} {QI : It3 → List MO → Prop} : Step (Wp2 (iR1 f sl S) QI) (Wp2 (f sl S) fun p1 p2 => Rng1 p1 fun j => QI j p2) := ⟨wp_r1⟩
instance st_wp_r2 {sl : Sl} {f : FA} {QI : It3 → List MO → Prop} : Step (Wp2 (iR2 f sl S) QI) (Wp2 (f sl S) fun p1 p2 => Rng2 p1 fun j => QI j p2) := ⟨wp_r2⟩
instance st_wp_irv {f : FE} : Step (Wp2 (iRv f sl S) QI) (Wp2 (f sl S) fun p1 p2 => ∃ xs, (p1 = .d (.list xs) ∨ p1 = .d (.tuple xs)) ∧ QI (⟨xs.reverse.map .d, yes⟩) p2) := ⟨wp_irv⟩
instance st_wp_me {g : GM} {o : FE} {a : FA} : Step (Wp2 (eM g o a sl S) Q) (Wp2 (o sl S) fun p1 p2 => AtLst p1 p2 fun h => Wp2 (a sl p2) fun q1 q2 => NowLst h q2 fun xs => Wp2 (g xs q1) fun z1 z2 => Q (.d z1) (q2.set h (.lst z2))) := ⟨wp_me⟩
instance st_wp_join {o e : FE} : Step (Wp2 (eJoin o e sl S) Q) (Wp2 (o sl S) fun p1 p2 => ∃ a, p1 = .d (.str a) ∧ Wp2 (e sl p2) fun q1 q2 => ∃ ys, gSeq q2 [q1] = some (ys.map .str) ∧ Wp (joinD a ys) fun d => Q (.d d) q2) := ⟨wp_join⟩
instance st_wp_dn  : Step (Wp2 (eDN sl S) Q) (Q (.r S.length) (S ++ [.dic []])) := ⟨wp_dn⟩
instance st_wp_viewd {QV : PyData → Prop} {x : PyData} : Step (Wp (view S (.d x)) QV) (QV x) := ⟨wp_viewd⟩
instance st_wp_trub {b : Bool} : Step (Wp (truW S (.d (.bool b))) PB) (PB b) := ⟨wp_trub⟩
instance st_wp_l3l  : Step (Wp (gLst3 S [.d (.list xs)]) QL) (QL xs) := ⟨wp_l3l⟩
instance st_wp_l3t  : Step (Wp (gLst3 S [.d (.tuple xs)]) QL) (QL xs) := ⟨wp_l3t⟩
instance st_wp_addi {i j : Int} : Step (Wp (gAdd S (.d (.int i)) (.d (.int j))) P) (P (.int (i + j))) := ⟨wp_addi⟩
instance st_wp_sub {i j : Int} : Step (Wp (gSub S (.d (.int i)) (.d (.int j))) P) (P (.int (i - j))) := ⟨wp_sub⟩
instance st_wp_int {i : Int} : Step (Wp (g1 intD S [.d (.int i)]) P) (P (.int i)) := ⟨wp_int⟩
instance st_wp_abs {i : Int} : Step (Wp (g1 absD S [.d (.int i)]) P) (P (.int (if i < 0 then -i else i))) := ⟨wp_abs⟩
instance st_wp_lenl {xs : List PyData} : Step (Wp (gLen S [.d (.list xs)]) P) (P (.int (xs.length : Nat))) := ⟨wp_lenl⟩
instance st_wp_lent {xs : List PyData} : Step (Wp (gLen S [.d (.tuple xs)]) P) (P (.int (xs.length : Nat))) := ⟨wp_lent⟩
instance st_wp_lensc {xs : List Int} : Step (Wp (gLen S [.sc xs]) P) (P (.int (xs.length : Nat))) := ⟨wp_lensc⟩
instance st_wp_geqi {i j : Int} : Step (Wp (gEq (.int i) (.int j)) PB) (PB (i == j)) := ⟨wp_geqi⟩
instance st_wp_gnei {i j : Int} : Step (Wp (gNe (.int i) (.int j)) PB) (PB (!(i == j))) := ⟨wp_gnei⟩
instance st_wp_glti {i j : Int} : Step (Wp (gLt (.int i) (.int j)) PB) (PB (decide (i < j))) := ⟨wp_glti⟩
instance st_wp_ggti {i j : Int} : Step (Wp (gGt (.int i) (.int j)) PB) (PB (decide (j < i))) := ⟨wp_ggti⟩
instance st_wp_glei {i j : Int} : Step (Wp (gLe (.int i) (.int j)) PB) (PB (decide (i ≤ j))) := ⟨wp_glei⟩
instance st_wp_ggei {i j : Int} : Step (Wp (gGe (.int i) (.int j)) PB) (PB (decide (j ≤ i))) := ⟨wp_ggei⟩
instance st_wp_glts {i j : Str} : Step (Wp (gLt (.str i) (.str j)) PB) (PB (decide (i.cps.toList < j.cps.toList))) := ⟨wp_glts⟩
instance st_wp_ggts {i j : Str} : Step (Wp (gGt (.str i) (.str j)) PB) (PB (decide (j.cps.toList < i.cps.toList))) := ⟨wp_ggts⟩
instance st_wp_tupl {xs : List PyData} : Step (Wp (gTupOf S [.d (.list xs)]) P) (P (.tuple xs)) := ⟨wp_tupl⟩
instance st_wp_tupt {xs : List PyData} : Step (Wp (gTupOf S [.d (.tuple xs)]) P) (P (.tuple xs)) := ⟨wp_tupt⟩
instance st_is_bt_bt  : Step (Wp (gIs (.bool true) (.bool true)) PB) (PB true) := ⟨is_bt_bt⟩
instance st_isn_bt_bt  : Step (Wp (gIsN (.bool true) (.bool true)) PB) (PB false) := ⟨isn_bt_bt⟩
instance st_is_bt_bf  : Step (Wp (gIs (.bool true) (.bool false)) PB) (PB false) := ⟨is_bt_bf⟩
instance st_isn_bt_bf  : Step (Wp (gIsN (.bool true) (.bool false)) PB) (PB true) := ⟨isn_bt_bf⟩
instance st_is_bt_n  : Step (Wp (gIs (.bool true) .none) PB) (PB false) := ⟨is_bt_n⟩
instance st_isn_bt_n  : Step (Wp (gIsN (.bool true) .none) PB) (PB true) := ⟨isn_bt_n⟩
instance st_is_bf_bt  : Step (Wp (gIs (.bool false) (.bool true)) PB) (PB false) := ⟨is_bf_bt⟩
instance st_isn_bf_bt  : Step (Wp (gIsN (.bool false) (.bool true)) PB) (PB true) := ⟨isn_bf_bt⟩
instance st_is_bf_bf  : Step (Wp (gIs (.bool false) (.bool false)) PB) (PB true) := ⟨is_bf_bf⟩
instance st_isn_bf_bf  : Step (Wp (gIsN (.bool false) (.bool false)) PB) (PB false) := ⟨isn_bf_bf⟩
instance st_is_bf_n  : Step (Wp (gIs (.bool false) .none) PB) (PB false) := ⟨is_bf_n⟩
instance st_isn_bf_n  : Step (Wp (gIsN (.bool false) .none) PB) (PB true) := ⟨isn_bf_n⟩
instance st_is_n_bt  : Step (Wp (gIs .none (.bool true)) PB) (PB false) := ⟨is_n_bt⟩
instance st_isn_n_bt  : Step (Wp (gIsN .none (.bool true)) PB) (PB true) := ⟨isn_n_bt⟩
instance st_is_n_bf  : Step (Wp (gIs .none (.bool false)) PB) (PB false) := ⟨is_n_bf⟩
instance st_isn_n_bf  : Step (Wp (gIsN .none (.bool false)) PB) (PB true) := ⟨isn_n_bf⟩
instance st_is_n_n  : Step (Wp (gIs .none .none) PB) (PB true) := ⟨is_n_n⟩
instance st_isn_n_n  : Step (Wp (gIsN .none .none) PB) (PB false) := ⟨isn_n_n⟩
instance st_is_t_bt {xs : List PyData} : Step (Wp (gIs (.tuple xs) (.bool true)) PB) (PB false) := ⟨is_t_bt⟩
instance st_isn_t_bt {xs : List PyData} : Step (Wp (gIsN (.tuple xs) (.bool true)) PB) (PB true) := ⟨isn_t_bt⟩
instance st_is_t_bf {xs : List PyData} : Step (Wp (gIs (.tuple xs) (.bool false)) PB) (PB false) := ⟨is_t_bf⟩
instance st_isn_t_bf {xs : List PyData} : Step (Wp (gIsN (.tuple xs) (.bool false)) PB) (PB true) := ⟨isn_t_bf⟩
instance st_is_t_n {xs : List PyData} : Step (Wp (gIs (.tuple xs) .none) PB) (PB false) := ⟨is_t_n⟩
instance st_isn_t_n {xs : List PyData} : Step (Wp (gIsN (.tuple xs) .none) PB) (PB true) := ⟨isn_t_n⟩
instance st_is_l_bt {xs : List PyData} : Step (Wp (gIs (.list xs) (.bool true)) PB) (PB false) := ⟨is_l_bt⟩
instance st_isn_l_bt {xs : List PyData} : Step (Wp (gIsN (.list xs) (.bool true)) PB) (PB true) := ⟨isn_l_bt⟩
instance st_is_l_bf {xs : List PyData} : Step (Wp (gIs (.list xs) (.bool false)) PB) (PB false) := ⟨is_l_bf⟩
instance st_isn_l_bf {xs : List PyData} : Step (Wp (gIsN (.list xs) (.bool false)) PB) (PB true) := ⟨isn_l_bf⟩
instance st_is_l_n {xs : List PyData} : Step (Wp (gIs (.list xs) .none) PB) (PB false) := ⟨is_l_n⟩
instance st_isn_l_n {xs : List PyData} : Step (Wp (gIsN (.list xs) .none) PB) (PB true) := ⟨isn_l_n⟩
instance st_is_i_bt {i : Int} : Step (Wp (gIs (.int i) (.bool true)) PB) (PB false) := ⟨is_i_bt⟩
instance st_isn_i_bt {i : Int} : Step (Wp (gIsN (.int i) (.bool true)) PB) (PB true) := ⟨isn_i_bt⟩
instance st_is_i_bf {i : Int} : Step (Wp (gIs (.int i) (.bool false)) PB) (PB false) := ⟨is_i_bf⟩
instance st_isn_i_bf {i : Int} : Step (Wp (gIsN (.int i) (.bool false)) PB) (PB true) := ⟨isn_i_bf⟩
instance st_is_i_n {i : Int} : Step (Wp (gIs (.int i) .none) PB) (PB false) := ⟨is_i_n⟩
instance st_isn_i_n {i : Int} : Step (Wp (gIsN (.int i) .none) PB) (PB true) := ⟨isn_i_n⟩
instance st_is_s_bt {x : Str} : Step (Wp (gIs (.str x) (.bool true)) PB) (PB false) := ⟨is_s_bt⟩
instance st_isn_s_bt {x : Str} : Step (Wp (gIsN (.str x) (.bool true)) PB) (PB true) := ⟨isn_s_bt⟩
instance st_is_s_bf {x : Str} : Step (Wp (gIs (.str x) (.bool false)) PB) (PB false) := ⟨is_s_bf⟩
instance st_isn_s_bf {x : Str} : Step (Wp (gIsN (.str x) (.bool false)) PB) (PB true) := ⟨isn_s_bf⟩
instance st_is_s_n {x : Str} : Step (Wp (gIs (.str x) .none) PB) (PB false) := ⟨is_s_n⟩
instance st_isn_s_n {x : Str} : Step (Wp (gIsN (.str x) .none) PB) (PB true) := ⟨isn_s_n⟩
instance st_ite_t {P Q : Prop} : Step (if true = true then P else Q) P := ⟨fun h => by rw [if_pos rfl]; exact h⟩
instance st_ite_f {P Q : Prop} : Step (if false = true then P else Q) Q := ⟨fun h => by rw [if_neg Bool.false_ne_true]; exact h⟩
end
theorem gate_wp {α : Type} {x : Option α} {Q : α → Prop} (h : Wp x Q) : Wp x Q := h
theorem gate_isi {S : List MO} {ws : List W3} {P : PyData → Prop} (h : Wp (gIsi S ws) P) : Wp (gIsi S ws) P := h
theorem gate_eq {a b : PyData} {P : Bool → Prop} (h : Wp (gEq a b) P) : Wp (gEq a b) P := h
theorem gate_ne {a b : PyData} {P : Bool → Prop} (h : Wp (gNe a b) P) : Wp (gNe a b) P := h
theorem gate_ix {S : List MO} {a b : W3} {P : PyData → Prop} (h : Wp (gIx S a b) P) : Wp (gIx S a b) P := h
theorem gate_rq {b : Bool} {n : List MO} {Q : W3 → List MO → Prop} {o : Out} (h : retQ b n Q o) : retQ b n Q o := h
end EA
namespace EA
open PySem PySem.Spec PyProof.Rows L2
/-! ### comprehensions with two fors; sets of texts -/
section
variable {K : PySem.W.Frag} {D : Addr} {L : Nat} {okx : PyData → Prop} {add : V → Hp → (Hp → Prop) → Prop} {Acc : Wd → List PyData → Prop}
theorem SR3.monov {A B : Wd} {σ : L2.St} {sl : Sl} (n : Nv A B) (h : SR3 K A σ sl) : SR3 K B σ sl := ⟨h.len, fun i w e => by
  obtain ⟨v, h1, h2⟩ := h.at_ i w e
  exact ⟨v, h1, h2.monov n⟩⟩
theorem Nv.trans {A B C : Wd} (a : Nv A B) (b : Nv B C) : Nv A C := ⟨a.gg.trans b.gg, a.pre.trans b.pre⟩
end
end EA
namespace EA
open PySem PySem.Spec PyProof.Rows L2
theorem _root_.L2.Room.units65 {k : Nat} {A : Around} (r : Room k A) : A.units + 65 < cLine := by have := r.un; omega
/-! ### xs.index(x) -/
def gIdx (ds : List PyData) (d : PyData) : Option Int := if SeqAt.shaped (.list ds) = true ∧ SeqAt.shaped d = true then Option.map (fun j : Nat => (j : Int)) (ds.findIdx? fun z => PyData.eqv z d) else none
def eIdx (o : FE) (a : FA) : FE := fun sl S => (o sl S).bind fun p => match view p.2 p.1 with
  | some (.list _) => (a sl p.2).bind fun q => match view q.2 p.1, q.1 with
    | some (.list ds), [w] => (view q.2 w).bind fun d => (gIdx ds d).map fun j => (.d (.int j), q.2)
    | _, _ => none
  | _ => none
section
variable {K : PySem.W.Frag} {X : Cx} {o e : Expr} {fo : FE} {f : FA} {apos cpos : Pos}
theorem gIdx_of {ds : List PyData} {d : PyData} {k : Int} (h : gIdx ds d = some k) : SeqAt.shaped (.list ds) = true ∧ SeqAt.shaped d = true ∧ ∃ (j : Nat) (z : PyData), k = j ∧ ds[j]? = some z ∧ PyData.eqv z d = true ∧ ∀ (m : Nat) (z' : PyData), m < j → ds[m]? = some z' → PyData.eqv z' d = false := by
  unfold gIdx at h
  by_cases c : SeqAt.shaped (.list ds) = true ∧ SeqAt.shaped d = true
  · rw [if_pos c] at h
    obtain ⟨j, hj, rfl⟩ := Option.map_eq_some_iff.mp h
    obtain ⟨lt, pj, no⟩ := List.findIdx?_eq_some_iff_getElem.mp hj
    refine ⟨c.1, c.2, j, ds[j], rfl, List.getElem?_eq_getElem lt, pj, fun m z' hm hz => ?_⟩
    obtain ⟨hm2, rfl⟩ := List.getElem?_eq_some_iff.mp hz
    exact Bool.eq_false_iff.mpr (no m hm)
  · rw [if_neg c] at h; cases h
theorem e_index (hK : X.K = K) (hu : X.A.units + 65 < cLine) (ho : PE3 K X o fo) (ha : PA3 K X [e] f)
    (hbase : attributeBase o "index" X.env (eval o X.env) = eval o X.env := by rfl)
    (hfew : ((backTo cpos (starEach (e :: []) X.env)).all (fun x => !x.1) && (backToKw cpos (keywordEach [] X.env)).all (fun x => x.1.isSome)
      && decide ((e :: []).length + ([] : List Keyword).length + (if ([] : List Keyword).isEmpty then 0 else 1) < 30)) = true := by rfl)
    (hline : (apos.endLine == cpos.line) = true := by rfl) (hs : starEach (e :: []) X.env = (false, eval e X.env) :: starEach [] X.env := by rfl) (hplain : (backTo cpos (starEach [] X.env)).any (·.1) = false := by rfl) :
    PE3 K X (.Call (.Attribute o "index" apos) [e] [] cpos) (eIdx fo f) := ⟨pe_imp (pe_bm PySem.F.plainAttrs_list PySem.F.slot_list_index PySem.F.type_list_index (mt_indexD hu) ho.p ha.p hbase hfew hline hs hplain) fun σ H Q h => by
  subst hK
  obtain ⟨A, S, sl, w, S', rfl, R, s, e, q⟩ := h
  obtain ⟨⟨w1, S1⟩, e1, e⟩ := Option.bind_eq_some_iff.mp e
  dsimp only at e
  split at e
  · rename_i xs0 hx0
    obtain ⟨⟨w2, S2⟩, e2, e⟩ := Option.bind_eq_some_iff.mp e
    dsimp only at e
    refine ⟨A, S, sl, w1, S1, rfl, R, s, e1, fun B v n R1 r1 => ⟨?_, B, S1, sl, w2, S2, rfl, R1, s.mono n, e2, fun C us n2 R2 r2 => ?_⟩⟩
    · obtain ⟨a, vs, rfl, h1, _⟩ := view_list R1 r1 hx0
      exact .inl ⟨rfl, _, h1⟩
    · split at e
      · rename_i ds w hds
        obtain ⟨d, hd, e⟩ := Option.bind_eq_some_iff.mp e
        obtain ⟨k, hk, e⟩ := Option.map_eq_some_iff.mp e
        cases e
        obtain ⟨s1, s2, j, z, rfl, hz, ez, no⟩ := gIdx_of hk
        have r1' := r1.mono n2
        obtain ⟨a, vs, rfl, _⟩ := view_list R2 r1' hds
        cases r2 with
        | cons ru rr =>
          cases rr
          exact ⟨a, _, d, ds, j, z, rfl, rfl, view_dp R2 r1' hds, view_dp R2 ru hd, s1, s2, hz, ez, no, q C _ (n.trans n2) R2 (Da.int _)⟩
      · cases e
  · cases e⟩
end
end EA
namespace EA
open PySem PySem.Spec PyProof.Rows L2
/-! ### dict(pairs) -/
def eDG (o i : FE) : FE := fun sl S => (o sl S).bind fun p => (i sl p.2).bind fun q => match q.1 with
  | .d y => (keyD y).bind fun k => (dicAt q.2 p.1).bind fun kvs => (valD kvs k).map fun d => (.d d, q.2)
  | _ => none
section
variable {K : PySem.W.Frag} {X : Cx} {o i e : Expr} {fo fi : FE} {f : FA} {pos pp : Pos}
theorem e_dg (hu : X.A.units + 1 < cLine) (ho : PE3 K X o fo) (hi : PE3 K X i fi) (hs : NoSl i) : PE3 K X (.Subscript o i pos) (eDG fo fi) := ⟨pe_imp (pe_dget hu ho.p hi.p hs) fun σ H Q h => by
  obtain ⟨A, S, sl, w, S', rfl, R, s, e, q⟩ := h
  obtain ⟨⟨w1, S1⟩, e1, e⟩ := Option.bind_eq_some_iff.mp e
  obtain ⟨⟨w2, S2⟩, e2, e⟩ := Option.bind_eq_some_iff.mp e
  refine ⟨A, S, sl, w1, S1, rfl, R, s, e1, fun B v n R1 r1 => ⟨B, S1, sl, w2, S2, rfl, R1, s.mono n, e2, fun C u n2 R2 r2 => ?_⟩⟩
  dsimp only at e
  split at e
  · rename_i y
    obtain ⟨k, ek, e⟩ := Option.bind_eq_some_iff.mp e
    obtain ⟨kvs, ed, e⟩ := Option.bind_eq_some_iff.mp e
    obtain ⟨d, ev, e⟩ := Option.map_eq_some_iff.mp e
    cases e
    obtain ⟨j, a, vs, rfl, _, _, rfl, _, hH, hK⟩ := dicAt_of R2 (r1.mono n2) ed
    have eu := key_da r2 ek
    subst eu
    rcases daK_val (k := k) hK with ⟨z, _⟩ | ⟨v, d', z1, z2, z3⟩
    · rw [z] at ev; cases ev
    · rw [z1] at ev
      cases ev
      exact ⟨a, v, rfl, by rw [← z2]; exact DGet.k hH, q C v (n.trans n2) R2 z3⟩
  · cases e⟩
end
end EA
namespace EZ
open PySem
open PySem.Sem (wp)
section
variable {prog : Program} {w : World} {A : Around} {E : Value → Shared → Prop} {s : Shared}
theorem zip_next_item_TL {z TI TO i1 i2 l1 l2 : Addr} {k1 k2 : Nat} {xs ys : Array Value} {x y a b : Value} {Q : Value → Shared → Prop} (D : ZipApart z TI TO i1 i2 l1 l2)
    (hz : IsZip s.heap z TI TO .none) (hTI : IsPair s.heap TI (.ref i1) (.ref i2)) (hTO : IsPair s.heap TO a b)
    (h1 : s.heap.IsTupleIter i1 l1 k1) (h2 : s.heap.IsListIter i2 l2 k2) (hl1 : s.heap.IsTuple l1 xs) (hl2 : s.heap.IsList l2 ys) (hx : xs[k1]? = some x) (hy : ys[k2]? = some y)
    (hQ : ∀ h', IsZip h' z TI TO (rawInt s.heap.objs.size) → IsPair h' TO x y → h'.IsTupleIter i1 l1 (k1 + 1) → h'.IsListIter i2 l2 (k2 + 1) → IsPair h' s.heap.objs.size x y → h'.objs.size = s.heap.objs.size + 1 →
      (∀ c o, c ≠ z → c ≠ TO → c ≠ i1 → c ≠ i2 → s.heap.get? c = some o → h'.get? c = some o) → Q (.ref s.heap.objs.size) { s with heap := h' }) :
    wpAny (model prog w) A (Builtin.«zip.__next__» ⟨[.ref z], []⟩) (fun fin s' => ∃ v, fin = .done (.ret v) ∧ Q v s') E s := by
  show wpAny _ _ (field (.ref z) 2 >>= _) _ _ _
  refine wpAny_bind (wpAny_field hz rfl (x := .bool false) rfl ?_)
  show wpAny _ _ (field (.ref z) 3 >>= _) _ _ _
  refine wpAny_bind (wpAny_field hz rfl (x := .ref TI) rfl ?_)
  refine wpAny_bind (wpAny_seqItems hTI rfl ?_)
  show wpAny _ _ (Builtin.SmallTypes.ownedTupleIsFree (.ref z) >>= _) _ _ _
  refine wpAny_bind ?_
  unfold Builtin.SmallTypes.ownedTupleIsFree
  refine wpAny_bind (wpAny_field hz rfl (x := .none) rfl (wpAny_pure ?_))
  simp only [if_true]
  refine wpAny_bind (wpAny_rule ?_)
  refine wpAny_bind (wpAny_field hz rfl (x := .ref TO) rfl ?_)
  refine wpAny_bind (wpAny_setField_rec hz (by simp) fun h₁ hz₁ hs₁ => ?_)
  replace hz₁ : IsZip h₁ z TI TO .ellipsis := hz₁
  refine wpAny_bind ?_
  simp only [List.zipIdx_cons, List.zipIdx_nil, List.forIn_cons, List.forIn_nil]

  refine wpAny_bind (wpAny_bind (wpAny_onRaise ?_))
  show wpAny _ _ (Builtin.SmallTypes.nextOf (.ref i1) >>= _) _ _ _
  refine wpAny_bind (RZ.nextOf_tuple_item (h1.extBut hs₁.extBut D.i1z) (hl1.extBut hs₁.extBut D.l1z) hx fun h₂ h1₂ hs₂ => wpAny_pure ?_)
  have hTO₂ : IsPair h₂ TO a b := hs₂.extBut _ _ D.TOi1 (hs₁.extBut _ _ D.TOz hTO)
  refine wpAny_bind (wpAny_seqItems hTO₂ rfl ?_)
  refine wpAny_bind (wpAny_updateSeq_pair hTO₂ fun h₃ hTO₃ hs₃ => ?_)
  replace hTO₃ : IsPair h₃ TO x b := hTO₃
  refine wpAny_bind (wpAny_letGo (wpAny_pure ?_))

  refine wpAny_bind (wpAny_bind (wpAny_onRaise ?_))
  show wpAny _ _ (Builtin.SmallTypes.nextOf (.ref i2) >>= _) _ _ _
  refine wpAny_bind (wpAny_nextOf_list_item (((h2.extBut hs₁.extBut D.i2z).extBut hs₂.extBut D.i12.symm).extBut hs₃.extBut D.TOi2.symm)
    (((hl2.extBut hs₁.extBut D.l2z).extBut hs₂.extBut D.l2i1).extBut hs₃.extBut D.l2TO) hy fun h₄ h2₄ hs₄ => wpAny_pure ?_)
  have hTO₄ : IsPair h₄ TO x b := hs₄.extBut _ _ D.TOi2 hTO₃
  refine wpAny_bind (wpAny_seqItems hTO₄ rfl ?_)
  refine wpAny_bind (wpAny_updateSeq_pair hTO₄ fun h₅ hTO₅ hs₅ => ?_)
  replace hTO₅ : IsPair h₅ TO x y := hTO₅
  refine wpAny_bind (wpAny_letGo (wpAny_pure (wpAny_pure ?_)))

  refine wpAny_bind (wpAny_seqItems hTO₅ rfl ?_)
  refine wpAny_bind (wpAny_newTuple ?_)
  have hsz : h₅.objs.size = s.heap.objs.size := by rw [hs₅.1, hs₄.1, hs₃.1, hs₂.1, hs₁.1]
  have hz₅ : IsZip h₅ z TI TO .ellipsis := hs₅.extBut _ _ D.TOz.symm (hs₄.extBut _ _ D.i2z.symm (hs₃.extBut _ _ D.TOz.symm (hs₂.extBut _ _ D.i1z.symm hz₁)))
  have hk₅ : ∀ c o, c ≠ z → c ≠ TO → c ≠ i1 → c ≠ i2 → s.heap.get? c = some o → h₅.get? c = some o := fun c o c1 c2 c3 c4 e =>
    hs₅.extBut _ _ c2 (hs₄.extBut _ _ c4 (hs₃.extBut _ _ c2 (hs₂.extBut _ _ c3 (hs₁.extBut _ _ c1 e))))
  have h1₅ : h₅.IsTupleIter i1 l1 (k1 + 1) := ((h1₂.extBut hs₃.extBut D.TOi1.symm).extBut hs₄.extBut D.i12).extBut hs₅.extBut D.TOi1.symm
  have h2₅ : h₅.IsListIter i2 l2 (k2 + 1) := h2₄.extBut hs₅.extBut D.TOi2.symm
  have hzlt : z < h₅.objs.size := Heap.lt_size hz₅
  have hTOlt : TO < h₅.objs.size := Heap.lt_size hTO₅
  have hi1lt : i1 < h₅.objs.size := by obtain ⟨_, e, _⟩ := h1₅; exact Heap.lt_size e
  have hi2lt : i2 < h₅.objs.size := by obtain ⟨_, e, _⟩ := h2₅; exact Heap.lt_size e
  show wpAny _ _ (Builtin.SmallTypes.ownedTupleHandOut (.ref z) (.ref h₅.objs.size) >>= _) _ _ _
  refine wpAny_bind ?_
  unfold Builtin.SmallTypes.ownedTupleHandOut
  have hz₆ : IsZip (h₅.push { cls := .type "tuple", data := .seq #[x, y] }) z TI TO .ellipsis := Heap.get?_push_of_some _ hz₅
  refine wpAny_bind (wpAny_setField_rec hz₆ (by simp) fun h₇ hz₇ hs₇ => ?_)
  replace hz₇ : IsZip h₇ z TI TO (rawInt h₅.objs.size) := hz₇
  refine wpAny_setField_rec hz₇ (by simp) fun h₈ hz₈ hs₈ => ?_
  replace hz₈ : IsZip h₈ z TI TO (rawInt h₅.objs.size) := hz₈
  have up : ∀ c o, c ≠ z → h₅.get? c = some o → h₈.get? c = some o := fun c o c1 e => hs₈.extBut _ _ c1 (hs₇.extBut _ _ c1 (Heap.get?_push_of_some _ e))
  have hT₈ : IsPair h₈ h₅.objs.size x y := hs₈.extBut _ _ (Nat.ne_of_gt hzlt) (hs₇.extBut _ _ (Nat.ne_of_gt hzlt) (Heap.get?_push_size _ rfl))
  have hz8 : h₈.objs.size = h₅.objs.size + 1 := by rw [hs₈.1, hs₇.1, Heap.size_push]
  rw [hsz] at hz₈ hT₈ hz8
  refine wpAny_pure ⟨_, rfl, ?_⟩
  show Q (.ref h₅.objs.size) _
  rw [hsz]
  exact hQ h₈ hz₈ (up _ _ D.TOz hTO₅) (h1₅.at fun o e => up _ o D.i1z e) (h2₅.at fun o e => up _ o D.i2z e) hT₈ hz8 fun c o c1 c2 c3 c4 e => up c o c1 (hk₅ c o c1 c2 c3 c4 e)
theorem zip_next_end_TL {z TI TO i1 i2 l1 l2 : Addr} {k1 k2 : Nat} {xs ys : Array Value} {a b : Value} {Q : Fin → Shared → Prop} (hh : A.handled = none) (D : ZipApart z TI TO i1 i2 l1 l2)
    (hz : IsZip s.heap z TI TO .none) (hTI : IsPair s.heap TI (.ref i1) (.ref i2)) (hTO : IsPair s.heap TO a b)
    (h1 : s.heap.IsTupleIter i1 l1 k1) (h2 : s.heap.IsListIter i2 l2 k2) (hl1 : s.heap.IsTuple l1 xs) (hl2 : s.heap.IsList l2 ys) (hend : xs[k1]? = none ∨ ys[k2]? = none)
    (hE : ∀ h' e, (∀ c o, c ≠ z → c ≠ TO → c ≠ i1 → c ≠ i2 → s.heap.get? c = some o → h'.get? c = some o) → (∃ o, h'.get? e = some o ∧ o.cls = .type "StopIteration") → E (.ref e) { s with heap := h' }) :
    wpAny (model prog w) A (Builtin.«zip.__next__» ⟨[.ref z], []⟩) Q E s := by
  show wpAny _ _ (field (.ref z) 2 >>= _) _ _ _
  refine wpAny_bind (wpAny_field hz rfl (x := .bool false) rfl ?_)
  show wpAny _ _ (field (.ref z) 3 >>= _) _ _ _
  refine wpAny_bind (wpAny_field hz rfl (x := .ref TI) rfl ?_)
  refine wpAny_bind (wpAny_seqItems hTI rfl ?_)
  show wpAny _ _ (Builtin.SmallTypes.ownedTupleIsFree (.ref z) >>= _) _ _ _
  refine wpAny_bind ?_
  unfold Builtin.SmallTypes.ownedTupleIsFree
  refine wpAny_bind (wpAny_field hz rfl (x := .none) rfl (wpAny_pure ?_))
  simp only [if_true]
  refine wpAny_bind (wpAny_rule ?_)
  refine wpAny_bind (wpAny_field hz rfl (x := .ref TO) rfl ?_)
  refine wpAny_bind (wpAny_setField_rec hz (by simp) fun h₁ hz₁ hs₁ => ?_)
  replace hz₁ : IsZip h₁ z TI TO .ellipsis := hz₁
  refine wpAny_bind ?_
  simp only [List.zipIdx_cons, List.zipIdx_nil, List.forIn_cons, List.forIn_nil]
  refine wpAny_bind (wpAny_bind (wpAny_onRaise ?_))
  show wpAny _ _ (Builtin.SmallTypes.nextOf (.ref i1) >>= _) _ _ _
  cases hx : xs[k1]? with
  | none =>
    refine wpAny_bind (RZ.nextOf_tuple_end hh (h1.extBut hs₁.extBut D.i1z) (hl1.extBut hs₁.extBut D.l1z) hx fun h₂ e hs₂ he => ?_)
    obtain ⟨oe, hoe, hce⟩ := he
    have hz₂ : IsZip h₂ z TI TO .ellipsis := hs₂ _ _ D.i1z.symm hz₁
    have hez : e ≠ z := fun x => by subst x; rw [hz₂] at hoe; cases hoe; simp at hce
    refine wpAny_setField_rec hz₂ (by simp) fun h₃ _ hs₃ => hE h₃ e (fun c o c1 _ c3 _ x => hs₃.extBut _ _ c1 (hs₂ _ _ c3 (hs₁.extBut _ _ c1 x))) ⟨oe, hs₃.extBut _ _ hez hoe, hce⟩
  | some x =>
    have hy : ys[k2]? = none := by rcases hend with h | h; rw [hx] at h; cases h; exact h
    refine wpAny_bind (RZ.nextOf_tuple_item (h1.extBut hs₁.extBut D.i1z) (hl1.extBut hs₁.extBut D.l1z) hx fun h₂ h1₂ hs₂ => wpAny_pure ?_)
    have hTO₂ : IsPair h₂ TO a b := hs₂.extBut _ _ D.TOi1 (hs₁.extBut _ _ D.TOz hTO)
    refine wpAny_bind (wpAny_seqItems hTO₂ rfl ?_)
    refine wpAny_bind (wpAny_updateSeq_pair hTO₂ fun h₃ hTO₃ hs₃ => ?_)
    refine wpAny_bind (wpAny_letGo (wpAny_pure ?_))
    refine wpAny_bind (wpAny_bind (wpAny_onRaise ?_))
    show wpAny _ _ (Builtin.SmallTypes.nextOf (.ref i2) >>= _) _ _ _
    refine wpAny_bind (wpAny_nextOf_list_end hh (((h2.extBut hs₁.extBut D.i2z).extBut hs₂.extBut D.i12.symm).extBut hs₃.extBut D.TOi2.symm)
      (((hl2.extBut hs₁.extBut D.l2z).extBut hs₂.extBut D.l2i1).extBut hs₃.extBut D.l2TO) hy fun h₄ e hs₄ he => ?_)
    obtain ⟨oe, hoe, hce⟩ := he
    have hz₄ : IsZip h₄ z TI TO .ellipsis := hs₄ _ _ D.i2z.symm (hs₃.extBut _ _ D.TOz.symm (hs₂.extBut _ _ D.i1z.symm hz₁))
    have hez : e ≠ z := fun x => by subst x; rw [hz₄] at hoe; cases hoe; simp at hce
    refine wpAny_setField_rec hz₄ (by simp) fun h₅ _ hs₅ => hE h₅ e (fun c o c1 c2 c3 c4 x => hs₅.extBut _ _ c1 (hs₄ _ _ c4 (hs₃.extBut _ _ c2 (hs₂.extBut _ _ c3 (hs₁.extBut _ _ c1 x))))) ⟨oe, hs₅.extBut _ _ hez hoe, hce⟩
theorem wpAny_pyNext_zip_item_TL {z TI TO i1 i2 l1 l2 : Addr} {k1 k2 : Nat} {xs ys : Array Value} {x y a b : Value} {Q : Option Value → Shared → Prop} (D : ZipApart z TI TO i1 i2 l1 l2)
    (hz : IsZip s.heap z TI TO .none) (hTI : IsPair s.heap TI (.ref i1) (.ref i2)) (hTO : IsPair s.heap TO a b)
    (h1 : s.heap.IsTupleIter i1 l1 k1) (h2 : s.heap.IsListIter i2 l2 k2) (hl1 : s.heap.IsTuple l1 xs) (hl2 : s.heap.IsList l2 ys) (hx : xs[k1]? = some x) (hy : ys[k2]? = some y)
    (hQ : ∀ h', IsZip h' z TI TO (rawInt s.heap.objs.size) → IsPair h' TO x y → h'.IsTupleIter i1 l1 (k1 + 1) → h'.IsListIter i2 l2 (k2 + 1) → IsPair h' s.heap.objs.size x y → h'.objs.size = s.heap.objs.size + 1 →
      (∀ c o, c ≠ z → c ≠ TO → c ≠ i1 → c ≠ i2 → s.heap.get? c = some o → h'.get? c = some o) → Q (some (.ref s.heap.objs.size)) { s with heap := h' }) :
    wpAny (model prog w) A (pyNext (.ref z)) Q E s := by
  have hT : s.TypeIs (.ref z) "zip" := ⟨_, hz, rfl⟩
  unfold pyNext
  exact wpAny_bind (wpAny_attempt (wpAny_callSpecial?_slot (name := Str.ofString "__next__") hT F.slot_zip_next
    (wpAny_call_entry F.slot_zip_next hT F.entry_zip_next
      (zip_next_item_TL D hz hTI hTO h1 h2 hl1 hl2 hx hy fun h' a1 a2 a3 a4 a5 a6 a7 => wpAny_pure (hQ h' a1 a2 a3 a4 a5 a6 a7)) (F.args_zip_next_1 _))))
theorem wpAny_pyNext_zip_end_TL {z TI TO i1 i2 l1 l2 : Addr} {k1 k2 : Nat} {xs ys : Array Value} {a b : Value} {Q : Option Value → Shared → Prop} (hh : A.handled = none) (D : ZipApart z TI TO i1 i2 l1 l2)
    (hz : IsZip s.heap z TI TO .none) (hTI : IsPair s.heap TI (.ref i1) (.ref i2)) (hTO : IsPair s.heap TO a b)
    (h1 : s.heap.IsTupleIter i1 l1 k1) (h2 : s.heap.IsListIter i2 l2 k2) (hl1 : s.heap.IsTuple l1 xs) (hl2 : s.heap.IsList l2 ys) (hend : xs[k1]? = none ∨ ys[k2]? = none)
    (hQ : ∀ h', (∀ c o, c ≠ z → c ≠ TO → c ≠ i1 → c ≠ i2 → s.heap.get? c = some o → h'.get? c = some o) → Q none { s with heap := h' }) : wpAny (model prog w) A (pyNext (.ref z)) Q E s := by
  have hT : s.TypeIs (.ref z) "zip" := ⟨_, hz, rfl⟩
  unfold pyNext
  refine wpAny_bind (wpAny_attempt (wpAny_callSpecial?_slot (name := Str.ofString "__next__") hT F.slot_zip_next
    (wpAny_call_entry F.slot_zip_next hT F.entry_zip_next (zip_next_end_TL hh D hz hTI hTO h1 h2 hl1 hl2 hend fun h' e hk he => ?_) (F.args_zip_next_1 _))))
  obtain ⟨o, ho, hc⟩ := he
  refine wpAny_bind (wpAny_isInstance (T := "StopIteration") (b := true) ⟨o, ho, hc⟩ isSubtype_stop ?_)
  exact wpAny_pure (hQ _ hk)
end
abbrev zipH1_TL (h : Heap) (l1 : Addr) : Heap := h.push { cls := .type "tuple_iterator", data := .fields #[.ref l1, .int 0 0] }
abbrev zipH2_TL (h : Heap) (l1 l2 : Addr) : Heap := (zipH1_TL h l1).push { cls := .type "list_iterator", data := .fields #[.ref l2, .int 0 0] }
abbrev zipH3_TL (h : Heap) (l1 l2 : Addr) : Heap := (zipH2_TL h l1 l2).push { cls := .type "tuple", data := .seq #[.ref h.objs.size, .ref (zipH1_TL h l1).objs.size] }
abbrev zipH4_TL (h : Heap) (l1 l2 : Addr) : Heap := (zipH3_TL h l1 l2).push { cls := .type "tuple", data := .seq #[.none, .none] }
abbrev zipH5_TL (h : Heap) (l1 l2 : Addr) : Heap := (zipH4_TL h l1 l2).push { cls := .type "zip", data := .fields #[.none, .bool false, .bool false, .ref (zipH2_TL h l1 l2).objs.size, .ref (zipH3_TL h l1 l2).objs.size] }
theorem meets_zip_new_TL (l1 l2 : Addr) (xs ys : Array Value) :
    Meets (Builtin.«zip.__new__» ⟨[.type "zip", .ref l1, .ref l2], []⟩) (fun _ R s => s.heap.IsTuple l1 xs ∧ s.heap.IsList l2 ys ∧
      R (.ok (.ret (.ref (zipH4_TL s.heap l1 l2).objs.size))) { s with heap := zipH5_TL s.heap l1 l2 }) :=
  .of_wp fun prog w A R s h => by
    obtain ⟨hp, g, d, tk, os⟩ := s; obtain ⟨hl1, hl2, h⟩ := h
    have hsub := sub_zip
    have hL1 : Heap.IsTuple (Shared.heap ⟨hp, g, d, tk, os⟩) l1 xs := hl1
    have hL2 : Heap.IsList (Shared.heap ⟨hp.push { cls := .type "tuple_iterator", data := .fields #[.ref l1, .int 0 0] }, g, d, tk, os⟩) l2 ys := Heap.IsList.push hl2 _
    wp_walk using wpAny_pyIter_tuple hL1, wpAny_pyIter_list hL2
    exact ⟨_, rfl, h⟩
section
variable {prog : Program} {w : World} {A : Around} {E : Value → Shared → Prop} {s : Shared}
theorem call_zip_2_TL {l1 l2 : Addr} {xs ys : Array Value} {Q : Value → Shared → Prop} (hl1 : s.heap.IsTuple l1 xs) (hl2 : s.heap.IsList l2 ys)
    (h : ∀ h', IsZip h' (s.heap.objs.size + 4) (s.heap.objs.size + 2) (s.heap.objs.size + 3) .none → IsPair h' (s.heap.objs.size + 2) (.ref s.heap.objs.size) (.ref (s.heap.objs.size + 1)) →
      IsPair h' (s.heap.objs.size + 3) .none .none → h'.IsTupleIter s.heap.objs.size l1 0 → h'.IsListIter (s.heap.objs.size + 1) l2 0 → h'.objs.size = s.heap.objs.size + 5 →
      (∀ c o, s.heap.get? c = some o → h'.get? c = some o) → Q (.ref (s.heap.objs.size + 4)) { s with heap := h' }) :
    wpAny (model prog w) A (call (.type "zip") [.ref l1, .ref l2]) Q E s := by
  refine callType_new F.called_zip (by decide) (F.typeCall_zip_2 _ _) (F.newCall_zip_2 _ _) (fun obj => F.args_object_init_3 obj _ _) F.entry_zip_new
    (meets_zip_new_TL l1 l2 xs ys) ⟨hl1, hl2, ?_⟩
  have z1 : (zipH1_TL s.heap l1).objs.size = s.heap.objs.size + 1 := Heap.size_push ..
  have z2 : (zipH2_TL s.heap l1 l2).objs.size = s.heap.objs.size + 2 := by rw [Heap.size_push, z1]
  have z3 : (zipH3_TL s.heap l1 l2).objs.size = s.heap.objs.size + 3 := by rw [Heap.size_push, z2]
  have z4 : (zipH4_TL s.heap l1 l2).objs.size = s.heap.objs.size + 4 := by rw [Heap.size_push, z3]
  have z5 : (zipH5_TL s.heap l1 l2).objs.size = s.heap.objs.size + 5 := by rw [Heap.size_push, z4]
  have g5 : (zipH5_TL s.heap l1 l2).get? (zipH4_TL s.heap l1 l2).objs.size = some _ := Heap.get?_push_size _ rfl
  have g4 : (zipH5_TL s.heap l1 l2).get? (zipH3_TL s.heap l1 l2).objs.size = some _ := Heap.get?_push_of_some _ (Heap.get?_push_size _ rfl)
  have g3 : (zipH5_TL s.heap l1 l2).get? (zipH2_TL s.heap l1 l2).objs.size = some _ := Heap.get?_push_of_some _ (Heap.get?_push_of_some _ (Heap.get?_push_size _ rfl))
  have g2 : (zipH5_TL s.heap l1 l2).get? (zipH1_TL s.heap l1).objs.size = some _ := Heap.get?_push_of_some _ (Heap.get?_push_of_some _ (Heap.get?_push_of_some _ (Heap.get?_push_size _ rfl)))
  have g1 : (zipH5_TL s.heap l1 l2).get? s.heap.objs.size = some _ := Heap.get?_push_of_some _ (Heap.get?_push_of_some _ (Heap.get?_push_of_some _ (Heap.get?_push_of_some _ (Heap.get?_push_size _ rfl))))
  show _ ∧ _
  rw [z2, z3, z4] at g5
  rw [z1, z2] at g3
  rw [z3] at g4
  rw [z1] at g2
  rw [z4]
  exact ⟨⟨_, g5, rfl⟩, h _ g5 g3 g4 ⟨_, g1, rfl, rfl⟩ ⟨_, g2, rfl, rfl⟩ z5 fun c o x =>
    Heap.get?_push_of_some _ (Heap.get?_push_of_some _ (Heap.get?_push_of_some _ (Heap.get?_push_of_some _ (Heap.get?_push_of_some _ x))))⟩
end
end EZ
namespace EZ
open PySem
open PySem.Sem (wp)
/-- the pairs that are out: their addresses rise, each stands in the heap -/
structure Out (S : Addr) (wr : List Addr) (h : Heap) (R : Nat → Value → Value → Prop) (Ts : List Addr) : Prop where
  above : ∀ T ∈ Ts, S < T ∧ T ∉ wr
  rise : Ts.Pairwise (· < ·)
  pair : ∀ j T, Ts[j]? = some T → ∃ x y, R j x y ∧ IsPair h T x y
theorem Out.keep {S : Addr} {wr : List Addr} {h h' : Heap} {R : Nat → Value → Value → Prop} {Ts : List Addr} (o : Out S wr h R Ts) (k : ∀ b ob, b ≠ S → b ∉ wr → h.get? b = some ob → h'.get? b = some ob) : Out S wr h' R Ts := ⟨o.above, o.rise, fun j T hj => by
  obtain ⟨x, y, r, p⟩ := o.pair j T hj
  obtain ⟨a1, a2⟩ := o.above T (List.mem_of_getElem? hj)
  exact ⟨x, y, r, k T _ (Nat.ne_of_gt a1) a2 p⟩⟩
end EZ
namespace EA
open PySem PySem.Spec PyProof.Rows L2
/-! ### list(zip(a, b)), sum of numbers -/
def zipD (xs ys : List PyData) : List PyData := (xs.zip ys).map fun q => .tuple [q.1, q.2]
end EA
namespace EA
open PySem PySem.Spec PyProof.Rows L2
/-! ### list(text), sum of numbers -/
def signsV (x : Str) : List V := x.cps.toList.map fun c => .str ⟨#[c]⟩
def signsD (x : Str) : List PyData := x.cps.toList.map fun c => .str ⟨#[c]⟩
def rListT : List V → Hp → VK → Prop := fun xs H Q => ∃ x, xs = [.str x] ∧ x.length ≤ sizeLine ∧ ∀ p, H p = none → Q (.ref p) (upd H p (.lst (signsV x)))
section
variable {X : Cx} {K : PySem.W.Frag}
theorem vals_of_at : ∀ {cs : List Nat} {its : List Value}, its.length = cs.length → (∀ (j : Nat) v, its[j]? = some v → ∃ c t, cs[j]? = some c ∧ v = .str ⟨#[c]⟩ t) → Vals (cs.map fun c => V.str ⟨#[c]⟩) its
  | [], [], _, _ => .nil
  | c :: cs, v :: its, hl, h => by
    obtain ⟨c', t, e1, e2⟩ := h 0 v rfl
    cases e1
    exact .cons ⟨t, e2⟩ (vals_of_at (by simpa using hl) fun j v hj => h (j + 1) v (by simpa using hj))
theorem call_listT (hc : X.calm = true) : CallR X (.type "list") rListT := by
  intro pins s σ H xs us Q I r h
  obtain ⟨x, rfl, hz, q⟩ := h
  obtain ⟨u, rfl, rx⟩ := vals1 r
  obtain ⟨t, rfl⟩ := rx
  refine call_list_str (I.ok.hd hc) x t (fun h' tk acc c hk hS hacc => ?_) hz
  have hl : (signsV x).length ≤ sizeLine := by unfold signsV; rw [List.length_map, Array.length_toList]; exact hz
  refine ⟨.ref s.heap.objs.size, upd H s.heap.objs.size (.lst (signsV x)), I.laid (t' := tk) hk (Nat.le_refl _) ⟨hl, acc.toList, c, vals_of_at (by rw [Array.length_toList, hacc.1, Array.length_toList]) (fun j v hj => ?_), by rw [Array.toArray_toList]; exact hS⟩, rfl, q _ (I.hok.fresh (Nat.le_refl _))⟩
  have hs := hacc.2 j v (by simpa using hj)
  obtain ⟨c0, u, e1, e2⟩ := hs
  exact ⟨c0, u, by simpa using e1, e2⟩
def gSgn (ws : List W3) : Option (List PyData) := match ws with
  | [.d (.str x)] => if x.length ≤ 100000 then some (signsD x) else none
  | _ => none
def gLst4 (S : List MO) (ws : List W3) : Option (List PyData) := (gLst3 S ws).or (gSgn ws)
def rLst4 (K : PySem.W.Frag) : List V → Hp → VK → Prop := fun xs H Q => rLst3 K xs H Q ∨ rListT xs H Q
theorem signs_da {G : Hp} (x : Str) : DaA K G (signsV x) (signsD x) := by
  unfold signsV signsD
  induction x.cps.toList with
  | nil => exact .nil
  | cons c r ih => exact .cons (.str _) ih
theorem nk_lst4 : NkOk K (rLst4 K) gLst4 := by
  intro A S ws vs d Q R rs e q
  unfold gLst4 at e
  cases h : gLst3 S ws with
  | some z => rw [h] at e; cases e; exact .inl (nk_lst3 A S ws vs _ Q R rs h q)
  | none =>
    rw [h] at e
    replace e : gSgn ws = some d := e
    clear h
    unfold gSgn at e
    split at e
    · rename_i x
      by_cases z : x.length ≤ 100000
      · rw [if_pos z] at e
        cases e
        cases rs with
        | cons r rr =>
          cases rr
          cases Da.str_inv r
          exact .inr ⟨x, rfl, Nat.le_trans z (by decide), fun p hp => new_of R (signs_da x) q p hp⟩
      · rw [if_neg z] at e; cases e
    · cases e
theorem cr_lst4 (hK : X.K = K) (hc : X.calm = true) : CallR X (.type "list") (rLst4 K) := CallR.or (cr_lst3 hK hc) (call_listT hc)
end
end EA
namespace EA
open PySem PySem.Spec PyProof.Rows L2
/-! ### rules for S14 to S16 -/
section
variable {S : List MO} {QL : List PyData → Prop} {P : PyData → Prop}
theorem wp_l4 {ws : List W3} (h : Wp (gLst3 S ws) QL) : Wp (gLst4 S ws) QL := by
  obtain ⟨a, e, q⟩ := h
  exact ⟨a, by unfold gLst4; rw [e]; rfl, q⟩
theorem wp_l4s {x : Str} (hl : x.length ≤ 100000) (h : QL (signsD x)) : Wp (gLst4 S [.d (.str x)]) QL := ⟨signsD x, by
  show (none : Option (List PyData)).or (gSgn [.d (.str x)]) = _
  show gSgn [.d (.str x)] = _
  unfold gSgn
  exact if_pos hl, h⟩
variable {sl : Sl} {Q : W3 → List MO → Prop} {QT : Bool → List MO → Prop} {QN : List PyData → List MO → Prop}
theorem wp_dgx {o i : FE} (h : Wp2 (o sl S) fun p1 p2 => Wp2 (i sl p2) fun q1 q2 => ∃ y k kvs d, q1 = .d y ∧ keyD y = some k ∧ dicAt q2 p1 = some kvs ∧ valD kvs k = some d ∧ Q (.d d) q2) : Wp2 (eDG o i sl S) Q := by
  obtain ⟨⟨p1, p2⟩, e1, ⟨q1, q2⟩, e2, y, k, kvs, d, h1, h2, h3, h4, q⟩ := h
  dsimp only at e2 h1 h3 q
  subst h1
  refine ⟨(.d d, q2), ?_, q⟩
  unfold eDG
  rw [e1]
  simp only [Option.bind_some, e2, h2, h3, h4, Option.map_some]
end
end EA
namespace EA
open PySem PySem.Spec PyProof.Rows L2
noncomputable def f3_stirred : F3 := fdef false 2 2
  (sSeq (sSet 2 (eOp gMod (eB (g1 intD) (aCons (eOp gAdd (eOp gAdd (eOp gMul (eVar 0) (eD (.int (48017)))) (eOp gMul (eVar 1) (eD (.int (8821))))) (eD (.int (70001)))) aNil)) (eD (.int (2147483423)))))
  (sSeq (sSet 3 (eOp gMod (eB (g1 intD) (aCons (eOp gAdd (eOp gAdd (eOp gMul (eVar 2) (eVar 2)) (eOp gMul (eVar 1) (eD (.int (60017))))) (eOp gFdiv (eVar 2) (eD (.int (151))))) aNil)) (eD (.int (2147483477)))))
  (sRt (eOp gFdiv (eB (g1 intD) (aCons (eOp gMod (eB (g1 intD) (aCons (eOp gAdd (eOp gMul (eVar 3) (eD (.int (51199)))) (eOp gFdiv (eVar 2) (eD (.int (17))))) aNil)) (eD (.int (2147483549)))) aNil)) (eD (.int (128)))))))
noncomputable def f3_take : F3 := fdef false 2 2
  (sSeq (sIf (tAn (tCmp gEq (eOp gIx (eVar 0) (eD (.int (2)))) (eD (.int (0)))) (tCmp gLt (eOp gIx (eVar 0) (eD (.int (1)))) (eB gLen (aCons (eOp gIx (eVar 0) (eD (.int (0)))) aNil))))
  (sSeq (sSet 2 (eOp gIx (eOp gIx (eVar 0) (eD (.int (0)))) (eOp gIx (eVar 0) (eD (.int (1))))))
  (sSeq (sAsg (eOp gAdd (eOp gIx (eVar 0) (eD (.int (1)))) (eD (.int (1)))) (gSubL (eVar 0) (eD (.int (1)))))
  (sSeq (sIf (tCmp gLt (eVar 2) (eOp gPow (eD (.int (10))) (eD (.int (18)))))
  (sRt (eOp gMod (eB (g1 intD) (aCons (eCall f3_stirred (aCons (eOp gMod (eB (g1 intD) (aCons (eVar 2) aNil)) (eD (.int (2147483423)))) (aCons (eOp gIx (eVar 0) (eD (.int (1)))) aNil))) aNil)) (eVar 1)))
  sNx)
  (sAsg (eVar 2) (gSubL (eVar 0) (eD (.int (2))))))))
  sNx)
  (sSeq (sIf (tCmp gGt (eOp gIx (eVar 0) (eD (.int (2)))) (eD (.int (0))))
  (sSeq (sSet 3 (eOp gIx (eVar 0) (eD (.int (2)))))
  (sSeq (sAsg (eOp gFdiv (eB (g1 intD) (aCons (eVar 3) aNil)) (eVar 1)) (gSubL (eVar 0) (eD (.int (2)))))
  (sRt (eOp gMod (eB (g1 intD) (aCons (eVar 3) aNil)) (eVar 1)))))
  sNx)
  (sSeq (sAsg (eOp gMod (eB (g1 intD) (aCons (eOp gAdd (eOp gIx (eVar 0) (eD (.int (3)))) (eD (.int (1)))) aNil)) (eD (.int (2147483477)))) (gSubL (eVar 0) (eD (.int (3)))))
  (sRt (eOp gMod (eB (g1 intD) (aCons (eCall f3_stirred (aCons (eOp gIx (eVar 0) (eD (.int (3)))) (aCons (eOp gIx (eVar 0) (eD (.int (1)))) aNil))) aNil)) (eVar 1))))))
noncomputable def f3_shuffled : F3 := fdef false 2 2
  (sSeq (sSet 2 (eNo (nB gLst4 (aCons (eVar 1) aNil))))
  (sRt (eNd (nLc [3] (iR1 (aCons (eB gLen (aCons (eVar 2) aNil)) aNil)) (gNm 3) tYes3 (eM mPopAt (eVar 2) (aCons (eCall f3_take (aCons (eVar 0) (aCons (eB gLen (aCons (eVar 2) aNil)) aNil))) aNil))))))
noncomputable def f3_whole : F3 := fdef false 1 0
  (sRt (eAn (eB gIsi (aCons (eVar 0) (aCons (eTy "int") aNil))) (eNot (eB gIsi (aCons (eVar 0) (aCons (eTy "bool") aNil))))))
noncomputable def f3_hand : F3 := fdef true 1 3
  (sSeq (sSet 1 (eOp gAdd (eOp gMul (eB gLen (aCons (eVar 0) aNil)) (eD (.int (37)))) (eD (.int (101)))))
  (sSeq (sSet 2 (eNo (nLst aNil)))
  (sSeq (sFor (iSq (eVar 0)) (gNm 3)
  (sSeq (sSet 1 (eOp gMod (eB (g1 intD) (aCons (eOp gAdd (eOp gMul (eVar 1) (eD (.int (2011)))) (eB (g1 intD) (aCons (eVar 3) aNil))) aNil)) (eD (.int (2147483543)))))
  (sEx (eM mApp (eVar 2) (aCons (eB (g1 absD) (aCons (eB (g1 intD) (aCons (eVar 3) aNil)) aNil)) aNil)))))
  (sRt (eNo (nLst (aCons (eFrz (eVar 2)) (aCons (eD (.int (0))) (aCons (eD (.int (0))) (aCons (eVar 1) aNil))))))))))
local macro_rules | `(tactic| walk_at "ix") => `(tactic| first | rfl | exact atI_cons0 | exact atI_map0)
local macro_rules | `(tactic| walk_at "st") => `(tactic| first | assumption | rfl | exact get_set (by assumption) | exact get_set (get_set (by assumption)) | exact get_last | exact get_setlast | exact get_setapp (by assumption) | exact get_app (by assumption) | exact get_app (get_set (by assumption)))
local macro_rules | `(tactic| walk_at "tk") => `(tactic| first | exact List.take_length | exact take_set | exact take_set2 | exact take_set3 | exact take_app | exact take_aset | exact take_setapp | rfl)
local macro_rules | `(tactic| walk_at "sd") => `(tactic| first | omega | assumption | decide)
local macro_rules | `(tactic| walk_at "wp1") => `(tactic| first
  | with_reducible refine wp_seq ?_ | with_reducible refine th_nx ?_ | with_reducible refine th_rt ?_ | with_reducible refine th_bk ?_ | with_reducible refine th_ct ?_
  | with_reducible refine wp_set ?_ | with_reducible refine wp_ex ?_ | with_reducible refine wp_rt ?_ | with_reducible refine wp_rtn ?_ | with_reducible refine wp_sif ?_ | with_reducible refine wp_asg ?_
  | with_reducible refine wp_for ?_ | with_reducible refine wp_pr ?_ | with_reducible refine pairW_i ?_ | with_reducible refine lq_nx ?_ | with_reducible refine lq_ct ?_ | with_reducible refine lq_bk ?_ | with_reducible refine lq_rt ?_ | with_reducible refine wp_dp ?_ | with_reducible refine wp_nx ?_ | with_reducible refine wp_bk ?_ | with_reducible refine wp_ct ?_
  | ((with_reducible apply wp_var); rfl) | with_reducible refine wp_d ?_ | with_reducible refine wp_ty ?_ | with_reducible refine wp_fz ?_ | with_reducible refine fz_d ?_ | ((with_reducible apply fz_r); (walk_at "st")) | with_reducible refine wp_nil ?_ | with_reducible refine wp_cons ?_
  | with_reducible refine wp_tup ?_ | with_reducible refine wp_nlst ?_ | with_reducible refine wp_ds0 ?_ | with_reducible refine wp_ds1 ?_ | with_reducible refine wp_nd ?_ | with_reducible refine wp_no ?_
  | with_reducible refine wp_gnm ?_ | with_reducible refine wp_gtp ?_ | with_reducible refine wp_gsn ?_ | with_reducible refine wp_gsc ?_ | with_reducible refine wp_gs ?_
  | with_reducible refine wp_ty3 ?_ | with_reducible refine datW_i ?_ | with_reducible refine wp_lc ?_ | with_reducible refine wp_ecmp ?_ | with_reducible refine wp_tcmp ?_ | with_reducible refine wp_ttr ?_ | with_reducible refine wp_not ?_ | with_reducible refine wp_tnt ?_ | with_reducible refine wp_tan ?_ | with_reducible refine wp_tor ?_
  | with_reducible refine wp_an ?_ | with_reducible refine boolW_i ?_ | with_reducible refine wp_or ?_ | with_reducible refine wp_eif ?_ | with_reducible refine wp_op ?_ | with_reducible refine wp_nop ?_ | with_reducible refine wp_onone ?_ | with_reducible refine wp_os ?_ | with_reducible refine intW_i ?_
  | with_reducible refine wp_esl ?_ | with_reducible refine wp_nsl ?_ | with_reducible refine wp_b ?_ | with_reducible refine wp_nb ?_ | with_reducible refine wp_call ?_ | with_reducible refine wp_sq ?_ | with_reducible refine sq_l ?_ | with_reducible refine sq_t ?_ | with_reducible refine sq_sc ?_ | ((with_reducible apply sq_r); (walk_at "st")) | with_reducible refine wp_r1 ?_ | with_reducible refine wp_r2 ?_ | with_reducible refine wp_irv ?_
  | with_reducible refine wp_me ?_ | with_reducible refine wp_join ?_ | with_reducible refine wp_dn ?_
  | with_reducible refine wp_viewd ?_ | ((with_reducible apply wp_viewr); (walk_at "st")) | ((with_reducible apply wp_lat); (walk_at "st")))
local macro_rules | `(tactic| walk_at "wp") => `(tactic| first
  | walk_at "wp1"
  | ((with_reducible apply atSet_i); (walk_at "st"); rfl) | ((with_reducible apply atLst_i); (walk_at "st")) | ((with_reducible apply nowLst_i); (walk_at "st"))
  | ((with_reducible refine wp_l4s ?_ ?_); (first | omega | assumption | decide +kernel)) | with_reducible refine wp_l4 ?_ | with_reducible refine wp_l3l ?_ | with_reducible refine wp_l3t ?_ | ((with_reducible apply wp_l3r); (walk_at "st")) | ((with_reducible refine rng1_i ?_ ?_); (walk_at "sd")) | ((with_reducible refine rng2_i ?_ ?_); (walk_at "sd"))
  | with_reducible refine wp_addi ?_ | with_reducible refine wp_sub ?_ | ((with_reducible refine wp_mod ?_ ?_); (walk_at "sd")) | ((with_reducible refine wp_fdiv ?_ ?_); (walk_at "sd")) | ((with_reducible refine wp_mulr ?_ ?_); (walk_at "sd")) | ((with_reducible refine wp_mull ?_ ?_); (walk_at "sd")) | ((with_reducible refine wp_pow ?_ ?_); (walk_at "sd"))
  | with_reducible refine wp_int ?_ | with_reducible refine wp_abs ?_
  | ((with_reducible apply wp_ixd); (walk_at "ix")) | ((with_reducible apply wp_ixt); (walk_at "ix")) | ((with_reducible apply wp_ixr); (walk_at "st"); (walk_at "ix"))
  | with_reducible refine wp_lenl ?_ | with_reducible refine wp_lent ?_ | with_reducible refine wp_lensc ?_ | ((with_reducible apply wp_lenr); (walk_at "st"))
  | with_reducible refine wp_geqi ?_ | with_reducible refine wp_gnei ?_ | with_reducible refine wp_glti ?_ | with_reducible refine wp_ggti ?_ | with_reducible refine wp_glei ?_ | with_reducible refine wp_ggei ?_ | with_reducible refine wp_glts ?_ | with_reducible refine wp_ggts ?_
  | with_reducible refine is_bt_bt ?_ | with_reducible refine isn_bt_bt ?_ | with_reducible refine is_bt_bf ?_ | with_reducible refine isn_bt_bf ?_ | with_reducible refine is_bt_n ?_ | with_reducible refine isn_bt_n ?_ | with_reducible refine is_bf_bt ?_ | with_reducible refine isn_bf_bt ?_ | with_reducible refine is_bf_bf ?_ | with_reducible refine isn_bf_bf ?_ | with_reducible refine is_bf_n ?_ | with_reducible refine isn_bf_n ?_ | with_reducible refine is_n_bt ?_ | with_reducible refine isn_n_bt ?_ | with_reducible refine is_n_bf ?_ | with_reducible refine isn_n_bf ?_ | with_reducible refine is_n_n ?_ | with_reducible refine isn_n_n ?_ | with_reducible refine is_t_bt ?_ | with_reducible refine isn_t_bt ?_ | with_reducible refine is_t_bf ?_ | with_reducible refine isn_t_bf ?_ | with_reducible refine is_t_n ?_ | with_reducible refine isn_t_n ?_ | with_reducible refine is_l_bt ?_ | with_reducible refine isn_l_bt ?_ | with_reducible refine is_l_bf ?_ | with_reducible refine isn_l_bf ?_ | with_reducible refine is_l_n ?_ | with_reducible refine isn_l_n ?_ | with_reducible refine is_i_bt ?_ | with_reducible refine isn_i_bt ?_ | with_reducible refine is_i_bf ?_ | with_reducible refine isn_i_bf ?_ | with_reducible refine is_i_n ?_ | with_reducible refine isn_i_n ?_ | with_reducible refine is_s_bt ?_ | with_reducible refine isn_s_bt ?_ | with_reducible refine is_s_bf ?_ | with_reducible refine isn_s_bf ?_ | with_reducible refine is_s_n ?_ | with_reducible refine isn_s_n ?_
  | ((with_reducible refine wp_gis ?_ ?_); rfl) | ((with_reducible refine wp_gisn ?_ ?_); rfl) | with_reducible refine wp_trub ?_ | ((with_reducible refine isi_t (r := true) ?_ ?_); (decide +kernel)) | ((with_reducible refine isi_t (r := false) ?_ ?_); (decide +kernel)) | ((with_reducible refine isi_b (r := true) ?_ ?_); (decide +kernel)) | ((with_reducible refine isi_b (r := false) ?_ ?_); (decide +kernel)) | ((with_reducible refine isi_i (r := true) ?_ ?_); (decide +kernel)) | ((with_reducible refine isi_i (r := false) ?_ ?_); (decide +kernel)) | ((with_reducible refine isi_s (r := true) ?_ ?_); (decide +kernel)) | ((with_reducible refine isi_s (r := false) ?_ ?_); (decide +kernel)) | ((with_reducible refine isi_l (r := true) ?_ ?_); (decide +kernel)) | ((with_reducible refine isi_l (r := false) ?_ ?_); (decide +kernel)) | ((with_reducible refine isi_n (r := true) ?_ ?_); (decide +kernel)) | ((with_reducible refine isi_n (r := false) ?_ ?_); (decide +kernel))
  | with_reducible refine wp_tupl ?_ | with_reducible refine wp_tupt ?_ | ((with_reducible apply wp_tupr); (walk_at "st"))
  | with_reducible refine ite2 (fun _ => ?_) (fun z => absurd rfl z)
  | with_reducible refine ite2 (fun z => absurd z Bool.false_ne_true) (fun _ => ?_)
  | ((with_reducible apply rq_dt); (walk_at "tk")) | ((with_reducible apply rq_nxt); (walk_at "tk")))
local macro_rules | `(tactic| walk_at "fdef") => `(tactic| (refine wp_fdef rfl ?_; simp only [List.map_cons, List.map_nil, List.replicate_succ, List.replicate_zero, List.cons_append, List.nil_append]))
theorem stirred3 {S : List MO} {n t : Int} (n0 : 0 ≤ n) (n1 : n < 2147483543) (t0 : 0 ≤ t) (t1 : t ≤ 64) {Q : W3 → List MO → Prop} (q : ∀ v : Int, 0 ≤ v → Q (.d (.int v)) S) : Wp2 (f3_stirred [.d (.int n), .d (.int t)] S) Q := by
  have a0 := Int.emod_nonneg (n * 48017 + t * 8821 + 70001) (by decide : (2147483423 : Int) ≠ 0)
  have a1 := Int.emod_lt_of_pos (n * 48017 + t * 8821 + 70001) (by decide : (0 : Int) < 2147483423)
  unfold f3_stirred
  walk_at "fdef"
  repeat walk_at "wp"
  generalize (n * 48017 + t * 8821 + 70001) % 2147483423 = a at a0 a1
  exact q _ (Int.ediv_nonneg (Int.emod_nonneg _ (by decide)) (by decide))
def HandO (o : List PyData) : Prop := ∃ (cells : List Int) (at_ rest seed : Int), o = [.list (cells.map .int), .int at_, .int rest, .int seed] ∧ cells.length ≤ 63 ∧ (∀ x ∈ cells, 0 ≤ x) ∧ 0 ≤ at_ ∧ at_ ≤ 63 ∧ 0 ≤ rest ∧ 0 ≤ seed ∧ seed < 2147483543
theorem take3 {S : List MO} {h : Nat} {o : List PyData} {m : Int} (hh : S[h]? = some (.lst o)) (ho : HandO o) (m0 : 0 < m) (m1 : m < 1073741824) {Q : W3 → List MO → Prop} (q : ∀ (v : Int) (o' : List PyData), 0 ≤ v → v < m → HandO o' → Q (.d (.int v)) (S.set h (.lst o'))) : Wp2 (f3_take [.r h, .d (.int m)] S) Q := by
  obtain ⟨cells, at_, rest, seed, rfl, cl, c0, a0, a1, r0, s0, s1⟩ := ho
  have fin : ∀ (at_' rest' seed' z : Int), 0 ≤ at_' → at_' ≤ 63 → 0 ≤ rest' → 0 ≤ seed' → seed' < 2147483543 → Q (.d (.int (z % m))) (S.set h (.lst [.list (cells.map .int), .int at_', .int rest', .int seed'])) := fun at_' rest' seed' z b0 b1 b2 b3 b4 =>
    q _ _ (Int.emod_nonneg _ (by omega)) (Int.emod_lt_of_pos _ m0) ⟨cells, at_', rest', seed', rfl, cl, c0, b0, b1, b2, b3, b4⟩
  unfold f3_take
  walk_at "fdef"
  repeat walk_at "wp"
  refine ite2 (fun c1 => ?_) (fun c1 => ?_)
  · repeat walk_at "wp"
    refine ite2 (fun c2 => ?_) (fun c2 => ?_)
    · have c2' : at_ < ((cells.map PyData.int).length : Int) := of_decide_eq_true c2
      rw [List.length_map] at c2'
      have hk : at_.toNat < cells.length := by omega
      have x0 := c0 _ (List.getElem_mem hk)
      have ei : atI (cells.map PyData.int) at_ = some (.int cells[at_.toNat]) := atI_of a0 (by rw [List.getElem?_map, List.getElem?_eq_getElem hk]; rfl)
      repeat walk_at "wp"
      refine wp_ixd ei ?_
      repeat walk_at "wp"
      refine ite2 (fun c3 => ?_) (fun c3 => ?_)
      · have y0 := Int.emod_nonneg cells[at_.toNat] (by decide : (2147483423 : Int) ≠ 0)
        have y1 := Int.emod_lt_of_pos cells[at_.toNat] (by decide : (0 : Int) < 2147483423)
        repeat walk_at "wp"
        refine stirred3 y0 (by omega) (by omega) (by omega) fun v v0 => ?_
        repeat walk_at "wp"
        exact fin (at_ + 1) rest seed v (by omega) (by omega) r0 s0 s1
      · have c3' : ¬ cells[at_.toNat] < (10 : Int) ^ (18 : Int).toNat := fun z => c3 (decide_eq_true z)
        have d3 : ¬ cells[at_.toNat] < 1000000000000000000 := c3'
        repeat walk_at "wp"
        refine ite2 (fun c4 => ?_) (fun c4 => ?_)
        · repeat walk_at "wp"
          exact fin (at_ + 1) (cells[at_.toNat] / m) seed _ (by omega) (by omega) (Int.ediv_nonneg x0 (by omega)) s0 s1
        · exact absurd (show decide ((0 : Int) < cells[at_.toNat]) = true from decide_eq_true (by omega)) c4
    · repeat walk_at "wp"
      refine ite2 (fun c4 => ?_) (fun c4 => ?_)
      · have c4' : 0 < rest := of_decide_eq_true c4
        repeat walk_at "wp"
        exact fin at_ (rest / m) seed _ a0 a1 (Int.ediv_nonneg r0 (by omega)) s0 s1
      · have y0 := Int.emod_nonneg (seed + 1) (by decide : (2147483477 : Int) ≠ 0)
        have y1 := Int.emod_lt_of_pos (seed + 1) (by decide : (0 : Int) < 2147483477)
        repeat walk_at "wp"
        refine stirred3 y0 (by omega) (by omega) (by omega) fun v v0 => ?_
        repeat walk_at "wp"
        exact fin at_ rest ((seed + 1) % 2147483477) _ a0 a1 r0 y0 (by omega)
  · repeat walk_at "wp"
    refine ite2 (fun c4 => ?_) (fun c4 => ?_)
    · have c4' : 0 < rest := of_decide_eq_true c4
      repeat walk_at "wp"
      exact fin at_ (rest / m) seed _ a0 a1 (Int.ediv_nonneg r0 (by omega)) s0 s1
    · have y0 := Int.emod_nonneg (seed + 1) (by decide : (2147483477 : Int) ≠ 0)
      have y1 := Int.emod_lt_of_pos (seed + 1) (by decide : (0 : Int) < 2147483477)
      repeat walk_at "wp"
      refine stirred3 y0 (by omega) (by omega) (by omega) fun v v0 => ?_
      repeat walk_at "wp"
      exact fin at_ rest ((seed + 1) % 2147483477) _ a0 a1 r0 y0 (by omega)
/-- the hand of a script -/
theorem hand3 {S : List MO} {ns : List Int} (hl : ns.length ≤ 63) {Q : W3 → List MO → Prop} (q : ∀ o : List PyData, HandO o → Q (.r S.length) (S ++ [.lst o])) : Wp2 (f3_hand [.sc ns] S) Q := by
  unfold f3_hand
  walk_at "fdef"
  repeat walk_at "wp"
  refine wp_loop (n := 0) (fun i sl S' => ∃ (t : Int) (cs : List Int) (x : Option W3), sl = [some (.sc ns), some (.d (.int t)), some (.r S.length), x] ∧ S' = S ++ [.lst (cs.map .int)] ∧ cs.length = i ∧ (∀ x ∈ cs, 0 ≤ x) ∧ 0 ≤ t ∧ t < 2147483543)
    ⟨_, [], none, rfl, rfl, rfl, (fun x h => nomatch h), by omega, by omega⟩ (fun _ _ _ _ => rfl) (fun i w sl S' hw hi hp => ?_) (fun sl S' hp => ?_)
  · obtain ⟨t, cs, x0, rfl, rfl, hc, hn, t0, t1⟩ := hp
    obtain ⟨d, hd, rfl⟩ := ws_get hw
    rw [List.getElem?_map] at hd
    obtain ⟨z, hz, rfl⟩ := Option.map_eq_some_iff.mp hd
    have hlt : i < ns.length := by have := (List.getElem?_eq_some_iff.mp hz).1; omega
    repeat walk_at "wp"
    refine wp_app (by rw [List.length_map]; omega) ?_
    repeat walk_at "wp"
    refine ⟨_, cs ++ [if z < 0 then -z else z], _, rfl, ?_, by rw [List.length_append, hc]; rfl, ?_, Int.emod_nonneg _ (by decide), Int.emod_lt_of_pos _ (by decide)⟩
    · rw [set_last, List.map_append]; rfl
    · intro y hy
      rcases List.mem_append.mp hy with hy | hy
      · exact hn y hy
      · have e : y = if z < 0 then -z else z := by simpa using hy
        rw [e]
        split <;> omega
  · obtain ⟨t, cs, x0, rfl, rfl, hc, hn, t0, t1⟩ := hp
    rw [List.length_map, List.length_map] at hc
    repeat walk_at "wp"
    rw [set_last]
    refine rq_own (S0 := S) (take_app) (by rw [List.length_append]; omega) (q _ ⟨cs, 0, 0, t, rfl, by omega, hn, by decide, by decide, by decide, t0, t1⟩)
/-- a list in a drawn order -/
theorem shuffled3 {S : List MO} {h : Nat} {o : List PyData} {ds : List PyData} (hh : S[h]? = some (.lst o)) (ho : HandO o) (hl : ds.length ≤ 1000) {Q : W3 → List MO → Prop} (q : ∀ (es : List PyData) (o' : List PyData), es.Perm ds → HandO o' → Q (.d (.list es)) (S.set h (.lst o'))) : Wp2 (f3_shuffled [.r h, .d (.list ds)] S) Q := by
  unfold f3_shuffled
  walk_at "fdef"
  repeat walk_at "wp"
  have hlt : h < S.length := (List.getElem?_eq_some_iff.mp hh).1
  refine ⟨by rw [intsW_len]; omega, ?_⟩
  refine wp_comp (n := 0) (acc := []) (fun i acc S' => ∃ (rem : List PyData) (o' : List PyData), S' = S.set h (.lst o') ++ [.lst rem] ∧ HandO o' ∧ rem.length + i = ds.length ∧ (acc ++ rem).Perm ds)
    ⟨ds, o, by rw [set_same hh], ho, by omega, by rw [List.nil_append]⟩ (fun _ _ _ _ => rfl) (fun i w acc S' hw hi hp => ?_) (fun ys S' hp => ?_)
  · obtain ⟨rem, o', rfl, ho', hr, pm⟩ := hp
    obtain ⟨hlt2, rfl⟩ := intsW_get hw
    repeat walk_at "wp"
    have hrp : 0 < rem.length := by omega
    refine take3 (get_setapp hh) ho' (by omega) (by omega) fun v o2 v0 v1 ho2 => ?_
    rw [set_setapp hh]
    repeat walk_at "wp"
    have hv : v.toNat < rem.length := by omega
    refine wp_popAt v0 v1 (by omega) (List.getElem?_eq_getElem hv) ?_
    repeat walk_at "wp"
    refine ⟨rem.eraseIdx v.toNat, o2, set_setlast, ho2, ?_, perm_turn (List.getElem?_eq_getElem hv) pm⟩
    rw [List.length_eraseIdx, if_pos hv]
    omega
  · obtain ⟨rem, o', rfl, ho', hr, pm⟩ := hp
    rw [intsW_len] at hr
    have er : rem = [] := List.length_eq_zero_iff.mp (by omega)
    subst er
    repeat walk_at "wp"
    rw [List.append_nil, List.nil_append] at pm
    exact q ys o' pm ho'
end EA
namespace EA
open PySem PySem.Spec PyProof.Rows L2
/-! ### a tuple of the module's top -/
structure TopT (K : PySem.W.Frag) (a : Addr) (ds : List PyData) : Prop where
  ex : ∃ (o : Obj) (its : Array Value) (n : Nat) (vs : List V), K.lookup a = some o ∧ o.cls = .type "tuple" ∧ o.data = .seq its n ∧ its.size ≤ sizeLine ∧ Vals vs its.toList ∧ o.dict = none ∧ ∀ G, DaA K G vs ds
theorem TopT.da {K : PySem.W.Frag} {a : Addr} {ds : List PyData} (h : TopT K a ds) (G : Hp) : Da K G (.ref a) (.tuple ds) := by
  obtain ⟨o, its, n, vs, h1, h2, h3, h4, h5, h6, h7⟩ := h.ex
  exact .tup (.inr ⟨o, its, n, h1, h2, h3, h4, h5, h6⟩) (h7 G)
section
variable {K : PySem.W.Frag} {X : Cx} {o i e f0 : Expr} {fo fi fd : FE} {pos apos cpos pp : Pos} {es : List Expr}
theorem e_topT {x : Str} {a : Addr} {ds : List PyData} (hg : Gl X x) (hm : X.mg x = some (.ref a)) (h : TopT K a ds) (hd : (x == ("__debug__" : Str)) = false := by decide) : PE3 K X (.Name x pos) (eD (.tuple ds)) := ⟨pe_imp (pe_glob (v := .ref a) hg hm (show Value.ref a = Value.ref a from rfl) hd) fun σ H Q h' => by
  obtain ⟨A, S, sl, w, S', rfl, R, s, e, q⟩ := h'
  cases e
  exact q A (.ref a) (Nx.refl A) R (h.da A.G)⟩
/-! ### t * k -/
/-! ### d.get(k, x) -/
def eDGet (o i x : FE) : FE := fun sl S => (o sl S).bind fun p => if (dicAt p.2 p.1).isSome = true then (i sl p.2).bind fun q => (x sl q.2).bind fun u => match q.1, u.1 with
  | .d y, .d z => (keyD y).bind fun k => (dicAt u.2 p.1).map fun kvs => (.d ((valD kvs k).getD z), u.2)
  | _, _ => none else none
theorem e_dget2 (hu : X.A.units + 1 < cLine) (ho : PE3 K X o fo) (hi : PE3 K X i fi) (hf : PE3 K X f0 fd) (m : M2 X o "get" apos i f0 cpos) : PE3 K X (.Call (.Attribute o "get" apos) [i, f0] [] cpos) (eDGet fo fi fd) := ⟨pe_imp (pe_dget2 hu ho.p hi.p hf.p m) fun σ H Q h => by
  obtain ⟨A, S, sl, w, S', rfl, R, s, e, q⟩ := h
  obtain ⟨⟨w1, S1⟩, e1, e⟩ := Option.bind_eq_some_iff.mp e
  dsimp only at e
  by_cases hs : (dicAt S1 w1).isSome = true
  · rw [if_pos hs] at e
    obtain ⟨⟨w2, S2⟩, e2, e⟩ := Option.bind_eq_some_iff.mp e
    obtain ⟨⟨w3, S3⟩, e3, e⟩ := Option.bind_eq_some_iff.mp e
    obtain ⟨kvs0, ed0⟩ := Option.isSome_iff_exists.mp hs
    refine ⟨A, S, sl, w1, S1, rfl, R, s, e1, fun B v n R1 r1 => ?_⟩
    obtain ⟨j0, a0, vs0, _, _, _, rfl, _, hH0, _⟩ := dicAt_of R1 r1 ed0
    refine ⟨a0, rfl, .inl ⟨vs0, .inl hH0⟩, B, S1, sl, w2, S2, rfl, R1, s.mono n, e2, fun C u n2 R2 r2 => ⟨C, S2, sl, w3, S3, rfl, R2, s.mono (n.trans n2), e3, fun D u3 n3 R3 r3 => ?_⟩⟩
    dsimp only at e
    split at e
    · rename_i y z
      obtain ⟨k, ek, e⟩ := Option.bind_eq_some_iff.mp e
      obtain ⟨kvs, ed, e⟩ := Option.map_eq_some_iff.mp e
      cases e
      obtain ⟨j, a, vs, _, _, _, ea, _, hH, hK⟩ := dicAt_of R3 ((r1.mono n2).mono n3) ed
      cases ea
      have eu := key_da (r2.mono n3) ek
      subst eu
      refine ⟨valV vs k, DGet.k hH, ?_⟩
      have nx := (n.trans n2).trans n3
      rcases daK_val (k := k) hK with ⟨z1, z2⟩ | ⟨v, d', z1, z2, z3⟩
      · rw [z1] at q
        rw [z2]
        exact q D _ nx R3 r3
      · rw [z1] at q
        rw [z2]
        exact q D _ nx R3 z3
    · cases e
  · rw [if_neg hs] at e; cases e⟩
/-! ### xs.insert(i, x) -/
/-! ### enumerate(xs) -/
def enumD (xs : List PyData) : List PyData := (List.range xs.length).map fun j => .tuple [.int (j : Nat), xs.getD j .none]
theorem enumD_at {xs : List PyData} {j : Nat} {x : PyData} (h : xs[j]? = some x) : (enumD xs)[j]? = some (.tuple [.int (j : Nat), x]) := by
  have hj := (List.getElem?_eq_some_iff.mp h).1
  unfold enumD
  rw [List.getElem?_map, List.getElem?_range hj]
  show some (PyData.tuple [.int (j : Nat), xs.getD j .none]) = _
  rw [List.getD_eq_getElem?_getD, h]; rfl
theorem enumD_len (xs : List PyData) : (enumD xs).length = xs.length := by unfold enumD; rw [List.length_map, List.length_range]
/-! ### f(a, b, k=c) -/
end
end EA
namespace EA
open PySem PySem.Spec PyProof.Rows L2
section
variable {K : PySem.W.Frag} {X : Cx} {a b e : Expr} {pos p2 : Pos} {es : List Expr}
/-- f(a, ..): the parameters that lack stand for themselves -/
theorem e_callD1 {k : Nat} {f : Addr} {fd : FuncData} {ps : List Str} {x : Str} {p : Pos} {f3 : F3} {fa : FA} {dvs : List V} {ds : List PyData} (hK : X.K = K) (F : FnOk X.prog X.w X.K X.mg X.base CX0 k f fd ps (sp3 K f3)) (hr : Room k X.A) (hg : Gl X x) (hm : X.mg x = some (.ref f)) (hk : PySem.W.keepIn X.K (.ref f) = true) (hb : ∃ dus, Vals dvs dus ∧ Binds X.K fd ps dus) (hds : ∀ G, DaA K G dvs ds)
    (ha : PA3 K X (e :: es) fa) (hdb : (x == ("__debug__" : Str)) = false := by decide) (he : starEach (e :: es) X.env = (false, eval e X.env) :: starEach es X.env := by rfl) (hpl : (backTo pos (starEach es X.env)).any (·.1) = false := by rfl) :
    PE3 K X (.Call (.Name x p) (e :: es) [] pos) (eCallD f3 fa ds) := by
  obtain ⟨dus, hd, hb⟩ := hb
  exact e_callD hK F hr hg hm hk hb hd hds ha hdb he hpl
end
end EA
namespace EA
open PySem PySem.Spec PyProof.Rows L2
/-! ### dicts whose keys are written texts; their values may be other objects of the store -/
section
variable {K : PySem.W.Frag} {X : Cx} {A B C : Wd} {S S' : List MO} {σ : L2.St} {sl : Sl} {v : V} {w : W3}
def rcdAt (S : List MO) : W3 → Option (List (Str × W3))
  | .r i => match S[i]? with
    | some (.rcd kvs) => some kvs
    | _ => none
  | _ => none
theorem rcdAt_of {kvs : List (Str × W3)} (R : Rl K A S) (r : RW K A v w) (e : rcdAt S w = some kvs) : ∃ i a ks, w = .r i ∧ A.ι[i]? = some a ∧ S[i]? = some (.rcd kvs) ∧ v = .ref a ∧ A.G a = none ∧ A.H a = some (.dK ks) ∧ RcA K A ks kvs ∧ ∀ s j, (s, W3.r j) ∈ kvs → j < i := by
  cases w with
  | r i =>
    obtain ⟨a, ha, rfl⟩ := r
    unfold rcdAt at e
    dsimp only at e
    cases o : S[i]? with
    | none => rw [o] at e; cases e
    | some m =>
      rw [o] at e
      cases m with
      | rcd ys =>
        cases e
        obtain ⟨g, ⟨i', h1, h2⟩, ks, h3, h4⟩ := R.ob i _ a o ha
        have : i' = i := nodup_at R.nd h1 ha
        subst this
        exact ⟨i', a, ks, rfl, ha, o, rfl, g, h3, h4, h2⟩
      | _ => cases e
  | _ => cases e
theorem RcA.len {ks : List (Key × V)} {kvs : List (Str × W3)} (h : RcA K A ks kvs) : ks.length = kvs.length := by
  induction h with
  | nil => rfl
  | cons _ _ ih => rw [List.length_cons, List.length_cons, ih]
theorem RcA.keys {ks : List (Key × V)} {kvs : List (Str × W3)} (h : RcA K A ks kvs) : ks.map (·.1) = kvs.map fun kv => .inr kv.1 := by
  induction h with
  | nil => rfl
  | cons _ _ ih => rw [List.map_cons, List.map_cons, ih]
theorem RcA.val {ks : List (Key × V)} {kvs : List (Str × W3)} {k : Str} {w : W3} (h : RcA K A ks kvs) (e : kvs.lookup k = some w) : ∃ v, valV ks (.inr k) = some v ∧ RW K A v w := by
  induction h with
  | nil => cases e
  | @cons s v' w' ks kvs hv _ ih =>
    rw [List.lookup_cons] at e
    unfold valV at ih ⊢
    rw [List.find?_cons]
    by_cases c : k = s
    · subst c
      rw [beq_self_eq_true] at e
      cases e
      refine ⟨v', ?_, hv⟩
      simp
    · rw [show (k == s) = false from beq_eq_false_iff_ne.mpr c] at e
      have : decide ((Sum.inr s : Key) = Sum.inr k) = false := decide_eq_false fun z => c (Sum.inr.inj z).symm
      dsimp only
      rw [this]
      exact ih e
theorem RcA.ref {ks : List (Key × V)} {kvs : List (Str × W3)} (h : RcA K A ks kvs) : ∀ s j, (s, W3.r j) ∈ kvs → j < A.ι.length := by
  induction h with
  | nil => intro s j h; cases h
  | @cons s' v' w' ks kvs hv _ ih =>
    intro s j h
    rcases List.mem_cons.mp h with e | h
    · cases e
      obtain ⟨a, h1, _⟩ := hv
      exact (List.getElem?_eq_some_iff.mp h1).1
    · exact ih s j h
def rcdPut (kvs : List (Str × W3)) (k : Str) (w : W3) : List (Str × W3) := kvs.map fun kv => if kv.1 = k then (kv.1, w) else kv
theorem RcA.put {ks : List (Key × V)} {kvs : List (Str × W3)} {k : Str} {v : V} {w : W3} (h : RcA K A ks kvs) (hv : RW K A v w) (e : (kvs.lookup k).isSome = true) : RcA K A (putK ks (.inr k) v) (rcdPut kvs k w) := by
  have e2 : (ks.any fun kv => decide (kv.1 = Sum.inr k)) = true := by
    induction h with
    | nil => cases e
    | @cons s v' w' ks kvs _ _ ih =>
      rw [List.any_cons]
      rw [List.lookup_cons] at e
      by_cases c : k = s
      · subst c; simp
      · rw [show (k == s) = false from beq_eq_false_iff_ne.mpr c] at e
        rw [ih e, Bool.or_true]
  unfold putK rcdPut
  rw [if_pos e2]
  clear e e2
  induction h with
  | nil => exact .nil
  | @cons s v' w' ks kvs a _ ih =>
    rw [List.map_cons, List.map_cons]
    by_cases c : s = k
    · subst c
      rw [if_pos rfl, if_pos rfl]
      exact .cons hv ih
    · rw [if_neg (fun z => c (Sum.inr.inj z)), if_neg c]
      exact .cons a ih
theorem mergeV_nodup : ∀ (vs acc : List (Key × V)), ((acc ++ vs).map (·.1)).Nodup → mergeK acc vs = acc ++ vs
  | [], acc, _ => by rw [List.append_nil]; rfl
  | q :: vs, acc, h => by
    have hn : (acc.any fun kv => decide (kv.1 = q.1)) = false := by
      rw [Bool.eq_false_iff]
      intro hz
      obtain ⟨kv, h1, h2⟩ := List.any_eq_true.mp hz
      have e : kv.1 = q.1 := of_decide_eq_true h2
      rw [List.map_append, List.map_cons] at h
      exact (List.nodup_append.mp h).2.2 kv.1 (List.mem_map_of_mem (f := (·.1)) h1) q.1 List.mem_cons_self e
    have ep : putK acc q.1 q.2 = acc ++ [q] := by
      unfold putK
      rw [hn]; rfl
    show mergeK (putK acc q.1 q.2) vs = _
    rw [ep, mergeV_nodup vs (acc ++ [q]) (by rw [List.append_assoc]; exact h), List.append_assoc]; rfl
/-! {"k": e, ..} -/
def rdF : List (Str × FE) → Sl → List MO → Option (List (Str × W3) × List MO)
  | [], _, S => some ([], S)
  | (k, f) :: r, sl, S => (f sl S).bind fun p => (rdF r sl p.2).map fun q => ((k, p.1) :: q.1, q.2)
def eRD (fs : List (Str × FE)) : FE := fun sl S => (rdF fs sl S).bind fun p => if (p.1.map (·.1)).Nodup ∧ p.1.length ≤ 15 then some (.r p.2.length, p.2 ++ [.rcd p.1]) else none
abbrev rdT (K : PySem.W.Frag) (fs : List (Str × FE)) : List (TE × TE) := fs.map fun p => (teO K (eD (.str p.1)), teO K p.2)
structure RdOk (K : PySem.W.Frag) (X : Cx) (pos : Pos) (keys : List (Option Expr)) (values : List Expr) (fs : List (Str × FE)) : Prop where
  pps : PPs X pos keys values (rdT K fs)
  all : keys.all (·.isSome) = true
  len : keys.length = values.length
theorem rd_nil {pos : Pos} : RdOk K X pos [] [] [] := ⟨pps_nil, rfl, rfl⟩
theorem rd_cons {pos pk : Pos} {k : Str} {j : Nat} {e : Expr} {f : FE} {keys : List (Option Expr)} {values : List Expr} {fs : List (Str × FE)} (h : PE3 K X e f) (hk : PE3 K X (.Constant (.str k) j pk) (eD (.str k))) (r : RdOk K X pos keys values fs) : RdOk K X pos (some (.Constant (.str k) j pk) :: keys) (e :: values) ((k, f) :: fs) :=
  ⟨pps_cons hk.p h.p r.pps, by rw [List.all_cons, r.all]; rfl, by rw [List.length_cons, List.length_cons, r.len]⟩
theorem rd_pairs {fs : List (Str × FE)} : ∀ {A : Wd} {S : List MO} {kvs : List (Str × W3)} {S' : List MO} {cont : List (V × V) → Hp → Prop}, Rl K A S → SR3 K A σ sl → rdF fs sl S = some (kvs, S') →
    (∀ B ks, Nx A B → Rl K B S' → RcA K B ks kvs → cont (ks.map fun kv => (kV kv.1, kv.2)) B.H) → tPairs (rdT K fs) σ A.H cont := by
  induction fs with
  | nil =>
    intro A S kvs S' cont R s e h
    cases e
    exact h A [] (Nx.refl A) R .nil
  | cons p fs ih =>
    obtain ⟨k, f⟩ := p
    intro A S kvs S' cont R s e h
    obtain ⟨⟨w1, S1⟩, e1, e⟩ := Option.bind_eq_some_iff.mp e
    obtain ⟨⟨kvs2, S2⟩, e2, e⟩ := Option.map_eq_some_iff.mp e
    cases e
    refine ⟨A, S, sl, .d (.str k), S, rfl, R, s, rfl, fun B v n R1 r1 => ⟨B, S, sl, w1, S1, rfl, R1, s.mono n, e1, fun C u n2 R2 r2 => ih R2 ((s.mono n).mono n2) e2 fun D ks n3 R3 h3 => ?_⟩⟩
    rw [Da.str_inv r1]
    exact h D ((.inr k, u) :: ks) ((n.trans n2).trans n3) R3 (.cons (r2.mono n3) h3)
theorem e_rd {pos : Pos} {keys : List (Option Expr)} {values : List Expr} {fs : List (Str × FE)} (h : RdOk K X pos keys values fs) (h0 : keys ≠ []) (h15 : keys.length ≤ 15) : PE3 K X (.Dict keys values pos) (eRD fs) := ⟨pe_imp (pe_disp h.pps h.all h.len h0 h15) fun σ H Q h => by
  obtain ⟨A, S, sl, w, S', rfl, R, s, e, q⟩ := h
  obtain ⟨⟨kvs, S1⟩, e1, e⟩ := Option.bind_eq_some_iff.mp e
  dsimp only at e
  by_cases z : (kvs.map (·.1)).Nodup ∧ kvs.length ≤ 15
  · rw [if_pos z] at e
    cases e
    intro p hp
    obtain ⟨n0, R0⟩ := Nx.junk R (o := .dK []) hp
    have np0 : p ∉ A.ι := R.new hp
    have gp0 : A.G p = none := R.gh.free hp
    refine rd_pairs R0 (s.mono n0) e1 fun B ks n R1 hk => ?_
    have hBp : B.H p = some (.dK []) := n.hh p _ np0 upd_same
    have hGp : B.G p = none := n.nw p np0 gp0 (by show upd A.H p _ p ≠ none; rw [upd_same]; exact fun z => nomatch z)
    have npB : p ∉ B.ι := fun hm => (n.fr p hm).elim np0 fun z => by
      have z : upd A.H p (.dK []) p = none := z
      rw [upd_same] at z; cases z
    have nAB := n0.trans n
    have km : mergeK [] ks = ks := by
      have := mergeV_nodup ks [] (by rw [List.nil_append, hk.keys, show (kvs.map fun kv => (Sum.inr kv.1 : Key)) = (kvs.map (·.1)).map Sum.inr by rw [List.map_map]; rfl]; exact z.1.map (Sum.inr : Str → Key) fun a b hne he => hne (Sum.inr.inj he))
      rw [List.nil_append] at this; exact this
    refine ⟨hBp, ks, rfl, by rw [hk.len]; exact z.2, ?_⟩
    rw [km]
    have N : Nx A ⟨B.G, upd B.H p (.dK ks), B.ι⟩ := ⟨nAB.gg, fun b o hb e => by
      show upd B.H p _ b = _
      rw [upd_ne (ne_of_none e hp)]; exact nAB.hh b o hb e, nAB.nw, fun b hb z => nAB.dm b hb (upd_none z), nAB.pre, nAB.fr, fun b od ks' e => by
      show upd B.H p _ b = _
      rw [upd_ne (ne_of_none e hp)]; exact nAB.lk b od _ e⟩
    have RC : Rl K ⟨B.G, upd B.H p (.dK ks), B.ι⟩ S1 := ⟨fun b u e => by
      show upd B.H p _ b = _
      rw [upd_ne (ne_of_none e hGp)]; exact R1.gh b u e, R1.nd, R1.len, fun i o a e1 e2 => (R1.ob i o a e1 e2).keep (Same.refl _) (fun g => g) fun u hu => by
        show upd B.H p _ a = _
        rw [upd_ne (fun z => npB (by rw [← z]; exact List.mem_of_getElem? e2))]; exact hu⟩
    obtain ⟨N2, R2⟩ := Nx.own0g (B := ⟨B.G, upd B.H p (.dK ks), B.ι⟩) (o := .rcd kvs) N RC hp npB ⟨hGp, ⟨B.ι.length, by
      show (B.ι ++ [p])[B.ι.length]? = _
      rw [List.getElem?_append_right (Nat.le_refl _), Nat.sub_self]; rfl, hk.ref⟩, ks, upd_same, RcA.monov (A := B) (B := ⟨B.G, upd B.H p (.dK ks), B.ι ++ [p]⟩) ⟨Same.refl _, List.prefix_append _ _⟩ hk⟩
    exact q ⟨B.G, upd B.H p (.dK ks), B.ι ++ [p]⟩ _ N2 R2 (RW.last (B := ⟨B.G, upd B.H p (.dK ks), B.ι⟩) RC.len)
  · rw [if_neg z] at e; cases e⟩
/-! d["k"], d["k"] = e -/
def eRG (o : FE) (k : Str) : FE := fun sl S => (o sl S).bind fun p => (rcdAt p.2 p.1).bind fun kvs => (kvs.lookup k).map fun w => (w, p.2)
theorem e_rg {o i : Expr} {fo : FE} {k : Str} {pos : Pos} (hu : X.A.units + 1 < cLine) (ho : PE3 K X o fo) (hi : PE3 K X i (eD (.str k))) (hs : NoSl i) : PE3 K X (.Subscript o i pos) (eRG fo k) := ⟨pe_imp (pe_dget hu ho.p hi.p hs) fun σ H Q h => by
  obtain ⟨A, S, sl, w, S', rfl, R, s, e, q⟩ := h
  obtain ⟨⟨w1, S1⟩, e1, e⟩ := Option.bind_eq_some_iff.mp e
  refine ⟨A, S, sl, w1, S1, rfl, R, s, e1, fun B v n R1 r1 => ⟨B, S1, sl, .d (.str k), S1, rfl, R1, s.mono n, rfl, fun C u n2 R2 r2 => ?_⟩⟩
  dsimp only at e
  obtain ⟨kvs, ed, e⟩ := Option.bind_eq_some_iff.mp e
  obtain ⟨w2, ev, e⟩ := Option.map_eq_some_iff.mp e
  cases e
  obtain ⟨j, a, ks, rfl, _, _, rfl, _, hH, hK, _⟩ := rcdAt_of R2 (r1.mono n2) ed
  rw [Da.str_inv r2]
  obtain ⟨x, hx, rx⟩ := hK.val ev
  exact ⟨a, x, rfl, by rw [← hx]; exact DGet.k (k := .inr k) hH, q C x (n.trans n2) R2 rx⟩⟩
def sRS (o : FE) (k : Str) (v : FE) : FS := fun sl S => (v sl S).bind fun p => match p.1 with
  | .d x => (o sl p.2).bind fun q => (rcdAt q.2 q.1).bind fun kvs => if (kvs.lookup k).isSome = true ∧ kvs.length ≤ 15 then some (.nx sl (setAt q.2 q.1 (.rcd (rcdPut kvs k (.d x))))) else none
  | _ => none
theorem s_rs {o i v : Expr} {fo fv : FE} {k : Str} {pos pos' : Pos} (hu : X.A.units + 1 < cLine) (ho : PE3 K X o fo) (hi : PE3 K X i (eD (.str k))) (hv : PE3 K X v fv) (hs : swapsWith v (some (.Subscript o i pos')) pos.line X.env = pure false) : PS3 K X (.Assign [.Subscript o i pos'] v pos) (sRS fo k fv) := ⟨ps_imp (ps_dput hu ho.p hi.p hv.p hs) fun D σ H h => by
  obtain ⟨A, S, sl, oo, rfl, R, s, e, q⟩ := h
  obtain ⟨⟨w1, S1⟩, e1, e⟩ := Option.bind_eq_some_iff.mp e
  cases w1 with
  | d x =>
    obtain ⟨⟨w2, S2⟩, e2, e⟩ := Option.bind_eq_some_iff.mp e
    dsimp only at e
    obtain ⟨kvs, e5, e⟩ := Option.bind_eq_some_iff.mp e
    refine ⟨A, S, sl, _, S1, rfl, R, s, e1, fun B v1 n R1 r1 => ⟨B, S1, sl, w2, S2, rfl, R1, s.mono n, e2, fun C v2 n2 R2 r2 => ⟨C, S2, sl, .d (.str k), S2, rfl, R2, (s.mono n).mono n2, rfl, fun E v3 n3 R3 r3 => ?_⟩⟩⟩
    by_cases z : (kvs.lookup k).isSome = true ∧ kvs.length ≤ 15
    · rw [if_pos z] at e
      cases e
      rw [Da.str_inv r3]
      obtain ⟨i, a, ks, rfl, ha, hS, rfl, g0, h, hd, hr⟩ := rcdAt_of R3 (r2.mono n3) e5
      have n' := (n.trans n2).trans n3
      refine ⟨a, upd E.H a (.dK (putK ks (.inr k) v1)), rfl, DPut.k (k := .inr k) h (by rw [hd.len]; exact line_lt (Nat.le_trans z.2 (by decide))), ?_⟩
      have hx : RW K E v1 (.d x) := Da.up (n2.trans n3).gg r1
      obtain ⟨n4, R4⟩ := Nx.wr (u := .dK (putK ks (.inr k) v1)) (o := .rcd (rcdPut kvs k (.d x))) R3 ha g0 ⟨g0, ⟨i, ha, fun s j hj => by
        obtain ⟨kv, hk, ek⟩ := List.mem_map.mp hj
        by_cases c : kv.1 = k
        · rw [if_pos c] at ek; cases ek
        · rw [if_neg c] at ek; subst ek; exact hr s j hk⟩, _, upd_same, RcA.monov (A := E) (B := ⟨E.G, upd E.H a (.dK (putK ks (.inr k) v1)), E.ι⟩) ⟨Same.refl _, List.prefix_rfl⟩ (hd.put hx z.1)⟩ (by rw [h]; rfl)
      exact q ⟨E.G, upd E.H a (.dK (putK ks (.inr k) v1)), E.ι⟩ σ (n'.trans n4) R4 (s.mono (n'.trans n4))
    · rw [if_neg z] at e; cases e
  | _ => cases e⟩
end
end EA
namespace EA
open PySem PySem.Spec PyProof.Rows L2
section
variable {K : PySem.W.Frag} {X : Cx}
/-! ### {k: v for x in xs if ..} -/
def dLoop (ok : List MO → Bool) (g : FG) (t : FT) (k e : FE) (sl : Sl) : List W3 → List (Key × PyData) → List MO → Option (List (Key × PyData) × List MO)
  | [], acc, S => if ok S = true then some (acc, S) else none
  | w :: ws, acc, S => if ok S = true then (g w sl S).bind fun p => (t p.1 p.2).bind fun b => if b.1 = true then (k p.1 b.2).bind fun y => match y.1 with
        | .d x => (keyD x).bind fun ky => (e p.1 y.2).bind fun z => match z.1 with
          | .d x2 => dLoop ok g t k e sl ws (putD acc ky x2) z.2
          | _ => none
        | _ => none
      else dLoop ok g t k e sl ws acc b.2
    else none
def eDC (own : List Nat) (it : FI) (g : FG) (t : FT) (k e : FE) : FE := fun sl S => (it sl S).bind fun p => if p.1.ws.length ≤ 100000 then (dLoop p.1.ok g t k e (wipe3 sl own) p.1.ws [] p.2).map fun q => (.r q.2.length, q.2 ++ [.dic q.1]) else none
theorem dLoop_ok {ok : List MO → Bool} {g : FG} {t : FT} {k e : FE} {sl : Sl} {ws : List W3} {acc : List (Key × PyData)} {S : List MO} {o : List (Key × PyData) × List MO} (h : dLoop ok g t k e sl ws acc S = some o) : ok S = true := by
  cases ws with
  | nil =>
    by_cases z : ok S = true
    · exact z
    · rw [dLoop, if_neg z] at h; cases h
  | cons w ws =>
    by_cases z : ok S = true
    · exact z
    · rw [dLoop, if_neg z] at h; cases h
theorem putD_len {kvs : List (Key × PyData)} {k : Key} {x : PyData} : (putD kvs k x).length ≤ kvs.length + 1 := by
  unfold putD
  split
  · rw [List.length_map]; exact Nat.le_succ _
  · rw [List.length_append]; exact Nat.le_refl _
theorem dc_go {it : FI} {g : FG} {t : FT} {fk f : FE} {vs ws : List Nat} (hw : ∀ j ∈ ws, j ∈ vs) {σ : L2.St} {H : Hp} {Q : VK} (h : teO K (eDC vs it g t fk f) σ H Q) : tDc (tiO K it) (tgO K ws g) (ttO K t) (teO K fk) (teO K f) vs σ H Q := by
  obtain ⟨A, S, sl, w0, S', rfl, R, s, e, q⟩ := h
  obtain ⟨⟨j, S1⟩, e1, e2⟩ := Option.bind_eq_some_iff.mp e
  refine ⟨A, S, sl, j, S1, rfl, R, s, e1, fun B J n R' IR D hD => ?_⟩
  have hz : j.ws.length ≤ 100000 := by
    by_cases z : j.ws.length ≤ 100000
    · exact z
    · rw [if_neg z] at e2; cases e2
  rw [if_pos hz] at e2
  obtain ⟨⟨fin, Sf⟩, e9, e3⟩ := Option.map_eq_some_iff.mp e2
  cases e3
  have gD : B.G D = none := R'.gh.free hD
  have niD : D ∉ B.ι := R'.new hD
  have aD : A.H D = none := by
    cases z : A.H D with
    | none => rfl
    | some u => exact absurd hD (n.dm D (by rw [z]; exact fun k => nomatch k))
  obtain ⟨nj, Rj⟩ := Nx.junk (o := .dK []) R' hD
  refine ⟨fun i m H => m = j.ws.length - i ∧ i ≤ j.ws.length ∧ ∃ (C : Wd) (S : List MO) (acc : List (Key × V)) (ds : List (Key × PyData)), C.H = H ∧ Nx B C ∧ Rl K C S ∧ C.G D = none ∧ D ∉ C.ι ∧ C.H D = some (.dK acc) ∧ DaK K C.G acc ds ∧ acc.length ≤ i ∧
      dLoop j.ok g t fk f (wipe3 sl vs) (j.ws.drop i) ds S = some (fin, Sf),
    ⟨_, rfl, Nat.zero_le _, ⟨B.G, upd B.H D (.dK []), B.ι⟩, S1, [], [], rfl, nj, Rj, gD, niD, upd_same, .nil, Nat.le_refl _, by rw [List.drop_zero]; exact e9⟩, ?_⟩
  rintro i m H1 ⟨rfl, hi, C, S2, acc, ds, rfl, n2, R2, gC, niC, hC, hd, hl, e3⟩
  have hok := dLoop_ok e3
  have ir := IR C S2 n2.toW R2 hok i
  by_cases hlt : i < j.ws.length
  · have hwi : j.ws[i]? = some j.ws[i] := List.getElem?_eq_getElem hlt
    obtain ⟨go, step⟩ := ir.1 _ hwi
    have hdr : j.ws.drop i = j.ws[i] :: j.ws.drop (i + 1) := List.drop_eq_getElem_cons hlt
    rw [hdr, dLoop, if_pos hok] at e3
    obtain ⟨⟨sl3, S3⟩, e4, e5⟩ := Option.bind_eq_some_iff.mp e3
    obtain ⟨⟨b3, S4⟩, e6, e7⟩ := Option.bind_eq_some_iff.mp e5
    refine .inr ⟨go, fun H' => i + 1 ≤ j.ws.length ∧ ∃ (C : Wd) (S : List MO) (acc : List (Key × V)) (ds : List (Key × PyData)), C.H = H' ∧ Nx B C ∧ Rl K C S ∧ C.G D = none ∧ D ∉ C.ι ∧ C.H D = some (.dK acc) ∧ DaK K C.G acc ds ∧ acc.length ≤ i + 1 ∧
      dLoop j.ok g t fk f (wipe3 sl vs) (j.ws.drop (i + 1)) ds S = some (fin, Sf), fun H' w => ⟨j.ws.length - (i + 1), by omega, rfl, w⟩, fun v H' y => ?_⟩
    obtain ⟨C', rfl, n3, R3, r3⟩ := step v H' y
    have keep : ∀ {E : Wd}, Nx C E → E.G D = none ∧ D ∉ E.ι ∧ E.H D = some (.dK acc) ∧ DaK K E.G acc ds := fun {E} nE =>
      ⟨nE.nw D niC gC (by rw [hC]; exact fun z => nomatch z), fun z => (nE.fr D z).elim niC (fun k => nomatch hC.symm.trans k), nE.hh D _ niC hC, hd.up nE.gg⟩
    refine ⟨C', S2, wipe3 sl vs, j.ws[i], sl3, S3, rfl, R3, ((s.mono n).mono (n2.trans n3)).weak vs, r3, e4, fun E σ' n4 R4 s4 k4 => ⟨?_, ?_⟩⟩
    · exact wipe_same (by rw [k4.1, wipe_length]) k4.2 hw
    · refine ⟨E, S3, sl3, b3, S4, rfl, R4, s4, e6, fun F n5 R5 => ?_⟩
      have nF : Nx C F := (n3.trans n4).trans n5
      cases b3 with
      | false =>
        obtain ⟨g1, g2, g3, g4⟩ := keep nF
        exact ⟨hlt, F, S4, acc, ds, rfl, n2.trans nF, R5, g1, g2, g3, g4, by omega, e7⟩
      | true =>
        obtain ⟨⟨y1, S5⟩, e8, e9⟩ := Option.bind_eq_some_iff.mp e7
        refine ⟨F, S4, sl3, y1, S5, rfl, R5, s4.mono n5, e8, fun L u n6 R6 r6 => ?_⟩
        cases y1 with
        | r _ => cases e9
        | sc _ => cases e9
        | ty _ => cases e9
        | d x =>
          obtain ⟨ky, e10, e11⟩ := Option.bind_eq_some_iff.mp e9
          obtain ⟨⟨z1, S6⟩, e12, e13⟩ := Option.bind_eq_some_iff.mp e11
          refine ⟨L, S5, sl3, z1, S6, rfl, R6, (s4.mono n5).mono n6, e12, fun M u2 n7 R7 r7 => ?_⟩
          cases z1 with
          | r _ => cases e13
          | sc _ => cases e13
          | ty _ => cases e13
          | d x2 =>
            have e13 : dLoop j.ok g t fk f (wipe3 sl vs) (j.ws.drop (i + 1)) (putD ds ky x2) S6 = some (fin, Sf) := e13
            obtain ⟨g1, g2, g3, g4⟩ := keep (nF.trans (n6.trans n7))
            have hk := key_da r6 e10
            have hput := daK_put (k := ky) g4 r7
            have pl : (putK acc ky u2).length ≤ i + 1 := by
              have : (putK acc ky u2).length ≤ acc.length + 1 := by
                unfold putK
                split
                · rw [List.length_map]; exact Nat.le_succ _
                · rw [List.length_append]; exact Nat.le_refl _
              omega
            refine ⟨acc, ky, hk, g3, Nat.lt_of_le_of_lt (Nat.le_trans hl (Nat.le_trans hi hz)) (by decide), hlt, ⟨M.G, upd M.H D (.dK (putK acc ky u2)), M.ι⟩, S6, putK acc ky u2, putD ds ky x2, rfl, ?_, ?_, g1, g2, upd_same, hput, pl, e13⟩
            · have nL : Nx B M := n2.trans (nF.trans (n6.trans n7))
              exact ⟨nL.gg, fun b o hb hh => by
                show upd M.H D _ b = _
                rw [upd_ne (fun z => by rw [z, hD] at hh; cases hh)]; exact nL.hh b o hb hh, nL.nw, fun b hb z => nL.dm b hb (upd_none z), nL.pre, nL.fr, fun b od ks e => by
                show upd M.H D _ b = _
                rw [upd_ne (fun z => by rw [z, hD] at e; cases e)]; exact nL.lk b od ks e⟩
            · refine ⟨fun b o hb => ?_, R7.nd, R7.len, fun i o a e1 e2 => (R7.ob i o a e1 e2).keep (Same.refl _) (fun g => g) fun u hu => ?_⟩
              · show upd M.H D _ b = _
                rw [upd_ne (ne_of_none hb g1)]; exact R7.gh b o hb
              · show upd M.H D _ a = _
                rw [upd_ne (fun z => g2 (by rw [← z]; exact List.mem_of_getElem? e2))]; exact hu
  · have hz2 : i = j.ws.length := by omega
    subst hz2
    rw [List.drop_length, dLoop, if_pos hok] at e3
    cases e3
    refine .inl ⟨ir.2 (Nat.le_refl _), ?_⟩
    obtain ⟨n3, R3⟩ := Nx.own0 (A := A) (o := .dic fin) (n.trans n2) R2 aD niC ⟨gC, acc, hC, hd⟩
    exact q ⟨C.G, C.H, C.ι ++ [D]⟩ _ n3 R3 (RW.last R2.len)
theorem e_dc {kx vx tg iter : Expr} {ifs : List Expr} {scope : Scope} {own : List (Str × Nat)} {vs ws : List Nat} {it : FI} {g : FG} {t : FT} {fk f : FE} {pos : Pos} (hc : X.calm = true) (hN : X.N.Nodup) (hi : PI3 K X tg iter it) (ok : BlkOk X.N X.env.scope scope own) (hv : own.map (·.2) = vs) (hw : ∀ j ∈ ws, j ∈ vs)
    (hg : ∀ (s : Shared) (H : Hp) (C : Addr) (cl : List (Str × Addr)) (fp : List Addr), PG3 K (X.blk s H scope (compEnvC scope cl C X.env) fp) tg ws g) (ht : ∀ (s : Shared) (H : Hp) (C : Addr) (cl : List (Str × Addr)) (fp : List Addr), PTs3 K (X.blk s H scope (compEnvC scope cl C X.env) fp) ifs t)
    (hk : ∀ (s : Shared) (H : Hp) (C : Addr) (cl : List (Str × Addr)) (fp : List Addr), PE3 K (X.blk s H scope (compEnvC scope cl C X.env) fp) kx fk)
    (he : ∀ (s : Shared) (H : Hp) (C : Addr) (cl : List (Str × Addr)) (fp : List Addr), PE3 K (X.blk s H scope (compEnvC scope cl C X.env) fp) vx f) (hs : ∀ x, foldedSetIterable iter X.env x = pure x := by intro _; rfl) :
    PE3 K X (.DictComp kx vx [⟨tg, iter, ifs, 0⟩] scope pos) (eDC vs it g t fk f) := ⟨pe_imp (pe_dc hc hN hi.p ok (fun s H C cl fp => (hg s H C cl fp).p) (fun s H C cl fp => (ht s H C cl fp).p) (fun s H C cl fp => (hk s H C cl fp).p) (fun s H C cl fp => (he s H C cl fp).p) hs) fun _ _ _ h => by rw [hv]; exact dc_go hw h⟩
/-! ### list(range(n)) -/
def nRg (f : FE) : FN := fun sl S => (f sl S).bind fun p => match p.1 with
  | .d (.int k) => if 0 ≤ k ∧ k ≤ 100000 then some ((List.range k.toNat).map fun i : Nat => .int (i : Int), p.2) else none
  | _ => none
theorem n_rg {a : Expr} {f : FE} {p p2 pos pos2 : Pos} (hc : X.calm = true) (hl : Gl X "list") (hlm : X.mg "list" = none) (hg : Gl X "range") (hm : X.mg "range" = none) (ha : PE3 K X a f) (na : starEach [a] X.env = (false, eval a X.env) :: starEach [] X.env := by rfl)
    (nb : starEach [.Call (.Name "range" p2) [a] [] pos2] X.env = (false, eval (.Call (.Name "range" p2) [a] [] pos2) X.env) :: starEach [] X.env := by rfl) : PN3 K X (.Call (.Name "list" p) [.Call (.Name "range" p2) [a] [] pos2] [] pos) (nRg f) := ⟨pe_imp (pe_listRg hc hl hlm (prg_1 hg hm ha.p na) nb) fun σ H Q h => by
  obtain ⟨A, S, sl, w, S', rfl, R, s, e, q⟩ := h
  obtain ⟨⟨w1, S1⟩, e1, e⟩ := Option.bind_eq_some_iff.mp e
  dsimp only at e
  split at e
  · rename_i k
    by_cases z : 0 ≤ k ∧ k ≤ 100000
    · rw [if_pos z] at e
      cases e
      refine ⟨A, S, sl, .d (.int k), _, rfl, R, s, e1, fun B v n R1 r1 => ?_⟩
      refine ⟨k, Da.int_inv r1, RgOk.of_le (by decide) (by omega) (by decide) z.1, ?_⟩
      have hd : DaA K B.G (rgV 0 k) ((List.range k.toNat).map fun i : Nat => .int (i : Int)) := by
        have := DaA.ints (G := B.G) (K := K) ((List.range k.toNat).map fun i : Nat => (i : Int))
        rw [List.map_map, List.map_map] at this
        unfold rgV
        rw [show k - 0 = k by omega, show (List.range k.toNat).map (fun i => V.int (0 + (i : Nat))) = (List.range k.toNat).map (V.int ∘ fun i : Nat => (i : Int)) from List.map_congr_left fun i _ => by show V.int (0 + (i : Int)) = V.int (i : Int); rw [Int.zero_add]]
        exact this
      exact new_of R1 hd fun D vs p n2 R2 np ni g hh hd2 => q D vs p (n.trans n2) R2 (fresh_back n np) ni g hh hd2
    · rw [if_neg z] at e; cases e
  · cases e⟩
end
end EA
namespace EA
open PySem PySem.Spec PyProof.Rows L2
/-! ### dicts that hold other objects -/
def ndcAt (S : List MO) : W3 → Option (List (Key × W3))
  | .r i => match S[i]? with
    | some (.ndc kvs) => some kvs
    | _ => none
  | _ => none
def valW (kvs : List (Key × W3)) (k : Key) : Option W3 := (kvs.find? fun kv => decide (kv.1 = k)).map (·.2)
def putW (kvs : List (Key × W3)) (k : Key) (v : W3) : List (Key × W3) :=
  if kvs.any (fun kv => decide (kv.1 = k)) then kvs.map (fun kv => if kv.1 = k then (kv.1, v) else kv) else kvs ++ [(k, v)]
section
variable {K : PySem.W.Frag} {A B : Wd} {S : List MO} {v : V} {w : W3} {kvs : List (Key × W3)}
theorem ndcAt_of (R : Rl K A S) (r : RW K A v w) (e : ndcAt S w = some kvs) : ∃ i a ks, w = .r i ∧ A.ι[i]? = some a ∧ S[i]? = some (.ndc kvs) ∧ v = .ref a ∧ A.G a = none ∧ A.H a = some (.dK ks) ∧ NdA K A ks kvs := by
  cases w with
  | r i =>
    obtain ⟨a, ha, rfl⟩ := r
    unfold ndcAt at e
    dsimp only at e
    cases o : S[i]? with
    | none => rw [o] at e; cases e
    | some m =>
      rw [o] at e
      cases m with
      | ndc ys =>
        cases e
        obtain ⟨g, ks, h3, h4⟩ := R.ob i _ a o ha
        exact ⟨i, a, ks, rfl, ha, o, rfl, g, h3, h4⟩
      | _ => cases e
  | _ => cases e
theorem NdA.len {ks : List (Key × V)} (h : NdA K A ks kvs) : ks.length = kvs.length := by
  induction h with
  | nil => rfl
  | cons _ _ ih => rw [List.length_cons, List.length_cons, ih]
theorem NdA.val {ks : List (Key × V)} (h : NdA K A ks kvs) (k : Key) : (valW kvs k = none ∧ valV ks k = none) ∨ ∃ v w, valW kvs k = some w ∧ valV ks k = some v ∧ RW K A v w := by
  induction h with
  | nil => exact .inl ⟨rfl, rfl⟩
  | @cons k' v' w' ks kvs hv _ ih =>
    unfold valW valV at ih ⊢
    rw [List.find?_cons, List.find?_cons]
    by_cases c : k' = k
    · have e : decide (k' = k) = true := decide_eq_true c
      dsimp only
      rw [e]
      exact .inr ⟨v', w', rfl, rfl, hv⟩
    · have e : decide (k' = k) = false := decide_eq_false c
      dsimp only
      rw [e]
      exact ih
theorem NdA.app {ks us : List (Key × V)} {ks' : List (Key × W3)} (h : NdA K A ks kvs) (h2 : NdA K A us ks') : NdA K A (ks ++ us) (kvs ++ ks') := by
  induction h with
  | nil => exact h2
  | cons h _ ih => exact .cons h ih
theorem NdA.any {ks : List (Key × V)} (h : NdA K A ks kvs) (k : Key) : (ks.any fun kv => decide (kv.1 = k)) = kvs.any fun kv => decide (kv.1 = k) := by
  induction h with
  | nil => rfl
  | cons _ _ ih => rw [List.any_cons, List.any_cons, ih]
theorem NdA.mapk {ks : List (Key × V)} (h : NdA K A ks kvs) {k : Key} (hv : RW K A v w) : NdA K A (ks.map fun kv => if kv.1 = k then (kv.1, v) else kv) (kvs.map fun kv => if kv.1 = k then (kv.1, w) else kv) := by
  induction h with
  | nil => exact .nil
  | @cons k' v' w' ks kvs h _ ih =>
    rw [List.map_cons, List.map_cons]
    by_cases c : k' = k
    · simp only [if_pos c]; exact .cons hv ih
    · simp only [if_neg c]; exact .cons h ih
theorem NdA.put {ks : List (Key × V)} {k : Key} (h : NdA K A ks kvs) (hv : RW K A v w) : NdA K A (putK ks k v) (putW kvs k w) := by
  unfold putK putW
  rw [h.any k]
  by_cases c : (kvs.any fun kv => decide (kv.1 = k)) = true
  · rw [if_pos c, if_pos c]; exact h.mapk hv
  · rw [if_neg c, if_neg c]; exact h.app (.cons hv .nil)
/-- a new object that may speak of others -/
theorem Nx.ownN (R : Rl K A S) {p : Addr} {u : HO} {o : MO} (n : A.H p = none) (ok : OR K ⟨A.G, upd A.H p u, A.ι ++ [p]⟩ p o) : Nx A ⟨A.G, upd A.H p u, A.ι ++ [p]⟩ ∧ Rl K ⟨A.G, upd A.H p u, A.ι ++ [p]⟩ (S ++ [o]) := by
  obtain ⟨N, R'⟩ := Nx.junk R (o := u) n
  exact Nx.own0g N R' n (R.new n) ok
end
def eNDN : FE := fun _ S => some (.r S.length, S ++ [.ndc []])
/-- d[k] -/
def eNDG (o i : FE) : FE := fun sl S => (o sl S).bind fun p => (i sl p.2).bind fun q => match q.1 with
  | .d y => (keyD y).bind fun k => (ndcAt q.2 p.1).bind fun kvs => (valW kvs k).map fun w => (w, q.2)
  | _ => none
/-- o.setdefault(i, []) -/
def eNSdL (o i : FE) : FE := fun sl S => (o sl S).bind fun p => if (ndcAt p.2 p.1).isSome = true then (i sl p.2).bind fun q => match q.1 with
  | .d y => (keyD y).bind fun k => (ndcAt q.2 p.1).bind fun kvs => if kvs.length ≤ 100000 then match valW kvs k with
      | some w => some (w, q.2)
      | none => some (.r q.2.length, setAt (q.2 ++ [.lst []]) p.1 (.ndc (putW kvs k (.r q.2.length))))
    else none
  | _ => none else none
def isNoneW : W3 → Bool
  | .d .none => true
  | _ => false
/-- x is None, x is not None, x any value -/
def tIsN (neg : Bool) (f : FE) : FT := fun sl S => (f sl S).map fun p => (neg != isNoneW p.1, p.2)
section
variable {K : PySem.W.Frag} {X : Cx} {o i e : Expr} {fo fi fe : FE} {pos : Pos}
theorem e_ndn : PE3 K X (.Dict [] [] pos) eNDN := ⟨pe_imp pe_dnewK fun σ H Q h => by
  obtain ⟨A, S, sl, w, S', rfl, R, s, e, q⟩ := h
  cases e
  intro p hp
  obtain ⟨n, R2⟩ := Nx.ownN (u := .dK []) (o := .ndc []) R hp ⟨R.gh.free hp, [], upd_same, .nil⟩
  exact q ⟨A.G, upd A.H p (.dK []), A.ι ++ [p]⟩ _ n R2 (RW.last (B := ⟨A.G, upd A.H p (.dK []), A.ι⟩) R.len)⟩
theorem e_ndg (hu : X.A.units + 1 < cLine) (ho : PE3 K X o fo) (hi : PE3 K X i fi) (hs : NoSl i) : PE3 K X (.Subscript o i pos) (eNDG fo fi) := ⟨pe_imp (pe_dget hu ho.p hi.p hs) fun σ H Q h => by
  obtain ⟨A, S, sl, w, S', rfl, R, s, e, q⟩ := h
  obtain ⟨⟨w1, S1⟩, e1, e⟩ := Option.bind_eq_some_iff.mp e
  obtain ⟨⟨w2, S2⟩, e2, e⟩ := Option.bind_eq_some_iff.mp e
  refine ⟨A, S, sl, w1, S1, rfl, R, s, e1, fun B v n R1 r1 => ⟨B, S1, sl, w2, S2, rfl, R1, s.mono n, e2, fun C u n2 R2 r2 => ?_⟩⟩
  dsimp only at e
  split at e
  · rename_i y
    obtain ⟨k, ek, e⟩ := Option.bind_eq_some_iff.mp e
    obtain ⟨kvs, ed, e⟩ := Option.bind_eq_some_iff.mp e
    obtain ⟨w', ev, e⟩ := Option.map_eq_some_iff.mp e
    cases e
    obtain ⟨j, a, vs, rfl, _, _, rfl, _, hH, hK⟩ := ndcAt_of R2 (r1.mono n2) ed
    have eu := key_da r2 ek
    subst eu
    rcases hK.val k with ⟨z, _⟩ | ⟨v', w2, z1, z2, rv⟩
    · rw [z] at ev; cases ev
    · rw [z1] at ev
      cases ev
      exact ⟨a, v', rfl, .inl ⟨vs, k, .inl hH, rfl, z2.symm⟩, q C v' (n.trans n2) R2 rv⟩
  · cases e⟩
theorem e_nsdl {apos cpos lpos : Pos} (ho : PE3 K X o fo) (hi : PE3 K X i fi) (m : M2 X o "setdefault" apos i (.List [] lpos) cpos) : PE3 K X (.Call (.Attribute o "setdefault" apos) [i, .List [] lpos] [] cpos) (eNSdL fo fi) := ⟨pe_imp (pe_dsetd ho.p hi.p (pe_lst pa_nil) m) fun σ H Q h => by
  obtain ⟨A, S, sl, w, S', rfl, R, s, e, q⟩ := h
  obtain ⟨⟨w1, S1⟩, e1, e⟩ := Option.bind_eq_some_iff.mp e
  dsimp only at e
  by_cases hs : (ndcAt S1 w1).isSome = true
  · rw [if_pos hs] at e
    obtain ⟨⟨w2, S2⟩, e2, e⟩ := Option.bind_eq_some_iff.mp e
    obtain ⟨kvs0, ed0⟩ := Option.isSome_iff_exists.mp hs
    refine ⟨A, S, sl, w1, S1, rfl, R, s, e1, fun B v n R1 r1 => ?_⟩
    obtain ⟨j0, a0, vs0, _, _, _, rfl, _, hH0, _⟩ := ndcAt_of R1 r1 ed0
    refine ⟨a0, rfl, .inl ⟨vs0, .inl hH0⟩, B, S1, sl, w2, S2, rfl, R1, s.mono n, e2, fun C u n2 R2 r2 => ?_⟩
    dsimp only at e
    split at e
    · rename_i y
      obtain ⟨k, ek, e⟩ := Option.bind_eq_some_iff.mp e
      obtain ⟨kvs, ed, e⟩ := Option.bind_eq_some_iff.mp e
      by_cases hl : kvs.length ≤ 100000
      · rw [if_pos hl] at e
        have eu := key_da r2 ek
        subst eu
        obtain ⟨j, a, vs, rfl, hj, hSj, eva, hG, hH, hK⟩ := ndcAt_of R2 (r1.mono n2) ed
        cases eva
        refine ⟨Nat.zero_le _, fun p hp => ?_⟩
        have pne : a0 ≠ p := fun z => by rw [z, hp] at hH; cases hH
        refine ⟨vs, k, (upd_ne pne).trans hH, rfl, by rw [hK.len]; exact Nat.lt_of_le_of_lt hl (by decide), fun v' hv' => ?_, fun hv' => ?_⟩
        · rcases hK.val k with ⟨z1, z2⟩ | ⟨v2, w3, z1, z2, rv⟩
          · rw [z2] at hv'; cases hv'
          · rw [z2] at hv'
            cases hv'
            rw [z1] at e
            cases e
            obtain ⟨n3, R3⟩ := Nx.junk R2 (o := .lst []) hp
            exact q ⟨C.G, upd C.H p (.lst []), C.ι⟩ _ ((n.trans n2).trans n3) R3 (rv.mono n3)
        · rcases hK.val k with ⟨z1, z2⟩ | ⟨v2, w3, z1, z2, rv⟩
          · rw [z1] at e
            cases e
            obtain ⟨n3, R3⟩ := Nx.own (u := .lst []) (o := .lst []) R2 hp ⟨R2.gh.free hp, [], upd_same, .nil⟩
            have rp : RW K ⟨C.G, upd C.H p (.lst []), C.ι ++ [p]⟩ (.ref p) (.r S2.length) := RW.last (B := ⟨C.G, upd C.H p (.lst []), C.ι⟩) R2.len
            have hj3 : (C.ι ++ [p])[j]? = some a0 := by rw [List.getElem?_append_left (List.getElem?_eq_some_iff.mp hj).1]; exact hj
            have ok : OR K ⟨C.G, upd (upd C.H p (.lst [])) a0 (.dK (putK vs k (.ref p))), C.ι ++ [p]⟩ a0 (.ndc (putW kvs k (.r S2.length))) :=
              ⟨hG, _, upd_same, (hK.monov (B := ⟨C.G, upd (upd C.H p (.lst [])) a0 (.dK (putK vs k (.ref p))), C.ι ++ [p]⟩) ⟨n3.gg, n3.pre⟩).put rp⟩
            obtain ⟨n4, R4⟩ := Nx.wr (A := ⟨C.G, upd C.H p (.lst []), C.ι ++ [p]⟩) (u := .dK (putK vs k (.ref p))) R3 hj3 hG ok (by show nfz (upd C.H p (.lst []) a0) = true; rw [upd_ne pne, hH]; rfl)
            exact q ⟨C.G, upd (upd C.H p (.lst [])) a0 (.dK (putK vs k (.ref p))), C.ι ++ [p]⟩ _ (((n.trans n2).trans n3).trans n4) R4 rp
          · rw [z2] at hv'; cases hv'
      · rw [if_neg hl] at e; cases e
    · cases e
  · rw [if_neg hs] at e; cases e⟩
theorem isn_w {A : Wd} {v : V} {w : W3} (r : RW K A v w) : decide (v = .non) = isNoneW w := by
  cases w with
  | d x =>
    cases x with
    | none => cases Da.non_inv r; rfl
    | bool b => cases Da.bool_inv r; rfl
    | int b => cases Da.int_inv r; rfl
    | str b => cases Da.str_inv r; rfl
    | list b => obtain ⟨a, xs, rfl, _⟩ := Da.list_inv r; rfl
    | tuple b => obtain ⟨a, xs, rfl, _⟩ := Da.tup_inv r; rfl
    | dict b => exact (Da.dict_no r).elim
  | r i => obtain ⟨a, _, rfl⟩ := r; rfl
  | sc x => obtain ⟨a, rfl, _⟩ := r; rfl
  | ty n => cases (show v = .ty n from r); rfl
theorem t_isn {c : Pos} (hf : PE3 K X e fe) (hm : behindInMarks .Is (.Constant .none 0 pos) = false := by rfl) : PT3 K X (.Compare e [.Is] [.Constant .none 0 pos] c) (tIsN false fe) := ⟨pt_imp (pt_cmpR op_isN hf.p pe_non hm) fun σ H Q h => by
  obtain ⟨A, S, sl, w, S', rfl, R, s, e, q⟩ := h
  obtain ⟨⟨w1, S1⟩, e1, e2⟩ := Option.map_eq_some_iff.mp e
  cases e2
  refine ⟨A, S, sl, w1, S1, rfl, R, s, e1, fun B v n R1 r1 => ⟨rfl, _, rfl, ?_⟩⟩
  have z := q B n R1
  rw [isn_w r1]
  simpa using z⟩
end
/-! ### xs.extend(ys), ys a list of data -/
def mExtL : GM := fun xs ws => match ws with
  | [.d (.list ys)] => if xs.length + ys.length ≤ 100000 then some (.none, xs ++ ys) else none
  | _ => none
theorem mk_extL {K : PySem.W.Frag} : MkOk K rExtend mExtL := by
  intro A a vs xs S ws us d ys Q R h hd rs e q
  unfold mExtL at e
  split at e
  · rename_i zs
    by_cases z : xs.length + zs.length ≤ 100000
    · rw [if_pos z] at e
      cases e
      cases rs with
      | cons r rr =>
        cases rr
        obtain ⟨b, us, rfl, h1, d1⟩ := Da.list_inv r
        exact ⟨a, b, vs, us, rfl, rfl, h, R.gh _ _ h1, by rw [hd.len, d1.len]; exact lineD z, q _ _ Da.non (hd.app d1)⟩
    · rw [if_neg z] at e; cases e
  · cases e
end EA
namespace EA
open PySem PySem.Spec PyProof.Rows L2
/-! enumerate over a tuple: new pairs whose objects are told -/
def ItfT (K : PySem.W.Frag) (a : Addr) : It :=
  ⟨fun i H => ∃ (xs : List V) (x : V), SqT K H a xs ∧ xs[i]? = some x, fun i H v H' => ∃ (T : Addr) (x : V) (o : Obj), v = .ref T ∧ o.dict = none ∧ H T = none ∧ H' = upd H T (.frz o (.tup [.int (i : Nat), x])) ∧ ∀ xs, SqT K H a xs → xs[i]? = some x, fun i H => ∃ xs : List V, SqT K H a xs ∧ xs.length ≤ i⟩
theorem enum_endT {prog : Program} {w : World} {A : Around} {E : Value → Shared → Prop} {s : Shared} {e it l : Addr} {i : Nat} {items : Array Value} {old : Value} {Q : Option Value → Shared → Prop} (hh : A.handled = none)
    (he : IsEnum s.heap e it i old) (hit : s.heap.IsTupleIter it l i) (hl : s.heap.IsTuple l items) (hx : items[i]? = none) (hQ : ∀ h', Heap.ExtBut it s.heap h' → Q none { s with heap := h' }) : wpAny (model prog w) A (pyNext (.ref e)) Q E s := by
  have ty : s.TypeIs (.ref e) "enumerate" := ⟨_, he, rfl⟩
  have step : wpAny (model prog w) A.in1 (Builtin.«enumerate.__next__» ⟨[.ref e], []⟩) (fun _ _ => False) (fun x s' => ∃ h' o, Heap.ExtBut it s.heap h' ∧ s' = { s with heap := h' } ∧ ∃ b, x = .ref b ∧ h'.get? b = some o ∧ o.cls = .type "StopIteration") s := by
    show wpAny _ _ (field (.ref e) 2 >>= _) _ _ _
    refine wpAny_bind (wpAny_field he rfl (x := .ref it) rfl (wpAny_bind ?_))
    exact wpAny_nextOf_tuple_end (by exact hh) hit hl hx fun h' x k ⟨o, ho, hc⟩ => ⟨h', o, k, rfl, x, rfl, ho, hc⟩
  unfold pyNext
  refine wpAny_bind (wpAny_attempt (wpAny_callSpecial?_slot (name := Str.ofString "__next__") ty F.slot_enumerate_next (wpAny_call_entry F.slot_enumerate_next ty F.entry_enumerate_next (wpAny_mono step (fun _ _ z => z.elim) fun x s' z => ?_) (F.args_enumerate_next_1 _))))
  obtain ⟨h', o, k, rfl, b, rfl, ho, hc⟩ := z
  exact wpAny_bind (wpAny_isInstance (T := "StopIteration") (b := true) ⟨o, ho, hc⟩ isSubtype_stop (wpAny_pure (hQ h' k)))
theorem turn_enumT {P : Program} {w : World} {K : PySem.W.Frag} {elts : List Expr} {kk : Nat} {tpos : Pos} (a e it : Addr) :
    Turn P w K (.Tuple elts kk tpos) (ItfT K a) [e, it] e (fun i h => (∃ old, IsEnum h e it ((i : Nat) : Int) old) ∧ h.IsTupleIter it a i ∧ e ≠ it ∧ e ≠ a ∧ a ≠ it) where
  mem := by simp
  obj := fun i h st b hb => by
    obtain ⟨⟨old, he⟩, ⟨o, ho, hc, hd⟩, _⟩ := st
    have e' : b = e ∨ b = it := by simpa using hb
    rcases e' with z | z
    · rw [z]; exact ⟨_, he, fun v q => nomatch q⟩
    · rw [z]; exact ⟨o, ho, fun v q => by rw [hd] at q; cases q⟩
  keep := fun i h h' st k => let ⟨⟨old, he⟩, hi, hne⟩ := st; ⟨⟨old, k e (by simp) _ he⟩, hi.at fun o q => k it (by simp) o q, hne⟩
  item := by
    intro X hP hw hK hc i pins s σ H E I hf st hg
    subst hP hw hK
    obtain ⟨⟨old, he⟩, hit, hne, hea, hait⟩ := st
    obtain ⟨xs, x, hq, hx⟩ := hg
    obtain ⟨its, rv, ⟨ot, hot, hct, nt, hdt⟩, hz⟩ := I.tuple hq
    obtain ⟨u, hu, ru⟩ := rv.get hx
    have hel : e < s.heap.objs.size := Heap.lt_size he
    have hil : it < s.heap.objs.size := by obtain ⟨_, q, _⟩ := hit; exact Heap.lt_size q
    have hIT : s.heap.IsTuple a its.toArray := ⟨ot, hot, hct, nt, hdt⟩
    have hut : its.toArray[i]? = some u := by simpa using hu
    have hlt : i < its.toArray.size := by
      rw [List.size_toArray]
      exact (List.getElem?_eq_some_iff.mp hu).1
    refine wpAny_pyNext_enum_itemD (Draws.tuple (A := X.A.in1) (I.ok.hd hc) it a hait its.toArray) he ⟨hit, hIT⟩ hlt hne (by simp [hne, hea]) fun x' h' tk hP ho' hst' hT hsz hk => ?_
    rw [hut] at hP
    cases hP
    refine ⟨_, rfl, wpAny_letOwnedTupleGo_enum (s := { s with heap := h', toks := tk + 1 }) ho' fun h'' he' sb => ?_⟩
    have hT2 : h''.get? s.heap.objs.size = some { cls := .type "tuple", data := .seq #[.int i tk, u] } := (sb.2 _ (Nat.ne_of_gt hel)).trans hT
    have new : ObjOk X.prog X.w (upd H s.heap.objs.size (.frz { cls := .type "tuple", data := .seq #[.int i tk, u] } (.tup [.int (i : Nat), x]))) h'' s.heap.objs.size (.frz { cls := .type "tuple", data := .seq #[.int i tk, u] } (.tup [.int (i : Nat), x])) :=
      ⟨hT2, by show 2 ≤ sizeLine; decide, [.int i tk, u], .cons ⟨_, rfl⟩ (.cons ru .nil), ⟨_, hT2, rfl, _, rfl⟩⟩
    have I1 : Inv X pins σ (upd H s.heap.objs.size (.frz { cls := .type "tuple", data := .seq #[.int i tk, u] } (.tup [.int (i : Nat), x]))) { s with heap := h'', toks := tk + 1 } :=
      I.turnedNew (ch := [e, it]) (fun b ob hb q => (sb.2 b (fun z => hb (by simp [z]))).trans (hk b ob (fun z => hb (by simp [z])) (fun z => hb (by simp [z])) q)) hf (Nat.le_refl _) new
    refine ⟨.ref s.heap.objs.size, _, I1, rfl, ⟨_, x, _, rfl, rfl, I.hok.fresh (Nat.le_refl _), rfl, fun ys hy => by rw [I.tuple_inj hy hq]; exact hx⟩, ⟨⟨u, ?_⟩, hst'.1.at fun o q => (sb.2 it (Ne.symm hne)).trans q, hne, hea, hait⟩, fun b hb => ?_⟩
    · have e1 : ((i + 1 : Nat) : Int) = (i : Int) + 1 := by omega
      rw [e1]; exact he'
    · have hb' : b < s.heap.objs.size := by
        have e' : b = e ∨ b = it := by simpa using hb
        rcases e' with z | z
        · rw [z]; exact hel
        · rw [z]; exact hil
      rw [upd_ne (Nat.ne_of_lt hb')]
      exact (hf b hb).1
  done := by
    intro X hP hw hK hc i pins s σ H E I hf st hg
    subst hP hw hK
    obtain ⟨⟨old, he⟩, hit, hne, hea, hait⟩ := st
    obtain ⟨xs, hq, hx⟩ := hg
    obtain ⟨its, rv, ⟨ot, hot, hct, nt, hdt⟩, hz⟩ := I.tuple hq
    obtain ⟨f0, f1, f2, f3, f4, f5⟩ := hf it (by simp)
    have hl := rv.length
    exact enum_endT (I.ok.hd hc) he hit ⟨ot, hot, hct, nt, hdt⟩ (by simp; omega) fun h' eb => ⟨rfl, I.turned (t' := s.toks) (fun b o hb q => eb b o hb q) f0 f1 f3 f4 f5⟩
  self := fun A i s Q E st h => let ⟨⟨_, he⟩, _⟩ := st; wpAny_pyIter_enum he h
theorem meets_enumT (l : Addr) (items : Array Value) :
    Meets (Builtin.«enumerate.__new__» ⟨[.type "enumerate", .ref l], []⟩) (fun _ R s => s.heap.IsTuple l items ∧
      R (.ok (.ret (.ref (s.heap.push { cls := .type "tuple_iterator", data := .fields #[.ref l, .int 0 0] }).objs.size)))
        { s with heap := (s.heap.push { cls := .type "tuple_iterator", data := .fields #[.ref l, .int 0 0] }).push { cls := .type "enumerate", data := .fields #[.none, .bool false, .ref s.heap.objs.size, rawInt 0, .none, .none] } }) :=
  .of_wp fun prog w A R s hh => by
    obtain ⟨hp, g, d, tk, os⟩ := s
    obtain ⟨hT, h⟩ := hh
    have hsub := sub_enumerate
    have q1 : ∀ {A' : Around} {E : Value → Shared → Prop} {Q : Value → Shared → Prop}, Q (.ref hp.objs.size) ⟨hp.push { cls := .type "tuple_iterator", data := .fields #[.ref l, .int 0 0] }, g, d, tk, os⟩ → wpAny (model prog w) A' (pyIter (.ref l)) Q E ⟨hp, g, d, tk, os⟩ :=
      fun q => PySem.wpAny_pyIter_tuple (s := ⟨hp, g, d, tk, os⟩) hT q
    wp_walk using q1
    refine wpAny_stack_any fun st => wpAny_pure ?_
    split
    · rename_i c _ _ _ _ _
      cases (c == Value.type "enumerate") <;> (wp_walk using q1; exact ⟨_, rfl, h⟩)
    · wp_walk using q1
      exact ⟨_, rfl, h⟩
theorem call_enumT {prog : Program} {w : World} {A : Around} {E : Value → Shared → Prop} {s : Shared} {l : Addr} {items : Array Value} {Q : Value → Shared → Prop} (hL : s.heap.IsTuple l items)
    (h : ∀ h', IsEnum h' (s.heap.objs.size + 1) s.heap.objs.size 0 .none → h'.IsTupleIter s.heap.objs.size l 0 → (∀ b o, s.heap.get? b = some o → h'.get? b = some o) → Q (.ref (s.heap.objs.size + 1)) { s with heap := h' }) :
    wpAny (model prog w) A (call (.type "enumerate") [.ref l]) Q E s := by
  refine callType_new F.called_enumerate (by decide) (F.typeCall_enumerate_1 _) (F.newCall_enumerate_1 _) (fun obj => F.args_object_init_2 obj _) F.entry_enumerate_new (meets_enumT l items) ⟨hL, ?_⟩
  have sz : (s.heap.push { cls := .type "tuple_iterator", data := .fields #[.ref l, .int 0 0] }).objs.size = s.heap.objs.size + 1 := Heap.size_push ..
  have he := Heap.get?_push_size (s.heap.push { cls := .type "tuple_iterator", data := .fields #[.ref l, .int 0 0] }) (o := { cls := .type "enumerate", data := .fields #[.none, .bool false, .ref s.heap.objs.size, rawInt 0, .none, .none] }) rfl
  rw [sz] at he
  rw [sz]
  exact ⟨⟨_, he, rfl⟩, h _ he ⟨_, Heap.get?_push_of_some _ (Heap.get?_push_size _ rfl), rfl, rfl⟩ fun b o x => Heap.get?_push_of_some _ (Heap.get?_push_of_some _ x)⟩
def iEnumT (K : PySem.W.Frag) (ta : TA) : TI := fun σ H R => ta σ H fun vs H1 => ∃ a xs, vs = [.ref a] ∧ SqT K H1 a xs ∧ R (ItfT K a) H1
theorem pi_enumT {X : Cx} {e : Expr} {ta : TA} {p pos tpos : Pos} {elts : List Expr} {kk : Nat} (hg : Gl X "enumerate") (hm : X.mg "enumerate" = none) (ha : PA X [e] ta) (hs : starEach [e] X.env = [(false, eval e X.env)] := by rfl) :
    PI X (.Tuple elts kk tpos) (.Call (.Name "enumerate" p) [e] [] pos) (iEnumT X.K ta) := by
  refine ⟨fun pins s σ H R I h => ?_⟩
  refine Call_ (ld_blt I hg hm boot_enumerate (PyProof.Rows.callWith_type1 (thn (ha.run pos pins s σ H _ I h) fun us s1 ⟨vs, H1, I1, r1, q1⟩ => ?_) hs rfl))
  obtain ⟨a, xs, ex, hq, q⟩ := q1
  subst ex
  cases r1 with
  | cons r rr =>
    cases rr
    cases r
    obtain ⟨its, rv, ⟨ot, hot, hct, nt, hdt⟩, hz⟩ := I1.tuple hq
    have la : a < s1.heap.objs.size := Heap.lt_size hot
    refine call_enumT ⟨ot, hot, hct, nt, hdt⟩ fun h' he hit hk => wpAny_pyIter_enum he ?_
    have I2 : Inv X pins σ H1 { s1 with heap := h' } := I1.kept (t' := s1.toks) hk
    refine ⟨s1.heap.objs.size + 1, [s1.heap.objs.size + 1, s1.heap.objs.size], _, _, H1, rfl, I2, turn_enumT a (s1.heap.objs.size + 1) s1.heap.objs.size, ⟨⟨.none, he⟩, hit, Nat.succ_ne_self _, Nat.ne_of_gt (Nat.lt_succ_of_lt la), Nat.ne_of_lt la⟩, fun b hb => ?_, q⟩
    have e' : b = s1.heap.objs.size + 1 ∨ b = s1.heap.objs.size := by simpa using hb
    have hle : s1.heap.objs.size ≤ b := by
      rcases e' with z | z
      · rw [z]; exact Nat.le_add_right _ _
      · rw [z]; exact Nat.le_refl _
    exact I1.fpOk hle (I1.hok.fresh hle)
end EA
namespace EA
open PySem PySem.Spec PyProof.Rows L2
/-! for a, b in zip(x, y) over a tuple and a list, over two tuples -/
def ItzTL (K : PySem.W.Frag) (a b : Addr) : It :=
  ⟨fun i H => ∃ (xs ys : List V) (x y : V), SqT K H a xs ∧ SqL K H b ys ∧ xs[i]? = some x ∧ ys[i]? = some y,
   fun i H v H' => ∃ (T : Addr) (x y : V) (o : Obj), v = .ref T ∧ o.dict = none ∧ H T = none ∧ H' = upd H T (.frz o (.tup [x, y])) ∧ (∀ l, SqT K H a l → l[i]? = some x) ∧ ∀ l, SqL K H b l → l[i]? = some y,
   fun i H => ∃ (xs ys : List V), SqT K H a xs ∧ SqL K H b ys ∧ (xs.length ≤ i ∨ ys.length ≤ i)⟩
theorem turn_zipTL {P : Program} {w : World} {K : PySem.W.Frag} {elts : List Expr} {kk : Nat} {tpos : Pos} {a b z TI TO i1 i2 : Addr} (D : ZipApart z TI TO i1 i2 a b) :
    Turn P w K (.Tuple elts kk tpos) (ItzTL K a b) [z, TI, TO, i1, i2] z (fun i h => IsZip h z TI TO .none ∧ IsPair h TI (.ref i1) (.ref i2) ∧ (∃ x y, IsPair h TO x y) ∧ h.IsTupleIter i1 a i ∧ h.IsListIter i2 b i) where
  mem := by simp
  obj := fun i h st c hc => by
    obtain ⟨hz, hTI, ⟨x, y, hTO⟩, ⟨oa, e1, _, d1⟩, ⟨ob, e2, _, d2⟩⟩ := st
    simp only [List.mem_cons, List.not_mem_nil, or_false] at hc
    rcases hc with rfl | rfl | rfl | rfl | rfl
    · exact ⟨_, hz, fun v q => nomatch q⟩
    · exact ⟨_, hTI, fun v q => nomatch q⟩
    · exact ⟨_, hTO, fun v q => nomatch q⟩
    · exact ⟨oa, e1, fun v q => by rw [d1] at q; cases q⟩
    · exact ⟨ob, e2, fun v q => by rw [d2] at q; cases q⟩
  keep := fun i h h' st k => by
    obtain ⟨hz, hTI, ⟨x, y, hTO⟩, h1, h2⟩ := st
    exact ⟨k z (by simp) _ hz, k TI (by simp) _ hTI, ⟨x, y, k TO (by simp) _ hTO⟩, h1.at fun o q => k i1 (by simp) o q, h2.at fun o q => k i2 (by simp) o q⟩
  item := by
    intro X hP hw hK hc i pins s σ H E I hf st hg
    subst hP hw hK
    obtain ⟨hz, hTI, ⟨x0, y0, hTO⟩, q1, q2⟩ := st
    obtain ⟨xs, ys, x, y, hqx, hqy, hx, hy⟩ := hg
    obtain ⟨its, rv, ⟨o1, h1, c1, m1, d1⟩, _⟩ := I.tuple hqx
    obtain ⟨its2, rv2, p2, _⟩ := I.list hqy
    obtain ⟨u, hu, ru⟩ := rv.get hx
    obtain ⟨u2, hu2, ru2⟩ := rv2.get hy
    have hzl : z < s.heap.objs.size := Heap.lt_size hz
    refine EZ.wpAny_pyNext_zip_item_TL D hz hTI hTO q1 q2 ⟨o1, h1, c1, m1, d1⟩ p2.isList (x := u) (y := u2) (by simpa using hu) (by simpa using hu2) fun h' z' TO' r1 r2 hT hsz hk => ?_
    refine ⟨_, rfl, wpAny_letOwnedTupleGo_zip (s := { s with heap := h' }) z' fun h'' z'' sb => ?_⟩
    have hT2 : h''.get? s.heap.objs.size = some { cls := .type "tuple", data := .seq #[u, u2] } := (sb.2 _ (Nat.ne_of_gt hzl)).trans hT
    have new : ObjOk X.prog X.w (upd H s.heap.objs.size (.frz { cls := .type "tuple", data := .seq #[u, u2] } (.tup [x, y]))) h'' s.heap.objs.size (.frz { cls := .type "tuple", data := .seq #[u, u2] } (.tup [x, y])) :=
      ⟨hT2, by show 2 ≤ sizeLine; decide, [u, u2], .cons ru (.cons ru2 .nil), ⟨_, hT2, rfl, _, rfl⟩⟩
    have J : Inv X pins σ (upd H s.heap.objs.size (.frz { cls := .type "tuple", data := .seq #[u, u2] } (.tup [x, y]))) { s with heap := h'' } :=
      I.turnedNew (t' := s.toks) (ch := [z, TI, TO, i1, i2]) (fun c o hb q => (sb.2 c (fun e => hb (by simp [e]))).trans (hk c o (fun e => hb (by simp [e])) (fun e => hb (by simp [e])) (fun e => hb (by simp [e])) (fun e => hb (by simp [e])) q)) hf (Nat.le_refl _) new
    refine ⟨.ref s.heap.objs.size, _, J, rfl, ⟨_, x, y, _, rfl, rfl, I.hok.fresh (Nat.le_refl _), rfl, fun l hl => by rw [I.tuple_inj hl hqx]; exact hx, fun l hl => by rw [I.list_inj hl hqy]; exact hy⟩, ⟨z'', ?_, ⟨u, u2, ?_⟩, ?_, ?_⟩, fun c hcm => ?_⟩
    · exact (sb.2 _ D.TIz).trans (hk _ _ D.TIz D.TITO D.TIi1 D.TIi2 hTI)
    · exact (sb.2 _ D.TOz).trans TO'
    · exact r1.at fun o q => (sb.2 _ D.i1z).trans q
    · exact r2.at fun o q => (sb.2 _ D.i2z).trans q
    · have hlt : c < s.heap.objs.size := by
        simp only [List.mem_cons, List.not_mem_nil, or_false] at hcm
        rcases hcm with e | e | e | e | e
        · rw [e]; exact hzl
        · rw [e]; exact Heap.lt_size hTI
        · rw [e]; exact Heap.lt_size hTO
        · rw [e]; obtain ⟨_, e1, _⟩ := q1; exact Heap.lt_size e1
        · rw [e]; obtain ⟨_, e1, _⟩ := q2; exact Heap.lt_size e1
      rw [upd_ne (Nat.ne_of_lt hlt)]
      exact (hf c hcm).1
  done := by
    intro X hP hw hK hc i pins s σ H E I hf st hg
    subst hP hw hK
    obtain ⟨hz, hTI, ⟨x0, y0, hTO⟩, q1, q2⟩ := st
    obtain ⟨xs, ys, hqx, hqy, hend⟩ := hg
    obtain ⟨its, rv, ⟨o1, h1, c1, m1, d1⟩, _⟩ := I.tuple hqx
    obtain ⟨its2, rv2, p2, _⟩ := I.list hqy
    have l1 := rv.length
    have l2 := rv2.length
    have he : its.toArray[i]? = none ∨ its2.toArray[i]? = none := by
      rcases hend with q | q
      · exact .inl (by simp; omega)
      · exact .inr (by simp; omega)
    exact EZ.wpAny_pyNext_zip_end_TL (I.ok.hd hc) D hz hTI hTO q1 q2 ⟨o1, h1, c1, m1, d1⟩ p2.isList he fun h' hk => ⟨rfl, I.turnedL (t' := s.toks) (ch := [z, TI, TO, i1, i2]) (fun c o hb q =>
      hk c o (fun e => hb (by simp [e])) (fun e => hb (by simp [e])) (fun e => hb (by simp [e])) (fun e => hb (by simp [e])) q) hf⟩
  self := fun A i s Q E st h => wpAny_pyIter_zip st.1 h
def iZipTL (K : PySem.W.Frag) (ta : TA) : TI := fun σ H R => ta σ H fun vs H1 => ∃ a b xs ys, vs = [.ref a, .ref b] ∧ SqT K H1 a xs ∧ SqL K H1 b ys ∧ R (ItzTL K a b) H1
theorem pi_zipTL {X : Cx} {e e2 : Expr} {ta : TA} {p pos tpos : Pos} {elts : List Expr} {kk : Nat} (hg : Gl X "zip") (hm : X.mg "zip" = none) (ha : PA X [e, e2] ta)
    (hs : starEach [e, e2] X.env = (false, eval e X.env) :: starEach [e2] X.env := by rfl) (hpl : (backTo pos (starEach [e2] X.env)).any (·.1) = false := by rfl) :
    PI X (.Tuple elts kk tpos) (.Call (.Name "zip" p) [e, e2] [] pos) (iZipTL X.K ta) := by
  refine ⟨fun pins s σ H R I0 h => ?_⟩
  refine Call_ (ld_blt I0 hg hm PyProof.Rows.boot_zip (PyProof.Rows.callWith_type1 (thn (ha.run pos pins s σ H _ I0 h) fun us s1 ⟨vs, H1, I, rr, q⟩ => ?_) hs hpl))
  obtain ⟨a, b, xs, ys, ex, hqx, hqy, q⟩ := q
  subst ex
  cases rr with
  | cons ra rr =>
    cases rr with
    | cons rb rr =>
      cases rr
      cases ra
      cases rb
      obtain ⟨its, rv, ⟨o1, h1, c1, m1, d1⟩, _⟩ := I.tuple hqx
      obtain ⟨its2, rv2, p2, _⟩ := I.list hqy
      have la : a < s1.heap.objs.size := Heap.lt_size h1
      have lb : b < s1.heap.objs.size := p2.lt
      refine EZ.call_zip_2_TL ⟨o1, h1, c1, m1, d1⟩ p2.isList fun h' hz hTI hTO r1 r2 hsz hk => wpAny_pyIter_zip hz ?_
      have J : Inv X pins σ H1 { s1 with heap := h' } := I.kept (t' := s1.toks) hk
      refine ⟨s1.heap.objs.size + 4, [s1.heap.objs.size + 4, s1.heap.objs.size + 2, s1.heap.objs.size + 3, s1.heap.objs.size, s1.heap.objs.size + 1], _, _, H1, rfl, J, turn_zipTL (PySem.W.ktu_apart s1.heap.objs.size a b la lb), ⟨hz, hTI, ⟨_, _, hTO⟩, r1, r2⟩, fun c hcm => ?_, q⟩
      have hle : s1.heap.objs.size ≤ c := by
        simp only [List.mem_cons, List.not_mem_nil, or_false] at hcm
        rcases hcm with e | e | e | e | e <;> (rw [e]; first | exact Nat.le_refl _ | exact Nat.le_add_right _ _)
      exact I.fpOk hle (I.hok.fresh hle)
end EA
namespace EA
open PySem PySem.Spec PyProof.Rows L2
/-! ### defs with a default -/
section
variable {K : PySem.W.Frag}
/-- the rule for a def with defaults -/
theorem fn3D {P : Program} {w : World} {mg : Str → Option Value} {base : Heap} {x qual : Str} {dvs : List V} {kws : List (Str × V)} {st : Stmt} {f : Addr} {fd : FuncData} {N ps : List Str} {k np nl : Nat} {own : Bool} {body : FS} (F : FunD K x qual (defArgs st) (defBody st) (defScope st) dvs kws f fd) (S : FnScope N ps (defScope st)) (hnp : ps.length = np) (hnl : N.length = np + nl)
    (hb : ∀ (cdv : Value) (A : Around) (outer : List Env) (s : Shared) (H : Hp) (E : XK), Room k (A.deeper (envOfC qual (defScope st) s.heap.objs.size f cdv)) → PSs3 K (cxOf CX0 P w K mg base N qual (defScope st) f cdv A outer s H E).nox (defBody st) body) : FnOk P w K mg base CX0 (k + 1) f fd ps (sp3 K (fdef own np nl body)) := by
  have arity : ∀ {ws : List W3} {S0 : List MO} {r}, fdef own np nl body ws S0 = some r → ws.length = np ∧ (body (ws.map some ++ List.replicate nl none) S0).bind (ret3 own S0) = some r := fun {ws S0 r} e => by
    unfold fdef at e
    by_cases z : ws.length = np
    · rw [if_pos z] at e; exact ⟨z, e⟩
    · rw [if_neg z] at e; cases e
  refine F.ok S (fun vs H Q E h => ?_) fun cdv A outer s H vs Q E hr h => ?_
  · obtain ⟨A, S0, ws, w, S', _, _, r, e, _⟩ := h
    rw [r.len, (arity e).1, hnp]
  · obtain ⟨B, S0, ws, w, S', rfl, R, r, e, q⟩ := h
    obtain ⟨hl, e⟩ := arity e
    obtain ⟨o, e1, e2⟩ := Option.bind_eq_some_iff.mp e
    refine ⟨_, (hb cdv A outer s B.H E hr).p.nox, B, S0, _, o, rfl, R, ?_, e1, ret_nx R e2 q⟩
    have z := sr3_start r nl
    have ez : N.length - vs.length = nl := by rw [r.len, hl]; omega
    unfold L2.start
    rw [ez]; exact z
end
theorem fd_pos {K : PySem.W.Frag} {x qual : Str} {st : Stmt} {f T : Addr} {oc kV : Value} {od an : Option Addr} {doc pm cdv ct : Value} {osl tsl : Array (Option Value)} {n : Nat}
    (l : K.lookup f = some ⟨oc, od, .func (PySem.W.fnOf x qual (defArgs st) (defBody st) (defScope st) (.ref T) kV doc pm an cdv ct), osl⟩) (c : PySem.W.codeIn K cdv qual = true) (k : PySem.W.keepIn K (.ref f) = true) (t : K.lookup T = some ⟨.type "tuple", none, .seq #[.none] n, tsl⟩) :
    FunD K x qual (defArgs st) (defBody st) (defScope st) [.non] [] f (PySem.W.fnOf x qual (defArgs st) (defBody st) (defScope st) (.ref T) kV doc pm an cdv ct) :=
  ⟨⟨oc, od, .ref T, kV, doc, pm, an, cdv, ct, osl, rfl, l, c, .inr ⟨by simp, T, _, [.none], n, rfl, t, rfl, .cons rfl .nil⟩, .inl rfl⟩, k⟩
theorem binds_all {K : PySem.W.Frag} {fd : FuncData} {ps : List Str} (h : ∃ ds, Vals [] ds ∧ Binds K fd ps ds) : Binds K fd ps [] := by
  obtain ⟨ds, h1, h2⟩ := h
  cases h1
  exact h2
/-! ### enumerate of a tuple; zip -/
noncomputable def iEnT (f : FA) : FI := fun sl S => (f sl S).bind fun p => match p.1 with
  | [w] => match view p.2 w with
    | some (.tuple xs) => some (⟨(enumD xs).map .d, seqOk w (.tuple xs)⟩, p.2)
    | _ => none
  | _ => none
section
variable {K : PySem.W.Frag} {X : Cx} {e e2 : Expr} {p pos pp : Pos}
theorem i_enT {elts : List Expr} {kk : Nat} {tpos : Pos} {f : FA} (hK : X.K = K) (hg : Gl X "enumerate") (hm : X.mg "enumerate" = none) (ha : PA3 K X [e] f) (hs : starEach [e] X.env = [(false, eval e X.env)] := by rfl) : PI3 K X (.Tuple elts kk tpos) (.Call (.Name "enumerate" pp) [e] [] pos) (iEnT f) := ⟨pi_imp (pi_enumT hg hm ha.p hs) fun σ H R h => by
  subst hK
  obtain ⟨A, S, sl, j, S', rfl, R0, s, e, q⟩ := h
  obtain ⟨⟨ws, S1⟩, e1, e⟩ := Option.bind_eq_some_iff.mp e
  dsimp only at e
  refine ⟨A, S, sl, ws, S1, rfl, R0, s, e1, fun B vs n R1 rs => ?_⟩
  split at e
  · rename_i w
    split at e
    · rename_i xs hx
      cases e
      cases rs with
      | cons r1 rr =>
        cases rr
        obtain ⟨a, us, rfl, h1, hd⟩ := view_tup R1 r1 hx
        refine ⟨a, us, rfl, h1, q B _ n R1 fun C S2 n2 R2 ok i => ?_⟩
        obtain ⟨a2, vs2, ea, h2, hd2⟩ := view_tup R2 (r1.monov n2) (seqOk_view ok hx)
        cases ea
        refine ⟨fun w hw => ?_, fun hi => ⟨vs2, h2, by
          have hi : ((enumD xs).map W3.d).length ≤ i := hi
          rw [List.length_map, enumD_len] at hi
          rw [hd2.len]; exact hi⟩⟩
        obtain ⟨x, hx2, rfl⟩ := ws_get hw
        have hlt : i < xs.length := by have := (List.getElem?_eq_some_iff.mp hx2).1; rwa [enumD_len] at this
        have hxi : xs[i]? = some xs[i] := List.getElem?_eq_getElem hlt
        rw [enumD_at hxi] at hx2
        cases hx2
        obtain ⟨u, hu, du⟩ := hd2.get hxi
        refine ⟨⟨vs2, u, h2, hu⟩, fun v H' y => ?_⟩
        obtain ⟨T, x, o, rfl, od, hT, rfl, y2⟩ := y
        have := y2 vs2 h2
        rw [hu] at this
        cases this
        obtain ⟨n3, R3⟩ := Nx.dat (o := .frz o (.tup [.int (i : Nat), u])) R2 hT
        exact ⟨_, rfl, n3, R3, Da.tup (.inl ⟨o, upd_same, od⟩) (.cons (.int _) (.cons (du.up n3.gg) .nil))⟩
    · cases e
  · cases e⟩
end
noncomputable def iZTL (f : FA) : FI := fun sl S => (f sl S).bind fun p => match p.1 with
  | [w, w2] => match view p.2 w, view p.2 w2 with
    | some (.tuple xs), some (.list ys) => some (⟨(zipD xs ys).map .d, fun S => seqOk w (.tuple xs) S && seqOk w2 (.list ys) S⟩, p.2)
    | _, _ => none
  | _ => none
section
variable {K : PySem.W.Frag} {X : Cx} {e e2 : Expr} {p pos pp : Pos}
theorem i_zTL {elts : List Expr} {kk : Nat} {tpos : Pos} {f : FA} (hK : X.K = K) (hg : Gl X "zip") (hm : X.mg "zip" = none) (ha : PA3 K X [e, e2] f) (hs : starEach [e, e2] X.env = (false, eval e X.env) :: starEach [e2] X.env := by rfl) (hpl : (backTo pos (starEach [e2] X.env)).any (·.1) = false := by rfl) : PI3 K X (.Tuple elts kk tpos) (.Call (.Name "zip" pp) [e, e2] [] pos) (iZTL f) := ⟨pi_imp (pi_zipTL hg hm ha.p hs hpl) fun σ H R h => by
  subst hK
  obtain ⟨A, S, sl, j, S', rfl, R0, s, e, q⟩ := h
  obtain ⟨⟨ws, S1⟩, e1, e⟩ := Option.bind_eq_some_iff.mp e
  dsimp only at e
  refine ⟨A, S, sl, ws, S1, rfl, R0, s, e1, fun B vs n R1 rs => ?_⟩
  split at e
  · rename_i w w2
    split at e
    · rename_i xs ys hx hy
      cases e
      cases rs with
      | cons r1 rr =>
        cases rr with
        | cons r2 rr =>
          cases rr
          obtain ⟨a, us, rfl, h1, hd⟩ := view_tup R1 r1 hx
          obtain ⟨b, us2, rfl, k1, _, kd⟩ := view_list R1 r2 hy
          refine ⟨a, b, us, us2, rfl, h1, k1, q B _ n R1 fun C S2 n2 R2 ok i => ?_⟩
          have ok := Bool.and_eq_true_iff.mp ok
          obtain ⟨a2, vs2, ea, h2, hd2⟩ := view_tup R2 (r1.monov n2) (seqOk_view ok.1 hx)
          cases ea
          obtain ⟨b2, us3, eb, k2, _, kd2⟩ := view_list R2 (r2.monov n2) (seqOk_view ok.2 hy)
          cases eb
          refine ⟨fun w hw => ?_, fun hi => ⟨vs2, us3, h2, k2, by
            have hi : ((zipD xs ys).map W3.d).length ≤ i := hi
            unfold zipD at hi
            rw [List.length_map, List.length_map, List.length_zip] at hi
            rw [hd2.len, kd2.len]; omega⟩⟩
          obtain ⟨x, hx2, rfl⟩ := ws_get hw
          unfold zipD at hx2
          rw [List.getElem?_map] at hx2
          obtain ⟨⟨x1, y1⟩, hp, rfl⟩ := Option.map_eq_some_iff.mp hx2
          rw [List.getElem?_zip_eq_some] at hp
          obtain ⟨u, hu, du⟩ := hd2.get hp.1
          obtain ⟨u2, hu2, du2⟩ := kd2.get hp.2
          refine ⟨⟨vs2, us3, u, u2, h2, k2, hu, hu2⟩, fun v H' y => ?_⟩
          obtain ⟨T, x, y, o, rfl, od, hT, rfl, z1, z2⟩ := y
          have t1 := z1 vs2 h2
          rw [hu] at t1
          cases t1
          have t2 := z2 us3 k2
          rw [hu2] at t2
          cases t2
          obtain ⟨n3, R3⟩ := Nx.dat (o := .frz o (.tup [u, u2])) R2 hT
          exact ⟨_, rfl, n3, R3, Da.tup (.inl ⟨o, upd_same, od⟩) (.cons (du.up n3.gg) (.cons (du2.up n3.gg) .nil))⟩
    · cases e
  · cases e⟩
end
end EA
namespace EA
open PySem PySem.Spec PyProof.Rows L2
/-! ### a dict that is walked: locked -/
section
variable {K : PySem.W.Frag} {A B : Wd} {S S' : List MO} {ks : List (Key × V)} {kvs kvs' : List (Key × PyData)} {i : Nat} {a : Addr} {od : Obj}
theorem Nx.lock (R : Rl K A S) (ha : A.ι[i]? = some a) (g : A.G a = none) (hH : A.H a = some (.dK ks)) (hd : DaK K A.G ks kvs) :
    Nx A ⟨A.G, upd A.H a (.frz od (.dK ks)), A.ι⟩ ∧ Rl K ⟨A.G, upd A.H a (.frz od (.dK ks)), A.ι⟩ (S.set i (.ldic kvs)) :=
  Nx.wr (u := .frz od (.dK ks)) (o := .ldic kvs) R ha g ⟨g, od, ks, upd_same, hd⟩ (by rw [hH]; rfl)
theorem Nx.unlock (R0 : Rl K A S) (ha : A.ι[i]? = some a) (hH : A.H a = some (.dK ks)) (hd : DaK K A.G ks kvs) (N : Nx ⟨A.G, upd A.H a (.frz od (.dK ks)), A.ι⟩ B) (R : Rl K B S') (e : S'[i]? = some (.ldic kvs')) :
    B.H a = some (.frz od (.dK ks)) ∧ Nx A ⟨B.G, upd B.H a (.dK ks), B.ι⟩ ∧ Rl K ⟨B.G, upd B.H a (.dK ks), B.ι⟩ (S'.set i (.dic kvs)) := by
  have hB : B.H a = some (.frz od (.dK ks)) := N.lk a od ks upd_same
  have haB : B.ι[i]? = some a := ix_pre N.pre ha
  obtain ⟨gB, _⟩ := R.ob i _ a e haB
  have mem : a ∈ A.ι := List.mem_of_getElem? ha
  have nea : ∀ {b : Addr}, b ≠ a → (⟨A.G, upd A.H a (.frz od (.dK ks)), A.ι⟩ : Wd).H b = A.H b := fun {b} h => upd_ne h
  have gg : Same A.G B.G := N.gg
  refine ⟨hB, ⟨gg, fun b o hb h => ?_, fun b hb h1 h2 => ?_, fun b h => ?_, N.pre, fun x hx => ?_, fun b od' ks' h => ?_⟩, ⟨fun b u h => ?_, R.nd, by rw [List.length_set]; exact R.len, fun j o b e1 e2 => ?_⟩⟩
  · have ne : b ≠ a := fun z => hb (by rw [z]; exact mem)
    show upd B.H a _ b = _
    rw [upd_ne ne]
    exact N.hh b o hb (by rw [nea ne]; exact h)
  · have ne : b ≠ a := fun z => hb (by rw [z]; exact mem)
    exact N.nw b hb h1 (by rw [nea ne]; exact h2)
  · show upd B.H a _ b ≠ none
    by_cases ne : b = a
    · rw [ne, upd_same]; exact fun z => nomatch z
    · rw [upd_ne ne]
      exact N.dm b (by rw [nea ne]; exact h)
  · rcases N.fr x hx with h | h
    · exact .inl h
    · exact .inr (upd_none h)
  · have ne : b ≠ a := fun z => by rw [z, hH] at h; cases h
    show upd B.H a _ b = _
    rw [upd_ne ne]
    exact N.lk b od' ks' (by rw [nea ne]; exact h)
  · show upd B.H a _ b = _
    rw [upd_ne (ne_of_none h gB)]
    exact R.gh b u h
  · by_cases hj : i = j
    · subst hj
      have hi : i < S'.length := (List.getElem?_eq_some_iff.mp e).1
      rw [List.getElem?_set_self hi] at e1
      cases e1
      have e2' : B.ι[i]? = some b := e2
      rw [haB] at e2'
      cases e2'
      exact ⟨gB, ks, upd_same, hd.up gg⟩
    · rw [List.getElem?_set_ne hj] at e1
      have ne : b ≠ a := fun z => hj (nodup_at R.nd haB (by rw [← z]; exact e2))
      refine (R.ob j o b e1 e2).keep (Same.refl _) (fun g => g) fun u h => ?_
      show upd B.H a _ b = _
      rw [upd_ne ne]; exact h
end
/-- f runs while the dict in slot j is locked -/
def eLock (j : Nat) (f : FE) : FE := fun sl S => match sl[j]? with
  | some (some (.r i)) => match S[i]? with
    | some (.dic kvs) => (f sl (S.set i (.ldic kvs))).bind fun p => match p.2[i]? with
      | some (.ldic _) => some (p.1, p.2.set i (.dic kvs))
      | _ => none
    | _ => none
  | _ => none
/-- the same of a statement that goes on -/
def sLock (j : Nat) (f : FS) : FS := fun sl S => match sl[j]? with
  | some (some (.r i)) => match S[i]? with
    | some (.dic kvs) => (f sl (S.set i (.ldic kvs))).bind fun o => match o with
      | .nx sl' S' => match S'[i]? with
        | some (.ldic _) => some (.nx sl' (S'.set i (.dic kvs)))
        | _ => none
      | _ => none
    | _ => none
  | _ => none
def ldicAt (S : List MO) : W3 → Option (List (Key × PyData))
  | .r i => match S[i]? with
    | some (.ldic kvs) => some kvs
    | _ => none
  | _ => none
/-- d[k], d locked -/
def eDGL (o i : FE) : FE := fun sl S => (o sl S).bind fun p => (i sl p.2).bind fun q => match q.1 with
  | .d y => (keyD y).bind fun k => (ldicAt q.2 p.1).bind fun kvs => (valD kvs k).map fun d => (.d d, q.2)
  | _ => none
open Classical in
/-- the keys of a locked dict -/
noncomputable def iDK (o : FE) : FI := fun sl S => (o sl S).bind fun p => (ldicAt p.2 p.1).map fun kvs => (⟨kvs.map fun kv => .d (keyP kv.1), fun S => decide (ldicAt S p.1 = some kvs)⟩, p.2)
section
variable {K : PySem.W.Frag} {X : Cx} {A : Wd} {S : List MO} {v : V} {w : W3} {kvs : List (Key × PyData)} {o i e : Expr} {fo fi f : FE} {pos : Pos}
theorem ldicAt_of (R : Rl K A S) (r : RW K A v w) (e : ldicAt S w = some kvs) : ∃ i a od ks, w = .r i ∧ A.ι[i]? = some a ∧ S[i]? = some (.ldic kvs) ∧ v = .ref a ∧ A.H a = some (.frz od (.dK ks)) ∧ DaK K A.G ks kvs := by
  cases w with
  | r i =>
    obtain ⟨a, ha, rfl⟩ := r
    unfold ldicAt at e
    dsimp only at e
    cases o : S[i]? with
    | none => rw [o] at e; cases e
    | some m =>
      rw [o] at e
      cases m with
      | ldic ys =>
        cases e
        obtain ⟨g, od, ks, h3, h4⟩ := R.ob i _ a o ha
        exact ⟨i, a, od, ks, rfl, ha, o, rfl, h3, h4⟩
      | _ => cases e
  | _ => cases e
theorem daK_at {G : Hp} {vs : List (Key × V)} {ds : List (Key × PyData)} {j : Nat} {kd : Key × PyData} (h : DaK K G vs ds) (e : ds[j]? = some kd) : ∃ v, vs[j]? = some (kd.1, v) ∧ Da K G v kd.2 := by
  induction h generalizing j with
  | nil => simp at e
  | @cons k v d vs ds hv _ ih =>
    cases j with
    | zero => cases e; exact ⟨v, rfl, hv⟩
    | succ j => exact ih (by simpa using e)
theorem lock_slot {σ : L2.St} {sl : Sl} {j k : Nat} (R : Rl K A S) (s : SR3 K A σ sl) (h : sl[j]? = some (some (.r k))) (e : S[k]? = some (.dic kvs)) : ∃ a ks, A.ι[k]? = some a ∧ A.G a = none ∧ A.H a = some (.dK ks) ∧ DaK K A.G ks kvs := by
  obtain ⟨v, _, a, ha, _⟩ := s.at_ j _ h
  obtain ⟨g, ks, h1, h2⟩ := R.ob k _ a e ha
  exact ⟨a, ks, ha, g, h1, h2⟩
theorem e_lock (j : Nat) (h : PE3 K X e f) : PE3 K X e (eLock j f) := ⟨pe_imp (pe_lock h.p) fun σ H Q h => by
  obtain ⟨A, S, sl, w, S', rfl, R, s, e, q⟩ := h
  unfold eLock at e
  split at e
  · rename_i k hk
    split at e
    · rename_i kvs hkv
      obtain ⟨⟨w1, S1⟩, e1, e⟩ := Option.bind_eq_some_iff.mp e
      dsimp only at e
      split at e
      · rename_i kvs' hl
        cases e
        obtain ⟨a, ks, ha, g, hH, hd⟩ := lock_slot R s hk hkv
        refine ⟨a, .dK ks, hH, trivial, fun od => ?_⟩
        obtain ⟨N1, R1⟩ := Nx.lock (od := od) R ha g hH hd
        refine ⟨_, _, sl, _, S1, rfl, R1, s.mono N1, e1, fun B v n2 R2 r2 => ?_⟩
        obtain ⟨hB, N3, R3⟩ := Nx.unlock R ha hH hd n2 R2 hl
        exact ⟨hB, q ⟨B.G, upd B.H a (.dK ks), B.ι⟩ v N3 R3 (r2.monov (B := ⟨B.G, upd B.H a (.dK ks), B.ι⟩) ⟨Same.refl _, List.prefix_rfl⟩)⟩
      · cases e
    · cases e
  · cases e⟩
theorem s_lock {st : Stmt} {f : FS} (j : Nat) (h : PS3 K X st f) : PS3 K X st (sLock j f) := ⟨ps_imp (ps_lock h.p) fun D σ H h => by
  obtain ⟨A, S, sl, o, rfl, R, s, e, q⟩ := h
  unfold sLock at e
  split at e
  · rename_i k hk
    split at e
    · rename_i kvs hkv
      obtain ⟨o1, e1, e⟩ := Option.bind_eq_some_iff.mp e
      split at e
      · rename_i sl' S1
        split at e
        · rename_i kvs' hl
          cases e
          obtain ⟨a, ks, ha, g, hH, hd⟩ := lock_slot R s hk hkv
          refine ⟨a, .dK ks, hH, trivial, fun od => ?_⟩
          obtain ⟨N1, R1⟩ := Nx.lock (od := od) R ha g hH hd
          refine ⟨_, _, sl, .nx sl' S1, rfl, R1, s.mono N1, e1, fun B σ' n2 R2 s2 => ?_⟩
          obtain ⟨hB, N3, R3⟩ := Nx.unlock R ha hH hd n2 R2 hl
          exact ⟨hB, q ⟨B.G, upd B.H a (.dK ks), B.ι⟩ σ' N3 R3 (SR3.monov (A := B) (B := ⟨B.G, upd B.H a (.dK ks), B.ι⟩) ⟨Same.refl _, List.prefix_rfl⟩ s2)⟩
        · cases e
      · cases e
    · cases e
  · cases e⟩
theorem e_dgl (hu : X.A.units + 1 < cLine) (ho : PE3 K X o fo) (hi : PE3 K X i fi) (hs : NoSl i) : PE3 K X (.Subscript o i pos) (eDGL fo fi) := ⟨pe_imp (pe_dget hu ho.p hi.p hs) fun σ H Q h => by
  obtain ⟨A, S, sl, w, S', rfl, R, s, e, q⟩ := h
  obtain ⟨⟨w1, S1⟩, e1, e⟩ := Option.bind_eq_some_iff.mp e
  obtain ⟨⟨w2, S2⟩, e2, e⟩ := Option.bind_eq_some_iff.mp e
  refine ⟨A, S, sl, w1, S1, rfl, R, s, e1, fun B v n R1 r1 => ⟨B, S1, sl, w2, S2, rfl, R1, s.mono n, e2, fun C u n2 R2 r2 => ?_⟩⟩
  dsimp only at e
  split at e
  · rename_i y
    obtain ⟨k, ek, e⟩ := Option.bind_eq_some_iff.mp e
    obtain ⟨kvs, ed, e⟩ := Option.bind_eq_some_iff.mp e
    obtain ⟨d, ev, e⟩ := Option.map_eq_some_iff.mp e
    cases e
    obtain ⟨j, a, od, vs, rfl, _, _, rfl, hH, hK⟩ := ldicAt_of R2 (r1.mono n2) ed
    have eu := key_da r2 ek
    subst eu
    rcases daK_val (k := k) hK with ⟨z, _⟩ | ⟨v', d2, z1, z2, rv⟩
    · rw [z] at ev; cases ev
    · rw [z1] at ev
      cases ev
      exact ⟨a, v', rfl, .inl ⟨vs, k, .inr ⟨od, hH⟩, rfl, z2.symm⟩, q C v' (n.trans n2) R2 rv⟩
  · cases e⟩
theorem i_dk {tg : Expr} (ho : PE3 K X o fo) : PI3 K X tg o (iDK fo) := ⟨pi_imp (pi_keys ho.p) fun σ H R h => by
  obtain ⟨A, S, sl, j, S', rfl, R0, s, e, q⟩ := h
  obtain ⟨⟨w1, S1⟩, e1, e⟩ := Option.bind_eq_some_iff.mp e
  obtain ⟨kvs, e2, e⟩ := Option.map_eq_some_iff.mp e
  cases e
  refine ⟨A, S, sl, w1, S1, rfl, R0, s, e1, fun B v n R1 r1 => ?_⟩
  obtain ⟨i, a, od, ks, rfl, ha, hS, rfl, hH, hd⟩ := ldicAt_of R1 r1 e2
  refine ⟨a, od, rfl, .inl ⟨ks, hH, q B _ n R1 fun C S2 n2 R2 ok k => ?_⟩⟩
  have hC := n2.lk a od ks hH
  have hdC := hd.up n2.gg
  refine ⟨fun w hw => ?_, fun hk => ⟨hC, by
    have hk : (kvs.map fun kv => W3.d (keyP kv.1)).length ≤ k := hk
    rw [List.length_map] at hk
    rw [hdC.len]; exact hk⟩⟩
  have hw : (kvs.map fun kv => W3.d (keyP kv.1))[k]? = some w := hw
  rw [List.getElem?_map] at hw
  obtain ⟨kv, hkv, rfl⟩ := Option.map_eq_some_iff.mp hw
  obtain ⟨v, hv, _⟩ := daK_at hdC hkv
  refine ⟨⟨hC, (List.getElem?_eq_some_iff.mp hv).1⟩, fun x H' y => ?_⟩
  obtain ⟨rfl, k', v', h1, rfl⟩ := y
  rw [hv] at h1
  cases h1
  refine ⟨C, rfl, Nx.refl C, R2, ?_⟩
  cases kv.1 with
  | inl i => exact Da.int i
  | inr x => exact Da.str x⟩
end
end EA
namespace EA
open PySem PySem.Spec PyProof.Rows L2
/-! ### rules for S11 (sets of texts), S22 to S24 -/
section
variable {sl : Sl} {S : List MO} {Q : W3 → List MO → Prop} {QS : Out → Prop} {QN : List PyData → List MO → Prop}
theorem wp_dc {own : List Nat} {it : FI} {g : FG} {t : FT} {k e : FE} (h : Wp2 (it sl S) fun j S1 => j.ws.length ≤ 100000 ∧ Wp2 (dLoop j.ok g t k e (wipe3 sl own) j.ws [] S1) fun kvs S2 => Q (.r S2.length) (S2 ++ [.dic kvs])) : Wp2 (eDC own it g t k e sl S) Q := wp_bind.mpr (Wp.imp h fun j ⟨h1, h2⟩ => by
  rw [if_pos h1]
  exact wp_map.mpr h2)
theorem wp_nrg {f : FE} (h : Wp2 (f sl S) fun p1 p2 => ∃ k : Nat, p1 = .d (.int k) ∧ k ≤ 100000 ∧ QN ((List.range k).map fun i : Nat => .int (i : Int)) p2) : Wp2 (nRg f sl S) QN := wp_bind.mpr (Wp.imp h fun p ⟨k, e, hk, q⟩ => by
  rw [e]
  dsimp only
  rw [if_pos ⟨by omega, by omega⟩, Int.toNat_natCast]
  exact wp_some.mpr q)
theorem wp_rg {o : FE} {k : Str} (h : Wp2 (o sl S) fun p1 p2 => ∃ kvs w, rcdAt p2 p1 = some kvs ∧ kvs.lookup k = some w ∧ Q w p2) : Wp2 (eRG o k sl S) Q := wp_bind.mpr (Wp.imp h fun p ⟨kvs, w, e, e2, q⟩ => by
  rw [e]
  dsimp only [Option.bind_some]
  rw [e2]; exact wp_some.mpr q)
theorem wp_rs {o v : FE} {k : Str} (h : Wp2 (v sl S) fun p1 p2 => ∃ x, p1 = .d x ∧ Wp2 (o sl p2) fun q1 q2 => ∃ kvs, rcdAt q2 q1 = some kvs ∧ ((kvs.lookup k).isSome = true ∧ kvs.length ≤ 15) ∧ QS (.nx sl (setAt q2 q1 (.rcd (rcdPut kvs k (.d x)))))) : Wp (sRS o k v sl S) QS := wp_bind.mpr (Wp.imp h fun p ⟨x, e, h⟩ => by
  rw [e]
  refine wp_bind.mpr (Wp.imp h fun q ⟨kvs, e1, e2, h⟩ => ?_)
  rw [e1]
  dsimp only [Option.bind_some]
  rw [if_pos e2]; exact wp_some.mpr h)
theorem wp_rd {fs : List (Str × FE)} (h : Wp2 (rdF fs sl S) fun kvs S1 => ((kvs.map (·.1)).Nodup ∧ kvs.length ≤ 15) ∧ Q (.r S1.length) (S1 ++ [.rcd kvs])) : Wp2 (eRD fs sl S) Q := wp_bind.mpr (Wp.imp h fun p ⟨h1, q⟩ => by rw [if_pos h1]; exact wp_some.mpr q)
theorem wp_rd0 {QR : List (Str × W3) → List MO → Prop} (q : QR [] S) : Wp2 (rdF [] sl S) QR := wp_some.mpr q
theorem wp_rd1 {QR : List (Str × W3) → List MO → Prop} {k : Str} {f : FE} {r : List (Str × FE)} (h : Wp2 (f sl S) fun p1 p2 => Wp2 (rdF r sl p2) fun q1 q2 => QR ((k, p1) :: q1) q2) : Wp2 (rdF ((k, f) :: r) sl S) QR := wp_bind.mpr (Wp.imp h fun _ h => wp_map.mpr h)
end
end EA
namespace EA
open PySem PySem.Spec PyProof.Rows L2
theorem eq_of {α β : Type} {x : Option (α × β)} {u : α} {v : β} (h : Wp2 x fun a b => a = u ∧ b = v) : x = some (u, v) := by
  obtain ⟨⟨a, b⟩, e, e1, e2⟩ := h
  dsimp only at e1 e2
  rw [e, e1, e2]
/-! ### more on known things -/
theorem dep_str (i : Str) : (PyData.str i).depth ≤ 40 := by rw [PyData.depth]; decide
theorem dep_bool (i : Bool) : (PyData.bool i).depth ≤ 40 := by rw [PyData.depth]; decide
section
variable {PB : Bool → Prop} {P : PyData → Prop} {S : List MO} {sl : Sl}
theorem wp_geqs {i j : Str} (h : PB (i == j)) : Wp (gEq (.str i) (.str j)) PB := wp_geq (.inl (dep_str i)) h
theorem wp_gnes {i j : Str} (h : PB (!(i == j))) : Wp (gNe (.str i) (.str j)) PB := wp_gne (.inl (dep_str i)) h
theorem wp_geqb {i j : Bool} (h : PB (i == j)) : Wp (gEq (.bool i) (.bool j)) PB := wp_geq (.inl (dep_bool i)) h
theorem wp_gneb {i j : Bool} (h : PB (!(i == j))) : Wp (gNe (.bool i) (.bool j)) PB := wp_gne (.inl (dep_bool i)) h
theorem eqv_nil (xs : List PyData) : PyData.eqv (.list xs) (.list []) = xs.isEmpty := by
  cases xs with
  | nil => rfl
  | cons _ _ => rfl
theorem dep_nil : (PyData.list []).depth ≤ 40 := by decide
theorem wp_geq_nil {xs : List PyData} (h : PB xs.isEmpty) : Wp (gEq (.list xs) (.list [])) PB := wp_geq (.inr dep_nil) (by rw [eqv_nil]; exact h)
theorem wp_gne_nil {xs : List PyData} (h : PB (!xs.isEmpty)) : Wp (gNe (.list xs) (.list [])) PB := wp_gne (.inr dep_nil) (by rw [eqv_nil]; exact h)
theorem wp_anyb {f : List Bool → Bool} {ds : List PyData} {bs : List Bool} (e : ds = bs.map .bool) (h : P (.bool (f bs))) : Wp (g1 (anyD f) S [.d (.list ds)]) P := by
  refine wp_eq (a := .bool (f bs)) ?_ h
  show (boolsOf ds).map (fun bs => PyData.bool (f bs)) = _
  rw [e, boolsOf_map]; rfl
theorem wp_trul {xs : List PyData} (h : PB (!xs.isEmpty)) : Wp (truW S (.d (.list xs))) PB := wp_some.mpr h
theorem wp_trut {xs : List PyData} (h : PB (!xs.isEmpty)) : Wp (truW S (.d (.tuple xs))) PB := wp_some.mpr h
theorem wp_trur {i : Nat} {xs : List PyData} (e : S[i]? = some (.lst xs)) (h : PB (!xs.isEmpty)) : Wp (truW S (.r i)) PB := by
  refine wp_eq (a := !xs.isEmpty) ?_ h
  unfold truW
  dsimp only
  rw [e]
theorem wp_trui {i : Int} (h : PB (i != 0)) : Wp (truW S (.d (.int i))) PB := wp_some.mpr h
theorem cutD_to {α : Type} (xs : List α) (k : Nat) : cutD xs none (some (k : Int)) = xs.take k := by
  unfold cutD
  rw [HT.sIx_nat, HT.sIx_none]
  by_cases h : k ≤ xs.length
  · rw [Nat.min_eq_left h]; rfl
  · rw [Nat.min_eq_right (by omega)]
    show (xs.drop 0).take (xs.length - 0) = _
    rw [List.drop_zero, Nat.sub_zero, List.take_length, List.take_of_length_le (by omega)]
theorem wp_cutl {l h : Option Int} {xs : List PyData} (q : P (.list (cutD xs l h))) : Wp (gCut l h (.list xs)) P := wp_some.mpr q
theorem wp_cutt {l h : Option Int} {xs : List PyData} (q : P (.tuple (cutD xs l h))) : Wp (gCut l h (.tuple xs)) P := wp_some.mpr q
theorem cutD_map {α β : Type} (f : α → β) (xs : List α) (l h : Option Int) : cutD (xs.map f) l h = (cutD xs l h).map f := by
  unfold cutD
  rw [List.length_map, ← List.map_drop, ← List.map_take]
instance st_wp_trul {xs : List PyData} : Step (Wp (truW S (.d (.list xs))) PB) (PB (!xs.isEmpty)) := ⟨wp_trul⟩
instance st_wp_trut {xs : List PyData} : Step (Wp (truW S (.d (.tuple xs))) PB) (PB (!xs.isEmpty)) := ⟨wp_trut⟩
instance st_wp_trui {i : Int} : Step (Wp (truW S (.d (.int i))) PB) (PB (i != 0)) := ⟨wp_trui⟩
instance st_wp_cutl {l h : Option Int} {xs : List PyData} : Step (Wp (gCut l h (.list xs)) P) (P (.list (cutD xs l h))) := ⟨wp_cutl⟩
instance st_wp_cutt {l h : Option Int} {xs : List PyData} : Step (Wp (gCut l h (.tuple xs)) P) (P (.tuple (cutD xs l h))) := ⟨wp_cutt⟩
end
/-- a comprehension without a test that leaves the store as it is -/
theorem wp_all {ok : List MO → Bool} {g : FG} {e : FE} {sl : Sl} {S : List MO} {QN : List PyData → List MO → Prop} {ws : List W3} {α : Type} (xs : List α) (w : α → W3) (v : α → PyData) (hws : ws = xs.map w) (hok : ok S = true)
    (hs : ∀ x ∈ xs, Wp2 (g (w x) sl S) fun p1 p2 => Wp2 (e p1 p2) fun y1 y2 => y1 = .d (v x) ∧ y2 = S) (h : QN (xs.map v) S) (hg : ∀ w sl' S', g w sl S = some (sl', S') → S' = S) : Wp2 (cLoop ok g tYes3 e sl ws S) QN :=
  wp_pure xs w (fun _ => true) v hws hok (fun x hx => by
    obtain ⟨⟨a, b⟩, e1, h1⟩ := hs x hx
    have := hg _ _ _ e1
    subst this
    exact ⟨(a, b), e1, wp2_some ⟨rfl, rfl, fun _ => h1⟩⟩) (by rw [List.filter_eq_self.mpr fun _ _ => rfl]; exact h)
theorem gnm_st {i : Nat} {sl : Sl} {S : List MO} : ∀ w sl' S', gNm i w sl S = some (sl', S') → S' = S := fun _ _ _ e => by cases e; rfl
theorem intsW_of {α : Type} {L : List α} {n : Nat} (h : L.length = n) : intsW 0 ((L.length : Nat) : Int).toNat = (List.range n).map fun j => W3.d (.int (j : Nat)) := by
  unfold intsW
  rw [Int.toNat_natCast, h]
  exact List.map_congr_left fun k _ => by rw [Int.zero_add]
theorem atI_at {α : Type} {xs : List α} {j : Nat} {x : α} (h : xs[j]? = some x) : atI xs (j : Int) = some x := atI_nat' (by omega) (by rw [Int.toNat_natCast]; exact h)
end EA
namespace EA
open PySem PySem.Spec PyProof.Rows L2
/-! ### part settings -/
abbrev Pt : Type := List (Str × Bool)
/-- a setting keeps a part -/
def Kp (f : Str → Bool) (l : Pt) : Prop := ∀ r ∈ l, f r.1 = r.2
def drp (l : Pt) (s : Str) : Pt := l.filter fun r => decide (r.1 ≠ s)
/-- the condition always holds under the part -/
def Alw (c : C) (l : Pt) : Prop := ∀ f, Kp f l → c.ev f = true
def Lst (c : C) (l : Pt) : Prop := Alw c l ∧ ∀ s ∈ l.map (·.1), ¬ Alw c (drp l s)
def Sub (ns : List Str) (l : Pt) : Prop := (l.map (·.1)).Sublist ns
theorem kp_cons {f : Str → Bool} {s : Str} {b : Bool} {l : Pt} : Kp f ((s, b) :: l) ↔ f s = b ∧ Kp f l := by
  unfold Kp
  rw [List.forall_mem_cons]
theorem kp_fset {f : Str → Bool} {s : Str} {o : Bool} {l : Pt} (h : s ∉ l.map (·.1)) : Kp (fset f s o) l ↔ Kp f l := by
  have e : ∀ r ∈ l, fset f s o r.1 = f r.1 := fun r hr => by
    show (if r.1 = s then o else f r.1) = f r.1
    rw [if_neg fun e => h (List.mem_map.mpr ⟨r, hr, e⟩)]
  exact ⟨fun k r hr => (e r hr).symm.trans (k r hr), fun k r hr => (e r hr).trans (k r hr)⟩
theorem fset_at (f : Str → Bool) (s : Str) (o : Bool) : fset f s o s = o := if_pos rfl
/-- under a head -/
theorem alw_cons {ys : List Str} {s : Str} {x y : C} {b : Bool} {l : Pt} (hx : OC ys x) (hy : OC ys y) (ns : s ∉ ys) (nl : s ∉ l.map (·.1)) : Alw (.nd s x y) ((s, b) :: l) ↔ Alw (if b then x else y) l := by
  have hz : OC ys (if b then x else y) := by cases b; exact hy; exact hx
  refine ⟨fun h f k => ?_, fun h f k => ?_⟩
  · have t := h (fset f s b) (kp_cons.mpr ⟨fset_at f s b, (kp_fset nl).mpr k⟩)
    rw [← hz.ev_fset (f := f) (o := b) ns]
    have t : (if fset f s b s then x.ev (fset f s b) else y.ev (fset f s b)) = true := t
    rw [fset_at] at t
    cases b <;> exact t
  · obtain ⟨k1, k2⟩ := kp_cons.mp k
    show (if f s then x.ev f else y.ev f) = true
    have t := h f k2
    rw [k1]
    cases b <;> exact t
theorem alw_both {ys : List Str} {s : Str} {x y : C} {l : Pt} (hx : OC ys x) (hy : OC ys y) (ns : s ∉ ys) (nl : s ∉ l.map (·.1)) : Alw (.nd s x y) l ↔ Alw x l ∧ Alw y l := by
  have one : ∀ (b : Bool), Alw (.nd s x y) l → Alw (if b then x else y) l := fun b h => (alw_cons hx hy ns nl).mp fun f k => h f (kp_cons.mp k).2
  refine ⟨fun h => ⟨one true h, one false h⟩, fun ⟨h1, h2⟩ f k => ?_⟩
  show (if f s then x.ev f else y.ev f) = true
  cases f s
  · exact h2 f k
  · exact h1 f k
theorem drp_names {l : Pt} {s t : Str} (h : t ∉ l.map (·.1)) : t ∉ (drp l s).map (·.1) := fun m => by
  obtain ⟨r, hr, e⟩ := List.mem_map.mp m
  exact h (List.mem_map.mpr ⟨r, (List.mem_filter.mp hr).1, e⟩)
theorem drp_cons_ne {l : Pt} {s t : Str} {b : Bool} (h : t ≠ s) : drp ((t, b) :: l) s = (t, b) :: drp l s := List.filter_cons_of_pos (by simpa using h)
theorem drp_no {l : Pt} {s : Str} (h : s ∉ l.map (·.1)) : drp l s = l := List.filter_eq_self.mpr fun r hr => by
  have : r.1 ≠ s := fun e => h (List.mem_map.mpr ⟨r, hr, e⟩)
  simpa using this
theorem drp_head {l : Pt} {s : Str} {b : Bool} (h : s ∉ l.map (·.1)) : drp ((s, b) :: l) s = l := by
  have e : drp ((s, b) :: l) s = drp l s := List.filter_cons_of_neg (by simp)
  rw [e, drp_no h]
theorem lst_both {ys : List Str} {s : Str} {x y d : C} {l : Pt} (hx : OC ys x) (hy : OC ys y) (ns : s ∉ ys) (nl : s ∉ l.map (·.1)) (hd : ∀ f, d.ev f = (x.ev f && y.ev f)) : Lst (.nd s x y) l ↔ Lst d l := by
  have a : ∀ m : Pt, s ∉ m.map (·.1) → (Alw (.nd s x y) m ↔ Alw d m) := fun m hm => by
    rw [alw_both hx hy ns hm]
    refine ⟨fun ⟨h1, h2⟩ f k => by rw [hd, h1 f k, h2 f k]; rfl, fun h => ⟨fun f k => ?_, fun f k => ?_⟩⟩
    · have t := h f k
      rw [hd, Bool.and_eq_true] at t
      exact t.1
    · have t := h f k
      rw [hd, Bool.and_eq_true] at t
      exact t.2
  unfold Lst
  rw [a l nl]
  refine and_congr Iff.rfl ⟨fun h t ht k => h t ht ((a _ (drp_names nl)).mpr k), fun h t ht k => h t ht ((a _ (drp_names nl)).mp k)⟩
theorem lst_cons {ys : List Str} {s : Str} {x y : C} {b : Bool} {l : Pt} (hx : OC ys x) (hy : OC ys y) (ns : s ∉ ys) (nl : s ∉ l.map (·.1)) :
    Lst (.nd s x y) ((s, b) :: l) ↔ Lst (if b then x else y) l ∧ ¬ Alw (if b then y else x) l := by
  unfold Lst
  rw [alw_cons hx hy ns nl, List.map_cons, List.forall_mem_cons, drp_head nl, alw_both hx hy ns nl]
  constructor
  · rintro ⟨h1, h2, h3⟩
    refine ⟨⟨h1, fun t ht k => h3 t ht ?_⟩, fun k => h2 ?_⟩
    · rw [drp_cons_ne fun e => nl (by rw [e]; exact ht)]
      exact (alw_cons hx hy ns (drp_names nl)).mpr k
    · cases b
      · exact ⟨k, h1⟩
      · exact ⟨h1, k⟩
  · rintro ⟨⟨h1, h3⟩, h2⟩
    refine ⟨h1, fun k => h2 ?_, fun t ht k => h3 t ht ?_⟩
    · cases b
      · exact k.1
      · exact k.2
    · rw [drp_cons_ne fun e => nl (by rw [e]; exact ht)] at k
      exact (alw_cons hx hy ns (drp_names nl)).mp k
/-- the causes, all of them, once -/
structure CL (ns : List Str) (c : C) (ls : List Pt) : Prop where
  nd : ls.Nodup
  mem : ∀ l, l ∈ ls ↔ Sub ns l ∧ Lst c l
  few : ls.length ≤ 3 ^ ns.length
theorem sub_cons {n : Str} {ns : List Str} {l : Pt} : Sub (n :: ns) l ↔ Sub ns l ∨ ∃ b m, l = (n, b) :: m ∧ Sub ns m := by
  unfold Sub
  constructor
  · intro h
    match l, h with
    | [], _ => exact .inl (List.nil_sublist _)
    | (s, b) :: m, h =>
      rw [List.map_cons] at h ⊢
      cases h with
      | cons _ h => exact .inl h
      | cons_cons _ h => exact .inr ⟨b, m, rfl, h⟩
  · rintro (h | ⟨b, m, rfl, h⟩)
    · exact h.cons _
    · exact h.cons_cons _
theorem Sub.names {ns : List Str} {l : Pt} (h : Sub ns l) {s : Str} (n : s ∉ ns) : s ∉ l.map (·.1) := fun m => n (h.subset m)
theorem CL.up {n : Str} {ns : List Str} {c : C} {ls : List Pt} (h : CL ns c ls) (hc : OC ns c) (nn : n ∉ ns) : CL (n :: ns) c ls := by
  refine ⟨h.nd, fun l => ?_, Nat.le_trans h.few (Nat.pow_le_pow_right (by decide) (by simp))⟩
  rw [h.mem, sub_cons]
  refine ⟨fun ⟨a, b⟩ => ⟨.inl a, b⟩, ?_⟩
  rintro ⟨a | ⟨b, m, rfl, hm⟩, L⟩
  · exact ⟨a, L⟩
  · refine absurd (fun f k => ?_) (L.2 n (by simp))
    have nm := hm.names nn
    rw [drp_head nm] at k
    have t := L.1 (fset f n b) (kp_cons.mpr ⟨fset_at f n b, (kp_fset nm).mpr k⟩)
    rw [hc.ev_fset nn] at t
    exact t
theorem Sub.nd {ns : List Str} {l : Pt} (h : Sub ns l) (nd : ns.Nodup) : (l.map (·.1)).Nodup := List.Nodup.sublist h nd
theorem nodup_map_cons {α : Type} (a : α) : ∀ {l : List (List α)}, l.Nodup → (l.map (a :: ·)).Nodup := fun h => List.pairwise_map.mpr (h.imp fun n e => n (List.cons.inj e).2)
theorem CL.step {s : Str} {ys : List Str} {x y d : C} {l0 l1 l2 : List Pt} {p1 p2 : Pt → Bool} (nd : (s :: ys).Nodup) (hx : OC ys x) (hy : OC ys y) (hd : ∀ f, d.ev f = (x.ev f && y.ev f)) (h0 : CL ys d l0) (h1 : CL ys y l1) (h2 : CL ys x l2)
    (e1 : ∀ l ∈ l1, (p1 l = true ↔ ¬ Alw x l)) (e2 : ∀ l ∈ l2, (p2 l = true ↔ ¬ Alw y l)) : CL (s :: ys) (.nd s x y) (l0 ++ (l1.filter p1).map ((s, false) :: ·) ++ (l2.filter p2).map ((s, true) :: ·)) := by
  obtain ⟨ns, ndy⟩ := List.nodup_cons.mp nd
  refine ⟨?_, fun l => ?_, ?_⟩
  · rw [List.nodup_append, List.nodup_append]
    refine ⟨⟨h0.nd, nodup_map_cons _ (h1.nd.sublist List.filter_sublist), fun a ha b hb e => ?_⟩, nodup_map_cons _ (h2.nd.sublist List.filter_sublist), fun a ha b hb e => ?_⟩
    · obtain ⟨m, hm, rfl⟩ := List.mem_map.mp hb
      subst e
      exact ((h0.mem _).mp ha).1.names ns (by simp)
    · obtain ⟨m, hm, rfl⟩ := List.mem_map.mp hb
      subst e
      rcases List.mem_append.mp ha with ha | ha
      · exact ((h0.mem _).mp ha).1.names ns (by simp)
      · obtain ⟨m', _, e⟩ := List.mem_map.mp ha
        have := (List.cons.inj e).1
        exact absurd (congrArg (·.2) this) (by simp)
  · rw [List.mem_append, List.mem_append, sub_cons]
    constructor
    · rintro ((h | h) | h)
      · obtain ⟨a, b⟩ := (h0.mem _).mp h
        exact ⟨.inl a, (lst_both hx hy ns (a.names ns) hd).mpr b⟩
      · obtain ⟨m, hm, rfl⟩ := List.mem_map.mp h
        obtain ⟨hm, pm⟩ := List.mem_filter.mp hm
        obtain ⟨a, b⟩ := (h1.mem _).mp hm
        exact ⟨.inr ⟨_, _, rfl, a⟩, (lst_cons (b := false) hx hy ns (a.names ns)).mpr ⟨b, (e1 _ hm).mp pm⟩⟩
      · obtain ⟨m, hm, rfl⟩ := List.mem_map.mp h
        obtain ⟨hm, pm⟩ := List.mem_filter.mp hm
        obtain ⟨a, b⟩ := (h2.mem _).mp hm
        exact ⟨.inr ⟨_, _, rfl, a⟩, (lst_cons (b := true) hx hy ns (a.names ns)).mpr ⟨b, (e2 _ hm).mp pm⟩⟩
    · rintro ⟨a | ⟨b, m, rfl, a⟩, L⟩
      · exact .inl (.inl ((h0.mem _).mpr ⟨a, (lst_both hx hy ns (a.names ns) hd).mp L⟩))
      · obtain ⟨L1, L2⟩ := (lst_cons hx hy ns (a.names ns)).mp L
        cases b with
        | false =>
          have hm := (h1.mem m).mpr ⟨a, L1⟩
          exact .inl (.inr (List.mem_map.mpr ⟨m, List.mem_filter.mpr ⟨hm, (e1 m hm).mpr L2⟩, rfl⟩))
        | true =>
          have hm := (h2.mem m).mpr ⟨a, L1⟩
          exact .inr (List.mem_map.mpr ⟨m, List.mem_filter.mpr ⟨hm, (e2 m hm).mpr L2⟩, rfl⟩)
  · have f0 := h0.few
    have f1 := h1.few
    have f2 := h2.few
    have g1 := List.length_filter_le p1 l1
    have g2 := List.length_filter_le p2 l2
    rw [List.length_append, List.length_append, List.length_map, List.length_map, List.length_cons, Nat.pow_succ]
    omega
/-! ### parts by their rows -/
/-! ### as data -/
end EA
namespace EA
open PySem PySem.Spec PyProof.Rows L2
/-- the turns of the causes -/
def PL (ys : List Str) (s : Str) (x y : C) : Nat → List Pt → Prop
  | 0, ls => ∃ d, (∀ f, d.ev f = (x.ev f && y.ev f)) ∧ CL ys d ls
  | i + 1, ls => ∃ l0 lm pm, PL ys s x y i l0 ∧ CL ys (if i = 1 then x else y) lm ∧ (∀ l ∈ lm, (pm l = true ↔ ¬ Alw (if i = 1 then y else x) l)) ∧ ls = l0 ++ (lm.filter pm).map ((s, decide (i = 1)) :: ·)
/-! ### the sorted causes -/
end EA
namespace EA
open PySem PySem.Spec PyProof.Rows L2
/-! ### sorted -/
theorem le_trans3 (a b c : PyData) (h : W.dataLe (β := PyData) false id a b = true) (k : W.dataLe (β := PyData) false id b c = true) : W.dataLe (β := PyData) false id a c = true :=
  (W.sortLe_total (PyProof.Rows.listOrd itemOrd) false (fun b : PyData => W.keyToks b)).trans a b c h k
theorem le_total3 (a b : PyData) : (W.dataLe (β := PyData) false id a b || W.dataLe (β := PyData) false id b a) = true := by
  rcases (W.sortLe_total (PyProof.Rows.listOrd itemOrd) false (fun b : PyData => W.keyToks b)).total a b with h | h
  · rw [show W.dataLe (β := PyData) false id a b = true from h]; rfl
  · rw [show W.dataLe (β := PyData) false id b a = true from h]; exact Bool.or_true _
theorem sorted3 (ds : List PyData) : (ds.mergeSort (W.dataLe false id)).Pairwise (fun a b => W.dataLe (β := PyData) false id a b = true) := List.pairwise_mergeSort le_trans3 le_total3 ds
section
variable {S : List MO} {QL : List PyData → Prop}
theorem wp_sortD {ds : List PyData} (h1 : W.AllAlike ds) (h2 : 2 ≤ ds.length → W.Sortable ds) (h3 : ∀ d ∈ ds, d.depth ≤ 40) (q : QL (ds.mergeSort (W.dataLe false id))) : Wp (gSorted S [.d (.list ds)]) QL := by
  refine wp_eq (a := ds.mergeSort (W.dataLe false id)) ?_ q
  show sortD ds = _
  unfold sortD
  rw [if_pos ⟨h1, h2, h3⟩]
theorem wp_sort_strs {ks : List Str} (nd : ks.Nodup) (q : ∀ ms : List Str, ms.Perm ks → ms.Pairwise slt → QL (ms.map .str)) : Wp (gSorted S [.d (.list (ks.map .str))]) QL := by
  refine wp_sortD (fun a ha b hb => ?_) (fun _ => .inr fun d hd => ?_) (fun d hd => ?_) ?_
  · obtain ⟨x, _, rfl⟩ := List.mem_map.mp ha
    obtain ⟨y, _, rfl⟩ := List.mem_map.mp hb
    rfl
  · obtain ⟨x, _, rfl⟩ := List.mem_map.mp hd
    exact ⟨(fun z => nomatch z), fun _ z => nomatch z⟩
  · obtain ⟨x, _, rfl⟩ := List.mem_map.mp hd
    exact dep_str x
  · obtain ⟨ms, e, p⟩ := perm_map_inv (List.mergeSort_perm (ks.map PyData.str) (W.dataLe false id)) rfl
    have so := sorted3 (ks.map PyData.str)
    rw [e] at so ⊢
    refine q ms p ?_
    have nd2 : ms.Nodup := p.nodup_iff.mpr nd
    refine List.Pairwise.imp₂ (fun a b h ne => ?_) (List.pairwise_map.mp so) nd2
    have h' : (!W.dataLt (.str b) (.str a)) = true := h
    rw [W.dataLt_str] at h'
    have nlt : ¬ slt b a := by simpa [slt] using h'
    exact Classical.byContradiction fun n => ne (slt_tri n nlt)
end
end EA
namespace EA
open PySem PySem.Spec PyProof.Rows L2
/-! ### rules for S25 to S27, and more -/
section
variable {sl : Sl} {S : List MO} {Q : W3 → List MO → Prop} {QS : Out → Prop} {QN : List PyData → List MO → Prop} {QT : Bool → List MO → Prop} {QI : It3 → List MO → Prop}
theorem wp_ndn (h : Q (.r S.length) (S ++ [.ndc []])) : Wp2 (eNDN sl S) Q := wp_some.mpr h
theorem wp_ndg {o i : FE} (h : Wp2 (o sl S) fun p1 p2 => Wp2 (i sl p2) fun q1 q2 => ∃ y k kvs w, q1 = .d y ∧ keyD y = some k ∧ ndcAt q2 p1 = some kvs ∧ valW kvs k = some w ∧ Q w q2) : Wp2 (eNDG o i sl S) Q := by
  obtain ⟨⟨p1, p2⟩, e1, ⟨q1, q2⟩, e2, y, k, kvs, d, h1, h2, h3, h4, q⟩ := h
  dsimp only at e2 h1 h3 q
  subst h1
  refine ⟨(d, q2), ?_, q⟩
  unfold eNDG
  rw [e1]
  simp only [Option.bind_some, e2, h2, h3, h4, Option.map_some]
theorem wp_sdl {o i : FE} (h : Wp2 (o sl S) fun p1 p2 => (ndcAt p2 p1).isSome = true ∧ Wp2 (i sl p2) fun q1 q2 => ∃ y k kvs, q1 = .d y ∧ keyD y = some k ∧ ndcAt q2 p1 = some kvs ∧ kvs.length ≤ 100000 ∧ (∀ w, valW kvs k = some w → Q w q2) ∧ (valW kvs k = none → Q (.r q2.length) (setAt (q2 ++ [.lst []]) p1 (.ndc (putW kvs k (.r q2.length)))))) : Wp2 (eNSdL o i sl S) Q := by
  obtain ⟨⟨p1, p2⟩, e1, hs, ⟨q1, q2⟩, e2, y, k, kvs, h1, h2, h3, h4, qa, qb⟩ := h
  dsimp only at hs e2 h1 h3 qa qb
  subst h1
  cases hv : valW kvs k with
  | some w =>
    refine ⟨(w, q2), ?_, qa w hv⟩
    unfold eNSdL
    rw [e1]
    simp only [Option.bind_some, hs, if_true, e2, h2, h3, if_pos h4, hv]
  | none =>
    refine ⟨(.r q2.length, setAt (q2 ++ [.lst []]) p1 (.ndc (putW kvs k (.r q2.length)))), ?_, qb hv⟩
    unfold eNSdL
    rw [e1]
    simp only [Option.bind_some, hs, if_true, e2, h2, h3, if_pos h4, hv]
theorem wp_tisn {neg : Bool} {f : FE} (h : Wp2 (f sl S) fun p1 p2 => QT (neg != isNoneW p1) p2) : Wp2 (tIsN neg f sl S) QT := wp_map.mpr h
theorem wp_extL {xs ys : List PyData} {Q : PyData → List PyData → Prop} (hl : xs.length + ys.length ≤ 100000) (q : Q .none (xs ++ ys)) : Wp2 (mExtL xs [.d (.list ys)]) Q := ⟨(.none, xs ++ ys), if_pos hl, q⟩
theorem wp_enT {f : FA} (h : Wp2 (f sl S) fun p1 p2 => ∃ xs, p1 = [.d (.tuple xs)] ∧ QI ⟨(enumD xs).map .d, yes⟩ p2) : Wp2 (iEnT f sl S) QI := wp_bind.mpr (Wp.imp h fun p ⟨xs, e, q⟩ => by
  rw [e]; exact wp_some.mpr q)
theorem wp_zTL {f : FA} (h : Wp2 (f sl S) fun p1 p2 => ∃ xs ys, p1 = [.d (.tuple xs), .d (.list ys)] ∧ QI ⟨(zipD xs ys).map .d, yes⟩ p2) : Wp2 (iZTL f sl S) QI := wp_bind.mpr (Wp.imp h fun p ⟨xs, ys, e, q⟩ => by
  rw [e]; exact wp_some.mpr q)
theorem wp_callD {f : F3} {a : FA} {ds : List PyData} (h : Wp2 (a sl S) fun p1 p2 => Wp2 (f (p1 ++ ds.map .d) p2) Q) : Wp2 (eCallD f a ds sl S) Q := wp_bind.mpr h
def retKQ (Q : W3 → List MO → Prop) : Out → Prop := fun o => Wp2 (retK o) Q
theorem wp_fdefK {np nl : Nat} {body : FS} {ws : List W3} (hl : ws.length = np) (h : Wp (body (ws.map some ++ List.replicate nl none) S) (retKQ Q)) : Wp2 (fdefK np nl body ws S) Q := by
  unfold fdefK
  rw [if_pos hl]
  exact wp_bind.mpr h
theorem rk_nx (q : Q (.d .none) S) : retKQ Q (.nx sl S) := wp_some.mpr q
theorem rk_rt {w : W3} (q : Q w S) : retKQ Q (.rt w S) := wp_some.mpr q
theorem wp_elock {j i : Nat} {kvs : List (Key × PyData)} {f : FE} (h1 : sl[j]? = some (some (.r i))) (h2 : S[i]? = some (.dic kvs)) (h : Wp2 (f sl (S.set i (.ldic kvs))) fun p1 p2 => ∃ kv2, p2[i]? = some (.ldic kv2) ∧ Q p1 (p2.set i (.dic kvs))) : Wp2 (eLock j f sl S) Q := by
  obtain ⟨⟨p1, p2⟩, e1, kv2, e2, q⟩ := h
  refine ⟨(p1, p2.set i (.dic kvs)), ?_, q⟩
  dsimp only at e2
  unfold eLock
  rw [h1]
  dsimp only
  rw [h2]
  dsimp only
  rw [e1]
  dsimp only [Option.bind_some]
  rw [e2]
theorem wp_slock {j i : Nat} {kvs : List (Key × PyData)} {f : FS} (h1 : sl[j]? = some (some (.r i))) (h2 : S[i]? = some (.dic kvs)) (h : Wp (f sl (S.set i (.ldic kvs))) fun o => ∃ sl' S' kv2, o = .nx sl' S' ∧ S'[i]? = some (.ldic kv2) ∧ QS (.nx sl' (S'.set i (.dic kvs)))) : Wp (sLock j f sl S) QS := by
  obtain ⟨o, e1, sl', S', kv2, rfl, e2, q⟩ := h
  refine ⟨.nx sl' (S'.set i (.dic kvs)), ?_, q⟩
  unfold sLock
  rw [h1]
  dsimp only
  rw [h2]
  dsimp only
  rw [e1]
  dsimp only [Option.bind_some]
  rw [e2]
theorem wp_dgl {o i : FE} (h : Wp2 (o sl S) fun p1 p2 => Wp2 (i sl p2) fun q1 q2 => ∃ y k kvs d, q1 = .d y ∧ keyD y = some k ∧ ldicAt q2 p1 = some kvs ∧ valD kvs k = some d ∧ Q (.d d) q2) : Wp2 (eDGL o i sl S) Q := by
  obtain ⟨⟨p1, p2⟩, e1, ⟨q1, q2⟩, e2, y, k, kvs, d, h1, h2, h3, h4, q⟩ := h
  dsimp only at e2 h1 h3 q
  subst h1
  refine ⟨(.d d, q2), ?_, q⟩
  unfold eDGL
  rw [e1]
  simp only [Option.bind_some, e2, h2, h3, h4, Option.map_some]
open Classical in
noncomputable def okL (w : W3) (kvs : List (Key × PyData)) : List MO → Bool := fun S => decide (ldicAt S w = some kvs)
open Classical in
theorem okL_t {w : W3} {kvs : List (Key × PyData)} (h : ldicAt S w = some kvs) : okL w kvs S = true := decide_eq_true h
theorem wp_idk {o : FE} (h : Wp2 (o sl S) fun p1 p2 => ∃ kvs, ldicAt p2 p1 = some kvs ∧ QI ⟨kvs.map fun kv => .d (keyP kv.1), okL p1 kvs⟩ p2) : Wp2 (iDK o sl S) QI := by
  obtain ⟨⟨p1, p2⟩, e1, kvs, e2, q⟩ := h
  refine ⟨(⟨kvs.map fun kv => .d (keyP kv.1), okL p1 kvs⟩, p2), ?_, q⟩
  unfold iDK
  rw [e1]
  dsimp only [Option.bind_some]
  dsimp only at e2
  rw [e2]
  rfl
theorem ldicAt_r {i : Nat} {kvs : List (Key × PyData)} (e : S[i]? = some (.ldic kvs)) : ldicAt S (.r i) = some kvs := by unfold ldicAt; dsimp only; rw [e]
theorem ndcAt_r {i : Nat} {kvs : List (Key × W3)} (e : S[i]? = some (.ndc kvs)) : ndcAt S (.r i) = some kvs := by unfold ndcAt; dsimp only; rw [e]
theorem wp_idx {o : FE} {a : FA} (h : Wp2 (o sl S) fun p1 p2 => ∃ ds, p1 = .d (.list ds) ∧ Wp2 (a sl p2) fun q1 q2 => ∃ d k, q1 = [.d d] ∧ gIdx ds d = some k ∧ Q (.d (.int k)) q2) : Wp2 (eIdx o a sl S) Q := by
  obtain ⟨⟨p1, p2⟩, e1, ds, rfl, ⟨q1, q2⟩, e2, d, k, h1, h2, q⟩ := h
  dsimp only at e2 h1 q
  subst h1
  refine ⟨(.d (.int k), q2), ?_, q⟩
  unfold eIdx
  rw [e1]
  dsimp only [Option.bind_some, r_viewd]
  rw [e2]
  dsimp only [Option.bind_some, r_viewd]
  rw [h2]; rfl
theorem wp_dget2 {o i x : FE} (h : Wp2 (o sl S) fun p1 p2 => (dicAt p2 p1).isSome = true ∧ Wp2 (i sl p2) fun q1 q2 => Wp2 (x sl q2) fun u1 u2 => ∃ y z k kvs, q1 = .d y ∧ u1 = .d z ∧ keyD y = some k ∧ dicAt u2 p1 = some kvs ∧ Q (.d ((valD kvs k).getD z)) u2) : Wp2 (eDGet o i x sl S) Q := by
  obtain ⟨⟨p1, p2⟩, e1, hs, ⟨q1, q2⟩, e2, ⟨u1, u2⟩, e3, y, z, k, kvs, h1, h2, h3, h4, q⟩ := h
  dsimp only at hs e2 e3 h1 h2 h4 q
  subst h1 h2
  refine ⟨(.d ((valD kvs k).getD z), u2), ?_, q⟩
  unfold eDGet
  rw [e1]
  simp only [Option.bind_some, hs, if_true, e2, e3, h3, h4, Option.map_some]
theorem wp_ssl {ks : List Str} {QL : List PyData → Prop} (hl : ks.length ≤ 2000) (q : QL ((sset ltS ks).map .str)) : Wp (gSS S [.d (.list (ks.map .str))]) QL := ⟨_, ssD_strs hl, q⟩
theorem wp_addrl {i : Nat} {xs ys : List PyData} {P : PyData → Prop} (e : S[i]? = some (.lst xs)) (hl : xs.length + ys.length ≤ 100000) (h : P (.list (xs ++ ys))) : Wp (gAdd S (.r i) (.d (.list ys))) P := by
  refine wp_eq (a := .list (xs ++ ys)) ?_ h
  obtain ⟨a, e2, q⟩ := wp_cat (S := S) (x := .r i) (y := .d (.list ys)) (QL := fun l => l = xs ++ ys) (show viewL S (.r i) = some xs by unfold viewL; dsimp only; rw [e]) rfl hl rfl
  show ((gCatL S (.r i) (.d (.list ys))).map PyData.list) = _
  rw [e2, q]; rfl
/-- a dict comprehension, by an invariant -/
theorem wp_dloop {ok : List MO → Bool} {g : FG} {t : FT} {k e : FE} {sl : Sl} {QD : List (Key × PyData) → List MO → Prop} (Inv : Nat → List (Key × PyData) → List MO → Prop) : ∀ {ws : List W3} {n : Nat} {acc : List (Key × PyData)} {S : List MO}, Inv n acc S → (∀ i acc S, Inv i acc S → ok S = true) →
    (∀ i w acc S, ws[i - n]? = some w → n ≤ i → Inv i acc S → Wp2 (g w sl S) fun p1 p2 => Wp2 (t p1 p2) fun b1 b2 => if b1 = true then Wp2 (k p1 b2) fun y1 y2 => ∃ x ky, y1 = .d x ∧ keyD x = some ky ∧ Wp2 (e p1 y2) fun z1 z2 => ∃ x2, z1 = .d x2 ∧ Inv (i + 1) (putD acc ky x2) z2 else Inv (i + 1) acc b2) →
    (∀ kvs S, Inv (n + ws.length) kvs S → QD kvs S) → Wp2 (dLoop ok g t k e sl ws acc S) QD
  | [], n, acc, S, h0, hok, hs, he => by
    unfold dLoop
    rw [if_pos (hok _ _ _ h0)]
    exact wp_some.mpr (he acc S h0)
  | w :: ws, n, acc, S, h0, hok, hs, he => by
    unfold dLoop
    rw [if_pos (hok _ _ _ h0)]
    have go : ∀ {acc' S}, Inv (n + 1) acc' S → Wp2 (dLoop ok g t k e sl ws acc' S) QD := fun {acc' S} h1 => wp_dloop Inv h1 hok (fun i w acc S e hi => hs i w acc S (by
      have : i - n = (i - (n + 1)) + 1 := by omega
      rw [this]; exact e) (by omega)) fun kvs S h2 => he kvs S (by rw [List.length_cons, show n + (ws.length + 1) = n + 1 + ws.length by omega]; exact h2)
    refine wp_bind.mpr (Wp.imp (hs n w acc S (by rw [Nat.sub_self]; rfl) (Nat.le_refl _) h0) fun p h => wp_bind.mpr (Wp.imp h fun b h => ?_))
    dsimp only at h
    by_cases hc : b.1 = true
    · rw [if_pos hc] at h ⊢
      refine wp_bind.mpr (Wp.imp h fun y h => ?_)
      obtain ⟨x, ky, e1, e2, h⟩ := h
      rw [e1]
      refine wp_bind.mpr (wp_eq e2 (wp_bind.mpr (Wp.imp h fun z h => ?_)))
      obtain ⟨x2, e3, h⟩ := h
      rw [e3]
      exact go h
    · rw [if_neg hc] at h ⊢
      exact go h
instance st_ndn : Step (Wp2 (eNDN sl S) Q) (Q (.r S.length) (S ++ [.ndc []])) := ⟨wp_ndn⟩
instance st_tisn {neg : Bool} {f : FE} : Step (Wp2 (tIsN neg f sl S) QT) (Wp2 (f sl S) fun p1 p2 => QT (neg != isNoneW p1) p2) := ⟨wp_tisn⟩
instance st_callD {f : F3} {a : FA} {ds : List PyData} : Step (Wp2 (eCallD f a ds sl S) Q) (Wp2 (a sl S) fun p1 p2 => Wp2 (f (p1 ++ ds.map .d) p2) Q) := ⟨wp_callD⟩
instance st_rknx : Step (retKQ Q (.nx sl S)) (Q (.d .none) S) := ⟨rk_nx⟩
instance st_rkrt {w : W3} : Step (retKQ Q (.rt w S)) (Q w S) := ⟨rk_rt⟩
end
/-! ### dicts -/
theorem vd_cons {p : Key × PyData} {r : List (Key × PyData)} {k : Key} : valD (p :: r) k = if p.1 = k then some p.2 else valD r k := by
  unfold valD
  rw [List.find?_cons]
  by_cases h : p.1 = k
  · rw [if_pos h, decide_eq_true h]; rfl
  · rw [if_neg h, decide_eq_false h]
theorem vw_cons {p : Key × W3} {r : List (Key × W3)} {k : Key} : valW (p :: r) k = if p.1 = k then some p.2 else valW r k := by
  unfold valW
  rw [List.find?_cons]
  by_cases h : p.1 = k
  · rw [if_pos h, decide_eq_true h]; rfl
  · rw [if_neg h, decide_eq_false h]
theorem vd_none {k : Key} : ∀ {l : List (Key × PyData)}, k ∉ l.map (·.1) → valD l k = none
  | [], _ => rfl
  | q :: l, h => by
    rw [List.map_cons, List.mem_cons, not_or] at h
    rw [vd_cons, if_neg fun z => h.1 z.symm, vd_none h.2]
theorem putD_fresh {k : Key} {v : PyData} {l : List (Key × PyData)} (h : k ∉ l.map (·.1)) : putD l k v = l ++ [(k, v)] := by
  unfold putD
  rw [if_neg]
  intro hz
  obtain ⟨kv, h1, h2⟩ := List.any_eq_true.mp hz
  exact h (by rw [← of_decide_eq_true h2]; exact List.mem_map_of_mem (f := (·.1)) h1)
theorem putW_fresh {k : Key} {v : W3} {l : List (Key × W3)} (h : k ∉ l.map (·.1)) : putW l k v = l ++ [(k, v)] := by
  unfold putW
  rw [if_neg]
  intro hz
  obtain ⟨kv, h1, h2⟩ := List.any_eq_true.mp hz
  exact h (by rw [← of_decide_eq_true h2]; exact List.mem_map_of_mem (f := (·.1)) h1)
theorem putD_seen {k : Key} {v : PyData} {l : List (Key × PyData)} (h : k ∈ l.map (·.1)) : (putD l k v).map (·.1) = l.map (·.1) := by
  obtain ⟨kv, h1, h2⟩ := List.mem_map.mp h
  unfold putD
  rw [if_pos (List.any_eq_true.mpr ⟨kv, h1, decide_eq_true h2⟩), List.map_map]
  refine List.map_congr_left fun p _ => ?_
  show (if p.1 = k then (p.1, v) else p).1 = p.1
  split <;> rfl
theorem vd_app {k : Key} : ∀ {l m : List (Key × PyData)}, valD (l ++ m) k = (valD l k).or (valD m k)
  | [], m => by rw [List.nil_append]; exact (Option.none_or).symm
  | q :: l, m => by
    rw [List.cons_append, vd_cons, vd_cons, vd_app]
    split <;> rfl
/-! ### each once, as first seen -/
section
variable {α β : Type} [DecidableEq α] [DecidableEq β]
def once1 (acc : List α) (x : α) : List α := if x ∈ acc then acc else acc ++ [x]
def onceL (xs : List α) : List α := xs.foldl once1 []
theorem onceL_snoc {xs : List α} {x : α} : onceL (xs ++ [x]) = once1 (onceL xs) x := by unfold onceL; rw [List.foldl_append]; rfl
theorem once1_nodup {acc : List α} {x : α} (h : acc.Nodup) : (once1 acc x).Nodup := by
  unfold once1
  split
  · exact h
  · rename_i z
    refine List.nodup_append.mpr ⟨h, by simp, fun a ha b hb e => ?_⟩
    rw [List.mem_singleton] at hb
    subst hb e
    exact z ha
theorem once1_mem {acc : List α} {x y : α} : y ∈ once1 acc x ↔ y ∈ acc ∨ y = x := by
  unfold once1
  split
  · rename_i z
    exact ⟨.inl, fun h => h.elim id fun e => e ▸ z⟩
  · rw [List.mem_append, List.mem_singleton]
theorem once_ind (P : List α → List α → Prop) (h0 : P [] []) (hs : ∀ xs x, P xs (onceL xs) → P (xs ++ [x]) (once1 (onceL xs) x)) (xs : List α) : P xs (onceL xs) := by
  suffices ∀ n (xs : List α), xs.length = n → P xs (onceL xs) from this _ xs rfl
  intro n
  induction n with
  | zero => intro xs h; rw [List.length_eq_zero_iff.mp h]; exact h0
  | succ n ih =>
    intro xs h
    have hne : xs ≠ [] := fun z => by rw [z] at h; cases h
    rw [← List.dropLast_concat_getLast hne, onceL_snoc]
    exact hs _ _ (ih _ (by rw [List.length_dropLast, h]; rfl))
theorem onceL_nodup (xs : List α) : (onceL xs).Nodup := once_ind (fun _ o => o.Nodup) List.nodup_nil (fun _ _ h => once1_nodup h) xs
theorem onceL_mem {y : α} (xs : List α) : y ∈ onceL xs ↔ y ∈ xs := once_ind (fun xs o => y ∈ o ↔ y ∈ xs) Iff.rfl (fun xs x h => by rw [once1_mem, List.mem_append, List.mem_singleton, h]) xs
theorem onceL_len (xs : List α) : (onceL xs).length ≤ xs.length := once_ind (fun xs o => o.length ≤ xs.length) (Nat.le_refl _) (fun xs x h => by
  unfold once1
  rw [List.length_append]
  split
  · exact Nat.le_trans h (Nat.le_add_right _ _)
  · rw [List.length_append]; exact Nat.add_le_add_right h _) xs
theorem onceL_map {f : α → β} (xs : List α) (inj : ∀ a ∈ xs, ∀ b ∈ xs, f a = f b → a = b) : onceL (xs.map f) = (onceL xs).map f := by
  revert inj
  refine once_ind (fun xs o => (∀ a ∈ xs, ∀ b ∈ xs, f a = f b → a = b) → onceL (xs.map f) = o.map f) (fun _ => rfl) (fun xs x ih inj => ?_) xs
  rw [List.map_append, List.map_singleton, onceL_snoc, ih fun a ha b hb => inj a (List.mem_append_left _ ha) b (List.mem_append_left _ hb)]
  unfold once1
  by_cases z : x ∈ onceL xs
  · rw [if_pos z, if_pos (List.mem_map_of_mem z)]
  · rw [if_neg z, if_neg, List.map_append]; rfl
    intro hz
    obtain ⟨y, hy, e⟩ := List.mem_map.mp hz
    have := inj y (List.mem_append_left _ ((onceL_mem xs).mp hy)) x (List.mem_append_right _ (List.mem_singleton_self _)) e
    exact z (this ▸ hy)
theorem onceL_filter {p : α → Bool} (xs : List α) : onceL (xs.filter p) = (onceL xs).filter p := by
  refine once_ind (fun xs o => onceL (xs.filter p) = o.filter p) rfl (fun xs x ih => ?_) xs
  rw [List.filter_append]
  by_cases z : p x = true
  · rw [List.filter_cons_of_pos z, List.filter_nil, onceL_snoc, ih]
    unfold once1
    by_cases w : x ∈ onceL xs
    · rw [if_pos w, if_pos (List.mem_filter.mpr ⟨w, z⟩)]
    · rw [if_neg w, if_neg fun h => w (List.mem_filter.mp h).1, List.filter_append, List.filter_cons_of_pos z]; rfl
  · rw [List.filter_cons_of_neg z, List.filter_nil, List.append_nil, ih]
    unfold once1
    split
    · rfl
    · rw [List.filter_append, List.filter_cons_of_neg z, List.filter_nil, List.append_nil]
end
end EA
namespace EA
open PySem PySem.Spec PyProof.Rows L2
/-! ### small rules -/
theorem wp_ixs {S : List MO} {P : PyData → Prop} {z : Str} {k : Int} {c : Nat} (hl : z.length ≤ 100000) (e : atI z.cps.toList k = some c) (h : P (.str ⟨#[c]⟩)) : Wp (gIx S (.d (.str z)) (.d (.int k))) P := by
  refine wp_eq (a := .str ⟨#[c]⟩) ?_ h
  show (if z.length ≤ 100000 then (atI z.cps.toList k).map fun c => PyData.str ⟨#[c]⟩ else none) = _
  rw [if_pos hl, e]; rfl
theorem wp_geqD {a b : PyData} {c : Bool} {PB : Bool → Prop} (d : a.depth ≤ 40 ∨ b.depth ≤ 40) (e : PyData.eqv a b = c) (h : PB c) : Wp (gEq a b) PB := wp_geq d (by rw [e]; exact h)
theorem wp_gneD {a b : PyData} {c : Bool} {PB : Bool → Prop} (d : a.depth ≤ 40 ∨ b.depth ≤ 40) (e : PyData.eqv a b = c) (h : PB (!c)) : Wp (gNe a b) PB := wp_gne d (by rw [e]; exact h)
theorem wp_geqsD {i j : Str} {c : Bool} {PB : Bool → Prop} (e : (i == j) = c) (h : PB c) : Wp (gEq (.str i) (.str j)) PB := wp_geqs (by rw [e]; exact h)
theorem wp_gnesD {i j : Str} {c : Bool} {PB : Bool → Prop} (e : (i == j) = c) (h : PB (!c)) : Wp (gNe (.str i) (.str j)) PB := wp_gnes (by rw [e]; exact h)
theorem wp_gin_lit {x : Str} {ds : List PyData} {c : Bool} {PB : Bool → Prop} (e : (ds.any fun y => PyData.eqv y (.str x)) = c) (h : PB c) : Wp (gIn (.str x) (.tuple ds)) PB := wp_eq (if_pos (.inr (dep_str x))) (by rw [e]; exact h)
theorem ite_t {c : Bool} {P Q : Prop} (e : c = true) (h : P) : if c = true then P else Q := by rw [if_pos e]; exact h
theorem ite_f {c : Bool} {P Q : Prop} (e : c = false) (h : Q) : if c = true then P else Q := by rw [if_neg (by rw [e]; decide)]; exact h
/-- a statement, then what it comes to, then the rest -/
def thenJ (J : Sl → List MO → Prop) (Q : Out → Prop) : Out → Prop
  | .nx sl S => J sl S
  | o => Q o
theorem tj_nx {J : Sl → List MO → Prop} {Q : Out → Prop} {sl : Sl} {S : List MO} (h : J sl S) : thenJ J Q (.nx sl S) := h
theorem tj_rt {J : Sl → List MO → Prop} {Q : Out → Prop} {w : W3} {S : List MO} (h : Q (.rt w S)) : thenJ J Q (.rt w S) := h
theorem tj_bk {J : Sl → List MO → Prop} {Q : Out → Prop} {sl : Sl} {S : List MO} (h : Q (.bk sl S)) : thenJ J Q (.bk sl S) := h
theorem tj_ct {J : Sl → List MO → Prop} {Q : Out → Prop} {sl : Sl} {S : List MO} (h : Q (.ct sl S)) : thenJ J Q (.ct sl S) := h
instance st_tj_nx {J : Sl → List MO → Prop} {Q : Out → Prop} {sl : Sl} {S : List MO} : Step (thenJ J Q (.nx sl S)) (J sl S) := ⟨tj_nx⟩
instance st_tj_rt {J : Sl → List MO → Prop} {Q : Out → Prop} {w : W3} {S : List MO} : Step (thenJ J Q (.rt w S)) (Q (.rt w S)) := ⟨tj_rt⟩
instance st_tj_bk {J : Sl → List MO → Prop} {Q : Out → Prop} {sl : Sl} {S : List MO} : Step (thenJ J Q (.bk sl S)) (Q (.bk sl S)) := ⟨tj_bk⟩
instance st_tj_ct {J : Sl → List MO → Prop} {Q : Out → Prop} {sl : Sl} {S : List MO} : Step (thenJ J Q (.ct sl S)) (Q (.ct sl S)) := ⟨tj_ct⟩
end EA
namespace EA
open PySem PySem.Spec PyProof.Rows L2
local macro_rules | `(tactic| walk_at "ix") => `(tactic| first | rfl | exact atI_cons0 | exact atI_map0)
local macro_rules | `(tactic| walk_at "st") => `(tactic| first | assumption | rfl | exact get_set (by assumption) | exact get_set (get_set (by assumption)) | exact get_last | exact get_setlast | exact get_setapp (by assumption) | exact get_app (by assumption) | exact get_app (get_set (by assumption)))
local macro_rules | `(tactic| walk_at "tk") => `(tactic| first | exact List.take_length | exact take_set | exact take_set2 | exact take_set3 | exact take_app | exact take_aset | exact take_setapp | rfl)
local macro_rules | `(tactic| walk_at "sd") => `(tactic| first | omega | assumption | decide)
local macro_rules | `(tactic| walk_at "wpx") => `(tactic| first
  | with_reducible refine ite2 (fun _ => ?_) (fun z => absurd rfl z)
  | with_reducible refine ite2 (fun z => absurd z Bool.false_ne_true) (fun _ => ?_)
  | ((with_reducible refine gate_wp ?_); (first
    | ((with_reducible apply wp_viewr); (walk_at "st")) | ((with_reducible apply wp_lat); (walk_at "st"))
    | ((with_reducible refine gate_eq ?_); (first | with_reducible refine wp_geqs ?_ | with_reducible refine wp_geqb ?_ | with_reducible refine wp_geq_nil ?_))
    | ((with_reducible refine gate_ne ?_); (first | with_reducible refine wp_gnes ?_ | with_reducible refine wp_gneb ?_ | with_reducible refine wp_gne_nil ?_))
    | ((with_reducible refine gate_ix ?_); (first | ((with_reducible apply wp_ixd); (walk_at "ix")) | ((with_reducible apply wp_ixt); (walk_at "ix")) | ((with_reducible apply wp_ixr); (walk_at "st"); (walk_at "ix"))))
    | ((with_reducible apply wp_trur); (walk_at "st"))
    | ((with_reducible refine wp_l4s ?_ ?_); (first | omega | assumption | decide +kernel)) | with_reducible refine wp_l4 ?_ | ((with_reducible apply wp_l3r); (walk_at "st"))
    | ((with_reducible refine wp_mod ?_ ?_); (walk_at "sd")) | ((with_reducible refine wp_fdiv ?_ ?_); (walk_at "sd")) | ((with_reducible refine wp_mulr ?_ ?_); (walk_at "sd")) | ((with_reducible refine wp_mull ?_ ?_); (walk_at "sd")) | ((with_reducible refine wp_pow ?_ ?_); (walk_at "sd"))
    | ((with_reducible apply wp_lenr); (walk_at "st"))
    | ((with_reducible refine wp_gis ?_ ?_); rfl) | ((with_reducible refine wp_gisn ?_ ?_); rfl)
    | ((with_reducible refine gate_isi ?_); (first | ((with_reducible refine isi_t (r := true) ?_ ?_); (decide +kernel)) | ((with_reducible refine isi_t (r := false) ?_ ?_); (decide +kernel)) | ((with_reducible refine isi_b (r := true) ?_ ?_); (decide +kernel)) | ((with_reducible refine isi_b (r := false) ?_ ?_); (decide +kernel)) | ((with_reducible refine isi_i (r := true) ?_ ?_); (decide +kernel)) | ((with_reducible refine isi_i (r := false) ?_ ?_); (decide +kernel)) | ((with_reducible refine isi_s (r := true) ?_ ?_); (decide +kernel)) | ((with_reducible refine isi_s (r := false) ?_ ?_); (decide +kernel)) | ((with_reducible refine isi_l (r := true) ?_ ?_); (decide +kernel)) | ((with_reducible refine isi_l (r := false) ?_ ?_); (decide +kernel)) | ((with_reducible refine isi_n (r := true) ?_ ?_); (decide +kernel)) | ((with_reducible refine isi_n (r := false) ?_ ?_); (decide +kernel))))
    | ((with_reducible apply wp_tupr); (walk_at "st"))))
  | ((with_reducible refine gate_rq ?_); (first | ((with_reducible apply rq_dt); (walk_at "tk")) | ((with_reducible apply rq_nxt); (walk_at "tk"))))
  | ((with_reducible apply fz_r); (walk_at "st")) | ((with_reducible apply sq_r); (walk_at "st"))
  | ((with_reducible apply atSet_i); (walk_at "st"); rfl) | ((with_reducible apply atLst_i); (walk_at "st")) | ((with_reducible apply nowLst_i); (walk_at "st"))
  | ((with_reducible refine rng1_i ?_ ?_); (walk_at "sd")) | ((with_reducible refine rng2_i ?_ ?_); (walk_at "sd")))
local macro_rules | `(tactic| walk_at "wp") => `(tactic| first
  | with_reducible refine step_of ?_ | ((with_reducible apply wp_var); rfl) | walk_at "wpx")
local macro_rules | `(tactic| walk_at "fdef") => `(tactic| (refine wp_fdef rfl ?_; simp only [List.map_cons, List.map_nil, List.replicate_succ, List.replicate_zero, List.cons_append, List.nil_append]))
local macro_rules | `(tactic| walk_at "keq") => `(tactic| first
  | refine wp_geqD (c := false) (.inr (by decide +kernel)) rfl ?_ | refine wp_geqD (c := true) (.inr (by decide +kernel)) rfl ?_)
local macro_rules | `(tactic| walk_at "wk") => `(tactic| first
  | with_reducible refine step_of ?_ | ((with_reducible apply wp_var); rfl)
  | ((with_reducible refine gate_wp ?_); (first
    | with_reducible refine wp_geqsD (c := false) (by decide +kernel) ?_ | with_reducible refine wp_geqsD (c := true) (by decide +kernel) ?_
    | with_reducible refine wp_gnesD (c := false) (by decide +kernel) ?_ | with_reducible refine wp_gnesD (c := true) (by decide +kernel) ?_
    | with_reducible refine wp_gin_lit (c := true) (by decide +kernel) ?_ | with_reducible refine wp_gin_lit (c := false) (by decide +kernel) ?_))
  | with_reducible refine ite_t rfl ?_ | with_reducible refine ite_f rfl ?_
  | walk_at "wpx")
local macro_rules | `(tactic| walk_at "w1") => `(tactic| (fail_if_success (with_reducible refine th_nx ?_)); walk_at "wk")
noncomputable def f3_term_parts : F3 := fdef false 1 3
  (sSeq (sSet 1 (eOp gIx (eVar 0) (eD (.int (0)))))
  (sSeq (sIf (tCmp gIn (eVar 1) (eD (.tuple [.str "record", .str "variant", .str "row"])))
  (sRt (eB gTupOf (aCons (eNd (nLc [2, 3] (iSq (eOp gIx (eVar 0) (eD (.int (1))))) (gTp (gsCons (gNm 2) (gsCons (gNm 3) gsNil))) tYes3 (eVar 3))) aNil)))
  sNx)
  (sSeq (sIf (tCmp gEq (eVar 1) (eD (.str "arrow")))
  (sRt (eTup (aCons (eOp gIx (eVar 0) (eD (.int (1)))) (aCons (eOp gIx (eVar 0) (eD (.int (2)))) aNil))))
  sNx)
  (sSeq (sIf (tCmp gEq (eVar 1) (eD (.str "tuple")))
  (sRt (eOp gIx (eVar 0) (eD (.int (1)))))
  sNx)
  (sSeq (sIf (tCmp gEq (eVar 1) (eD (.str "data")))
  (sRt (eOp gIx (eVar 0) (eD (.int (2)))))
  sNx)
  (sSeq (sIf (tCmp gEq (eVar 1) (eD (.str "cell")))
  (sRt (eTup (aCons (eOp gIx (eVar 0) (eD (.int (1)))) aNil)))
  sNx)
  (sRt (eTup aNil))))))))
noncomputable def f3_rebuilt : F3 := fdef false 3 3
  (sSeq (sSet 3 (eOp gIx (eVar 0) (eD (.int (0)))))
  (sSeq (sIf (tCmp gIn (eVar 3) (eD (.tuple [.str "record", .str "variant", .str "row"])))
  (sRt (eTup (aCons (eVar 3) (aCons (eB gTupOf (aCons (eNd (nLc [4, 5] (iZTL (aCons (eOp gIx (eVar 0) (eD (.int (1)))) (aCons (eVar 1) aNil))) (gTp (gsCons (gNm 4) (gsCons (gNm 5) gsNil))) tYes3 (eTup (aCons (eOp gIx (eVar 4) (eD (.int (0)))) (aCons (eVar 5) aNil))))) aNil)) (aCons (eVar 2) aNil)))))
  sNx)
  (sSeq (sIf (tCmp gEq (eVar 3) (eD (.str "arrow")))
  (sRt (eTup (aCons (eD (.str "arrow")) (aCons (eOp gIx (eVar 1) (eD (.int (0)))) (aCons (eOp gIx (eVar 1) (eD (.int (1)))) aNil)))))
  sNx)
  (sSeq (sIf (tCmp gEq (eVar 3) (eD (.str "tuple")))
  (sRt (eTup (aCons (eD (.str "tuple")) (aCons (eB gTupOf (aCons (eVar 1) aNil)) aNil))))
  sNx)
  (sSeq (sIf (tCmp gEq (eVar 3) (eD (.str "data")))
  (sRt (eTup (aCons (eD (.str "data")) (aCons (eOp gIx (eVar 0) (eD (.int (1)))) (aCons (eB gTupOf (aCons (eVar 1) aNil)) aNil)))))
  sNx)
  (sSeq (sIf (tCmp gEq (eVar 3) (eD (.str "cell")))
  (sRt (eTup (aCons (eD (.str "cell")) (aCons (eOp gIx (eVar 1) (eD (.int (0)))) aNil))))
  sNx)
  (sRt (eVar 0))))))))
noncomputable def f3_tparts : F3 := fdef false 1 2
  (sSeq (sIf (tCmp gIn (eOp gIx (eVar 0) (eD (.int (0)))) (eTup (aCons (eD (.str "record")) (aCons (eD (.str "variant")) aNil))))
  (sRt (eNd (nLc [1, 2] (iSq (eOp gIx (eVar 0) (eD (.int (1))))) (gTp (gsCons (gNm 1) (gsCons (gNm 2) gsNil))) tYes3 (eVar 2))))
  sNx)
  (sSeq (sIf (tCmp gEq (eOp gIx (eVar 0) (eD (.int (0)))) (eD (.str "arrow")))
  (sRt (eNd (nLst (aCons (eOp gIx (eVar 0) (eD (.int (1)))) (aCons (eOp gIx (eVar 0) (eD (.int (2)))) aNil)))))
  sNx)
  (sSeq (sIf (tCmp gEq (eOp gIx (eVar 0) (eD (.int (0)))) (eD (.str "tuple")))
  (sRt (eNd (nB gLst4 (aCons (eOp gIx (eVar 0) (eD (.int (1)))) aNil))))
  sNx)
  (sSeq (sIf (tCmp gEq (eOp gIx (eVar 0) (eD (.int (0)))) (eD (.str "data")))
  (sRt (eNd (nB gLst4 (aCons (eOp gIx (eVar 0) (eD (.int (2)))) aNil))))
  sNx)
  (sSeq (sIf (tCmp gEq (eOp gIx (eVar 0) (eD (.int (0)))) (eD (.str "cell")))
  (sRt (eNd (nLst (aCons (eOp gIx (eVar 0) (eD (.int (1)))) aNil))))
  sNx)
  (sRt (eNd (nLst aNil))))))))
noncomputable def f3_trebuilt : F3 := fdef false 3 1
  (sSeq (sIf (tCmp gIn (eOp gIx (eVar 0) (eD (.int (0)))) (eTup (aCons (eD (.str "record")) (aCons (eD (.str "variant")) aNil))))
  (sRt (eTup (aCons (eOp gIx (eVar 0) (eD (.int (0)))) (aCons (eB gTupOf (aCons (eNd (nLc [3] (iR1 (aCons (eB gLen (aCons (eVar 1) aNil)) aNil)) (gNm 3) tYes3 (eTup (aCons (eOp gIx (eOp gIx (eOp gIx (eVar 0) (eD (.int (1)))) (eVar 3)) (eD (.int (0)))) (aCons (eOp gIx (eVar 1) (eVar 3)) aNil))))) aNil)) (aCons (eVar 2) aNil)))))
  sNx)
  (sSeq (sIf (tCmp gEq (eOp gIx (eVar 0) (eD (.int (0)))) (eD (.str "arrow")))
  (sRt (eTup (aCons (eD (.str "arrow")) (aCons (eOp gIx (eVar 1) (eD (.int (0)))) (aCons (eOp gIx (eVar 1) (eD (.int (1)))) aNil)))))
  sNx)
  (sSeq (sIf (tCmp gEq (eOp gIx (eVar 0) (eD (.int (0)))) (eD (.str "tuple")))
  (sRt (eTup (aCons (eD (.str "tuple")) (aCons (eB gTupOf (aCons (eVar 1) aNil)) aNil))))
  sNx)
  (sSeq (sIf (tCmp gEq (eOp gIx (eVar 0) (eD (.int (0)))) (eD (.str "data")))
  (sRt (eTup (aCons (eD (.str "data")) (aCons (eOp gIx (eVar 0) (eD (.int (1)))) (aCons (eB gTupOf (aCons (eVar 1) aNil)) aNil)))))
  sNx)
  (sSeq (sIf (tCmp gEq (eOp gIx (eVar 0) (eD (.int (0)))) (eD (.str "cell")))
  (sRt (eTup (aCons (eD (.str "cell")) (aCons (eOp gIx (eVar 1) (eD (.int (0)))) aNil))))
  sNx)
  (sRt (eVar 0)))))))
/-! ### terms -/
inductive Hd where
  | atom (w : Str) (r : List PyData)
  | arrow
  | cell
  | tuple
  | row (w : Str) (ls : List Str) (tl : Option Int)
  | data (d : Str)
inductive Tm where
  | letter (k : Int)
  | node (hd : Hd) (ps : List Tm)
def optI : Option Int → PyData
  | some r => .int r
  | none => .none
def fieldsD (ls : List Str) (ps : List PyData) : List PyData := (ls.zip ps).map fun q => .tuple [.str q.1, q.2]
def Hd.word : Hd → Str
  | .atom w _ => w
  | .arrow => "arrow"
  | .cell => "cell"
  | .tuple => "tuple"
  | .row w _ _ => w
  | .data _ => "data"
def Hd.rest : Hd → List PyData → List PyData
  | .atom _ r, _ => r
  | .arrow, ps => ps
  | .cell, ps => ps
  | .tuple, ps => [.tuple ps]
  | .row _ ls t, ps => [.tuple (fieldsD ls ps), optI t]
  | .data d, ps => [.str d, .tuple ps]
def Hd.build (hd : Hd) (ps : List PyData) : PyData := .tuple (.str hd.word :: hd.rest ps)
/-- n parts; b: a row may stand here -/
def Hd.fits (b : Bool) : Hd → Nat → Prop
  | .atom w r, n => (w = "int" ∨ w = "bool" ∨ w = "hidden" ∨ w = "stone") ∧ n = 0 ∧ ∃ ss : List Str, ss.length ≤ 2 ∧ r = ss.map .str
  | .arrow, n => n = 2
  | .cell, n => n = 1
  | .tuple, n => n ≤ 5
  | .row w ls _, n => (w = "record" ∨ w = "variant" ∨ (b = true ∧ w = "row")) ∧ ls.length = n ∧ n ≤ 5
  | .data _, n => n ≤ 5
def Hd.tail : Hd → Option Int
  | .row _ _ t => t
  | _ => none
def Hd.setTail (t : Option Int) : Hd → Hd
  | .row w ls _ => .row w ls t
  | h => h
def Hd.isRow : Hd → Bool
  | .row _ _ _ => true
  | _ => false
def Hd.labels : Hd → List Str
  | .row _ ls _ => ls
  | _ => []
mutual
def Tm.enc : Tm → PyData
  | .letter k => .tuple [.str "letter", .int k]
  | .node hd ps => hd.build (encM ps)
def encM : List Tm → List PyData
  | [] => []
  | p :: ps => p.enc :: encM ps
end
theorem encM_map : ∀ ps : List Tm, encM ps = ps.map Tm.enc
  | [] => rfl
  | p :: ps => by rw [encM, encM_map ps]; rfl
theorem Hd.fits_len {b : Bool} {hd : Hd} {n : Nat} (h : hd.fits b n) : n ≤ 5 := by
  cases hd with
  | atom w r => have := h.2.1; omega
  | arrow => have : n = 2 := h; omega
  | cell => have : n = 1 := h; omega
  | tuple => exact h
  | row w ls t => exact h.2.2
  | data d => exact h
/-- h: as many levels; PL, PR: of the letters, the row letters -/
inductive TOk (PL PR : Int → Prop) : Bool → Nat → Tm → Prop
  | letter {b : Bool} {h : Nat} {k : Int} : PL k → TOk PL PR b h (.letter k)
  | leaf {b : Bool} {h : Nat} {hd : Hd} : hd.fits b 0 → hd.tail = none → TOk PL PR b h (.node hd [])
  | node {b : Bool} {h : Nat} {hd : Hd} {ps : List Tm} : hd.fits b ps.length → (∀ r, hd.tail = some r → PR r) → (∀ p ∈ ps, TOk PL PR false h p) → TOk PL PR b (h + 1) (.node hd ps)
/-- of one node -/
theorem TOk.top {PL PR : Int → Prop} {b : Bool} {h : Nat} {hd : Hd} {ps : List Tm} (o : TOk PL PR b h (.node hd ps)) : hd.fits b ps.length ∧ (∀ r, hd.tail = some r → PR r) ∧ ∀ p ∈ ps, 0 < h ∧ TOk PL PR false (h - 1) p := by
  cases o with
  | leaf f g => exact ⟨f, (fun r e => by rw [g] at e; cases e), fun p hp => by cases hp⟩
  | node f g k => exact ⟨f, g, fun p hp => ⟨Nat.succ_pos _, k p hp⟩⟩
theorem TOk.mono {PL PR : Int → Prop} {b : Bool} {h : Nat} {t : Tm} (o : TOk PL PR b h t) : ∀ {k : Nat}, h ≤ k → TOk PL PR b k t := by
  induction o with
  | letter a => intro k _; exact .letter a
  | leaf a c => intro k _; exact .leaf a c
  | node a c d ih => intro k hk; obtain ⟨k, rfl⟩ : ∃ x, k = x + 1 := ⟨k - 1, by omega⟩; exact .node a c fun p hp => ih p hp (by omega)
theorem TOk.imp {PL PR PL' PR' : Int → Prop} {b : Bool} {h : Nat} {t : Tm} (o : TOk PL PR b h t) (i : ∀ k, PL k → PL' k) (j : ∀ k, PR k → PR' k) : TOk PL' PR' b h t := by
  induction o with
  | letter a => exact .letter (i _ a)
  | leaf a c => exact .leaf a c
  | node a c d ih => exact .node a (fun r e => j r (c r e)) ih
theorem zip_unzip {α β : Type} : ∀ {ls : List α} {ps : List β}, ls.length = ps.length → (ls.zip ps).map (·.2) = ps
  | [], [], _ => rfl
  | _ :: _, _ :: _, h => by rw [List.zip_cons_cons, List.map_cons, zip_unzip (Nat.succ.inj h)]
theorem zip_unzip1 {α β : Type} : ∀ {ls : List α} {ps : List β}, ls.length = ps.length → (ls.zip ps).map (·.1) = ls
  | [], [], _ => rfl
  | _ :: _, _ :: _, h => by rw [List.zip_cons_cons, List.map_cons, zip_unzip1 (Nat.succ.inj h)]
theorem wp_fields {i j : Nat} {sl : Sl} {S : List MO} {ls : List Str} {ps : List PyData} {e : FE} {v : Str × PyData → PyData} {QN : List PyData → List MO → Prop} (hs : ∀ x ∈ ls.zip ps, Wp2 (e ((sl.set i (some (.d (.str x.1)))).set j (some (.d x.2))) S) fun y1 y2 => y1 = .d (v x) ∧ y2 = S) (q : QN ((ls.zip ps).map v) S) : Wp2 (cLoop yes (gTp (gsCons (gNm i) (gsCons (gNm j) gsNil))) tYes3 e sl ((fieldsD ls ps).map .d) S) QN :=
  wp_pure (xs := ls.zip ps) (w := fun q => .d (.tuple [.str q.1, q.2])) (c := fun _ => true) (v := v) (by unfold fieldsD; rw [List.map_map]; rfl) rfl (fun x hx => by
    repeat walk_at "wk"
    exact ⟨rfl, rfl, fun _ => hs x hx⟩) (by rw [List.filter_eq_self.mpr fun _ _ => rfl]; exact q)
theorem len_two {α : Type} {l : List α} (h : l.length = 2) : ∃ x y, l = [x, y] := by
  match l, h with
  | [x, y], _ => exact ⟨x, y, rfl⟩
theorem term_partsA {b : Bool} {hd : Hd} {ps : List PyData} {S : List MO} (hf : hd.fits b ps.length) : f3_term_parts [.d (hd.build ps)] S = some (.d (.tuple ps), S) := by
  refine eq_of ?_
  unfold f3_term_parts
  cases hd with
  | atom w r =>
    obtain ⟨hw, h0, _⟩ := hf
    rw [List.length_eq_zero_iff.mp h0]
    rcases hw with rfl | rfl | rfl | rfl <;>
    · unfold Hd.build
      simp only [Hd.word, Hd.rest]
      walk_at "fdef"
      repeat walk_at "wk"
      exact ⟨rfl, rfl⟩
  | arrow =>
    obtain ⟨x, y, rfl⟩ := len_two hf
    unfold Hd.build
    simp only [Hd.word, Hd.rest]
    walk_at "fdef"
    repeat walk_at "wk"
    exact ⟨rfl, rfl⟩
  | cell =>
    obtain ⟨x, rfl⟩ := List.length_eq_one_iff.mp hf
    unfold Hd.build
    simp only [Hd.word, Hd.rest]
    walk_at "fdef"
    repeat walk_at "wk"
    exact ⟨rfl, rfl⟩
  | tuple =>
    unfold Hd.build
    simp only [Hd.word, Hd.rest]
    walk_at "fdef"
    repeat walk_at "wk"
    exact ⟨rfl, rfl⟩
  | data d =>
    unfold Hd.build
    simp only [Hd.word, Hd.rest]
    walk_at "fdef"
    repeat walk_at "wk"
    exact ⟨rfl, rfl⟩
  | row w ls t =>
    obtain ⟨hw, hl, h5⟩ := hf
    have hz : (ls.zip ps).length ≤ 5 := by rw [List.length_zip]; omega
    have main : ∀ w : Str, (w = "record" ∨ w = "variant" ∨ w = "row") → Wp2 (f3_term_parts [.d (Hd.build (.row w ls t) ps)] S) fun a c => a = .d (.tuple ps) ∧ c = S := by
      intro w hw
      unfold f3_term_parts
      rcases hw with rfl | rfl | rfl <;>
      · unfold Hd.build
        simp only [Hd.word, Hd.rest]
        walk_at "fdef"
        repeat walk_at "wk"
        refine ⟨by rw [List.length_map]; unfold fieldsD; rw [List.length_map]; omega, ?_⟩
        refine wp_fields (v := fun x => x.2) (fun x hx => ?_) ?_
        · repeat walk_at "wk"
          exact ⟨rfl, rfl⟩
        · rw [zip_unzip hl]
          repeat walk_at "wk"
          exact ⟨rfl, rfl⟩
    have := main w (hw.imp id fun h => h.imp id fun h => h.2)
    unfold f3_term_parts at this
    exact this
theorem zip3_fields {ls : List Str} : ∀ {ps qs : List PyData}, ls.length = ps.length → qs.length = ps.length → ((ls.zip ps).zip qs).map (fun z => PyData.tuple [.str z.1.1, z.2]) = fieldsD ls qs := by
  unfold fieldsD
  induction ls with
  | nil => intro ps qs h1 h2; rfl
  | cons l ls ih =>
    intro ps qs h1 h2
    match ps, qs, h1, h2 with
    | p :: ps, q :: qs, h1, h2 =>
      rw [List.zip_cons_cons, List.zip_cons_cons, List.map_cons, ih (Nat.succ.inj h1) (Nat.succ.inj h2)]
      rfl
theorem zipD_fields {ls : List Str} {ps qs : List PyData} : zipD (fieldsD ls ps) qs = ((ls.zip ps).zip qs).map fun z => .tuple [.tuple [.str z.1.1, z.1.2], z.2] := by
  unfold zipD fieldsD
  rw [List.zip_map_left, List.map_map]
  rfl
theorem rebuilt3 {b : Bool} {hd : Hd} {ps qs : List PyData} {t : Option Int} {S : List MO} (hf : hd.fits b ps.length) (hq : qs.length = ps.length) : f3_rebuilt [.d (hd.build ps), .d (.list qs), .d (optI t)] S = some (.d ((hd.setTail t).build qs), S) := by
  refine eq_of ?_
  cases hd with
  | atom w r =>
    obtain ⟨hw, h0, _⟩ := hf
    unfold f3_rebuilt
    rcases hw with rfl | rfl | rfl | rfl <;>
    · unfold Hd.build
      simp only [Hd.setTail, Hd.word, Hd.rest]
      walk_at "fdef"
      repeat walk_at "wk"
      exact ⟨rfl, rfl⟩
  | arrow =>
    obtain ⟨x, y, rfl⟩ := len_two (hq.trans hf)
    unfold f3_rebuilt Hd.build
    simp only [Hd.setTail, Hd.word, Hd.rest]
    walk_at "fdef"
    repeat walk_at "wk"
    exact ⟨rfl, rfl⟩
  | cell =>
    obtain ⟨x, rfl⟩ := List.length_eq_one_iff.mp (hq.trans hf)
    unfold f3_rebuilt Hd.build
    simp only [Hd.setTail, Hd.word, Hd.rest]
    walk_at "fdef"
    repeat walk_at "wk"
    exact ⟨rfl, rfl⟩
  | tuple =>
    unfold f3_rebuilt Hd.build
    simp only [Hd.setTail, Hd.word, Hd.rest]
    walk_at "fdef"
    repeat walk_at "wk"
    exact ⟨rfl, rfl⟩
  | data d =>
    unfold f3_rebuilt Hd.build
    simp only [Hd.setTail, Hd.word, Hd.rest]
    walk_at "fdef"
    repeat walk_at "wk"
    exact ⟨rfl, rfl⟩
  | row w ls u =>
    obtain ⟨hw, hl, h5⟩ := hf
    have main : ∀ w : Str, (w = "record" ∨ w = "variant" ∨ w = "row") → Wp2 (f3_rebuilt [.d (Hd.build (.row w ls u) ps), .d (.list qs), .d (optI t)] S) fun a c => a = .d (Hd.build (.row w ls t) qs) ∧ c = S := by
      intro w hw
      unfold f3_rebuilt
      rcases hw with rfl | rfl | rfl <;>
      · unfold Hd.build
        simp only [Hd.word, Hd.rest]
        walk_at "fdef"
        repeat walk_at "wk"
        refine wp_zTL ?_
        repeat walk_at "wk"
        refine ⟨_, _, rfl, ?_⟩
        refine ⟨by dsimp only; rw [List.length_map, zipD_fields, List.length_map, List.length_zip, List.length_zip]; omega, ?_⟩
        refine wp_pure (xs := (ls.zip ps).zip qs) (w := fun z => .d (.tuple [.tuple [.str z.1.1, z.1.2], z.2])) (c := fun _ => true) (v := fun z => .tuple [.str z.1.1, z.2]) (by dsimp only; rw [zipD_fields, List.map_map]; rfl) rfl (fun x hx => ?_) ?_
        · repeat walk_at "wk"
          refine ⟨rfl, rfl, fun _ => ?_⟩
          repeat walk_at "wk"
          exact ⟨rfl, rfl⟩
        · rw [List.filter_eq_self.mpr fun _ _ => rfl, zip3_fields hl hq]
          repeat walk_at "wk"
          exact ⟨rfl, rfl⟩
    exact main w (hw.imp id fun h => h.imp id fun h => h.2)
theorem tparts3 {hd : Hd} {ps : List PyData} {S : List MO} (hf : hd.fits false ps.length) : f3_tparts [.d (hd.build ps)] S = some (.d (.list ps), S) := by
  refine eq_of ?_
  cases hd with
  | atom w r =>
    obtain ⟨hw, h0, _⟩ := hf
    rw [List.length_eq_zero_iff.mp h0]
    unfold f3_tparts
    rcases hw with rfl | rfl | rfl | rfl <;>
    · unfold Hd.build
      simp only [Hd.word, Hd.rest]
      walk_at "fdef"
      repeat walk_at "wk"
      exact ⟨rfl, rfl⟩
  | arrow =>
    obtain ⟨x, y, rfl⟩ := len_two hf
    unfold f3_tparts Hd.build
    simp only [Hd.word, Hd.rest]
    walk_at "fdef"
    repeat walk_at "wk"
    exact ⟨rfl, rfl⟩
  | cell =>
    obtain ⟨x, rfl⟩ := List.length_eq_one_iff.mp hf
    unfold f3_tparts Hd.build
    simp only [Hd.word, Hd.rest]
    walk_at "fdef"
    repeat walk_at "wk"
    exact ⟨rfl, rfl⟩
  | tuple =>
    unfold f3_tparts Hd.build
    simp only [Hd.word, Hd.rest]
    walk_at "fdef"
    repeat walk_at "wk"
    exact ⟨rfl, rfl⟩
  | data d =>
    unfold f3_tparts Hd.build
    simp only [Hd.word, Hd.rest]
    walk_at "fdef"
    repeat walk_at "wk"
    exact ⟨rfl, rfl⟩
  | row w ls t =>
    obtain ⟨hw, hl, h5⟩ := hf
    have hz : (ls.zip ps).length ≤ 5 := by rw [List.length_zip]; omega
    have main : ∀ w : Str, (w = "record" ∨ w = "variant") → Wp2 (f3_tparts [.d (Hd.build (.row w ls t) ps)] S) fun a c => a = .d (.list ps) ∧ c = S := by
      intro w hw
      unfold f3_tparts
      rcases hw with rfl | rfl <;>
      · unfold Hd.build
        simp only [Hd.word, Hd.rest]
        walk_at "fdef"
        repeat walk_at "wk"
        refine ⟨by rw [List.length_map]; unfold fieldsD; rw [List.length_map]; omega, ?_⟩
        refine wp_fields (v := fun x => x.2) (fun x hx => ?_) ?_
        · repeat walk_at "wk"
          exact ⟨rfl, rfl⟩
        · rw [zip_unzip hl]
          repeat walk_at "wk"
          exact ⟨rfl, rfl⟩
    exact main w (hw.imp id fun h => h.elim id fun h => by cases h.1)
theorem fields_range {ls : List Str} {qs : List PyData} (h : ls.length = qs.length) : (List.range qs.length).map (fun j => PyData.tuple [.str (ls.getD j ""), qs.getD j .none]) = fieldsD ls qs := by
  unfold fieldsD
  apply List.ext_getElem
  · rw [List.length_map, List.length_map, List.length_range, List.length_zip]; omega
  · intro j h1 h2
    rw [List.length_map, List.length_range] at h1
    rw [List.getElem_map, List.getElem_map, List.getElem_range, List.getElem_zip, List.getD_eq_getElem?_getD, List.getD_eq_getElem?_getD, List.getElem?_eq_getElem (by omega), List.getElem?_eq_getElem h1]
    rfl
theorem trebuilt3 {hd : Hd} {ps qs : List PyData} {t : Option Int} {S : List MO} (hf : hd.fits false ps.length) (hq : qs.length = ps.length) : f3_trebuilt [.d (hd.build ps), .d (.list qs), .d (optI t)] S = some (.d ((hd.setTail t).build qs), S) := by
  refine eq_of ?_
  cases hd with
  | atom w r =>
    obtain ⟨hw, h0, _⟩ := hf
    unfold f3_trebuilt
    rcases hw with rfl | rfl | rfl | rfl <;>
    · unfold Hd.build
      simp only [Hd.setTail, Hd.word, Hd.rest]
      walk_at "fdef"
      repeat walk_at "wk"
      exact ⟨rfl, rfl⟩
  | arrow =>
    obtain ⟨x, y, rfl⟩ := len_two (hq.trans hf)
    unfold f3_trebuilt Hd.build
    simp only [Hd.setTail, Hd.word, Hd.rest]
    walk_at "fdef"
    repeat walk_at "wk"
    exact ⟨rfl, rfl⟩
  | cell =>
    obtain ⟨x, rfl⟩ := List.length_eq_one_iff.mp (hq.trans hf)
    unfold f3_trebuilt Hd.build
    simp only [Hd.setTail, Hd.word, Hd.rest]
    walk_at "fdef"
    repeat walk_at "wk"
    exact ⟨rfl, rfl⟩
  | tuple =>
    unfold f3_trebuilt Hd.build
    simp only [Hd.setTail, Hd.word, Hd.rest]
    walk_at "fdef"
    repeat walk_at "wk"
    exact ⟨rfl, rfl⟩
  | data d =>
    unfold f3_trebuilt Hd.build
    simp only [Hd.setTail, Hd.word, Hd.rest]
    walk_at "fdef"
    repeat walk_at "wk"
    exact ⟨rfl, rfl⟩
  | row w ls u =>
    obtain ⟨hw, hl, h5⟩ := hf
    have main : ∀ w : Str, (w = "record" ∨ w = "variant") → Wp2 (f3_trebuilt [.d (Hd.build (.row w ls u) ps), .d (.list qs), .d (optI t)] S) fun a c => a = .d (Hd.build (.row w ls t) qs) ∧ c = S := by
      intro w hw
      unfold f3_trebuilt
      rcases hw with rfl | rfl <;>
      · unfold Hd.build
        simp only [Hd.word, Hd.rest]
        walk_at "fdef"
        repeat walk_at "wk"
        refine ⟨by dsimp only; rw [intsW_len, Int.toNat_natCast]; omega, ?_⟩
        refine wp_all (xs := List.range qs.length) (w := fun j => .d (.int (j : Nat))) (v := fun j => .tuple [.str (ls.getD j ""), qs.getD j .none]) (intsW_of rfl) rfl (fun j hj => ?_) ?_ gnm_st
        · have hj := List.mem_range.mp hj
          repeat walk_at "wk"
          refine wp_ixt (d := .tuple [.str (ls.getD j ""), ps.getD j .none]) (atI_at (by
            unfold fieldsD
            rw [List.getElem?_map, List.getElem?_eq_getElem (by rw [List.length_zip]; omega), List.getElem_zip, List.getD_eq_getElem?_getD, List.getD_eq_getElem?_getD, List.getElem?_eq_getElem (by omega), List.getElem?_eq_getElem (by omega)]
            rfl)) ?_
          repeat walk_at "wk"
          refine wp_ixd (d := qs.getD j .none) (atI_at (by
            rw [List.getD_eq_getElem?_getD, List.getElem?_eq_getElem hj]; rfl)) ?_
          repeat walk_at "wk"
          exact ⟨rfl, rfl⟩
        · rw [fields_range (by omega)]
          repeat walk_at "wk"
          exact ⟨rfl, rfl⟩
    exact main w (hw.imp id fun h => h.elim id fun h => by cases h.1)
end EA
namespace EA
open PySem PySem.Spec PyProof.Rows L2
local macro_rules | `(tactic| walk_at "ix") => `(tactic| first | rfl | exact atI_cons0 | exact atI_map0)
local macro_rules | `(tactic| walk_at "st") => `(tactic| first | assumption | rfl | exact get_set (by assumption) | exact get_set (get_set (by assumption)) | exact get_last | exact get_setlast | exact get_setapp (by assumption) | exact get_app (by assumption) | exact get_app (get_set (by assumption)))
local macro_rules | `(tactic| walk_at "tk") => `(tactic| first | exact List.take_length | exact take_set | exact take_set2 | exact take_set3 | exact take_app | exact take_aset | exact take_setapp | rfl)
local macro_rules | `(tactic| walk_at "sd") => `(tactic| first | omega | assumption | decide)
local macro_rules | `(tactic| walk_at "wpx") => `(tactic| first
  | with_reducible refine ite2 (fun _ => ?_) (fun z => absurd rfl z)
  | with_reducible refine ite2 (fun z => absurd z Bool.false_ne_true) (fun _ => ?_)
  | ((with_reducible refine gate_wp ?_); (first
    | ((with_reducible apply wp_viewr); (walk_at "st")) | ((with_reducible apply wp_lat); (walk_at "st"))
    | ((with_reducible refine gate_eq ?_); (first | with_reducible refine wp_geqs ?_ | with_reducible refine wp_geqb ?_ | with_reducible refine wp_geq_nil ?_))
    | ((with_reducible refine gate_ne ?_); (first | with_reducible refine wp_gnes ?_ | with_reducible refine wp_gneb ?_ | with_reducible refine wp_gne_nil ?_))
    | ((with_reducible refine gate_ix ?_); (first | ((with_reducible apply wp_ixd); (walk_at "ix")) | ((with_reducible apply wp_ixt); (walk_at "ix")) | ((with_reducible apply wp_ixr); (walk_at "st"); (walk_at "ix"))))
    | ((with_reducible apply wp_trur); (walk_at "st"))
    | ((with_reducible refine wp_l4s ?_ ?_); (first | omega | assumption | decide +kernel)) | with_reducible refine wp_l4 ?_ | ((with_reducible apply wp_l3r); (walk_at "st"))
    | ((with_reducible refine wp_mod ?_ ?_); (walk_at "sd")) | ((with_reducible refine wp_fdiv ?_ ?_); (walk_at "sd")) | ((with_reducible refine wp_mulr ?_ ?_); (walk_at "sd")) | ((with_reducible refine wp_mull ?_ ?_); (walk_at "sd")) | ((with_reducible refine wp_pow ?_ ?_); (walk_at "sd"))
    | ((with_reducible apply wp_lenr); (walk_at "st"))
    | ((with_reducible refine wp_gis ?_ ?_); rfl) | ((with_reducible refine wp_gisn ?_ ?_); rfl)
    | ((with_reducible refine gate_isi ?_); (first | ((with_reducible refine isi_t (r := true) ?_ ?_); (decide +kernel)) | ((with_reducible refine isi_t (r := false) ?_ ?_); (decide +kernel)) | ((with_reducible refine isi_b (r := true) ?_ ?_); (decide +kernel)) | ((with_reducible refine isi_b (r := false) ?_ ?_); (decide +kernel)) | ((with_reducible refine isi_i (r := true) ?_ ?_); (decide +kernel)) | ((with_reducible refine isi_i (r := false) ?_ ?_); (decide +kernel)) | ((with_reducible refine isi_s (r := true) ?_ ?_); (decide +kernel)) | ((with_reducible refine isi_s (r := false) ?_ ?_); (decide +kernel)) | ((with_reducible refine isi_l (r := true) ?_ ?_); (decide +kernel)) | ((with_reducible refine isi_l (r := false) ?_ ?_); (decide +kernel)) | ((with_reducible refine isi_n (r := true) ?_ ?_); (decide +kernel)) | ((with_reducible refine isi_n (r := false) ?_ ?_); (decide +kernel))))
    | ((with_reducible apply wp_tupr); (walk_at "st"))))
  | ((with_reducible refine gate_rq ?_); (first | ((with_reducible apply rq_dt); (walk_at "tk")) | ((with_reducible apply rq_nxt); (walk_at "tk"))))
  | ((with_reducible apply fz_r); (walk_at "st")) | ((with_reducible apply sq_r); (walk_at "st"))
  | ((with_reducible apply atSet_i); (walk_at "st"); rfl) | ((with_reducible apply atLst_i); (walk_at "st")) | ((with_reducible apply nowLst_i); (walk_at "st"))
  | ((with_reducible refine rng1_i ?_ ?_); (walk_at "sd")) | ((with_reducible refine rng2_i ?_ ?_); (walk_at "sd")))
local macro_rules | `(tactic| walk_at "wp") => `(tactic| first
  | with_reducible refine step_of ?_ | ((with_reducible apply wp_var); rfl) | walk_at "wpx")
local macro_rules | `(tactic| walk_at "fdef") => `(tactic| (refine wp_fdef rfl ?_; simp only [List.map_cons, List.map_nil, List.replicate_succ, List.replicate_zero, List.cons_append, List.nil_append]))
local macro_rules | `(tactic| walk_at "keq") => `(tactic| first
  | refine wp_geqD (c := false) (.inr (by decide +kernel)) rfl ?_ | refine wp_geqD (c := true) (.inr (by decide +kernel)) rfl ?_)
local macro_rules | `(tactic| walk_at "wk") => `(tactic| first
  | with_reducible refine step_of ?_ | ((with_reducible apply wp_var); rfl)
  | ((with_reducible refine gate_wp ?_); (first
    | with_reducible refine wp_geqsD (c := false) (by decide +kernel) ?_ | with_reducible refine wp_geqsD (c := true) (by decide +kernel) ?_
    | with_reducible refine wp_gnesD (c := false) (by decide +kernel) ?_ | with_reducible refine wp_gnesD (c := true) (by decide +kernel) ?_
    | with_reducible refine wp_gin_lit (c := true) (by decide +kernel) ?_ | with_reducible refine wp_gin_lit (c := false) (by decide +kernel) ?_))
  | with_reducible refine ite_t rfl ?_ | with_reducible refine ite_f rfl ?_
  | walk_at "wpx")
local macro_rules | `(tactic| walk_at "w1") => `(tactic| (fail_if_success (with_reducible refine th_nx ?_)); walk_at "wk")
noncomputable def f3_gather_letters : Nat → F3
  | 0 => fun _ _ => none
  | n + 1 => fdef false 2 1
      (sSeq (sIf (tCmp gEq (eOp gIx (eVar 0) (eD (.int (0)))) (eD (.str "letter")))
        (sEx (eM mApp (eVar 1) (aCons (eTup (aCons (eOp gIx (eVar 0) (eD (.int (1)))) (aCons (eD (.bool false)) aNil))) aNil)))
        sNx)
        (sSeq (sFor (iSq (eCall f3_term_parts (aCons (eVar 0) aNil))) (gNm 2)
        (sEx (eCall (f3_gather_letters n) (aCons (eVar 2) (aCons (eVar 1) aNil)))))
        (sIf (tAn (tCmp gIn (eOp gIx (eVar 0) (eD (.int (0)))) (eD (.tuple [.str "record", .str "variant", .str "row"]))) (tCmp gIsN (eOp gIx (eVar 0) (eD (.int (2)))) (eD .none)))
        (sEx (eM mApp (eVar 1) (aCons (eTup (aCons (eOp gIx (eVar 0) (eD (.int (2)))) (aCons (eD (.bool true)) aNil))) aNil)))
        sNx)))
theorem Tm.enc_node {hd : Hd} {ps : List Tm} : (Tm.node hd ps).enc = hd.build (ps.map Tm.enc) := by rw [Tm.enc, encM_map]
def Hd.tls (hd : Hd) : List (Bool × Int) := match hd.tail with
  | some r => [(true, r)]
  | none => []
mutual
def Tm.seen : Tm → List (Bool × Int)
  | .letter k => [(false, k)]
  | .node hd ps => seenM ps ++ hd.tls
def seenM : List Tm → List (Bool × Int)
  | [] => []
  | p :: ps => p.seen ++ seenM ps
end
theorem seenM_map : ∀ ps : List Tm, seenM ps = ps.flatMap Tm.seen
  | [] => rfl
  | p :: ps => by rw [seenM, seenM_map ps]; rfl
theorem Tm.seen_node {hd : Hd} {ps : List Tm} : (Tm.node hd ps).seen = ps.flatMap Tm.seen ++ hd.tls := by rw [Tm.seen, seenM_map]
theorem flat_len {α β : Type} {f : α → List β} {n : Nat} : ∀ {ps : List α}, (∀ p ∈ ps, (f p).length ≤ n) → (ps.flatMap f).length ≤ ps.length * n
  | [], _ => by simp
  | p :: ps, h => by
    have := flat_len (ps := ps) fun q hq => h q (List.mem_cons_of_mem _ hq)
    have := h p List.mem_cons_self
    rw [List.flatMap_cons, List.length_append, List.length_cons, Nat.succ_mul]
    omega
theorem Hd.tls_len (hd : Hd) : hd.tls.length ≤ 1 := by
  unfold Hd.tls
  split
  · exact Nat.le_refl _
  · exact Nat.zero_le _
theorem TOk.seen_len {PL PR : Int → Prop} {b : Bool} {h : Nat} {t : Tm} (o : TOk PL PR b h t) : t.seen.length ≤ 6 ^ h := by
  induction o with
  | letter => exact Nat.one_le_pow _ _ (by decide)
  | leaf f g => rw [Tm.seen_node, List.flatMap_nil, List.nil_append]; unfold Hd.tls; rw [g]; exact Nat.zero_le _
  | @node b h hd ps f _ _ ih =>
    rw [Tm.seen_node, List.length_append]
    have h1 := flat_len ih
    have h2 := hd.tls_len
    have h3 := Hd.fits_len f
    have h4 : ps.length * 6 ^ h ≤ 5 * 6 ^ h := Nat.mul_le_mul_right _ h3
    have h5 : 1 ≤ 6 ^ h := Nat.one_le_pow _ _ (by decide)
    rw [Nat.pow_succ]
    omega
theorem word_letter {b : Bool} {hd : Hd} {n : Nat} (hf : hd.fits b n) : (hd.word == "letter") = false := by
  cases hd with
  | atom w r => rcases hf.1 with rfl | rfl | rfl | rfl <;> simp only [Hd.word, Hd.isRow] <;> decide +kernel
  | row w ls t => rcases hf.1 with rfl | rfl | ⟨_, rfl⟩ <;> simp only [Hd.word, Hd.isRow] <;> decide +kernel
  | _ => simp only [Hd.word, Hd.isRow] <;> decide +kernel
theorem word_in3 {b : Bool} {hd : Hd} {n : Nat} (hf : hd.fits b n) : ([PyData.str "record", .str "variant", .str "row"].any fun y => PyData.eqv y (.str hd.word)) = hd.isRow := by
  cases hd with
  | atom w r => rcases hf.1 with rfl | rfl | rfl | rfl <;> simp only [Hd.word, Hd.isRow] <;> decide +kernel
  | row w ls t => rcases hf.1 with rfl | rfl | ⟨_, rfl⟩ <;> simp only [Hd.word, Hd.isRow] <;> decide +kernel
  | _ => simp only [Hd.word, Hd.isRow] <;> decide +kernel
theorem word_in2 {hd : Hd} {n : Nat} (hf : hd.fits false n) : ([PyData.str "record", .str "variant"].any fun y => PyData.eqv y (.str hd.word)) = hd.isRow := by
  cases hd with
  | atom w r => rcases hf.1 with rfl | rfl | rfl | rfl <;> simp only [Hd.word, Hd.isRow] <;> decide +kernel
  | row w ls t => rcases hf.1 with rfl | rfl | ⟨h, _⟩ <;> first | (simp only [Hd.word, Hd.isRow]; decide +kernel) | cases h
  | _ => simp only [Hd.word, Hd.isRow] <;> decide +kernel
/-- is it a row with a tail? tst: the words that are asked -/
theorem wp_tailed {b : Bool} {hd : Hd} {ps : List PyData} {n : Nat} {i : Nat} {tst : FT} {sl : Sl} {S : List MO} {QT : Bool → List MO → Prop} (hs : sl[i]?.join = some (.d (hd.build ps))) (hr : ∀ Q : Bool → List MO → Prop, Q hd.isRow S → Wp2 (tst sl S) Q)
    (q : ∀ c, c = hd.tail.isSome → QT c S) : Wp2 (tAn tst (tCmp gIsN (eOp gIx (eVar i) (eD (.int 2))) (eD .none)) sl S) QT := by
  refine wp_tan (hr _ ?_)
  cases hd with
  | row w ls t =>
    refine ite_t rfl ?_
    refine wp_tcmp (wp_op (wp_var hs ?_))
    unfold Hd.build
    simp only [Hd.word, Hd.rest]
    repeat walk_at "wk"
    cases t with
    | none =>
      unfold optI
      repeat walk_at "wk"
      exact q _ rfl
    | some r =>
      unfold optI
      repeat walk_at "wk"
      exact q _ rfl
  | _ =>
    refine ite_f rfl ?_
    exact q _ rfl
theorem take_snocU {α : Type} {l : List α} {i : Nat} {x : α} (h : l[i]? = some x) : l.take (i + 1) = l.take i ++ [x] := by rw [List.take_succ, h]; rfl
def pP (p : Bool × Int) : PyData := .tuple [.int p.2, .bool p.1]
def qP (p : Bool × Int) : PyData := .tuple [.int (if p.1 = true then 1 else 0), .int p.2]
theorem letter_parts3 {k : Int} {S : List MO} : f3_term_parts [.d (.tuple [.str "letter", .int k])] S = some (.d (.tuple []), S) := by
  refine eq_of ?_
  unfold f3_term_parts
  walk_at "fdef"
  repeat walk_at "wk"
  exact ⟨rfl, rfl⟩
theorem gather_letters3 {PL PR : Int → Prop} : ∀ (n : Nat) {b : Bool} {h : Nat} {t : Tm} {S : List MO} {i : Nat} {xs : List PyData}, TOk PL PR b h t → h < n → S[i]? = some (.lst xs) → xs.length + 6 ^ h ≤ 90000 →
    f3_gather_letters n [.d t.enc, .r i] S = some (.d .none, S.set i (.lst (xs ++ t.seen.map pP)))
  | 0, _, _, _, _, _, _, _, hn, _, _ => absurd hn (by omega)
  | n + 1, b, h, t, S, i, xs, o, hn, hi, hl => by
    refine eq_of ?_
    have hsl := o.seen_len
    unfold f3_gather_letters
    cases t with
    | letter k =>
      have h1 : 1 ≤ 6 ^ h := Nat.one_le_pow _ _ (by decide)
      rw [Tm.enc]
      walk_at "fdef"
      repeat walk_at "wk"
      refine wp_app (by omega) ?_
      repeat walk_at "wk"
      refine wp2_eq letter_parts3 ?_
      repeat walk_at "wk"
      refine wp_loop (n := 0) (fun j sl S' => sl = [some (.d (.tuple [.str "letter", .int k])), some (.r i), none] ∧ S' = S.set i (.lst (xs ++ [pP (false, k)]))) ⟨rfl, rfl⟩ (fun _ _ _ _ => rfl) (fun j w sl S' hw hi hp => ?_) (fun sl S' hp => ?_)
      · cases hw
      · obtain ⟨rfl, rfl⟩ := hp
        repeat walk_at "wk"
        exact ⟨rfl, rfl⟩
    | node hd ps =>
      obtain ⟨hf, ht, hp⟩ := o.top
      rw [Tm.enc_node]
      have htp : f3_term_parts [.d (hd.build (ps.map Tm.enc))] S = some (.d (.tuple (ps.map Tm.enc)), S) := term_partsA (b := b) (by rw [List.length_map]; exact hf)
      walk_at "fdef"
      repeat walk_at "w1"
      unfold Hd.build at htp ⊢
      repeat walk_at "w1"
      refine ite_f (word_letter hf) ?_
      repeat walk_at "wk"
      refine wp2_eq htp ?_
      repeat walk_at "wk"
      rw [Tm.seen_node] at hsl ⊢
      rw [List.length_append] at hsl
      refine wp_loop (n := 0) (fun j sl S' => ∃ x, sl = [some (.d (.tuple (.str hd.word :: hd.rest (ps.map Tm.enc)))), some (.r i), x] ∧ S' = S.set i (.lst (xs ++ ((ps.take j).flatMap Tm.seen).map pP))) ⟨none, rfl, by rw [List.take_zero, List.flatMap_nil, List.map_nil, List.append_nil, set_same hi]⟩ (fun _ _ _ _ => rfl) (fun j w sl S' hw hj hq => ?_) (fun sl S' hq => ?_)
      · obtain ⟨x, rfl, rfl⟩ := hq
        obtain ⟨d, hd2, rfl⟩ := ws_get hw
        rw [Nat.sub_zero, List.getElem?_map] at hd2
        obtain ⟨p, hpj, rfl⟩ := Option.map_eq_some_iff.mp hd2
        obtain ⟨h0, op⟩ := hp p (List.mem_of_getElem? hpj)
        repeat walk_at "wk"
        have hpow : 6 ^ h = 6 * 6 ^ (h - 1) := by rw [← Nat.pow_succ', Nat.succ_eq_add_one, Nat.sub_add_cancel h0]
        have hlen : ((ps.take j).flatMap Tm.seen).length ≤ 5 * 6 ^ (h - 1) := by
          refine Nat.le_trans (flat_len (n := 6 ^ (h - 1)) fun q hq => (hp q (List.mem_of_mem_take hq)).2.seen_len) (Nat.mul_le_mul_right _ ?_)
          have := Hd.fits_len hf
          rw [List.length_take]; omega
        refine wp2_eq (gather_letters3 n op (by omega) (get_set hi) (by rw [List.length_append, List.length_map]; omega)) ?_
        repeat walk_at "wk"
        refine ⟨_, rfl, ?_⟩
        rw [List.set_set, take_snocU hpj, List.flatMap_append, List.map_append, List.flatMap_cons, List.flatMap_nil, List.append_nil, List.append_assoc]
      · obtain ⟨x, rfl, rfl⟩ := hq
        rw [List.length_map, List.length_map, Nat.zero_add, List.take_length]
        repeat walk_at "w1"
        refine th_nx (wp_sif ?_)
        refine wp_tailed (b := b) (hd := hd) (ps := ps.map Tm.enc) (n := ps.length) rfl (fun Q q => ?_) fun c hc => ?_
        · repeat walk_at "wk"
          exact wp_gin_lit (word_in3 hf) q
        · subst hc
          cases hd with
          | row w ls t =>
            cases t with
            | none =>
              refine ite_f rfl ?_
              repeat walk_at "wk"
              refine ⟨rfl, ?_⟩
              rw [show (Hd.row w ls none).tls = [] from rfl, List.append_nil]
            | some r =>
              refine ite_t rfl ?_
              simp only [Hd.rest, optI]
              repeat walk_at "wk"
              refine wp_app (by rw [List.length_append, List.length_map]; omega) ?_
              repeat walk_at "wk"
              refine ⟨rfl, ?_⟩
              rw [show (Hd.row w ls (some r)).tls = [(true, r)] from rfl, List.map_append, List.append_assoc]
              rfl
          | _ =>
            refine ite_f rfl ?_
            repeat walk_at "wk"
            refine ⟨rfl, ?_⟩
            rw [show Hd.tls _ = [] from rfl, List.append_nil]
end EA
namespace EA
open PySem PySem.Spec PyProof.Rows L2
local macro_rules | `(tactic| walk_at "ix") => `(tactic| first | rfl | exact atI_cons0 | exact atI_map0)
local macro_rules | `(tactic| walk_at "st") => `(tactic| first | assumption | rfl | exact get_set (by assumption) | exact get_set (get_set (by assumption)) | exact get_last | exact get_setlast | exact get_setapp (by assumption) | exact get_app (by assumption) | exact get_app (get_set (by assumption)))
local macro_rules | `(tactic| walk_at "tk") => `(tactic| first | exact List.take_length | exact take_set | exact take_set2 | exact take_set3 | exact take_app | exact take_aset | exact take_setapp | rfl)
local macro_rules | `(tactic| walk_at "sd") => `(tactic| first | omega | assumption | decide)
local macro_rules | `(tactic| walk_at "wpx") => `(tactic| first
  | with_reducible refine ite2 (fun _ => ?_) (fun z => absurd rfl z)
  | with_reducible refine ite2 (fun z => absurd z Bool.false_ne_true) (fun _ => ?_)
  | ((with_reducible refine gate_wp ?_); (first
    | ((with_reducible apply wp_viewr); (walk_at "st")) | ((with_reducible apply wp_lat); (walk_at "st"))
    | ((with_reducible refine gate_eq ?_); (first | with_reducible refine wp_geqs ?_ | with_reducible refine wp_geqb ?_ | with_reducible refine wp_geq_nil ?_))
    | ((with_reducible refine gate_ne ?_); (first | with_reducible refine wp_gnes ?_ | with_reducible refine wp_gneb ?_ | with_reducible refine wp_gne_nil ?_))
    | ((with_reducible refine gate_ix ?_); (first | ((with_reducible apply wp_ixd); (walk_at "ix")) | ((with_reducible apply wp_ixt); (walk_at "ix")) | ((with_reducible apply wp_ixr); (walk_at "st"); (walk_at "ix"))))
    | ((with_reducible apply wp_trur); (walk_at "st"))
    | ((with_reducible refine wp_l4s ?_ ?_); (first | omega | assumption | decide +kernel)) | with_reducible refine wp_l4 ?_ | ((with_reducible apply wp_l3r); (walk_at "st"))
    | ((with_reducible refine wp_mod ?_ ?_); (walk_at "sd")) | ((with_reducible refine wp_fdiv ?_ ?_); (walk_at "sd")) | ((with_reducible refine wp_mulr ?_ ?_); (walk_at "sd")) | ((with_reducible refine wp_mull ?_ ?_); (walk_at "sd")) | ((with_reducible refine wp_pow ?_ ?_); (walk_at "sd"))
    | ((with_reducible apply wp_lenr); (walk_at "st"))
    | ((with_reducible refine wp_gis ?_ ?_); rfl) | ((with_reducible refine wp_gisn ?_ ?_); rfl)
    | ((with_reducible refine gate_isi ?_); (first | ((with_reducible refine isi_t (r := true) ?_ ?_); (decide +kernel)) | ((with_reducible refine isi_t (r := false) ?_ ?_); (decide +kernel)) | ((with_reducible refine isi_b (r := true) ?_ ?_); (decide +kernel)) | ((with_reducible refine isi_b (r := false) ?_ ?_); (decide +kernel)) | ((with_reducible refine isi_i (r := true) ?_ ?_); (decide +kernel)) | ((with_reducible refine isi_i (r := false) ?_ ?_); (decide +kernel)) | ((with_reducible refine isi_s (r := true) ?_ ?_); (decide +kernel)) | ((with_reducible refine isi_s (r := false) ?_ ?_); (decide +kernel)) | ((with_reducible refine isi_l (r := true) ?_ ?_); (decide +kernel)) | ((with_reducible refine isi_l (r := false) ?_ ?_); (decide +kernel)) | ((with_reducible refine isi_n (r := true) ?_ ?_); (decide +kernel)) | ((with_reducible refine isi_n (r := false) ?_ ?_); (decide +kernel))))
    | ((with_reducible apply wp_tupr); (walk_at "st"))))
  | ((with_reducible refine gate_rq ?_); (first | ((with_reducible apply rq_dt); (walk_at "tk")) | ((with_reducible apply rq_nxt); (walk_at "tk"))))
  | ((with_reducible apply fz_r); (walk_at "st")) | ((with_reducible apply sq_r); (walk_at "st"))
  | ((with_reducible apply atSet_i); (walk_at "st"); rfl) | ((with_reducible apply atLst_i); (walk_at "st")) | ((with_reducible apply nowLst_i); (walk_at "st"))
  | ((with_reducible refine rng1_i ?_ ?_); (walk_at "sd")) | ((with_reducible refine rng2_i ?_ ?_); (walk_at "sd")))
local macro_rules | `(tactic| walk_at "wp") => `(tactic| first
  | with_reducible refine step_of ?_ | ((with_reducible apply wp_var); rfl) | walk_at "wpx")
local macro_rules | `(tactic| walk_at "fdef") => `(tactic| (refine wp_fdef rfl ?_; simp only [List.map_cons, List.map_nil, List.replicate_succ, List.replicate_zero, List.cons_append, List.nil_append]))
local macro_rules | `(tactic| walk_at "keq") => `(tactic| first
  | refine wp_geqD (c := false) (.inr (by decide +kernel)) rfl ?_ | refine wp_geqD (c := true) (.inr (by decide +kernel)) rfl ?_)
local macro_rules | `(tactic| walk_at "wk") => `(tactic| first
  | with_reducible refine step_of ?_ | ((with_reducible apply wp_var); rfl)
  | ((with_reducible refine gate_wp ?_); (first
    | with_reducible refine wp_geqsD (c := false) (by decide +kernel) ?_ | with_reducible refine wp_geqsD (c := true) (by decide +kernel) ?_
    | with_reducible refine wp_gnesD (c := false) (by decide +kernel) ?_ | with_reducible refine wp_gnesD (c := true) (by decide +kernel) ?_
    | with_reducible refine wp_gin_lit (c := true) (by decide +kernel) ?_ | with_reducible refine wp_gin_lit (c := false) (by decide +kernel) ?_))
  | with_reducible refine ite_t rfl ?_ | with_reducible refine ite_f rfl ?_
  | walk_at "wpx")
local macro_rules | `(tactic| walk_at "w1") => `(tactic| (fail_if_success (with_reducible refine th_nx ?_)); walk_at "wk")
noncomputable def f3_letters_in : F3 := fdef false 1 3
  (sSeq (sSet 1 (eNo (nLst aNil)))
  (sSeq (sEx (eCall (f3_gather_letters 60) (aCons (eVar 0) (aCons (eVar 1) aNil))))
  (sRt (eB gTupOf (aCons (eNd (nB gLst4 (aCons (eDC [2, 3] (iSq (eVar 1)) (gTp (gsCons (gNm 2) (gsCons (gNm 3) gsNil))) tYes3 (eVar 2) (eD (.bool true))) aNil))) aNil)))))
noncomputable def f3_row_letters_in : F3 := fdef false 1 3
  (sSeq (sSet 1 (eNo (nLst aNil)))
  (sSeq (sEx (eCall (f3_gather_letters 60) (aCons (eVar 0) (aCons (eVar 1) aNil))))
  (sRt (eB gTupOf (aCons (eNd (nB gLst4 (aCons (eDC [2, 3] (iSq (eVar 1)) (gTp (gsCons (gNm 2) (gsCons (gNm 3) gsNil))) (tTr (eVar 3)) (eVar 2) (eD (.bool true))) aNil))) aNil)))))
noncomputable def f3_tonce : F3 := fdef false 1 2
  (sSeq (sSet 1 (eNo (nLst aNil)))
  (sSeq (sFor (iSq (eVar 0)) (gNm 2)
  (sIf (tCmp gNin (eVar 2) (eVar 1))
  (sEx (eM mApp (eVar 1) (aCons (eVar 2) aNil)))
  sNx))
  (sRt (eVar 1))))
noncomputable def f3_tseen : Nat → F3
  | 0 => fun _ _ => none
  | n + 1 => fdef false 1 2
      (sSeq (sIf (tCmp gEq (eOp gIx (eVar 0) (eD (.int (0)))) (eD (.str "letter")))
        (sRt (eNd (nLst (aCons (eTup (aCons (eD (.int (0))) (aCons (eOp gIx (eVar 0) (eD (.int (1)))) aNil))) aNil))))
        sNx)
        (sSeq (sSet 1 (eNo (nLst aNil)))
        (sSeq (sFor (iSq (eCall f3_tparts (aCons (eVar 0) aNil))) (gNm 2)
        (sSet 1 (eNo (nOp gCatL (eVar 1) (eCall (f3_tseen n) (aCons (eVar 2) aNil))))))
        (sSeq (sIf (tAn (tCmp gIn (eOp gIx (eVar 0) (eD (.int (0)))) (eTup (aCons (eD (.str "record")) (aCons (eD (.str "variant")) aNil)))) (tCmp gIsN (eOp gIx (eVar 0) (eD (.int (2)))) (eD .none)))
        (sEx (eM mApp (eVar 1) (aCons (eTup (aCons (eD (.int (1))) (aCons (eOp gIx (eVar 0) (eD (.int (2)))) aNil))) aNil)))
        sNx)
        (sRt (eVar 1))))))
theorem keys_once {acc : List (Key × PyData)} {ks : List Int} {k : Int} {v : PyData} (h : acc.map (·.1) = ks.map Sum.inl) : (putD acc (.inl k) v).map (·.1) = (once1 ks k).map Sum.inl := by
  unfold once1
  by_cases z : k ∈ ks
  · rw [if_pos z, putD_seen (by rw [h]; exact List.mem_map_of_mem z), h]
  · rw [if_neg z, putD_fresh (by
      rw [h]; intro hz
      obtain ⟨j, hj, e⟩ := List.mem_map.mp hz
      exact z (Sum.inl.inj e ▸ hj)), List.map_append, List.map_append, h]; rfl
theorem keyP_inl {acc : List (Key × PyData)} {ks : List Int} (h : acc.map (·.1) = ks.map Sum.inl) : (acc.map fun kv => keyP kv.1) = ks.map .int := by
  have : (acc.map fun kv => keyP kv.1) = (acc.map (·.1)).map keyP := by rw [List.map_map]; rfl
  rw [this, h, List.map_map]; rfl
def Tm.nums (t : Tm) : List Int := onceL (t.seen.map (·.2))
def Tm.rows (t : Tm) : List Int := onceL ((t.seen.filter (·.1)).map (·.2))
theorem letters_in3 {PL PR : Int → Prop} {b : Bool} {h : Nat} {t : Tm} {S : List MO} (o : TOk PL PR b h t) (h4 : h ≤ 5) : f3_letters_in [.d t.enc] S = some (.d (.tuple (t.nums.map .int)), S) := by
  refine eq_of ?_
  have hsl := o.seen_len
  have hp : 6 ^ h ≤ 6 ^ 5 := Nat.pow_le_pow_right (by decide) h4
  have hp5 : 6 ^ 5 = 7776 := by decide
  unfold f3_letters_in
  walk_at "fdef"
  repeat walk_at "wk"
  refine wp2_eq (gather_letters3 60 o (by omega) get_last (by rw [List.length_nil]; omega)) ?_
  rw [set_last, List.nil_append]
  repeat walk_at "wk"
  refine wp_dc ?_
  repeat walk_at "wk"
  refine ⟨by rw [List.length_map, List.length_map]; omega, ?_⟩
  refine wp_dloop (n := 0) (fun i acc S' => acc.map (·.1) = (onceL ((t.seen.take i).map (·.2))).map Sum.inl ∧ S' = S ++ [.lst (t.seen.map pP)]) ⟨rfl, rfl⟩ (fun i acc S' hq => ?_) (fun i w acc S' hw hi hq => ?_) (fun kvs S' hq => ?_)
  · obtain ⟨_, rfl⟩ := hq
    exact seqOk_r get_last
  · obtain ⟨h1, rfl⟩ := hq
    obtain ⟨d, hd2, rfl⟩ := ws_get hw
    rw [Nat.sub_zero, List.getElem?_map] at hd2
    obtain ⟨p, hpj, rfl⟩ := Option.map_eq_some_iff.mp hd2
    unfold pP
    repeat walk_at "wk"
    refine ⟨_, _, rfl, rfl, ?_⟩
    repeat walk_at "wk"
    refine ⟨_, rfl, ?_, rfl⟩
    rw [take_snocU hpj, List.map_append, List.map_singleton, onceL_snoc]
    exact keys_once h1
  · obtain ⟨h1, rfl⟩ := hq
    rw [List.length_map, List.length_map, Nat.zero_add, List.take_length] at h1
    repeat walk_at "wk"
    refine wp_l3d (by rw [show (S ++ [MO.lst (t.seen.map pP)]).length = (S ++ [MO.lst (t.seen.map pP)]).length from rfl]; exact get_last) ?_
    rw [keyP_inl h1]
    repeat walk_at "wk"
    exact ⟨rfl, by rw [List.append_assoc]; exact take_app⟩
theorem row_letters_in3 {PL PR : Int → Prop} {b : Bool} {h : Nat} {t : Tm} {S : List MO} (o : TOk PL PR b h t) (h4 : h ≤ 5) : f3_row_letters_in [.d t.enc] S = some (.d (.tuple (t.rows.map .int)), S) := by
  refine eq_of ?_
  have hsl := o.seen_len
  have hp : 6 ^ h ≤ 6 ^ 5 := Nat.pow_le_pow_right (by decide) h4
  have hp5 : 6 ^ 5 = 7776 := by decide
  unfold f3_row_letters_in
  walk_at "fdef"
  repeat walk_at "wk"
  refine wp2_eq (gather_letters3 60 o (by omega) get_last (by rw [List.length_nil]; omega)) ?_
  rw [set_last, List.nil_append]
  repeat walk_at "wk"
  refine wp_dc ?_
  repeat walk_at "wk"
  refine ⟨by rw [List.length_map, List.length_map]; omega, ?_⟩
  refine wp_dloop (n := 0) (fun i acc S' => acc.map (·.1) = (onceL (((t.seen.take i).filter (·.1)).map (·.2))).map Sum.inl ∧ S' = S ++ [.lst (t.seen.map pP)]) ⟨rfl, rfl⟩ (fun i acc S' hq => ?_) (fun i w acc S' hw hi hq => ?_) (fun kvs S' hq => ?_)
  · obtain ⟨_, rfl⟩ := hq
    exact seqOk_r get_last
  · obtain ⟨h1, rfl⟩ := hq
    obtain ⟨d, hd2, rfl⟩ := ws_get hw
    rw [Nat.sub_zero, List.getElem?_map] at hd2
    obtain ⟨⟨c, k⟩, hpj, rfl⟩ := Option.map_eq_some_iff.mp hd2
    unfold pP
    rw [take_snocU hpj, List.filter_append]
    cases c with
    | true =>
      repeat walk_at "wk"
      refine ⟨_, _, rfl, rfl, ?_⟩
      repeat walk_at "wk"
      refine ⟨_, rfl, ?_, rfl⟩
      rw [List.filter_cons_of_pos rfl, List.filter_nil, List.map_append, List.map_singleton, onceL_snoc]
      exact keys_once h1
    | false =>
      repeat walk_at "wk"
      refine ⟨?_, rfl⟩
      rw [List.filter_cons_of_neg (by exact Bool.false_ne_true), List.filter_nil, List.append_nil]
      exact h1
  · obtain ⟨h1, rfl⟩ := hq
    rw [List.length_map, List.length_map, Nat.zero_add, List.take_length] at h1
    repeat walk_at "wk"
    refine wp_l3d get_last ?_
    rw [keyP_inl h1]
    repeat walk_at "wk"
    exact ⟨rfl, by rw [List.append_assoc]; exact take_app⟩
/-! ### of the law -/
section
variable {α : Type} [DecidableEq α]
theorem anyEq_of {f : α → PyData} (he : ∀ a b, PyData.eqv (f a) (f b) = decide (a = b)) (x : α) : ∀ xs : List α, ((xs.map f).any fun y => PyData.eqv y (f x)) = decide (x ∈ xs)
  | [] => rfl
  | a :: r => by
    rw [List.map_cons, List.any_cons, he, anyEq_of he x r]
    by_cases h : a = x
    · subst h; rw [decide_eq_true rfl, decide_eq_true List.mem_cons_self]; rfl
    · rw [decide_eq_false h, Bool.false_or]
      by_cases z : x ∈ r
      · rw [decide_eq_true z, decide_eq_true (List.mem_cons_of_mem _ z)]
      · rw [decide_eq_false z, decide_eq_false fun w => (List.mem_cons.mp w).elim (fun e => h e.symm) z]
theorem tonce3 {f : α → PyData} (he : ∀ a b, PyData.eqv (f a) (f b) = decide (a = b)) (hd : ∀ a, (f a).depth ≤ 40) {xs : List α} (hl : xs.length ≤ 90000) {S : List MO} : f3_tonce [.d (.list (xs.map f))] S = some (.d (.list ((onceL xs).map f)), S) := by
  refine eq_of ?_
  unfold f3_tonce
  walk_at "fdef"
  repeat walk_at "wk"
  refine wp_loop (n := 0) (fun j sl S' => ∃ x, sl = [some (.d (.list (xs.map f))), some (.r S.length), x] ∧ S' = S ++ [.lst ((onceL (xs.take j)).map f)]) ⟨none, rfl, rfl⟩ (fun _ _ _ _ => rfl) (fun j w sl S' hw hj hq => ?_) (fun sl S' hq => ?_)
  · obtain ⟨x, rfl, rfl⟩ := hq
    obtain ⟨d, hd2, rfl⟩ := ws_get hw
    rw [Nat.sub_zero, List.getElem?_map] at hd2
    obtain ⟨a, hpj, rfl⟩ := Option.map_eq_some_iff.mp hd2
    have hl2 : (onceL (xs.take j)).length ≤ 90000 := Nat.le_trans (onceL_len _) (Nat.le_trans (by rw [List.length_take]; exact Nat.min_le_right _ _) hl)
    repeat walk_at "wk"
    refine wp_map.mpr (wp_eq (if_pos (.inr (hd a))) ?_)
    rw [anyEq_of he]
    rw [take_snocU hpj, onceL_snoc]
    unfold once1
    by_cases z : a ∈ onceL (xs.take j)
    · refine ite_f (by rw [decide_eq_true z]; rfl) ?_
      repeat walk_at "wk"
      exact ⟨_, rfl, by rw [if_pos z]⟩
    · refine ite_t (by rw [decide_eq_false z]; rfl) ?_
      repeat walk_at "wk"
      refine wp_app (by rw [List.length_map]; omega) ?_
      repeat walk_at "wk"
      refine ⟨_, rfl, ?_⟩
      rw [set_last, if_neg z, List.map_append]; rfl
  · obtain ⟨x, rfl, rfl⟩ := hq
    rw [List.length_map, List.length_map, Nat.zero_add, List.take_length]
    repeat walk_at "wk"
    exact rq_dat (Nat.le_refl _) get_last take_app ⟨rfl, rfl⟩
end
theorem eqv_qP (a b : Bool × Int) : PyData.eqv (qP a) (qP b) = decide (a = b) := by
  obtain ⟨a1, a2⟩ := a
  obtain ⟨b1, b2⟩ := b
  show (((if a1 = true then (1 : Int) else 0) == (if b1 = true then 1 else 0)) && ((a2 == b2) && true)) = _
  rw [Bool.eq_iff_iff]
  cases a1 <;> cases b1 <;> simp
theorem depth_qP (a : Bool × Int) : (qP a).depth ≤ 40 := by
  unfold qP
  simp [PyData.depth, PyData.depthAll]
theorem eqv_str (a b : Str) : PyData.eqv (.str a) (.str b) = decide (a = b) := by
  show (a == b) = _
  rw [Bool.eq_iff_iff, beq_iff_eq, decide_eq_true_iff]
theorem cut3 {S L : List MO} : (S ++ L).take S.length = S := by rw [List.take_append_of_le_length (Nat.le_refl _), List.take_length]
theorem tseen3 {PL PR : Int → Prop} : ∀ (n : Nat) {h : Nat} {t : Tm} {S : List MO}, TOk PL PR false h t → h < n → h ≤ 5 → f3_tseen n [.d t.enc] S = some (.d (.list (t.seen.map qP)), S)
  | 0, _, _, _, _, hn, _ => absurd hn (by omega)
  | n + 1, h, t, S, o, hn, h5 => by
    refine eq_of ?_
    have hsl := o.seen_len
    have hp6 : 6 ^ h ≤ 6 ^ 5 := Nat.pow_le_pow_right (by decide) h5
    have hp5 : 6 ^ 5 = 7776 := by decide
    unfold f3_tseen
    cases t with
    | letter k =>
      rw [Tm.enc]
      walk_at "fdef"
      repeat walk_at "wk"
      exact ⟨rfl, rfl⟩
    | node hd ps =>
      obtain ⟨hf, ht, hp⟩ := o.top
      rw [Tm.enc_node]
      have htp : ∀ S, f3_tparts [.d (hd.build (ps.map Tm.enc))] S = some (.d (.list (ps.map Tm.enc)), S) := fun S => tparts3 (by rw [List.length_map]; exact hf)
      walk_at "fdef"
      repeat walk_at "w1"
      unfold Hd.build at htp ⊢
      repeat walk_at "w1"
      refine ite_f (word_letter hf) ?_
      repeat walk_at "wk"
      refine wp2_eq (htp _) ?_
      repeat walk_at "wk"
      rw [Tm.seen_node] at hsl ⊢
      rw [List.length_append] at hsl
      refine wp_loop (n := 0) (fun j sl S' => ∃ x L, sl = [some (.d (.tuple (.str hd.word :: hd.rest (ps.map Tm.enc)))), some (.r (S ++ L).length), x] ∧ S' = S ++ L ++ [.lst (((ps.take j).flatMap Tm.seen).map qP)]) ⟨none, [], by rw [List.append_nil]; rfl, by rw [List.append_nil]; rfl⟩ (fun _ _ _ _ => rfl) (fun j w sl S' hw hj hq => ?_) (fun sl S' hq => ?_)
      · obtain ⟨x, L, rfl, rfl⟩ := hq
        obtain ⟨d, hd2, rfl⟩ := ws_get hw
        rw [Nat.sub_zero, List.getElem?_map] at hd2
        obtain ⟨p, hpj, rfl⟩ := Option.map_eq_some_iff.mp hd2
        obtain ⟨h0, op⟩ := hp p (List.mem_of_getElem? hpj)
        have hlen : ((ps.take j).flatMap Tm.seen).length ≤ 5 * 6 ^ (h - 1) := by
          refine Nat.le_trans (flat_len (n := 6 ^ (h - 1)) fun q hq => (hp q (List.mem_of_mem_take hq)).2.seen_len) (Nat.mul_le_mul_right _ ?_)
          have := Hd.fits_len hf
          rw [List.length_take]; omega
        have hps := op.seen_len
        have hp7 : 6 ^ (h - 1) ≤ 6 ^ 5 := Nat.pow_le_pow_right (by decide) (by omega)
        repeat walk_at "wk"
        refine wp2_eq (tseen3 n op (by omega) (by omega)) ?_
        repeat walk_at "wk"
        refine wp_cat (xs := ((ps.take j).flatMap Tm.seen).map qP) (ys := p.seen.map qP) (by unfold viewL; dsimp only; rw [get_last]) rfl (by rw [List.length_map, List.length_map]; omega) ?_
        repeat walk_at "wk"
        refine ⟨some (.d p.enc), L ++ [.lst (((ps.take j).flatMap Tm.seen).map qP)], ?_, ?_⟩
        · rw [← List.append_assoc S L]; rfl
        · rw [← List.append_assoc S L, take_snocU hpj, List.flatMap_append, List.map_append, List.flatMap_cons, List.flatMap_nil, List.append_nil]
      · obtain ⟨x, L, rfl, rfl⟩ := hq
        rw [List.length_map, List.length_map, Nat.zero_add, List.take_length]
        haveI : CutR S (S ++ L) := CutR.of_take cut3
        have cut4 : ∀ o : MO, (S ++ L ++ [o]).take S.length = S := fun o => by rw [List.append_assoc]; exact cut3
        repeat walk_at "w1"
        refine th_nx (wp_seq (wp_sif ?_))
        refine wp_tailed (b := false) (hd := hd) (ps := ps.map Tm.enc) (n := ps.length) rfl (fun Q q => ?_) fun c hc => ?_
        · repeat walk_at "wk"
          exact wp_gin_lit (word_in2 hf) q
        · subst hc
          have fin : ∀ ds, retQ false S (fun a c => a = .d (.list ds) ∧ c = S) (.rt (.r (S ++ L).length) (S ++ L ++ [.lst ds])) := fun ds => rq_dat (S0 := S) (by rw [List.length_append]; omega) get_last (cut4 _) ⟨rfl, rfl⟩
          cases hd with
          | row w ls t =>
            cases t with
            | none =>
              refine ite_f rfl ?_
              repeat walk_at "wk"
              rw [show (Hd.row w ls none).tls = [] from rfl, List.append_nil]
              exact fin _
            | some r =>
              refine ite_t rfl ?_
              simp only [Hd.rest, optI]
              repeat walk_at "wk"
              refine wp_app (by rw [List.length_map]; omega) ?_
              repeat walk_at "wk"
              rw [show (Hd.row w ls (some r)).tls = [(true, r)] from rfl, List.map_append, set_last]
              exact fin _
          | _ =>
            refine ite_f rfl ?_
            repeat walk_at "wk"
            rw [show Hd.tls _ = [] from rfl, List.append_nil]
            exact fin _
end EA
namespace EA
open PySem PySem.Spec PyProof.Rows L2
local macro_rules | `(tactic| walk_at "ix") => `(tactic| first | rfl | exact atI_cons0 | exact atI_map0)
local macro_rules | `(tactic| walk_at "st") => `(tactic| first | assumption | rfl | exact get_set (by assumption) | exact get_set (get_set (by assumption)) | exact get_last | exact get_setlast | exact get_setapp (by assumption) | exact get_app (by assumption) | exact get_app (get_set (by assumption)))
local macro_rules | `(tactic| walk_at "tk") => `(tactic| first | exact List.take_length | exact take_set | exact take_set2 | exact take_set3 | exact take_app | exact take_aset | exact take_setapp | rfl)
local macro_rules | `(tactic| walk_at "sd") => `(tactic| first | omega | assumption | decide)
local macro_rules | `(tactic| walk_at "wpx") => `(tactic| first
  | with_reducible refine ite2 (fun _ => ?_) (fun z => absurd rfl z)
  | with_reducible refine ite2 (fun z => absurd z Bool.false_ne_true) (fun _ => ?_)
  | ((with_reducible refine gate_wp ?_); (first
    | ((with_reducible apply wp_viewr); (walk_at "st")) | ((with_reducible apply wp_lat); (walk_at "st"))
    | ((with_reducible refine gate_eq ?_); (first | with_reducible refine wp_geqs ?_ | with_reducible refine wp_geqb ?_ | with_reducible refine wp_geq_nil ?_))
    | ((with_reducible refine gate_ne ?_); (first | with_reducible refine wp_gnes ?_ | with_reducible refine wp_gneb ?_ | with_reducible refine wp_gne_nil ?_))
    | ((with_reducible refine gate_ix ?_); (first | ((with_reducible apply wp_ixd); (walk_at "ix")) | ((with_reducible apply wp_ixt); (walk_at "ix")) | ((with_reducible apply wp_ixr); (walk_at "st"); (walk_at "ix"))))
    | ((with_reducible apply wp_trur); (walk_at "st"))
    | ((with_reducible refine wp_l4s ?_ ?_); (first | omega | assumption | decide +kernel)) | with_reducible refine wp_l4 ?_ | ((with_reducible apply wp_l3r); (walk_at "st"))
    | ((with_reducible refine wp_mod ?_ ?_); (walk_at "sd")) | ((with_reducible refine wp_fdiv ?_ ?_); (walk_at "sd")) | ((with_reducible refine wp_mulr ?_ ?_); (walk_at "sd")) | ((with_reducible refine wp_mull ?_ ?_); (walk_at "sd")) | ((with_reducible refine wp_pow ?_ ?_); (walk_at "sd"))
    | ((with_reducible apply wp_lenr); (walk_at "st"))
    | ((with_reducible refine wp_gis ?_ ?_); rfl) | ((with_reducible refine wp_gisn ?_ ?_); rfl)
    | ((with_reducible refine gate_isi ?_); (first | ((with_reducible refine isi_t (r := true) ?_ ?_); (decide +kernel)) | ((with_reducible refine isi_t (r := false) ?_ ?_); (decide +kernel)) | ((with_reducible refine isi_b (r := true) ?_ ?_); (decide +kernel)) | ((with_reducible refine isi_b (r := false) ?_ ?_); (decide +kernel)) | ((with_reducible refine isi_i (r := true) ?_ ?_); (decide +kernel)) | ((with_reducible refine isi_i (r := false) ?_ ?_); (decide +kernel)) | ((with_reducible refine isi_s (r := true) ?_ ?_); (decide +kernel)) | ((with_reducible refine isi_s (r := false) ?_ ?_); (decide +kernel)) | ((with_reducible refine isi_l (r := true) ?_ ?_); (decide +kernel)) | ((with_reducible refine isi_l (r := false) ?_ ?_); (decide +kernel)) | ((with_reducible refine isi_n (r := true) ?_ ?_); (decide +kernel)) | ((with_reducible refine isi_n (r := false) ?_ ?_); (decide +kernel))))
    | ((with_reducible apply wp_tupr); (walk_at "st"))))
  | ((with_reducible refine gate_rq ?_); (first | ((with_reducible apply rq_dt); (walk_at "tk")) | ((with_reducible apply rq_nxt); (walk_at "tk"))))
  | ((with_reducible apply fz_r); (walk_at "st")) | ((with_reducible apply sq_r); (walk_at "st"))
  | ((with_reducible apply atSet_i); (walk_at "st"); rfl) | ((with_reducible apply atLst_i); (walk_at "st")) | ((with_reducible apply nowLst_i); (walk_at "st"))
  | ((with_reducible refine rng1_i ?_ ?_); (walk_at "sd")) | ((with_reducible refine rng2_i ?_ ?_); (walk_at "sd")))
local macro_rules | `(tactic| walk_at "wp") => `(tactic| first
  | with_reducible refine step_of ?_ | ((with_reducible apply wp_var); rfl) | walk_at "wpx")
local macro_rules | `(tactic| walk_at "fdef") => `(tactic| (refine wp_fdef rfl ?_; simp only [List.map_cons, List.map_nil, List.replicate_succ, List.replicate_zero, List.cons_append, List.nil_append]))
local macro_rules | `(tactic| walk_at "keq") => `(tactic| first
  | refine wp_geqD (c := false) (.inr (by decide +kernel)) rfl ?_ | refine wp_geqD (c := true) (.inr (by decide +kernel)) rfl ?_)
local macro_rules | `(tactic| walk_at "wk") => `(tactic| first
  | with_reducible refine step_of ?_ | ((with_reducible apply wp_var); rfl)
  | ((with_reducible refine gate_wp ?_); (first
    | with_reducible refine wp_geqsD (c := false) (by decide +kernel) ?_ | with_reducible refine wp_geqsD (c := true) (by decide +kernel) ?_
    | with_reducible refine wp_gnesD (c := false) (by decide +kernel) ?_ | with_reducible refine wp_gnesD (c := true) (by decide +kernel) ?_
    | with_reducible refine wp_gin_lit (c := true) (by decide +kernel) ?_ | with_reducible refine wp_gin_lit (c := false) (by decide +kernel) ?_))
  | with_reducible refine ite_t rfl ?_ | with_reducible refine ite_f rfl ?_
  | walk_at "wpx")
local macro_rules | `(tactic| walk_at "w1") => `(tactic| (fail_if_success (with_reducible refine th_nx ?_)); walk_at "wk")
noncomputable def f3_gather_beside : Nat → F3
  | 0 => fun _ _ => none
  | n + 1 => fdefK 2 4
      (sSeq (sFor (iSq (eCall f3_term_parts (aCons (eVar 0) aNil))) (gNm 2)
        (sEx (eCall (f3_gather_beside n) (aCons (eVar 2) (aCons (eVar 1) aNil)))))
        (sIf (tAn (tCmp gIn (eOp gIx (eVar 0) (eD (.int (0)))) (eD (.tuple [.str "record", .str "variant", .str "row"]))) (tCmp gIsN (eOp gIx (eVar 0) (eD (.int (2)))) (eD .none)))
        (sSeq (sSet 3 (eNSdL (eVar 1) (eOp gIx (eVar 0) (eD (.int (2))))))
        (sEx (eM mExtL (eVar 3) (aCons (eNd (nLc [4, 5] (iSq (eOp gIx (eVar 0) (eD (.int (1))))) (gTp (gsCons (gNm 4) (gsCons (gNm 5) gsNil))) tYes3 (eVar 4))) aNil))))
        sNx))
/-! ### the labels beside row letters -/
def Hd.bl (r : Int) (hd : Hd) : List Str := if hd.tail = some r then hd.labels else []
mutual
def Tm.bes (r : Int) : Tm → List Str
  | .letter _ => []
  | .node hd ps => hd.bl r ++ besM r ps
def besM (r : Int) : List Tm → List Str
  | [] => []
  | p :: ps => p.bes r ++ besM r ps
end
theorem besM_map (r : Int) : ∀ ps : List Tm, besM r ps = ps.flatMap (Tm.bes r)
  | [] => rfl
  | p :: ps => by rw [besM, besM_map r ps]; rfl
theorem Tm.bes_node {r : Int} {hd : Hd} {ps : List Tm} : (Tm.node hd ps).bes r = hd.bl r ++ ps.flatMap (Tm.bes r) := by rw [Tm.bes, besM_map]
theorem Hd.bl_len {b : Bool} {r : Int} {hd : Hd} {n : Nat} (h : hd.fits b n) : (hd.bl r).length ≤ 5 := by
  unfold Hd.bl
  split
  · cases hd with
    | row w ls t => have h1 := h.2.1; have h2 := h.2.2; show ls.length ≤ 5; omega
    | _ => exact Nat.zero_le _
  · exact Nat.zero_le _
theorem TOk.bes_len {PL PR : Int → Prop} {b : Bool} {h : Nat} {t : Tm} {r : Int} (o : TOk PL PR b h t) : (t.bes r).length + 2 ≤ 2 * 5 ^ h := by
  induction o with
  | letter => have := Nat.one_le_pow ‹Nat› 5 (by decide); show 0 + 2 ≤ _; omega
  | @leaf b h hd f g =>
    have := Nat.one_le_pow h 5 (by decide)
    rw [Tm.bes_node, List.flatMap_nil, List.append_nil]
    unfold Hd.bl
    rw [g, if_neg (by intro z; cases z), List.length_nil]
    omega
  | @node b h hd ps f _ _ ih =>
    rw [Tm.bes_node, List.length_append]
    have h1 := flat_len (n := 2 * 5 ^ h - 2) (f := Tm.bes r) fun p hp => by have := ih p hp; omega
    have h2 := Hd.bl_len (r := r) f
    have h3 := Hd.fits_len f
    have h4 : ps.length * (2 * 5 ^ h - 2) ≤ 5 * (2 * 5 ^ h - 2) := Nat.mul_le_mul_right _ h3
    have h5 := Nat.one_le_pow h 5 (by decide)
    rw [Nat.pow_succ]
    omega
abbrev BM := List (Int × List Str)
def kvB : Nat → BM → List (Key × W3)
  | _, [] => []
  | b, (r, _) :: m => (.inl r, .r b) :: kvB (b + 1) m
def lkB : BM → Int → List Str
  | [], _ => []
  | (q, l) :: m, r => if q = r then l else lkB m r
def addB : BM → Int → List Str → BM
  | [], r, ls => [(r, ls)]
  | (q, l) :: m, r, ls => if q = r then (q, l ++ ls) :: m else (q, l) :: addB m r ls
def Bd (S0 : List MO) (m : BM) : List MO := S0 ++ .ndc (kvB (S0.length + 1) m) :: m.map fun p => .lst (p.2.map .str)
theorem kvB_len : ∀ {m : BM} {b : Nat}, (kvB b m).length = m.length
  | [], _ => rfl
  | _ :: m, b => by rw [kvB, List.length_cons, kvB_len, List.length_cons]
theorem kvB_keys : ∀ {m : BM} {b : Nat}, (kvB b m).map (·.1) = m.map fun p => Sum.inl p.1
  | [], _ => rfl
  | (r, l) :: m, b => by rw [kvB, List.map_cons, kvB_keys]; rfl
theorem kvB_snoc {r : Int} {l : List Str} : ∀ {m : BM} {b : Nat}, kvB b (m ++ [(r, l)]) = kvB b m ++ [(.inl r, .r (b + m.length))]
  | [], b => rfl
  | (q, k) :: m, b => by rw [List.cons_append, kvB, kvB, kvB_snoc, List.cons_append, List.length_cons, show b + 1 + m.length = b + (m.length + 1) by omega]
theorem lk_add {r r' : Int} {ls : List Str} : ∀ {m : BM}, lkB (addB m r ls) r' = if r = r' then lkB m r' ++ ls else lkB m r'
  | [] => by rw [addB, lkB, lkB]; rfl
  | (q, l) :: m => by
    rw [addB]
    by_cases h : q = r
    · rw [if_pos h, lkB, lkB]
      subst h
      by_cases k : q = r'
      · rw [if_pos k, if_pos k, if_pos k]
      · rw [if_neg k, if_neg k, if_neg k]
    · rw [if_neg h, lkB, lkB]
      by_cases k : q = r'
      · rw [if_pos k, if_pos k, if_neg fun z => h (k.trans z.symm)]
      · rw [if_neg k, if_neg k, lk_add]
theorem keys_add {r x : Int} {ls : List Str} : ∀ {m : BM}, x ∈ (addB m r ls).map (·.1) ↔ x ∈ m.map (·.1) ∨ x = r
  | [] => by rw [addB]; simp
  | (q, l) :: m => by
    rw [addB]
    by_cases h : q = r
    · rw [if_pos h]
      simp only [List.map_cons, List.mem_cons]
      subst h
      exact ⟨.inl, fun z => z.elim id .inl⟩
    · rw [if_neg h]
      simp only [List.map_cons, List.mem_cons]
      rw [keys_add, or_assoc]
theorem add_len {r : Int} {ls : List Str} : ∀ {m : BM}, (addB m r ls).length ≤ m.length + 1
  | [] => Nat.le_refl _
  | (q, l) :: m => by
    rw [addB]
    split
    · rw [List.length_cons, List.length_cons]; omega
    · rw [List.length_cons, List.length_cons]; have := @add_len r ls m; omega
/-- the key is there -/
theorem add_old {r : Int} {ls : List Str} : ∀ {m : BM} {b : Nat}, r ∈ m.map (·.1) → ∃ j, valW (kvB b m) (.inl r) = some (.r (b + j)) ∧ m[j]? = some (r, lkB m r) ∧ addB m r ls = m.set j (r, lkB m r ++ ls) ∧ kvB b (addB m r ls) = kvB b m
  | [], _, h => by cases h
  | (q, l) :: m, b, h => by
    by_cases k : q = r
    · subst k
      refine ⟨0, ?_, ?_, ?_, ?_⟩
      · rw [kvB, vw_cons, if_pos rfl]; rfl
      · rw [lkB, if_pos rfl]; rfl
      · rw [addB, if_pos rfl, lkB, if_pos rfl]; rfl
      · rw [addB, if_pos rfl, kvB, kvB]
    · have h2 : r ∈ m.map (·.1) := by
        rw [List.map_cons, List.mem_cons] at h
        exact h.resolve_left fun z => k z.symm
      obtain ⟨j, h3, h4, h5, h6⟩ := add_old (ls := ls) (b := b + 1) h2
      refine ⟨j + 1, ?_, ?_, ?_, ?_⟩
      · rw [kvB, vw_cons, if_neg fun z => k (Sum.inl.inj z), h3, show b + 1 + j = b + (j + 1) by omega]
      · rw [lkB, if_neg k]; exact h4
      · rw [addB, if_neg k, lkB, if_neg k, h5]; rfl
      · rw [addB, if_neg k, kvB, kvB, h6]
theorem add_new {r : Int} {ls : List Str} : ∀ {m : BM}, r ∉ m.map (·.1) → addB m r ls = m ++ [(r, ls)]
  | [], _ => rfl
  | (q, l) :: m, h => by
    rw [List.map_cons, List.mem_cons, not_or] at h
    rw [addB, if_neg fun z => h.1 z.symm, add_new h.2]; rfl
theorem vw_none {k : Key} : ∀ {l : List (Key × W3)}, k ∉ l.map (·.1) → valW l k = none
  | [], _ => rfl
  | q :: l, h => by
    rw [List.map_cons, List.mem_cons, not_or] at h
    rw [vw_cons, if_neg fun z => h.1 z.symm, vw_none h.2]
section
variable {S0 : List MO} {m : BM}
theorem bd_ndc : (Bd S0 m)[S0.length]? = some (.ndc (kvB (S0.length + 1) m)) := by
  unfold Bd
  rw [List.getElem?_append_right (Nat.le_refl _), Nat.sub_self]; rfl
theorem bd_at {j : Nat} {r : Int} {l : List Str} (h : m[j]? = some (r, l)) : (Bd S0 m)[S0.length + 1 + j]? = some (.lst (l.map .str)) := by
  unfold Bd
  rw [List.getElem?_append_right (by omega), show S0.length + 1 + j - S0.length = j + 1 by omega, List.getElem?_cons_succ, List.getElem?_map, h]; rfl
theorem bd_len : (Bd S0 m).length = S0.length + 1 + m.length := by
  unfold Bd
  rw [List.length_append, List.length_cons, List.length_map]; omega
theorem bd_set {j : Nat} {r : Int} {l : List Str} (hk : kvB (S0.length + 1) (m.set j (r, l)) = kvB (S0.length + 1) m) : (Bd S0 m).set (S0.length + 1 + j) (.lst (l.map .str)) = Bd S0 (m.set j (r, l)) := by
  unfold Bd
  rw [hk, List.set_append_right _ _ (by omega), show S0.length + 1 + j - S0.length = j + 1 by omega, List.set_cons_succ, List.map_set]
theorem bd_new {r : Int} : setAt (Bd S0 m ++ [.lst []]) (.r S0.length) (.ndc (kvB (S0.length + 1) (m ++ [(r, [])]))) = Bd S0 (m ++ [(r, [])]) := by
  rw [r_setAt]
  unfold Bd
  rw [List.append_assoc, List.set_append_right _ _ (Nat.le_refl _), Nat.sub_self, List.map_append]
  rfl
theorem bd_setl {r : Int} {ls : List Str} : (Bd S0 (m ++ [(r, [])])).set (Bd S0 m).length (.lst (ls.map .str)) = Bd S0 (m ++ [(r, ls)]) := by
  have e : (m ++ [(r, [])]).set m.length (r, ls) = m ++ [(r, ls)] := by rw [List.set_append_right _ _ (Nat.le_refl _), Nat.sub_self]; rfl
  rw [bd_len, bd_set (r := r) (by rw [e, kvB_snoc, kvB_snoc]), e]
end
/-- what a walk does to what is told -/
structure BesQ (sn : List (Bool × Int)) (bs : Int → List Str) (m m' : BM) : Prop where
  keys : ∀ r, r ∈ m'.map (·.1) ↔ r ∈ m.map (·.1) ∨ (true, r) ∈ sn
  mem : ∀ r s, s ∈ lkB m' r ↔ s ∈ lkB m r ∨ s ∈ bs r
  len : ∀ r, (lkB m' r).length = (lkB m r).length + (bs r).length
  num : m'.length ≤ m.length + sn.length
theorem BesQ.nil {m : BM} : BesQ [] (fun _ => []) m m := ⟨fun r => by simp, fun r s => by simp, fun r => rfl, Nat.le_refl _⟩
theorem BesQ.trans {s1 s2 : List (Bool × Int)} {b1 b2 : Int → List Str} {m m1 m2 : BM} (h : BesQ s1 b1 m m1) (k : BesQ s2 b2 m1 m2) : BesQ (s1 ++ s2) (fun r => b1 r ++ b2 r) m m2 :=
  ⟨fun r => by rw [k.keys, h.keys, List.mem_append, or_assoc], fun r s => by rw [k.mem, h.mem, List.mem_append, or_assoc], fun r => by rw [k.len, h.len, List.length_append]; omega, by have := h.num; have := k.num; rw [List.length_append]; omega⟩
theorem flat_take_le {α β : Type} {f : α → List β} {ps : List α} (j : Nat) : ((ps.take j).flatMap f).length ≤ (ps.flatMap f).length := by
  conv => rhs; rw [← List.take_append_drop j ps, List.flatMap_append, List.length_append]
  omega
theorem gather_beside3 {PL PR : Int → Prop} : ∀ (n : Nat) {b : Bool} {h : Nat} {t : Tm} {S0 : List MO} {m : BM}, TOk PL PR b h t → h < n → (∀ r, (lkB m r).length + (t.bes r).length ≤ 50000) → m.length + t.seen.length ≤ 50000 →
    ∃ m', BesQ t.seen (fun r => t.bes r) m m' ∧ f3_gather_beside n [.d t.enc, .r S0.length] (Bd S0 m) = some (.d .none, Bd S0 m')
  | 0, _, _, _, _, _, _, hn, _, _ => absurd hn (by omega)
  | n + 1, b, h, t, S0, m, o, hn, hb, hl => by
    suffices main : Wp2 (f3_gather_beside (n + 1) [.d t.enc, .r S0.length] (Bd S0 m)) fun a c => a = .d .none ∧ ∃ m', BesQ t.seen (fun r => t.bes r) m m' ∧ c = Bd S0 m' by
      obtain ⟨⟨a, c⟩, e, e1, m', e2, e3⟩ := main
      dsimp only at e1 e3
      subst e1 e3
      exact ⟨m', e2, e⟩
    unfold f3_gather_beside
    cases t with
    | letter k =>
      rw [Tm.enc]
      refine wp_fdefK rfl ?_
      simp only [List.map_cons, List.map_nil, List.replicate_succ, List.replicate_zero, List.cons_append, List.nil_append]
      repeat walk_at "wk"
      refine wp2_eq letter_parts3 ?_
      repeat walk_at "wk"
      refine wp_loop (n := 0) (fun j sl S' => sl = [some (.d (.tuple [.str "letter", .int k])), some (.r S0.length), none, none, none, none] ∧ S' = Bd S0 m) ⟨rfl, rfl⟩ (fun _ _ _ _ => rfl) (fun j w sl S' hw hi hp => ?_) (fun sl S' hp => ?_)
      · cases hw
      · obtain ⟨rfl, rfl⟩ := hp
        repeat walk_at "wk"
        exact ⟨rfl, m, ⟨fun r => by rw [Tm.seen]; simp, fun r s => by rw [Tm.bes]; simp, fun r => by rw [Tm.bes]; rfl, Nat.le_add_right _ _⟩, rfl⟩
    | node hd ps =>
      obtain ⟨hf, ht, hp⟩ := o.top
      rw [Tm.enc_node]
      have htp : ∀ S, f3_term_parts [.d (hd.build (ps.map Tm.enc))] S = some (.d (.tuple (ps.map Tm.enc)), S) := fun S => term_partsA (b := b) (by rw [List.length_map]; exact hf)
      refine wp_fdefK rfl ?_
      simp only [List.map_cons, List.map_nil, List.replicate_succ, List.replicate_zero, List.cons_append, List.nil_append]
      repeat walk_at "w1"
      refine wp2_eq (htp _) ?_
      repeat walk_at "wk"
      simp only [Tm.seen_node, Tm.bes_node] at hb hl ⊢
      simp only [List.length_append] at hb hl
      refine wp_loop (n := 0) (fun j sl S' => ∃ x mj, sl = [some (.d (hd.build (ps.map Tm.enc))), some (.r S0.length), x, none, none, none] ∧ BesQ ((ps.take j).flatMap Tm.seen) (fun r => (ps.take j).flatMap (Tm.bes r)) m mj ∧ S' = Bd S0 mj) ⟨none, m, rfl, .nil, rfl⟩ (fun _ _ _ _ => rfl) (fun j w sl S' hw hj hq => ?_) (fun sl S' hq => ?_)
      · obtain ⟨x, mj, rfl, hm, rfl⟩ := hq
        obtain ⟨d, hd2, rfl⟩ := ws_get hw
        rw [Nat.sub_zero, List.getElem?_map] at hd2
        obtain ⟨p, hpj, rfl⟩ := Option.map_eq_some_iff.mp hd2
        obtain ⟨h0, op⟩ := hp p (List.mem_of_getElem? hpj)
        have tk : ∀ {β : Type} (f : Tm → List β), (ps.take (j + 1)).flatMap f = (ps.take j).flatMap f ++ f p := fun f => by rw [take_snocU hpj, List.flatMap_append, List.flatMap_cons, List.flatMap_nil, List.append_nil]
        obtain ⟨m2, hm2, e2⟩ := gather_beside3 n (S0 := S0) (m := mj) op (by omega) (fun r => by
          have h1 := hm.len r
          have h2 := flat_take_le (f := Tm.bes r) (ps := ps) (j + 1)
          rw [tk, List.length_append] at h2
          have := hb r
          omega) (by
          have h1 := hm.num
          have h2 := flat_take_le (f := Tm.seen) (ps := ps) (j + 1)
          rw [tk, List.length_append] at h2
          omega)
        repeat walk_at "wk"
        refine wp2_eq e2 ?_
        repeat walk_at "wk"
        refine ⟨_, m2, rfl, ?_, rfl⟩
        simp only [tk]
        exact hm.trans hm2
      · obtain ⟨x, mj, rfl, hm, rfl⟩ := hq
        rw [List.length_map, List.length_map, Nat.zero_add] at hm
        simp only [List.take_length] at hm
        repeat walk_at "w1"
        refine th_nx (wp_sif ?_)
        refine wp_tailed (b := b) (hd := hd) (ps := ps.map Tm.enc) (n := ps.length) rfl (fun Q q => ?_) fun c hc => ?_
        · unfold Hd.build
          repeat walk_at "wk"
          exact wp_gin_lit (word_in3 hf) q
        · subst hc
          have fin0 : hd.tail = none → BesQ (ps.flatMap Tm.seen ++ hd.tls) (fun r => hd.bl r ++ ps.flatMap (Tm.bes r)) m mj := fun z => by
            have e1 : hd.tls = [] := by unfold Hd.tls; rw [z]
            have e2 : ∀ r, hd.bl r = [] := fun r => by unfold Hd.bl; rw [z]; rfl
            simp only [e1, e2, List.append_nil, List.nil_append]
            exact hm
          cases hd with
          | row w ls t =>
            cases t with
            | none =>
              refine ite_f rfl ?_
              repeat walk_at "wk"
              exact ⟨rfl, mj, fin0 rfl, rfl⟩
            | some r =>
              have fin1 : BesQ (ps.flatMap Tm.seen ++ (Hd.row w ls (some r)).tls) (fun x => (Hd.row w ls (some r)).bl x ++ ps.flatMap (Tm.bes x)) m (addB mj r ls) := by
                have e1 : (Hd.row w ls (some r)).tls = [(true, r)] := rfl
                have e2 : ∀ x, (Hd.row w ls (some r)).bl x = if r = x then ls else [] := fun x => by
                  unfold Hd.bl
                  by_cases z : r = x
                  · rw [if_pos z, if_pos (by rw [z]; rfl)]; rfl
                  · rw [if_neg z, if_neg (show ¬ (Hd.row w ls (some r)).tail = some x from fun w => z (Option.some.inj w))]
                refine ⟨fun x => ?_, fun x s => ?_, fun x => ?_, ?_⟩
                · rw [keys_add, hm.keys, e1, List.mem_append, List.mem_singleton, or_assoc]
                  simp
                · rw [lk_add, e2]
                  by_cases z : r = x
                  · rw [if_pos z, if_pos z, List.mem_append, List.mem_append, hm.mem]
                    constructor
                    · rintro ((a | a) | a)
                      · exact .inl a
                      · exact .inr (.inr a)
                      · exact .inr (.inl a)
                    · rintro (a | a | a)
                      · exact .inl (.inl a)
                      · exact .inr a
                      · exact .inl (.inr a)
                  · rw [if_neg z, if_neg z, List.nil_append, hm.mem]
                · rw [lk_add, e2, List.length_append]
                  by_cases z : r = x
                  · rw [if_pos z, if_pos z, List.length_append, hm.len]; omega
                  · rw [if_neg z, if_neg z, hm.len, List.length_nil, Nat.zero_add]
                · have h1 := @add_len r ls mj
                  have h2 := hm.num
                  rw [List.length_append, e1, List.length_singleton]
                  omega
              have hfl := hf.2.1
              have hf5 := hf.2.2
              have hmj := hm.num
              have hlk : (lkB mj r).length + ls.length ≤ 90000 := by
                have h1 := hm.len r
                have h2 := hb r
                omega
              have lbl : ∀ (sl : Sl) (S : List MO) (QN : List PyData → List MO → Prop), QN (ls.map .str) S → Wp2 (cLoop yes (gTp (gsCons (gNm 4) (gsCons (gNm 5) gsNil))) tYes3 (eVar 4) [some (.d (Hd.build (.row w ls (some r)) (ps.map Tm.enc))), some (.r S0.length), x, sl[0]?.join, none, none] ((fieldsD ls (ps.map Tm.enc)).map .d) S) QN := fun sl S QN q => by
                refine wp_fields (v := fun x => .str x.1) (fun x hx => ?_) ?_
                · repeat walk_at "wk"
                  exact ⟨rfl, rfl⟩
                · rw [show ((ls.zip (ps.map Tm.enc)).map fun x => PyData.str x.1) = ((ls.zip (ps.map Tm.enc)).map (·.1)).map .str by rw [List.map_map]; rfl, zip_unzip1 (by rw [List.length_map]; exact hfl)]
                  exact q
              have lenF : ((fieldsD ls (ps.map Tm.enc)).map W3.d).length ≤ 100000 := by
                unfold fieldsD
                rw [List.length_map, List.length_map, List.length_zip]; omega
              refine ite_t rfl ?_
              refine wp_seq (wp_set (wp_sdl ?_))
              repeat walk_at "wk"
              refine ⟨by rw [ndcAt_r bd_ndc]; rfl, ?_⟩
              refine wp_op (wp_var rfl ?_)
              unfold Hd.build
              simp only [Hd.word, Hd.rest, optI]
              repeat walk_at "wk"
              refine ⟨_, .inl r, _, rfl, rfl, ndcAt_r bd_ndc, by rw [kvB_len]; omega, fun w2 hw2 => ?_, fun hw2 => ?_⟩
              · by_cases hr : r ∈ mj.map (·.1)
                · obtain ⟨j, h1, h2, h3, h4⟩ := add_old (ls := ls) (b := S0.length + 1) hr
                  rw [h1] at hw2
                  cases hw2
                  have ha := bd_at (S0 := S0) h2
                  repeat walk_at "wk"
                  refine ⟨lenF, ?_⟩
                  refine lbl [some (.r (S0.length + 1 + j))] _ _ ?_
                  repeat walk_at "wk"
                  refine wp_extL (by rw [List.length_map, List.length_map]; omega) ?_
                  repeat walk_at "wk"
                  refine ⟨rfl, _, fin1, ?_⟩
                  rw [← List.map_append, bd_set (r := r) (by rw [← h3, h4]), h3]
                · rw [vw_none (by
                    rw [kvB_keys]; intro z
                    obtain ⟨p, h1, h2⟩ := List.mem_map.mp z
                    exact hr (List.mem_map.mpr ⟨p, h1, Sum.inl.inj h2⟩))] at hw2
                  cases hw2
              · have hr : r ∉ mj.map (·.1) := fun z => by
                  obtain ⟨j, h1, _⟩ := add_old (ls := ls) (b := S0.length + 1) z
                  rw [h1] at hw2; cases hw2
                have hk2 : Sum.inl r ∉ (kvB (S0.length + 1) mj).map (·.1) := by
                  rw [kvB_keys]; intro z
                  obtain ⟨p, h1, h2⟩ := List.mem_map.mp z
                  exact hr (List.mem_map.mpr ⟨p, h1, Sum.inl.inj h2⟩)
                rw [putW_fresh hk2, bd_len, ← kvB_snoc (l := []), bd_new]
                have ha : (Bd S0 (mj ++ [(r, [])]))[S0.length + 1 + mj.length]? = some (.lst []) := bd_at (r := r) (l := []) (by rw [List.getElem?_append_right (Nat.le_refl _), Nat.sub_self]; rfl)
                repeat walk_at "wk"
                refine ⟨lenF, ?_⟩
                refine lbl [some (.r (S0.length + 1 + mj.length))] _ _ ?_
                repeat walk_at "wk"
                refine wp_extL (by rw [List.length_map, List.length_nil]; omega) ?_
                repeat walk_at "wk"
                refine ⟨rfl, _, fin1, ?_⟩
                rw [List.nil_append, ← bd_len (S0 := S0), bd_setl, add_new hr]
          | _ =>
            refine ite_f rfl ?_
            repeat walk_at "wk"
            exact ⟨rfl, mj, fin0 rfl, rfl⟩
end EA
namespace EA
open PySem PySem.Spec PyProof.Rows L2
local macro_rules | `(tactic| walk_at "ix") => `(tactic| first | rfl | exact atI_cons0 | exact atI_map0)
local macro_rules | `(tactic| walk_at "st") => `(tactic| first | assumption | rfl | exact get_set (by assumption) | exact get_set (get_set (by assumption)) | exact get_last | exact get_setlast | exact get_setapp (by assumption) | exact get_app (by assumption) | exact get_app (get_set (by assumption)))
local macro_rules | `(tactic| walk_at "tk") => `(tactic| first | exact List.take_length | exact take_set | exact take_set2 | exact take_set3 | exact take_app | exact take_aset | exact take_setapp | rfl)
local macro_rules | `(tactic| walk_at "sd") => `(tactic| first | omega | assumption | decide)
local macro_rules | `(tactic| walk_at "wpx") => `(tactic| first
  | with_reducible refine ite2 (fun _ => ?_) (fun z => absurd rfl z)
  | with_reducible refine ite2 (fun z => absurd z Bool.false_ne_true) (fun _ => ?_)
  | ((with_reducible refine gate_wp ?_); (first
    | ((with_reducible apply wp_viewr); (walk_at "st")) | ((with_reducible apply wp_lat); (walk_at "st"))
    | ((with_reducible refine gate_eq ?_); (first | with_reducible refine wp_geqs ?_ | with_reducible refine wp_geqb ?_ | with_reducible refine wp_geq_nil ?_))
    | ((with_reducible refine gate_ne ?_); (first | with_reducible refine wp_gnes ?_ | with_reducible refine wp_gneb ?_ | with_reducible refine wp_gne_nil ?_))
    | ((with_reducible refine gate_ix ?_); (first | ((with_reducible apply wp_ixd); (walk_at "ix")) | ((with_reducible apply wp_ixt); (walk_at "ix")) | ((with_reducible apply wp_ixr); (walk_at "st"); (walk_at "ix"))))
    | ((with_reducible apply wp_trur); (walk_at "st"))
    | ((with_reducible refine wp_l4s ?_ ?_); (first | omega | assumption | decide +kernel)) | with_reducible refine wp_l4 ?_ | ((with_reducible apply wp_l3r); (walk_at "st"))
    | ((with_reducible refine wp_mod ?_ ?_); (walk_at "sd")) | ((with_reducible refine wp_fdiv ?_ ?_); (walk_at "sd")) | ((with_reducible refine wp_mulr ?_ ?_); (walk_at "sd")) | ((with_reducible refine wp_mull ?_ ?_); (walk_at "sd")) | ((with_reducible refine wp_pow ?_ ?_); (walk_at "sd"))
    | ((with_reducible apply wp_lenr); (walk_at "st"))
    | ((with_reducible refine wp_gis ?_ ?_); rfl) | ((with_reducible refine wp_gisn ?_ ?_); rfl)
    | ((with_reducible refine gate_isi ?_); (first | ((with_reducible refine isi_t (r := true) ?_ ?_); (decide +kernel)) | ((with_reducible refine isi_t (r := false) ?_ ?_); (decide +kernel)) | ((with_reducible refine isi_b (r := true) ?_ ?_); (decide +kernel)) | ((with_reducible refine isi_b (r := false) ?_ ?_); (decide +kernel)) | ((with_reducible refine isi_i (r := true) ?_ ?_); (decide +kernel)) | ((with_reducible refine isi_i (r := false) ?_ ?_); (decide +kernel)) | ((with_reducible refine isi_s (r := true) ?_ ?_); (decide +kernel)) | ((with_reducible refine isi_s (r := false) ?_ ?_); (decide +kernel)) | ((with_reducible refine isi_l (r := true) ?_ ?_); (decide +kernel)) | ((with_reducible refine isi_l (r := false) ?_ ?_); (decide +kernel)) | ((with_reducible refine isi_n (r := true) ?_ ?_); (decide +kernel)) | ((with_reducible refine isi_n (r := false) ?_ ?_); (decide +kernel))))
    | ((with_reducible apply wp_tupr); (walk_at "st"))))
  | ((with_reducible refine gate_rq ?_); (first | ((with_reducible apply rq_dt); (walk_at "tk")) | ((with_reducible apply rq_nxt); (walk_at "tk"))))
  | ((with_reducible apply fz_r); (walk_at "st")) | ((with_reducible apply sq_r); (walk_at "st"))
  | ((with_reducible apply atSet_i); (walk_at "st"); rfl) | ((with_reducible apply atLst_i); (walk_at "st")) | ((with_reducible apply nowLst_i); (walk_at "st"))
  | ((with_reducible refine rng1_i ?_ ?_); (walk_at "sd")) | ((with_reducible refine rng2_i ?_ ?_); (walk_at "sd")))
local macro_rules | `(tactic| walk_at "wp") => `(tactic| first
  | with_reducible refine step_of ?_ | ((with_reducible apply wp_var); rfl) | walk_at "wpx")
local macro_rules | `(tactic| walk_at "fdef") => `(tactic| (refine wp_fdef rfl ?_; simp only [List.map_cons, List.map_nil, List.replicate_succ, List.replicate_zero, List.cons_append, List.nil_append]))
local macro_rules | `(tactic| walk_at "keq") => `(tactic| first
  | refine wp_geqD (c := false) (.inr (by decide +kernel)) rfl ?_ | refine wp_geqD (c := true) (.inr (by decide +kernel)) rfl ?_)
local macro_rules | `(tactic| walk_at "wk") => `(tactic| first
  | with_reducible refine step_of ?_ | ((with_reducible apply wp_var); rfl)
  | ((with_reducible refine gate_wp ?_); (first
    | with_reducible refine wp_geqsD (c := false) (by decide +kernel) ?_ | with_reducible refine wp_geqsD (c := true) (by decide +kernel) ?_
    | with_reducible refine wp_gnesD (c := false) (by decide +kernel) ?_ | with_reducible refine wp_gnesD (c := true) (by decide +kernel) ?_
    | with_reducible refine wp_gin_lit (c := true) (by decide +kernel) ?_ | with_reducible refine wp_gin_lit (c := false) (by decide +kernel) ?_))
  | with_reducible refine ite_t rfl ?_ | with_reducible refine ite_f rfl ?_
  | walk_at "wpx")
local macro_rules | `(tactic| walk_at "w1") => `(tactic| (fail_if_success (with_reducible refine th_nx ?_)); walk_at "wk")
noncomputable def f3_lacked_labels : F3 := fdef true 2 4
  (sSeq (sSet 2 eNDN)
  (sSeq (sEx (eCall (f3_gather_beside 60) (aCons (eVar 0) (aCons (eVar 2) aNil))))
  (sSeq (sSet 3 eDN)
  (sSeq (sFor (iSq (eCall f3_row_letters_in (aCons (eVar 0) aNil))) (gNm 4)
  (sSeq (sSet 5 (eIf (tIsN false (eVar 1)) (eNd (nLst aNil)) (eNd (nB gLst4 (aCons (eDGet (eVar 1) (eVar 4) (eTup aNil)) aNil)))))
  (sDP (eVar 3) (eVar 4) (eB gTupOf (aCons (eNd (nB gSS (aCons (eOp gAdd (eNDG (eVar 2) (eVar 4)) (eVar 5)) aNil))) aNil)))))
  (sRt (eVar 3))))))
noncomputable def f3_tbeside : Nat → F3
  | 0 => fun _ _ => none
  | n + 1 => fdef false 2 3
      (sSeq (sSet 2 (eNd (nLst aNil)))
        (sSeq (sIf (tAn (tCmp gIn (eOp gIx (eVar 0) (eD (.int (0)))) (eTup (aCons (eD (.str "record")) (aCons (eD (.str "variant")) aNil)))) (tAn (tCmp gIsN (eOp gIx (eVar 0) (eD (.int (2)))) (eD .none)) (tCmp gEq (eOp gIx (eVar 0) (eD (.int (2)))) (eVar 1))))
        (sSet 2 (eNd (nLc [3, 4] (iSq (eOp gIx (eVar 0) (eD (.int (1))))) (gTp (gsCons (gNm 3) (gsCons (gNm 4) gsNil))) tYes3 (eVar 3))))
        sNx)
        (sSeq (sFor (iSq (eCall f3_tparts (aCons (eVar 0) aNil))) (gNm 4)
        (sSet 2 (eOp gAdd (eVar 2) (eCall (f3_tbeside n) (aCons (eVar 4) (aCons (eVar 1) aNil))))))
        (sRt (eVar 2)))))
theorem rq_ownU {Se S S0 : List MO} {i : Nat} {ks : List (Key × PyData)} {Q : W3 → List MO → Prop} [c : CutR Se S] (hi : Se.length ≤ i) (e : S[i]? = some (.dic ks)) (e2 : S.take Se.length = S0) (q : Q (.r Se.length) (S0 ++ [.dic ks])) : retQ true Se Q (.rt (.r i) S) := by
  refine ⟨(.r Se.length, S0 ++ [.dic ks]), ?_, q⟩
  unfold ret3
  dsimp only
  rw [if_neg (by omega), e]
  dsimp only
  rw [if_pos c.h, if_pos rfl, e2]
theorem sset_congr {l m : List Str} (h : ∀ x, x ∈ l ↔ x ∈ m) : sset ltS l = sset ltS m := sset_of strictS (sset_strict strictS m) fun x => by rw [mem_sset]; exact (h x).symm
/-- what stands beside the row letters of a term, and what is told -/
def lackD (t : Tm) (tl : Int → List Str) : List (Key × PyData) := t.rows.map fun r => (.inl r, .tuple ((sset ltS (t.bes r ++ tl r)).map .str))
theorem Tm.rows_mem {t : Tm} {r : Int} : r ∈ t.rows ↔ (true, r) ∈ t.seen := by
  unfold Tm.rows
  rw [onceL_mem, List.mem_map]
  constructor
  · rintro ⟨⟨c, k⟩, h1, h2⟩
    obtain ⟨h3, h4⟩ := List.mem_filter.mp h1
    dsimp only at h2 h4
    subst h2 h4
    exact h3
  · intro h
    exact ⟨(true, r), List.mem_filter.mpr ⟨h, rfl⟩, rfl⟩
theorem vd_mapI {β : Type} [DecidableEq β] {rs : List Int} {f : Int → PyData} {r : Int} (h : r ∈ rs) : valD (rs.map fun r => (Sum.inl r, f r)) (.inl r) = some (f r) := by
  induction rs with
  | nil => cases h
  | cons a rs ih =>
    rw [List.map_cons, vd_cons]
    by_cases z : a = r
    · subst z; rw [if_pos rfl]
    · rw [if_neg fun w => z (Sum.inl.inj w)]
      exact ih ((List.mem_cons.mp h).resolve_left fun w => z w.symm)
/-- what is told of lacks -/
def Told (S : List MO) (w : W3) (rs : List Int) (tl : Int → List Str) : Prop := (w = .d .none ∧ ∀ r ∈ rs, tl r = []) ∨ ∃ i D, w = .r i ∧ S[i]? = some (.dic D) ∧ ∀ r ∈ rs, (valD D (.inl r)).getD (.tuple []) = .list ((tl r).map .str) ∨ (valD D (.inl r)).getD (.tuple []) = .tuple ((tl r).map .str)
theorem lacked_labels3 {PL PR : Int → Prop} {b : Bool} {h : Nat} {t : Tm} {S : List MO} {w : W3} {tl : Int → List Str} (o : TOk PL PR b h t) (h4 : h ≤ 4) (hw : Told S w t.rows tl) (hl : ∀ r, (tl r).length ≤ 100) : f3_lacked_labels [.d t.enc, w] S = some (.r S.length, S ++ [.dic (lackD t tl)]) := by
  refine eq_of ?_
  have hsl := o.seen_len
  have hp : 6 ^ h ≤ 6 ^ 4 := Nat.pow_le_pow_right (by decide) h4
  have hp5 : 6 ^ 4 = 1296 := by decide
  have hbl : ∀ r, (t.bes r).length ≤ 1250 := fun r => by
    have h1 := o.bes_len (r := r)
    have h2 : 5 ^ h ≤ 5 ^ 4 := Nat.pow_le_pow_right (by decide) h4
    have h3 : 5 ^ 4 = 625 := by decide
    omega
  obtain ⟨m, hm, e1⟩ := gather_beside3 60 (S0 := S) (m := []) o (by omega) (fun r => by have := hbl r; show 0 + _ ≤ _; omega) (by show 0 + _ ≤ _; omega)
  have e0 : Bd S [] = S ++ [.ndc []] := rfl
  rw [e0] at e1
  have hrow : t.rows.length ≤ 1296 := Nat.le_trans (onceL_len _) (by
    rw [List.length_map]
    exact Nat.le_trans (List.length_filter_le _ _) (by omega))
  have hnd : t.rows.Nodup := onceL_nodup _
  have hag : ∀ o2 : MO, (Bd S m ++ [o2]).take S.length = S := fun o2 => by unfold Bd; rw [List.append_assoc]; exact cut3
  unfold f3_lacked_labels
  walk_at "fdef"
  repeat walk_at "wk"
  refine wp2_eq e1 ?_
  repeat walk_at "wk"
  refine wp2_eq (row_letters_in3 o (by omega)) ?_
  repeat walk_at "wk"
  have hbn : ∀ o2 : MO, (Bd S m ++ [o2])[S.length]? = some (.ndc (kvB (S.length + 1) m)) := fun o2 => get_app bd_ndc
  refine wp_loop (n := 0) (fun j sl S' => ∃ x y, sl = [some (.d t.enc), some w, some (.r S.length), some (.r (Bd S m).length), x, y] ∧ S' = Bd S m ++ [.dic ((t.rows.take j).map fun r => (.inl r, .tuple ((sset ltS (t.bes r ++ tl r)).map .str)))]) ⟨none, none, rfl, rfl⟩ (fun _ _ _ _ => rfl) (fun j w2 sl S' hw2 hj hq => ?_) (fun sl S' hq => ?_)
  · obtain ⟨x, y, rfl, rfl⟩ := hq
    obtain ⟨d, hd2, rfl⟩ := ws_get hw2
    rw [Nat.sub_zero, List.getElem?_map] at hd2
    obtain ⟨r, hpj, rfl⟩ := Option.map_eq_some_iff.mp hd2
    have hr := List.mem_of_getElem? hpj
    have hrk : r ∈ m.map (·.1) := (hm.keys r).mpr (.inr (Tm.rows_mem.mp hr))
    obtain ⟨jj, h1, h2, _, _⟩ := add_old (ls := []) (b := S.length + 1) hrk
    have h3 : ∀ o2 : MO, (Bd S m ++ [o2])[S.length + 1 + jj]? = some (.lst ((lkB m r).map .str)) := fun o2 => get_app (bd_at h2)
    have hll : (lkB m r).length ≤ 1250 := by have h7 : (lkB m r).length = 0 + (t.bes r).length := hm.len r; have := hbl r; omega
    have htl := hl r
    have fresh : Sum.inl r ∉ ((t.rows.take j).map fun r => ((Sum.inl r : Key), PyData.tuple ((sset ltS (t.bes r ++ tl r)).map .str))).map (·.1) := by
      rw [List.map_map]; intro z
      obtain ⟨r2, z1, z2⟩ := List.mem_map.mp z
      cases Sum.inl.inj z2
      have hjl := (List.getElem?_eq_some_iff.mp hpj).1
      have e2 := (List.getElem?_eq_some_iff.mp hpj).2
      obtain ⟨k, hk, e3⟩ := List.getElem_of_mem z1
      rw [List.length_take] at hk
      rw [List.getElem_take] at e3
      have := nodup_at hnd (List.getElem?_eq_some_iff.mpr ⟨by omega, e3⟩) hpj
      omega
    have hset : sset ltS (lkB m r ++ tl r) = sset ltS (t.bes r ++ tl r) := sset_congr fun s => by
      rw [List.mem_append, List.mem_append, hm.mem]
      simp [lkB]
    have fin : ∀ y : Option W3, y = some (.d (.list ((tl r).map .str))) → Wp (sDP (eVar 3) (eVar 4) (eB gTupOf (aCons (eNd (nB gSS (aCons (eOp gAdd (eNDG (eVar 2) (eVar 4)) (eVar 5)) aNil))) aNil)) [some (.d t.enc), some w, some (.r S.length), some (.r (Bd S m).length), some (.d (.int r)), y] (Bd S m ++ [.dic ((t.rows.take j).map fun r => (.inl r, .tuple ((sset ltS (t.bes r ++ tl r)).map .str)))]))
        (loopQ (fun sl S' => ∃ x y, sl = [some (.d t.enc), some w, some (.r S.length), some (.r (Bd S m).length), x, y] ∧ S' = Bd S m ++ [.dic ((t.rows.take (j + 1)).map fun r => (.inl r, .tuple ((sset ltS (t.bes r ++ tl r)).map .str)))]) (then3 (sRt (eVar 3)) (retQ true S fun a c => a = .r S.length ∧ c = S ++ [.dic (lackD t tl)]))) := fun y hy => by
      subst hy
      repeat walk_at "wk"
      refine wp_ndg ?_
      repeat walk_at "wk"
      refine ⟨_, .inl r, _, _, rfl, rfl, ndcAt_r (hbn _), h1, ?_⟩
      repeat walk_at "wk"
      refine wp_addrl (h3 _) (by rw [List.length_map, List.length_map]; omega) ?_
      repeat walk_at "wk"
      rw [← List.map_append]
      refine wp_ssl (by rw [List.length_append]; omega) ?_
      repeat walk_at "wk"
      refine ⟨_, rfl, ?_⟩
      repeat walk_at "wk"
      refine ⟨_, .inl r, rfl, rfl, _, r_dicAt get_last, ?_, ?_⟩
      · rw [List.length_map, List.length_take]; omega
      · rw [r_setAt, set_last, putD_fresh fresh]
        repeat walk_at "wk"
        refine ⟨_, _, rfl, ?_⟩
        rw [take_snocU hpj, List.map_append, hset]; rfl
    have fz : retQ true S (fun a c => a = .r S.length ∧ c = S ++ [.dic (lackD t tl)]) = retQ true S (fun a c => a = .r S.length ∧ c = S ++ [.dic (lackD t tl)]) := rfl
    rcases hw with ⟨rfl, hz⟩ | ⟨i, D, rfl, hi, hD⟩
    · repeat walk_at "w1"
      refine th_nx ?_
      exact fin _ (by rw [hz r hr]; rfl)
    · have hi2 : ∀ o2 : MO, (Bd S m ++ [o2])[i]? = some (.dic D) := fun o2 => by unfold Bd; rw [List.append_assoc]; exact get_app hi
      repeat walk_at "w1"
      refine wp_dget2 ?_
      repeat walk_at "w1"
      refine ⟨by rw [r_dicAt (hi2 _)]; rfl, ?_⟩
      repeat walk_at "w1"
      refine ⟨_, _, .inl r, D, rfl, rfl, rfl, r_dicAt (hi2 _), ?_⟩
      rcases hD r hr with e | e
      · rw [e]
        repeat walk_at "w1"
        refine th_nx ?_
        exact fin _ rfl
      · rw [e]
        repeat walk_at "w1"
        refine th_nx ?_
        exact fin _ rfl
  · obtain ⟨x, y, rfl, rfl⟩ := hq
    rw [List.length_map, List.length_map, Nat.zero_add, List.take_length]
    haveI : ∀ o2 : MO, CutR S (Bd S m ++ [o2]) := fun o2 => CutR.of_take (hag o2)
    repeat walk_at "wk"
    exact rq_ownU (by rw [bd_len]; omega) get_last (hag _) ⟨rfl, rfl⟩
theorem tbeside3 {PL PR : Int → Prop} : ∀ (n : Nat) {h : Nat} {t : Tm} {S : List MO} {r : Int}, TOk PL PR false h t → h < n → h ≤ 4 → f3_tbeside n [.d t.enc, .d (.int r)] S = some (.d (.list ((t.bes r).map .str)), S)
  | 0, _, _, _, _, _, hn, _ => absurd hn (by omega)
  | n + 1, h, t, S, r, o, hn, h4 => by
    refine eq_of ?_
    have hbl : ∀ {t : Tm} {h : Nat}, TOk PL PR false h t → h ≤ 4 → (t.bes r).length ≤ 1250 := fun {t h} o h4 => by
      have h1 := o.bes_len (r := r)
      have h2 : 5 ^ h ≤ 5 ^ 4 := Nat.pow_le_pow_right (by decide) h4
      have h3 : 5 ^ 4 = 625 := by decide
      omega
    unfold f3_tbeside
    cases t with
    | letter k =>
      rw [Tm.enc]
      walk_at "fdef"
      repeat walk_at "wk"
      refine wp2_eq (show f3_tparts [.d (.tuple [.str "letter", .int k])] S = some (.d (.list []), S) from eq_of (by
        unfold f3_tparts
        walk_at "fdef"
        repeat walk_at "wk"
        exact ⟨rfl, rfl⟩)) ?_
      repeat walk_at "wk"
      refine wp_loop (n := 0) (fun j sl S' => sl = [some (.d (.tuple [.str "letter", .int k])), some (.d (.int r)), some (.d (.list [])), none, none] ∧ S' = S) ⟨rfl, rfl⟩ (fun _ _ _ _ => rfl) (fun j w sl S' hw hi hp => ?_) (fun sl S' hp => ?_)
      · cases hw
      · obtain ⟨rfl, rfl⟩ := hp
        repeat walk_at "wk"
        exact ⟨rfl, rfl⟩
    | node hd ps =>
      have hb0 := hbl o h4
      obtain ⟨hf, ht, hp⟩ := o.top
      rw [Tm.enc_node]
      have htp : ∀ S, f3_tparts [.d (hd.build (ps.map Tm.enc))] S = some (.d (.list (ps.map Tm.enc)), S) := fun S => tparts3 (by rw [List.length_map]; exact hf)
      rw [Tm.bes_node, List.length_append] at hb0
      rw [Tm.bes_node]
      -- the loop, from what stands in slot 2
      have loop : ∀ x, Wp (sFor (iSq (eCall f3_tparts (aCons (eVar 0) aNil))) (gNm 4) (sSet 2 (eOp gAdd (eVar 2) (eCall (f3_tbeside n) (aCons (eVar 4) (aCons (eVar 1) aNil))))) [some (.d (hd.build (ps.map Tm.enc))), some (.d (.int r)), some (.d (.list ((hd.bl r).map .str))), none, x] S)
          (then3 (sRt (eVar 2)) (retQ false S fun a c => a = .d (.list ((hd.bl r ++ ps.flatMap (Tm.bes r)).map .str)) ∧ c = S)) := fun x => by
        repeat walk_at "wk"
        refine wp2_eq (htp _) ?_
        repeat walk_at "wk"
        refine wp_loop (n := 0) (fun j sl S' => ∃ x, sl = [some (.d (hd.build (ps.map Tm.enc))), some (.d (.int r)), some (.d (.list ((hd.bl r ++ (ps.take j).flatMap (Tm.bes r)).map .str))), none, x] ∧ S' = S) ⟨x, by rw [List.take_zero, List.flatMap_nil, List.append_nil], rfl⟩ (fun _ _ _ _ => rfl) (fun j w sl S' hw hj hq => ?_) (fun sl S' hq => ?_)
        · obtain ⟨x, rfl, rfl⟩ := hq
          obtain ⟨d, hd2, rfl⟩ := ws_get hw
          rw [Nat.sub_zero, List.getElem?_map] at hd2
          obtain ⟨p, hpj, rfl⟩ := Option.map_eq_some_iff.mp hd2
          obtain ⟨h0, op⟩ := hp p (List.mem_of_getElem? hpj)
          have h1 := hbl op (by omega)
          have h2 := flat_take_le (f := Tm.bes r) (ps := ps) j
          repeat walk_at "wk"
          refine wp2_eq (tbeside3 n op (by omega) (by omega)) ?_
          repeat walk_at "wk"
          refine wp_addl (by rw [List.length_map, List.length_map, List.length_append]; omega) ?_
          repeat walk_at "wk"
          refine ⟨some (.d p.enc), ?_, rfl⟩
          rw [take_snocU hpj, List.flatMap_append, List.flatMap_cons, List.flatMap_nil, List.append_nil, ← List.map_append, List.append_assoc]; rfl
        · obtain ⟨x, rfl, rfl⟩ := hq
          rw [List.length_map, List.length_map, Nat.zero_add, List.take_length]
          repeat walk_at "wk"
          exact ⟨rfl, rfl⟩
      walk_at "fdef"
      repeat walk_at "w1"
      refine th_nx (wp_seq (wp_sif (wp_tan ?_)))
      have go0 : hd.bl r = [] → (then3 (sSeq (sFor (iSq (eCall f3_tparts (aCons (eVar 0) aNil))) (gNm 4) (sSet 2 (eOp gAdd (eVar 2) (eCall (f3_tbeside n) (aCons (eVar 4) (aCons (eVar 1) aNil)))))) (sRt (eVar 2))) (retQ false S fun a c => a = .d (.list ((hd.bl r ++ ps.flatMap (Tm.bes r)).map .str)) ∧ c = S)) (.nx [some (.d (hd.build (ps.map Tm.enc))), some (.d (.int r)), some (.d (.list [])), none, none] S) := fun z => by
        refine th_nx (wp_seq ?_)
        have := loop none
        rw [z] at this ⊢
        exact this
      have tst : ∀ Q : Bool → List MO → Prop, Q hd.isRow S → Wp2 (tCmp gIn (eOp gIx (eVar 0) (eD (.int 0))) (eTup (aCons (eD (.str "record")) (aCons (eD (.str "variant")) aNil))) [some (.d (hd.build (ps.map Tm.enc))), some (.d (.int r)), some (.d (.list [])), none, none] S) Q := fun Q q => by
        unfold Hd.build
        repeat walk_at "wk"
        exact wp_gin_lit (word_in2 hf) q
      refine tst _ ?_
      cases hd with
      | row w ls t =>
        refine ite_t rfl ?_
        have hfl := hf.2.1
        have hf5 := hf.2.2
        cases t with
        | none =>
          refine wp_tan (wp_tcmp (wp_op (wp_var rfl ?_)))
          unfold Hd.build
          simp only [Hd.word, Hd.rest, optI]
          repeat walk_at "w1"
          exact go0 rfl
        | some q =>
          refine wp_tan (wp_tcmp (wp_op (wp_var rfl ?_)))
          unfold Hd.build
          simp only [Hd.word, Hd.rest, optI]
          repeat walk_at "wk"
          by_cases z : q = r
          · subst z
            refine ite_t (by simp) ?_
            repeat walk_at "wk"
            refine ⟨by rw [List.length_map]; unfold fieldsD; rw [List.length_map, List.length_zip]; omega, ?_⟩
            refine wp_fields (v := fun x => .str x.1) (fun x hx => ?_) ?_
            · repeat walk_at "wk"
              exact ⟨rfl, rfl⟩
            · rw [show ((ls.zip (ps.map Tm.enc)).map fun x => PyData.str x.1) = ((ls.zip (ps.map Tm.enc)).map (·.1)).map .str by rw [List.map_map]; rfl, zip_unzip1 (by rw [List.length_map]; exact hfl)]
              refine th_nx (wp_seq ?_)
              have := loop none
              rw [show Hd.bl q (Hd.row w ls (some q)) = ls by unfold Hd.bl; rw [if_pos (show (Hd.row w ls (some q)).tail = some q from rfl)]; rfl] at this ⊢
              exact this
          · have z2 : Hd.bl r (Hd.row w ls (some q)) = [] := by unfold Hd.bl; rw [if_neg (show ¬ (Hd.row w ls (some q)).tail = some r from fun e => z (Option.some.inj e))]
            refine ite_f (by simpa using z) ?_
            exact wp_nx (go0 z2)
      | _ =>
        refine ite_f rfl ?_
        exact wp_nx (go0 (by unfold Hd.bl; rfl))
end EA
namespace EA
open PySem PySem.Spec PyProof.Rows L2
local macro_rules | `(tactic| walk_at "ix") => `(tactic| first | rfl | exact atI_cons0 | exact atI_map0)
local macro_rules | `(tactic| walk_at "st") => `(tactic| first | assumption | rfl | exact get_set (by assumption) | exact get_set (get_set (by assumption)) | exact get_last | exact get_setlast | exact get_setapp (by assumption) | exact get_app (by assumption) | exact get_app (get_set (by assumption)))
local macro_rules | `(tactic| walk_at "tk") => `(tactic| first | exact List.take_length | exact take_set | exact take_set2 | exact take_set3 | exact take_app | exact take_aset | exact take_setapp | rfl)
local macro_rules | `(tactic| walk_at "sd") => `(tactic| first | omega | assumption | decide)
local macro_rules | `(tactic| walk_at "wpx") => `(tactic| first
  | with_reducible refine ite2 (fun _ => ?_) (fun z => absurd rfl z)
  | with_reducible refine ite2 (fun z => absurd z Bool.false_ne_true) (fun _ => ?_)
  | ((with_reducible refine gate_wp ?_); (first
    | ((with_reducible apply wp_viewr); (walk_at "st")) | ((with_reducible apply wp_lat); (walk_at "st"))
    | ((with_reducible refine gate_eq ?_); (first | with_reducible refine wp_geqs ?_ | with_reducible refine wp_geqb ?_ | with_reducible refine wp_geq_nil ?_))
    | ((with_reducible refine gate_ne ?_); (first | with_reducible refine wp_gnes ?_ | with_reducible refine wp_gneb ?_ | with_reducible refine wp_gne_nil ?_))
    | ((with_reducible refine gate_ix ?_); (first | ((with_reducible apply wp_ixd); (walk_at "ix")) | ((with_reducible apply wp_ixt); (walk_at "ix")) | ((with_reducible apply wp_ixr); (walk_at "st"); (walk_at "ix"))))
    | ((with_reducible apply wp_trur); (walk_at "st"))
    | ((with_reducible refine wp_l4s ?_ ?_); (first | omega | assumption | decide +kernel)) | with_reducible refine wp_l4 ?_ | ((with_reducible apply wp_l3r); (walk_at "st"))
    | ((with_reducible refine wp_mod ?_ ?_); (walk_at "sd")) | ((with_reducible refine wp_fdiv ?_ ?_); (walk_at "sd")) | ((with_reducible refine wp_mulr ?_ ?_); (walk_at "sd")) | ((with_reducible refine wp_mull ?_ ?_); (walk_at "sd")) | ((with_reducible refine wp_pow ?_ ?_); (walk_at "sd"))
    | ((with_reducible apply wp_lenr); (walk_at "st"))
    | ((with_reducible refine wp_gis ?_ ?_); rfl) | ((with_reducible refine wp_gisn ?_ ?_); rfl)
    | ((with_reducible refine gate_isi ?_); (first | ((with_reducible refine isi_t (r := true) ?_ ?_); (decide +kernel)) | ((with_reducible refine isi_t (r := false) ?_ ?_); (decide +kernel)) | ((with_reducible refine isi_b (r := true) ?_ ?_); (decide +kernel)) | ((with_reducible refine isi_b (r := false) ?_ ?_); (decide +kernel)) | ((with_reducible refine isi_i (r := true) ?_ ?_); (decide +kernel)) | ((with_reducible refine isi_i (r := false) ?_ ?_); (decide +kernel)) | ((with_reducible refine isi_s (r := true) ?_ ?_); (decide +kernel)) | ((with_reducible refine isi_s (r := false) ?_ ?_); (decide +kernel)) | ((with_reducible refine isi_l (r := true) ?_ ?_); (decide +kernel)) | ((with_reducible refine isi_l (r := false) ?_ ?_); (decide +kernel)) | ((with_reducible refine isi_n (r := true) ?_ ?_); (decide +kernel)) | ((with_reducible refine isi_n (r := false) ?_ ?_); (decide +kernel))))
    | ((with_reducible apply wp_tupr); (walk_at "st"))))
  | ((with_reducible refine gate_rq ?_); (first | ((with_reducible apply rq_dt); (walk_at "tk")) | ((with_reducible apply rq_nxt); (walk_at "tk"))))
  | ((with_reducible apply fz_r); (walk_at "st")) | ((with_reducible apply sq_r); (walk_at "st"))
  | ((with_reducible apply atSet_i); (walk_at "st"); rfl) | ((with_reducible apply atLst_i); (walk_at "st")) | ((with_reducible apply nowLst_i); (walk_at "st"))
  | ((with_reducible refine rng1_i ?_ ?_); (walk_at "sd")) | ((with_reducible refine rng2_i ?_ ?_); (walk_at "sd")))
local macro_rules | `(tactic| walk_at "wp") => `(tactic| first
  | with_reducible refine step_of ?_ | ((with_reducible apply wp_var); rfl) | walk_at "wpx")
local macro_rules | `(tactic| walk_at "fdef") => `(tactic| (refine wp_fdef rfl ?_; simp only [List.map_cons, List.map_nil, List.replicate_succ, List.replicate_zero, List.cons_append, List.nil_append]))
local macro_rules | `(tactic| walk_at "keq") => `(tactic| first
  | refine wp_geqD (c := false) (.inr (by decide +kernel)) rfl ?_ | refine wp_geqD (c := true) (.inr (by decide +kernel)) rfl ?_)
local macro_rules | `(tactic| walk_at "wk") => `(tactic| first
  | with_reducible refine step_of ?_ | ((with_reducible apply wp_var); rfl)
  | ((with_reducible refine gate_wp ?_); (first
    | with_reducible refine wp_geqsD (c := false) (by decide +kernel) ?_ | with_reducible refine wp_geqsD (c := true) (by decide +kernel) ?_
    | with_reducible refine wp_gnesD (c := false) (by decide +kernel) ?_ | with_reducible refine wp_gnesD (c := true) (by decide +kernel) ?_
    | with_reducible refine wp_gin_lit (c := true) (by decide +kernel) ?_ | with_reducible refine wp_gin_lit (c := false) (by decide +kernel) ?_))
  | with_reducible refine ite_t rfl ?_ | with_reducible refine ite_f rfl ?_
  | walk_at "wpx")
local macro_rules | `(tactic| walk_at "w1") => `(tactic| (fail_if_success (with_reducible refine th_nx ?_)); walk_at "wk")
noncomputable def f3_renumbered : Nat → F3
  | 0 => fun _ _ => none
  | n + 1 => fdef false 2 2
      (sSeq (sIf (tCmp gEq (eOp gIx (eVar 0) (eD (.int (0)))) (eD (.str "letter")))
        (sRt (eTup (aCons (eD (.str "letter")) (aCons (eDG (eVar 1) (eOp gIx (eVar 0) (eD (.int (1))))) aNil))))
        sNx)
        (sSeq (sSet 2 (eD .none))
        (sSeq (sIf (tAn (tCmp gIn (eOp gIx (eVar 0) (eD (.int (0)))) (eD (.tuple [.str "record", .str "variant", .str "row"]))) (tCmp gIsN (eOp gIx (eVar 0) (eD (.int (2)))) (eD .none)))
        (sSet 2 (eDG (eVar 1) (eOp gIx (eVar 0) (eD (.int (2))))))
        sNx)
        (sRt (eCall f3_rebuilt (aCons (eVar 0) (aCons (eNd (nLc [3] (iSq (eCall f3_term_parts (aCons (eVar 0) aNil))) (gNm 3) tYes3 (eCall (f3_renumbered n) (aCons (eVar 3) (aCons (eVar 1) aNil))))) (aCons (eVar 2) aNil))))))))
noncomputable def f3_tranked : Nat → F3
  | 0 => fun _ _ => none
  | n + 1 => fdef false 2 2
      (sSeq (sIf (tCmp gEq (eOp gIx (eVar 0) (eD (.int (0)))) (eD (.str "letter")))
        (sRt (eTup (aCons (eD (.str "letter")) (aCons (eIdx (eVar 1) (aCons (eTup (aCons (eD (.int (0))) (aCons (eOp gIx (eVar 0) (eD (.int (1)))) aNil))) aNil)) aNil))))
        sNx)
        (sSeq (sSet 2 (eD .none))
        (sSeq (sIf (tAn (tCmp gIn (eOp gIx (eVar 0) (eD (.int (0)))) (eTup (aCons (eD (.str "record")) (aCons (eD (.str "variant")) aNil)))) (tCmp gIsN (eOp gIx (eVar 0) (eD (.int (2)))) (eD .none)))
        (sSet 2 (eIdx (eVar 1) (aCons (eTup (aCons (eD (.int (1))) (aCons (eOp gIx (eVar 0) (eD (.int (2)))) aNil))) aNil)))
        sNx)
        (sRt (eCall f3_trebuilt (aCons (eVar 0) (aCons (eNd (nLc [3] (iSq (eCall f3_tparts (aCons (eVar 0) aNil))) (gNm 3) tYes3 (eCall (f3_tranked n) (aCons (eVar 3) (aCons (eVar 1) aNil))))) (aCons (eVar 2) aNil))))))))
noncomputable def f3_tmoved : Nat → F3
  | 0 => fun _ _ => none
  | n + 1 => fdef false 3 2
      (sSeq (sIf (tCmp gEq (eOp gIx (eVar 0) (eD (.int (0)))) (eD (.str "letter")))
        (sRt (eTup (aCons (eD (.str "letter")) (aCons (eOp gIx (eVar 1) (eOp gIx (eVar 0) (eD (.int (1))))) aNil))))
        sNx)
        (sSeq (sSet 3 (eD .none))
        (sSeq (sIf (tAn (tCmp gIn (eOp gIx (eVar 0) (eD (.int (0)))) (eTup (aCons (eD (.str "record")) (aCons (eD (.str "variant")) aNil)))) (tCmp gIsN (eOp gIx (eVar 0) (eD (.int (2)))) (eD .none)))
        (sSet 3 (eOp gIx (eVar 2) (eOp gIx (eVar 0) (eD (.int (2))))))
        sNx)
        (sRt (eCall f3_trebuilt (aCons (eVar 0) (aCons (eNd (nLc [4] (iSq (eCall f3_tparts (aCons (eVar 0) aNil))) (gNm 4) tYes3 (eCall (f3_tmoved n) (aCons (eVar 4) (aCons (eVar 1) (aCons (eVar 2) aNil)))))) (aCons (eVar 3) aNil))))))))
/-! ### other numbers -/
mutual
def Tm.mp (φ ψ : Int → Int) : Tm → Tm
  | .letter k => .letter (φ k)
  | .node hd ps => .node (hd.setTail (hd.tail.map ψ)) (mpM φ ψ ps)
def mpM (φ ψ : Int → Int) : List Tm → List Tm
  | [] => []
  | p :: ps => p.mp φ ψ :: mpM φ ψ ps
end
theorem mpM_map (φ ψ : Int → Int) : ∀ ps : List Tm, mpM φ ψ ps = ps.map (Tm.mp φ ψ)
  | [] => rfl
  | p :: ps => by rw [mpM, mpM_map φ ψ ps]; rfl
theorem Tm.mp_node {φ ψ : Int → Int} {hd : Hd} {ps : List Tm} : (Tm.node hd ps).mp φ ψ = .node (hd.setTail (hd.tail.map ψ)) (ps.map (Tm.mp φ ψ)) := by rw [Tm.mp, mpM_map]
theorem Hd.tail_set {hd : Hd} {ψ : Int → Int} : (hd.setTail (hd.tail.map ψ)).tail = hd.tail.map ψ := by cases hd <;> rfl
theorem Hd.fits_set {b : Bool} {hd : Hd} {n : Nat} {u : Option Int} (h : hd.fits b n) : (hd.setTail u).fits b n := by cases hd <;> exact h
theorem Hd.labels_set {hd : Hd} {u : Option Int} : (hd.setTail u).labels = hd.labels := by cases hd <;> rfl
theorem Hd.tls_none {hd : Hd} (h : hd.tail = none) : hd.tls = [] := by unfold Hd.tls; rw [h]
theorem Hd.tls_some {hd : Hd} {r : Int} (h : hd.tail = some r) : hd.tls = [(true, r)] := by unfold Hd.tls; rw [h]
def mvP (φ ψ : Int → Int) (p : Bool × Int) : Bool × Int := (p.1, if p.1 = true then ψ p.2 else φ p.2)
mutual
theorem Tm.seen_mp (φ ψ : Int → Int) : ∀ t : Tm, (t.mp φ ψ).seen = t.seen.map (mvP φ ψ)
  | .letter k => by rw [Tm.mp, Tm.seen, Tm.seen]; rfl
  | .node hd ps => by
    rw [Tm.mp, Tm.seen, Tm.seen, List.map_append, seenM_mp φ ψ ps]
    congr 1
    cases h : hd.tail with
    | none => rw [Hd.tls_none (by rw [← h, Hd.tail_set, h]; rfl), Hd.tls_none h]; rfl
    | some r => rw [Hd.tls_some (r := ψ r) (by rw [← h, Hd.tail_set, h]; rfl), Hd.tls_some h]; rfl
theorem seenM_mp (φ ψ : Int → Int) : ∀ ps : List Tm, seenM (mpM φ ψ ps) = (seenM ps).map (mvP φ ψ)
  | [] => rfl
  | p :: ps => by rw [mpM, seenM, seenM, List.map_append, Tm.seen_mp φ ψ p, seenM_mp φ ψ ps]
end
mutual
theorem Tm.bes_mp {φ ψ : Int → Int} {r : Int} : ∀ t : Tm, (∀ q, (true, q) ∈ t.seen → ψ q = ψ r → q = r) → (t.mp φ ψ).bes (ψ r) = t.bes r
  | .letter k, _ => by rw [Tm.mp, Tm.bes, Tm.bes]
  | .node hd ps, h => by
    rw [Tm.seen] at h
    rw [Tm.mp, Tm.bes, Tm.bes, besM_mp ps fun q hq => h q (List.mem_append_left _ hq)]
    congr 1
    unfold Hd.bl
    rw [Hd.tail_set, Hd.labels_set]
    cases e : hd.tail with
    | none => rw [if_neg (by intro z; cases z), if_neg (by intro z; cases z)]
    | some q =>
      by_cases z : q = r
      · subst z; rw [Option.map_some, if_pos rfl, if_pos rfl]
      · rw [Option.map_some, if_neg fun w => z (h q (List.mem_append_right _ (by rw [Hd.tls_some e]; exact List.mem_singleton_self _)) (Option.some.inj w)), if_neg fun w => z (Option.some.inj w)]
theorem besM_mp {φ ψ : Int → Int} {r : Int} : ∀ ps : List Tm, (∀ q, (true, q) ∈ seenM ps → ψ q = ψ r → q = r) → besM (ψ r) (mpM φ ψ ps) = besM r ps
  | [], _ => rfl
  | p :: ps, h => by
    rw [seenM] at h
    rw [mpM, besM, besM, Tm.bes_mp p fun q hq => h q (List.mem_append_left _ hq), besM_mp ps fun q hq => h q (List.mem_append_right _ hq)]
end
mutual
theorem Tm.mp_mp {φ ψ φ' ψ' : Int → Int} : ∀ t : Tm, (t.mp φ ψ).mp φ' ψ' = t.mp (fun k => φ' (φ k)) (fun r => ψ' (ψ r))
  | .letter k => by rw [Tm.mp, Tm.mp, Tm.mp]
  | .node hd ps => by
    rw [Tm.mp, Tm.mp, Tm.mp, mpM_mp ps]
    congr 1
    cases hd with
    | row w ls t => cases t <;> rfl
    | _ => rfl
theorem mpM_mp {φ ψ φ' ψ' : Int → Int} : ∀ ps : List Tm, mpM φ' ψ' (mpM φ ψ ps) = mpM (fun k => φ' (φ k)) (fun r => ψ' (ψ r)) ps
  | [] => rfl
  | p :: ps => by rw [mpM, mpM, mpM, Tm.mp_mp p, mpM_mp ps]
end
mutual
theorem Tm.mp_congr {φ ψ φ' ψ' : Int → Int} : ∀ t : Tm, (∀ p ∈ t.seen, mvP φ ψ p = mvP φ' ψ' p) → t.mp φ ψ = t.mp φ' ψ'
  | .letter k, h => by
    rw [Tm.seen] at h
    rw [Tm.mp, Tm.mp]
    have := congrArg Prod.snd (h _ (List.mem_singleton_self _))
    rw [show φ k = φ' k from this]
  | .node hd ps, h => by
    rw [Tm.seen] at h
    rw [Tm.mp, Tm.mp, mpM_congr ps fun p hp => h p (List.mem_append_left _ hp)]
    congr 2
    cases e : hd.tail with
    | none => rfl
    | some r =>
      have := congrArg Prod.snd (h (true, r) (List.mem_append_right _ (by rw [Hd.tls_some e]; exact List.mem_singleton_self _)))
      rw [Option.map_some, Option.map_some, show ψ r = ψ' r from this]
theorem mpM_congr {φ ψ φ' ψ' : Int → Int} : ∀ ps : List Tm, (∀ p ∈ seenM ps, mvP φ ψ p = mvP φ' ψ' p) → mpM φ ψ ps = mpM φ' ψ' ps
  | [], _ => rfl
  | p :: ps, h => by
    rw [seenM] at h
    rw [mpM, mpM, Tm.mp_congr p fun p hp => h p (List.mem_append_left _ hp), mpM_congr ps fun p hp => h p (List.mem_append_right _ hp)]
end
theorem TOk.mp {PL PR PL' PR' : Int → Prop} {φ ψ : Int → Int} {b : Bool} {h : Nat} {t : Tm} (o : TOk PL PR b h t) (i : ∀ k, PL k → PL' (φ k)) (j : ∀ k, PR k → PR' (ψ k)) : TOk PL' PR' b h (t.mp φ ψ) := by
  induction o with
  | letter a => rw [Tm.mp]; exact .letter (i _ a)
  | leaf a c => rw [Tm.mp_node]; exact .leaf (Hd.fits_set a) (by rw [Hd.tail_set, c]; rfl)
  | node a c d ih =>
    rw [Tm.mp_node]
    refine .node (by rw [List.length_map]; exact Hd.fits_set a) (fun r e => ?_) (fun p hp => ?_)
    · rw [Hd.tail_set] at e
      obtain ⟨q, e1, rfl⟩ := Option.map_eq_some_iff.mp e
      exact j q (c q e1)
    · obtain ⟨q, hq, rfl⟩ := List.mem_map.mp hp
      exact ih q hq
theorem seen_sub {hd : Hd} {ps : List Tm} {p : Tm} (hp : p ∈ ps) {x : Bool × Int} (hx : x ∈ p.seen) : x ∈ (Tm.node hd ps).seen := by
  rw [Tm.seen_node]
  exact List.mem_append_left _ (List.mem_flatMap.mpr ⟨p, hp, hx⟩)
theorem seen_tail {hd : Hd} {ps : List Tm} {r : Int} (h : hd.tail = some r) : (true, r) ∈ (Tm.node hd ps).seen := by
  rw [Tm.seen_node, Hd.tls_some h]
  exact List.mem_append_right _ (List.mem_singleton_self _)
theorem Tm.enc_mp {φ ψ : Int → Int} {hd : Hd} {ps : List Tm} : ((Tm.node hd ps).mp φ ψ).enc = (hd.setTail (hd.tail.map ψ)).build (ps.map fun p => (p.mp φ ψ).enc) := by rw [Tm.mp_node, Tm.enc_node, List.map_map]; rfl
theorem renumbered3 {PL PR : Int → Prop} {φ ψ : Int → Int} : ∀ (n : Nat) {b : Bool} {h : Nat} {t : Tm} {S : List MO} {i : Nat} {D : List (Key × PyData)}, TOk PL PR b h t → h < n → S[i]? = some (.dic D) → (∀ p ∈ t.seen, valD D (.inl p.2) = some (.int (mvP φ ψ p).2)) →
    f3_renumbered n [.d t.enc, .r i] S = some (.d (t.mp φ ψ).enc, S)
  | 0, _, _, _, _, _, _, _, hn, _, _ => absurd hn (by omega)
  | n + 1, b, h, t, S, i, D, o, hn, hi, hD => by
    refine eq_of ?_
    unfold f3_renumbered
    cases t with
    | letter k =>
      have hk := hD (false, k) (by rw [Tm.seen]; exact List.mem_singleton_self _)
      rw [Tm.mp, Tm.enc, Tm.enc]
      walk_at "fdef"
      repeat walk_at "wk"
      refine wp_dgx ?_
      repeat walk_at "wk"
      refine ⟨_, .inl k, D, _, rfl, rfl, r_dicAt hi, hk, ?_⟩
      repeat walk_at "wk"
      exact ⟨rfl, rfl⟩
    | node hd ps =>
      obtain ⟨hf, ht, hp⟩ := o.top
      rw [Tm.enc_mp, Tm.enc_node]
      have h5 := Hd.fits_len hf
      have htp : ∀ S, f3_term_parts [.d (hd.build (ps.map Tm.enc))] S = some (.d (.tuple (ps.map Tm.enc)), S) := fun S => term_partsA (b := b) (by rw [List.length_map]; exact hf)
      have hrb : ∀ S u, f3_rebuilt [.d (hd.build (ps.map Tm.enc)), .d (.list (ps.map fun p => (p.mp φ ψ).enc)), .d (optI u)] S = some (.d ((hd.setTail u).build (ps.map fun p => (p.mp φ ψ).enc)), S) := fun S u => rebuilt3 (b := b) (by rw [List.length_map]; exact hf) (by rw [List.length_map, List.length_map])
      have last : ∀ u, u = hd.tail.map ψ → Wp (sRt (eCall f3_rebuilt (aCons (eVar 0) (aCons (eNd (nLc [3] (iSq (eCall f3_term_parts (aCons (eVar 0) aNil))) (gNm 3) tYes3 (eCall (f3_renumbered n) (aCons (eVar 3) (aCons (eVar 1) aNil))))) (aCons (eVar 2) aNil)))) [some (.d (hd.build (ps.map Tm.enc))), some (.r i), some (.d (optI u)), none] S)
          (retQ false S fun a c => a = .d ((hd.setTail (hd.tail.map ψ)).build (ps.map fun p => (p.mp φ ψ).enc)) ∧ c = S) := fun u hu => by
        subst hu
        repeat walk_at "wk"
        refine wp2_eq (htp _) ?_
        repeat walk_at "wk"
        refine ⟨by rw [List.length_map, List.length_map]; omega, ?_⟩
        refine wp_all (xs := ps) (w := fun p => .d p.enc) (v := fun p => (p.mp φ ψ).enc) (by dsimp only; rw [List.map_map]; rfl) rfl (fun p hpm => ?_) ?_ gnm_st
        · obtain ⟨h0, op⟩ := hp p hpm
          repeat walk_at "wk"
          refine wp2_eq (renumbered3 n op (by omega) hi fun x hx => hD x (seen_sub hpm hx)) ?_
          exact ⟨rfl, rfl⟩
        · repeat walk_at "wk"
          refine wp2_eq (hrb _ _) ?_
          repeat walk_at "wk"
          exact ⟨rfl, rfl⟩
      walk_at "fdef"
      repeat walk_at "w1"
      unfold Hd.build
      repeat walk_at "w1"
      refine ite_f (word_letter hf) ?_
      refine wp_nx (th_nx (wp_seq (wp_set (wp_d (th_nx (wp_seq (wp_sif ?_)))))))
      refine wp_tailed (b := b) (hd := hd) (ps := ps.map Tm.enc) (n := ps.length) rfl (fun Q q => ?_) fun c hc => ?_
      · repeat walk_at "wk"
        exact wp_gin_lit (word_in3 hf) q
      · subst hc
        cases e : hd.tail with
        | none =>
          refine ite_f rfl ?_
          refine wp_nx (th_nx ?_)
          rw [e] at last
          exact last none rfl
        | some r =>
          refine ite_t rfl ?_
          have hk := hD (true, r) (seen_tail e)
          rw [e] at last
          cases hd with
          | row w ls t =>
            obtain rfl : t = some r := e
            refine wp_set (wp_dgx ?_)
            simp only [Hd.rest, optI]
            repeat walk_at "wk"
            refine ⟨_, .inl r, D, _, rfl, rfl, r_dicAt hi, hk, ?_⟩
            refine th_nx ?_
            exact last (some (ψ r)) rfl
          | _ => cases e
theorem tranked3 {PL PR : Int → Prop} {φ ψ : Int → Int} {rk : List PyData} : ∀ (n : Nat) {h : Nat} {t : Tm} {S : List MO}, TOk PL PR false h t → h < n → (∀ p ∈ t.seen, gIdx rk (qP p) = some (mvP φ ψ p).2) →
    f3_tranked n [.d t.enc, .d (.list rk)] S = some (.d (t.mp φ ψ).enc, S)
  | 0, _, _, _, _, hn, _ => absurd hn (by omega)
  | n + 1, h, t, S, o, hn, hD => by
    refine eq_of ?_
    unfold f3_tranked
    cases t with
    | letter k =>
      have hk := hD (false, k) (by rw [Tm.seen]; exact List.mem_singleton_self _)
      rw [Tm.mp, Tm.enc, Tm.enc]
      walk_at "fdef"
      repeat walk_at "wk"
      refine wp_idx ?_
      repeat walk_at "wk"
      refine ⟨_, rfl, ?_⟩
      repeat walk_at "wk"
      refine ⟨_, _, rfl, hk, ?_⟩
      repeat walk_at "wk"
      exact ⟨rfl, rfl⟩
    | node hd ps =>
      obtain ⟨hf, ht, hp⟩ := o.top
      rw [Tm.enc_mp, Tm.enc_node]
      have h5 := Hd.fits_len hf
      have htp : ∀ S, f3_tparts [.d (hd.build (ps.map Tm.enc))] S = some (.d (.list (ps.map Tm.enc)), S) := fun S => tparts3 (by rw [List.length_map]; exact hf)
      have hrb : ∀ S u, f3_trebuilt [.d (hd.build (ps.map Tm.enc)), .d (.list (ps.map fun p => (p.mp φ ψ).enc)), .d (optI u)] S = some (.d ((hd.setTail u).build (ps.map fun p => (p.mp φ ψ).enc)), S) := fun S u => trebuilt3 (by rw [List.length_map]; exact hf) (by rw [List.length_map, List.length_map])
      have last : ∀ u, u = hd.tail.map ψ → Wp (sRt (eCall f3_trebuilt (aCons (eVar 0) (aCons (eNd (nLc [3] (iSq (eCall f3_tparts (aCons (eVar 0) aNil))) (gNm 3) tYes3 (eCall (f3_tranked n) (aCons (eVar 3) (aCons (eVar 1) aNil))))) (aCons (eVar 2) aNil)))) [some (.d (hd.build (ps.map Tm.enc))), some (.d (.list rk)), some (.d (optI u)), none] S)
          (retQ false S fun a c => a = .d ((hd.setTail (hd.tail.map ψ)).build (ps.map fun p => (p.mp φ ψ).enc)) ∧ c = S) := fun u hu => by
        subst hu
        repeat walk_at "wk"
        refine wp2_eq (htp _) ?_
        repeat walk_at "wk"
        refine ⟨by rw [List.length_map, List.length_map]; omega, ?_⟩
        refine wp_all (xs := ps) (w := fun p => .d p.enc) (v := fun p => (p.mp φ ψ).enc) (by dsimp only; rw [List.map_map]; rfl) rfl (fun p hpm => ?_) ?_ gnm_st
        · obtain ⟨h0, op⟩ := hp p hpm
          repeat walk_at "wk"
          refine wp2_eq (tranked3 n op (by omega) fun x hx => hD x (seen_sub hpm hx)) ?_
          exact ⟨rfl, rfl⟩
        · repeat walk_at "wk"
          refine wp2_eq (hrb _ _) ?_
          repeat walk_at "wk"
          exact ⟨rfl, rfl⟩
      walk_at "fdef"
      repeat walk_at "w1"
      unfold Hd.build
      repeat walk_at "w1"
      refine ite_f (word_letter hf) ?_
      refine wp_nx (th_nx (wp_seq (wp_set (wp_d (th_nx (wp_seq (wp_sif ?_)))))))
      refine wp_tailed (b := false) (hd := hd) (ps := ps.map Tm.enc) (n := ps.length) rfl (fun Q q => ?_) fun c hc => ?_
      · repeat walk_at "wk"
        exact wp_gin_lit (word_in2 hf) q
      · subst hc
        cases e : hd.tail with
        | none =>
          refine ite_f rfl ?_
          refine wp_nx (th_nx ?_)
          rw [e] at last
          exact last none rfl
        | some r =>
          refine ite_t rfl ?_
          have hk := hD (true, r) (seen_tail e)
          rw [e] at last
          cases hd with
          | row w ls t =>
            obtain rfl : t = some r := e
            refine wp_set (wp_idx ?_)
            simp only [Hd.rest, optI]
            repeat walk_at "wk"
            refine ⟨_, rfl, ?_⟩
            repeat walk_at "wk"
            refine ⟨_, _, rfl, hk, ?_⟩
            refine th_nx ?_
            exact last (some (ψ r)) rfl
          | _ => cases e
theorem tmoved3 {PL PR : Int → Prop} {φ ψ : Int → Int} {Ls Rs : List PyData} : ∀ (n : Nat) {h : Nat} {t : Tm} {S : List MO}, TOk PL PR false h t → h < n → (∀ k, (false, k) ∈ t.seen → atI Ls k = some (.int (φ k))) → (∀ k, (true, k) ∈ t.seen → atI Rs k = some (.int (ψ k))) →
    f3_tmoved n [.d t.enc, .d (.list Ls), .d (.list Rs)] S = some (.d (t.mp φ ψ).enc, S)
  | 0, _, _, _, _, hn, _, _ => absurd hn (by omega)
  | n + 1, h, t, S, o, hn, hL, hR => by
    refine eq_of ?_
    unfold f3_tmoved
    cases t with
    | letter k =>
      have hk := hL k (by rw [Tm.seen]; exact List.mem_singleton_self _)
      rw [Tm.mp, Tm.enc, Tm.enc]
      walk_at "fdef"
      repeat walk_at "wk"
      refine wp_ixd hk ?_
      repeat walk_at "wk"
      exact ⟨rfl, rfl⟩
    | node hd ps =>
      obtain ⟨hf, ht, hp⟩ := o.top
      rw [Tm.enc_mp, Tm.enc_node]
      have h5 := Hd.fits_len hf
      have htp : ∀ S, f3_tparts [.d (hd.build (ps.map Tm.enc))] S = some (.d (.list (ps.map Tm.enc)), S) := fun S => tparts3 (by rw [List.length_map]; exact hf)
      have hrb : ∀ S u, f3_trebuilt [.d (hd.build (ps.map Tm.enc)), .d (.list (ps.map fun p => (p.mp φ ψ).enc)), .d (optI u)] S = some (.d ((hd.setTail u).build (ps.map fun p => (p.mp φ ψ).enc)), S) := fun S u => trebuilt3 (by rw [List.length_map]; exact hf) (by rw [List.length_map, List.length_map])
      have last : ∀ u, u = hd.tail.map ψ → Wp (sRt (eCall f3_trebuilt (aCons (eVar 0) (aCons (eNd (nLc [4] (iSq (eCall f3_tparts (aCons (eVar 0) aNil))) (gNm 4) tYes3 (eCall (f3_tmoved n) (aCons (eVar 4) (aCons (eVar 1) (aCons (eVar 2) aNil)))))) (aCons (eVar 3) aNil)))) [some (.d (hd.build (ps.map Tm.enc))), some (.d (.list Ls)), some (.d (.list Rs)), some (.d (optI u)), none] S)
          (retQ false S fun a c => a = .d ((hd.setTail (hd.tail.map ψ)).build (ps.map fun p => (p.mp φ ψ).enc)) ∧ c = S) := fun u hu => by
        subst hu
        repeat walk_at "wk"
        refine wp2_eq (htp _) ?_
        repeat walk_at "wk"
        refine ⟨by rw [List.length_map, List.length_map]; omega, ?_⟩
        refine wp_all (xs := ps) (w := fun p => .d p.enc) (v := fun p => (p.mp φ ψ).enc) (by dsimp only; rw [List.map_map]; rfl) rfl (fun p hpm => ?_) ?_ gnm_st
        · obtain ⟨h0, op⟩ := hp p hpm
          repeat walk_at "wk"
          refine wp2_eq (tmoved3 n op (by omega) (fun k hx => hL k (seen_sub hpm hx)) fun k hx => hR k (seen_sub hpm hx)) ?_
          exact ⟨rfl, rfl⟩
        · repeat walk_at "wk"
          refine wp2_eq (hrb _ _) ?_
          repeat walk_at "wk"
          exact ⟨rfl, rfl⟩
      walk_at "fdef"
      repeat walk_at "w1"
      unfold Hd.build
      repeat walk_at "w1"
      refine ite_f (word_letter hf) ?_
      refine wp_nx (th_nx (wp_seq (wp_set (wp_d (th_nx (wp_seq (wp_sif ?_)))))))
      refine wp_tailed (b := false) (hd := hd) (ps := ps.map Tm.enc) (n := ps.length) rfl (fun Q q => ?_) fun c hc => ?_
      · repeat walk_at "wk"
        exact wp_gin_lit (word_in2 hf) q
      · subst hc
        cases e : hd.tail with
        | none =>
          refine ite_f rfl ?_
          refine wp_nx (th_nx ?_)
          rw [e] at last
          exact last none rfl
        | some r =>
          refine ite_t rfl ?_
          have hk := hR r (seen_tail e)
          rw [e] at last
          cases hd with
          | row w ls t =>
            obtain rfl : t = some r := e
            refine wp_set (wp_op ?_)
            simp only [Hd.rest, optI]
            repeat walk_at "wk"
            refine wp_ixd hk ?_
            refine th_nx ?_
            exact last (some (ψ r)) rfl
          | _ => cases e
end EA
namespace EA
open PySem PySem.Spec PyProof.Rows L2
local macro_rules | `(tactic| walk_at "ix") => `(tactic| first | rfl | exact atI_cons0 | exact atI_map0)
local macro_rules | `(tactic| walk_at "st") => `(tactic| first | assumption | rfl | exact get_set (by assumption) | exact get_set (get_set (by assumption)) | exact get_last | exact get_setlast | exact get_setapp (by assumption) | exact get_app (by assumption) | exact get_app (get_set (by assumption)))
local macro_rules | `(tactic| walk_at "tk") => `(tactic| first | exact List.take_length | exact take_set | exact take_set2 | exact take_set3 | exact take_app | exact take_aset | exact take_setapp | rfl)
local macro_rules | `(tactic| walk_at "sd") => `(tactic| first | omega | assumption | decide)
local macro_rules | `(tactic| walk_at "wpx") => `(tactic| first
  | with_reducible refine ite2 (fun _ => ?_) (fun z => absurd rfl z)
  | with_reducible refine ite2 (fun z => absurd z Bool.false_ne_true) (fun _ => ?_)
  | ((with_reducible refine gate_wp ?_); (first
    | ((with_reducible apply wp_viewr); (walk_at "st")) | ((with_reducible apply wp_lat); (walk_at "st"))
    | ((with_reducible refine gate_eq ?_); (first | with_reducible refine wp_geqs ?_ | with_reducible refine wp_geqb ?_ | with_reducible refine wp_geq_nil ?_))
    | ((with_reducible refine gate_ne ?_); (first | with_reducible refine wp_gnes ?_ | with_reducible refine wp_gneb ?_ | with_reducible refine wp_gne_nil ?_))
    | ((with_reducible refine gate_ix ?_); (first | ((with_reducible apply wp_ixd); (walk_at "ix")) | ((with_reducible apply wp_ixt); (walk_at "ix")) | ((with_reducible apply wp_ixr); (walk_at "st"); (walk_at "ix"))))
    | ((with_reducible apply wp_trur); (walk_at "st"))
    | ((with_reducible refine wp_l4s ?_ ?_); (first | omega | assumption | decide +kernel)) | with_reducible refine wp_l4 ?_ | ((with_reducible apply wp_l3r); (walk_at "st"))
    | ((with_reducible refine wp_mod ?_ ?_); (walk_at "sd")) | ((with_reducible refine wp_fdiv ?_ ?_); (walk_at "sd")) | ((with_reducible refine wp_mulr ?_ ?_); (walk_at "sd")) | ((with_reducible refine wp_mull ?_ ?_); (walk_at "sd")) | ((with_reducible refine wp_pow ?_ ?_); (walk_at "sd"))
    | ((with_reducible apply wp_lenr); (walk_at "st"))
    | ((with_reducible refine wp_gis ?_ ?_); rfl) | ((with_reducible refine wp_gisn ?_ ?_); rfl)
    | ((with_reducible refine gate_isi ?_); (first | ((with_reducible refine isi_t (r := true) ?_ ?_); (decide +kernel)) | ((with_reducible refine isi_t (r := false) ?_ ?_); (decide +kernel)) | ((with_reducible refine isi_b (r := true) ?_ ?_); (decide +kernel)) | ((with_reducible refine isi_b (r := false) ?_ ?_); (decide +kernel)) | ((with_reducible refine isi_i (r := true) ?_ ?_); (decide +kernel)) | ((with_reducible refine isi_i (r := false) ?_ ?_); (decide +kernel)) | ((with_reducible refine isi_s (r := true) ?_ ?_); (decide +kernel)) | ((with_reducible refine isi_s (r := false) ?_ ?_); (decide +kernel)) | ((with_reducible refine isi_l (r := true) ?_ ?_); (decide +kernel)) | ((with_reducible refine isi_l (r := false) ?_ ?_); (decide +kernel)) | ((with_reducible refine isi_n (r := true) ?_ ?_); (decide +kernel)) | ((with_reducible refine isi_n (r := false) ?_ ?_); (decide +kernel))))
    | ((with_reducible apply wp_tupr); (walk_at "st"))))
  | ((with_reducible refine gate_rq ?_); (first | ((with_reducible apply rq_dt); (walk_at "tk")) | ((with_reducible apply rq_nxt); (walk_at "tk"))))
  | ((with_reducible apply fz_r); (walk_at "st")) | ((with_reducible apply sq_r); (walk_at "st"))
  | ((with_reducible apply atSet_i); (walk_at "st"); rfl) | ((with_reducible apply atLst_i); (walk_at "st")) | ((with_reducible apply nowLst_i); (walk_at "st"))
  | ((with_reducible refine rng1_i ?_ ?_); (walk_at "sd")) | ((with_reducible refine rng2_i ?_ ?_); (walk_at "sd")))
local macro_rules | `(tactic| walk_at "wp") => `(tactic| first
  | with_reducible refine step_of ?_ | ((with_reducible apply wp_var); rfl) | walk_at "wpx")
local macro_rules | `(tactic| walk_at "fdef") => `(tactic| (refine wp_fdef rfl ?_; simp only [List.map_cons, List.map_nil, List.replicate_succ, List.replicate_zero, List.cons_append, List.nil_append]))
local macro_rules | `(tactic| walk_at "keq") => `(tactic| first
  | refine wp_geqD (c := false) (.inr (by decide +kernel)) rfl ?_ | refine wp_geqD (c := true) (.inr (by decide +kernel)) rfl ?_)
local macro_rules | `(tactic| walk_at "wk") => `(tactic| first
  | with_reducible refine step_of ?_ | ((with_reducible apply wp_var); rfl)
  | ((with_reducible refine gate_wp ?_); (first
    | with_reducible refine wp_geqsD (c := false) (by decide +kernel) ?_ | with_reducible refine wp_geqsD (c := true) (by decide +kernel) ?_
    | with_reducible refine wp_gnesD (c := false) (by decide +kernel) ?_ | with_reducible refine wp_gnesD (c := true) (by decide +kernel) ?_
    | with_reducible refine wp_gin_lit (c := true) (by decide +kernel) ?_ | with_reducible refine wp_gin_lit (c := false) (by decide +kernel) ?_))
  | with_reducible refine ite_t rfl ?_ | with_reducible refine ite_f rfl ?_
  | walk_at "wpx")
local macro_rules | `(tactic| walk_at "w1") => `(tactic| (fail_if_success (with_reducible refine th_nx ?_)); walk_at "wk")
noncomputable def f3_scheme_of : F3 := fdef false 2 5
  (sSeq (sSet 2 (eDC [3, 4] (iEnT (aCons (eCall f3_letters_in (aCons (eVar 0) aNil)) aNil)) (gTp (gsCons (gNm 3) (gsCons (gNm 4) gsNil))) tYes3 (eVar 4) (eVar 3)))
  (sSeq (sSet 5 (eCall f3_lacked_labels (aCons (eVar 0) (aCons (eVar 1) aNil))))
  (sSeq (sSet 6 (eNd (nLc [4] (iSq (eCall f3_row_letters_in (aCons (eVar 0) aNil))) (gNm 4) tYes3 (eTup (aCons (eDG (eVar 2) (eVar 4)) (aCons (eDG (eVar 5) (eVar 4)) aNil))))))
  (sRt (eTup (aCons (eCall (f3_renumbered 60) (aCons (eVar 0) (aCons (eVar 2) aNil))) (aCons (eB gTupOf (aCons (eVar 6) aNil)) aNil)))))))
noncomputable def f3_tscheme : F3 := fdef false 2 3
  (sSeq (sSet 2 (eCall f3_tonce (aCons (eCall (f3_tseen 60) (aCons (eVar 0) aNil)) aNil)))
  (sSeq (sSet 3 (eNo (nLst aNil)))
  (sSeq (sFor (iR1 (aCons (eB gLen (aCons (eVar 2) aNil)) aNil)) (gNm 4)
  (sIf (tCmp gEq (eOp gIx (eOp gIx (eVar 2) (eVar 4)) (eD (.int (0)))) (eD (.int (1))))
  (sEx (eM mApp (eVar 3) (aCons (eTup (aCons (eVar 4) (aCons (eB gTupOf (aCons (eNd (nB gSorted (aCons (eCall f3_tonce (aCons (eOp gIx (eVar 1) (eOp gIx (eOp gIx (eVar 2) (eVar 4)) (eD (.int (1))))) aNil)) aNil))) aNil)) aNil))) aNil)))
  sNx))
  (sRt (eTup (aCons (eCall (f3_tranked 60) (aCons (eVar 0) (aCons (eVar 2) aNil))) (aCons (eB gTupOf (aCons (eVar 3) aNil)) aNil)))))))
/-! ### schemes -/
section
variable {α : Type} [DecidableEq α]
def rk (L : List α) (x : α) : Nat := L.findIdx fun y => decide (y = x)
theorem rk_at {L : List α} (nd : L.Nodup) {j : Nat} {x : α} (h : L[j]? = some x) : rk L x = j := by
  obtain ⟨hj, e⟩ := List.getElem?_eq_some_iff.mp h
  unfold rk
  rw [List.findIdx_eq hj]
  refine ⟨decide_eq_true e, fun k hk => decide_eq_false fun z => ?_⟩
  have := nodup_at nd (List.getElem?_eq_some_iff.mpr ⟨by omega, z⟩) h
  omega
theorem rk_lt {L : List α} {x : α} (h : x ∈ L) : L[rk L x]? = some x := by
  have hl : rk L x < L.length := List.findIdx_lt_length_of_exists ⟨x, h, decide_eq_true rfl⟩
  rw [List.getElem?_eq_getElem hl]
  exact congrArg some (of_decide_eq_true (List.findIdx_getElem (w := hl)))
theorem rk_map {β : Type} [DecidableEq β] {f : α → β} {L : List α} {x : α} (nd : L.Nodup) (hx : x ∈ L) (inj : ∀ a ∈ L, ∀ b ∈ L, f a = f b → a = b) : rk (L.map f) (f x) = rk L x := by
  refine rk_at ?_ (by rw [List.getElem?_map, rk_lt hx]; rfl)
  refine List.pairwise_map.mpr (nd.imp_of_mem fun {a b} ha hb ne e => ne (inj a ha b hb e))
end
theorem lay_qP : ∀ L : List (Bool × Int), PyData.canLayAll0 (L.map qP) = true
  | [] => rfl
  | a :: L => by
    show (_ && PyData.canLayAll0 (L.map qP)) = true
    rw [lay_qP L]; rfl
theorem dep_qPs : ∀ L : List (Bool × Int), PyData.depthAll (L.map qP) ≤ 40
  | [] => by show PyData.depthAll [] ≤ 40; decide
  | a :: L => by
    have h1 := depth_qP a
    have h2 := dep_qPs L
    rw [List.map_cons]
    simp only [PyData.depthAll]
    omega
theorem idx_qP {L : List (Bool × Int)} (nd : L.Nodup) {p : Bool × Int} (h : p ∈ L) : gIdx (L.map qP) (qP p) = some ((rk L p : Nat) : Int) := by
  unfold gIdx
  have s1 : SeqAt.shaped (.list (L.map qP)) = true := by
    show (PyData.canLayAll0 (L.map qP) && decide (PyData.depthAll (L.map qP) + 1 ≤ 64)) = true
    rw [lay_qP, decide_eq_true (by have := dep_qPs L; omega)]; rfl
  have s2 : SeqAt.shaped (qP p) = true := by
    show (_ && decide ((qP p).depth ≤ 64)) = true
    rw [decide_eq_true (by have := depth_qP p; omega)]; rfl
  rw [if_pos ⟨s1, s2⟩]
  have hr := rk_lt h
  obtain ⟨hl, hv⟩ := List.getElem?_eq_some_iff.mp hr
  have : (L.map qP).findIdx? (fun z => PyData.eqv z (qP p)) = some (rk L p) := by
    refine List.findIdx?_eq_some_iff_getElem.mpr ⟨by rw [List.length_map]; exact hl, ?_, fun j hj => ?_⟩
    · rw [List.getElem_map, hv, eqv_qP]; exact decide_eq_true rfl
    · rw [List.getElem_map, eqv_qP]
      intro z
      have z := of_decide_eq_true z
      have := nodup_at nd (List.getElem?_eq_some_iff.mpr ⟨by omega, z⟩) hr
      omega
  rw [this]; rfl
abbrev rkA (t : Tm) (k : Int) : Int := ((rk (onceL t.seen) (false, k) : Nat) : Int)
abbrev rkR (t : Tm) (k : Int) : Int := ((rk (onceL t.seen) (true, k) : Nat) : Int)
/-- the scheme of t, X r beside r -/
def schD (t : Tm) (X : Int → List Str) : PyData := .tuple [(t.mp (rkA t) (rkR t)).enc, .tuple (t.rows.map fun r => .tuple [.int (rkR t r), .tuple ((sset ltS (X r)).map .str)])]
theorem rows_ranks (t : Tm) : t.rows = ((onceL t.seen).filter (·.1)).map (·.2) := by
  unfold Tm.rows
  rw [onceL_map _ fun a ha b hb e => by
    have h1 := (List.mem_filter.mp ha).2
    have h2 := (List.mem_filter.mp hb).2
    exact Prod.ext (h1.trans h2.symm) e, onceL_filter]
theorem sorted_sset {S : List MO} {ks : List Str} {QL : List PyData → Prop} (nd : ks.Nodup) (q : QL ((sset ltS ks).map .str)) : Wp (gSorted S [.d (.list (ks.map .str))]) QL := wp_sort_strs nd fun ms pm pw => by
  rw [sset_of (l := ks) strictS (m := ms) (pw.imp fun h => decide_eq_true h) fun x => pm.mem_iff] at q
  exact q
theorem tscheme3 {PL PR : Int → Prop} {h : Nat} {t : Tm} {S : List MO} {lw : W3} {X : Int → List Str} (o : TOk PL PR false h t) (h5 : h ≤ 5) (hX : ∀ r, (true, r) ∈ t.seen → (∀ u : MO, gIx (S ++ [u]) lw (.d (.int r)) = some (.list ((X r).map .str))) ∧ (X r).length ≤ 90000) : f3_tscheme [.d t.enc, lw] S = some (.d (schD t X), S) := by
  refine eq_of ?_
  have hsl := o.seen_len
  have hp6 : 6 ^ h ≤ 6 ^ 5 := Nat.pow_le_pow_right (by decide) h5
  have hp5 : 6 ^ 5 = 7776 := by decide
  have hnd := onceL_nodup t.seen
  have hol := onceL_len t.seen
  unfold f3_tscheme
  walk_at "fdef"
  repeat walk_at "wk"
  refine wp2_eq (tseen3 60 o (by omega) h5) ?_
  repeat walk_at "wk"
  refine wp2_eq (tonce3 eqv_qP depth_qP (by omega)) ?_
  repeat walk_at "wk"
  refine rng1_i (by rw [List.length_map]; omega) ?_
  refine wp_loop (n := 0) (fun j sl S' => ∃ x, sl = [some (.d t.enc), some lw, some (.d (.list ((onceL t.seen).map qP))), some (.r S.length), x] ∧ S' = S ++ [.lst ((((onceL t.seen).take j).filter (·.1)).map fun p => .tuple [.int (rkR t p.2), .tuple ((sset ltS (X p.2)).map .str)])]) ⟨none, rfl, rfl⟩ (fun _ _ _ _ => rfl) (fun j w sl S' hw hj hq => ?_) (fun sl S' hq => ?_)
  · obtain ⟨x, rfl, rfl⟩ := hq
    obtain ⟨hj2, rfl⟩ := intsW_get hw
    rw [Nat.sub_zero, List.length_map, Int.toNat_natCast] at hj2
    obtain ⟨p, hpj⟩ : ∃ p, (onceL t.seen)[j]? = some p := ⟨_, List.getElem?_eq_getElem hj2⟩
    have hat : atI ((onceL t.seen).map qP) (j : Int) = some (qP p) := atI_at (by rw [List.getElem?_map, hpj]; rfl)
    rw [Nat.sub_zero, Int.zero_add, take_snocU hpj, List.filter_append]
    have hps : p ∈ t.seen := (onceL_mem _).mp (List.mem_of_getElem? hpj)
    obtain ⟨c, k⟩ := p
    repeat walk_at "wk"
    refine wp_ixd hat ?_
    cases c with
    | false =>
      unfold qP
      repeat walk_at "wk"
      refine ⟨_, rfl, ?_⟩
      rw [List.filter_cons_of_neg (by exact Bool.false_ne_true), List.filter_nil, List.append_nil]
    | true =>
      obtain ⟨hk, hkl⟩ := hX k hps
      have hrk : rkR t k = (j : Int) := congrArg Int.ofNat (rk_at hnd hpj)
      unfold qP at hat ⊢
      repeat walk_at "wk"
      refine wp_ixd hat ?_
      repeat walk_at "wk"
      refine wp_eq (hk _) ?_
      repeat walk_at "wk"
      refine wp2_eq (tonce3 eqv_str dep_str hkl) ?_
      repeat walk_at "wk"
      refine sorted_sset (onceL_nodup _) ?_
      repeat walk_at "wk"
      refine wp_app (by
        rw [List.length_map]
        refine Nat.le_trans (List.length_filter_le _ _) ?_
        rw [List.length_take]; omega) ?_
      repeat walk_at "wk"
      refine ⟨_, rfl, ?_⟩
      rw [set_last, List.filter_cons_of_pos rfl, List.filter_nil, List.map_append, List.map_singleton, hrk, sset_congr (l := onceL (X k)) (m := X k) fun x => onceL_mem _]
  · obtain ⟨x, rfl, rfl⟩ := hq
    rw [intsW_len, List.length_map, Nat.zero_add, Int.toNat_natCast, List.take_length]
    repeat walk_at "wk"
    refine wp2_eq (tranked3 (φ := rkA t) (ψ := rkR t) 60 o (by omega) fun p hp => ?_) ?_
    · rw [idx_qP hnd ((onceL_mem _).mpr hp)]
      obtain ⟨c, k⟩ := p
      cases c <;> rfl
    · repeat walk_at "wk"
      refine ⟨?_, rfl⟩
      unfold schD
      rw [rows_ranks, List.map_map]; rfl
/-! ### of the program -/
def ixI (L : List Int) (n : Nat) : List (Key × PyData) := (List.range n).map fun j => (.inl (L.getD j 0), .int (j : Nat))
theorem ixI_keys {L : List Int} {n : Nat} (h : n ≤ L.length) : (ixI L n).map (·.1) = (L.take n).map Sum.inl := by
  unfold ixI
  rw [List.map_map]
  apply List.ext_getElem
  · rw [List.length_map, List.length_map, List.length_range, List.length_take]; omega
  · intro j h1 h2
    rw [List.length_map, List.length_range] at h1
    rw [List.getElem_map, List.getElem_map, List.getElem_range, List.getElem_take]
    show Sum.inl (L.getD j 0) = _
    rw [List.getD_eq_getElem?_getD, List.getElem?_eq_getElem (by omega)]; rfl
theorem ixI_snoc {L : List Int} {n : Nat} : ixI L (n + 1) = ixI L n ++ [(.inl (L.getD n 0), .int (n : Nat))] := by unfold ixI; rw [List.range_succ, List.map_append]; rfl
theorem ixI_fresh {L : List Int} (nd : L.Nodup) {n : Nat} {x : Int} (h : L[n]? = some x) : Sum.inl x ∉ (ixI L n).map (·.1) := by
  have hl := (List.getElem?_eq_some_iff.mp h).1
  rw [ixI_keys (by omega)]
  intro z
  obtain ⟨y, hy, e⟩ := List.mem_map.mp z
  cases Sum.inl.inj e
  obtain ⟨k, hk, e2⟩ := List.getElem_of_mem hy
  rw [List.length_take] at hk
  rw [List.getElem_take] at e2
  have := nodup_at nd (List.getElem?_eq_some_iff.mpr ⟨by omega, e2⟩) h
  omega
theorem ixI_at {L : List Int} (nd : L.Nodup) {j : Nat} {x : Int} (h : L[j]? = some x) : ∀ n, j < n → n ≤ L.length → valD (ixI L n) (.inl x) = some (.int (j : Nat))
  | 0, h0, _ => absurd h0 (by omega)
  | n + 1, h0, h1 => by
    rw [ixI_snoc, vd_app]
    by_cases z : j = n
    · subst z
      rw [vd_none (ixI_fresh nd h), Option.none_or, vd_cons, if_pos (by rw [List.getD_eq_getElem?_getD, h]; rfl)]
    · rw [ixI_at nd h n (by omega) (by omega)]; rfl
theorem scheme_of3 {PL PR : Int → Prop} {h : Nat} {t : Tm} {S : List MO} {w : W3} {tl : Int → List Str} (o : TOk PL PR false h t) (h4 : h ≤ 4) (hw : Told S w t.rows tl) (hl : ∀ r, (tl r).length ≤ 100) :
    f3_scheme_of [.d t.enc, w] S = some (.d (.tuple [(t.mp (fun k => ((rk t.nums k : Nat) : Int)) fun k => ((rk t.nums k : Nat) : Int)).enc, .tuple (t.rows.map fun r => .tuple [.int ((rk t.nums r : Nat) : Int), .tuple ((sset ltS (t.bes r ++ tl r)).map .str)])]), S) := by
  refine eq_of ?_
  have hsl := o.seen_len
  have hp : 6 ^ h ≤ 6 ^ 4 := Nat.pow_le_pow_right (by decide) h4
  have hp5 : 6 ^ 4 = 1296 := by decide
  have hnd : t.nums.Nodup := onceL_nodup _
  have hnl : t.nums.length ≤ 1296 := Nat.le_trans (onceL_len _) (by rw [List.length_map]; omega)
  have hrow : t.rows.length ≤ 1296 := Nat.le_trans (onceL_len _) (by
    rw [List.length_map]
    exact Nat.le_trans (List.length_filter_le _ _) (by omega))
  have hmem : ∀ p ∈ t.seen, p.2 ∈ t.nums := fun p hp => (onceL_mem _).mpr (List.mem_map_of_mem (f := (·.2)) hp)
  have hval : ∀ p ∈ t.seen, valD (ixI t.nums t.nums.length) (.inl p.2) = some (.int ((rk t.nums p.2 : Nat) : Int)) := fun p hp => by
    have h1 := rk_lt (hmem p hp)
    exact ixI_at hnd h1 _ (List.getElem?_eq_some_iff.mp h1).1 (Nat.le_refl _)
  have htold : ∀ o2 : MO, Told (S ++ [o2]) w t.rows tl := fun o2 => by
    rcases hw with h | ⟨i, D, h1, h2, h3⟩
    · exact .inl h
    · exact .inr ⟨i, D, h1, get_app h2, h3⟩
  unfold f3_scheme_of
  walk_at "fdef"
  repeat walk_at "wk"
  refine wp_dc (wp_enT ?_)
  repeat walk_at "wk"
  refine wp2_eq (letters_in3 o (by omega)) ?_
  repeat walk_at "wk"
  refine ⟨_, rfl, ?_⟩
  refine ⟨by dsimp only; unfold enumD; rw [List.length_map, List.length_map, List.length_range, List.length_map]; omega, ?_⟩
  refine wp_dloop (n := 0) (fun i acc S' => acc = ixI t.nums i ∧ S = S') ⟨rfl, rfl⟩ (fun _ _ _ _ => rfl) (fun i w2 acc S' hw2 hi hq => ?_) (fun kvs S' hq => ?_)
  · obtain ⟨rfl, rfl⟩ := hq
    obtain ⟨d, hd2, rfl⟩ := ws_get hw2
    rw [Nat.sub_zero] at hd2
    have hil : i < t.nums.length := by
      have := (List.getElem?_eq_some_iff.mp hd2).1
      unfold enumD at this
      rw [List.length_map, List.length_range, List.length_map] at this
      exact this
    have hat := List.getElem?_eq_getElem hil
    rw [enumD_at (x := .int t.nums[i]) (by rw [List.getElem?_map, hat]; rfl)] at hd2
    cases hd2
    repeat walk_at "wk"
    refine ⟨_, _, rfl, rfl, ?_⟩
    repeat walk_at "wk"
    refine ⟨_, rfl, ?_, rfl⟩
    rw [putD_fresh (ixI_fresh hnd hat), ixI_snoc, List.getD_eq_getElem?_getD, hat]; rfl
  · obtain ⟨rfl, rfl⟩ := hq
    rw [Nat.zero_add, List.length_map, show (enumD (t.nums.map PyData.int)).length = t.nums.length by unfold enumD; rw [List.length_map, List.length_range, List.length_map]]
    repeat walk_at "wk"
    refine wp2_eq (lacked_labels3 o h4 (htold _) hl) ?_
    repeat walk_at "wk"
    refine wp2_eq (row_letters_in3 o (by omega)) ?_
    repeat walk_at "wk"
    refine ⟨by rw [List.length_map, List.length_map]; omega, ?_⟩
    refine wp_all (xs := t.rows) (w := fun r => .d (.int r)) (v := fun r => .tuple [.int ((rk t.nums r : Nat) : Int), .tuple ((sset ltS (t.bes r ++ tl r)).map .str)]) (by dsimp only; rw [List.map_map]; rfl) rfl (fun r hr => ?_) ?_ gnm_st
    · have hg : (S ++ [MO.dic (ixI t.nums t.nums.length)] ++ [MO.dic (lackD t tl)])[S.length]? = some (.dic (ixI t.nums t.nums.length)) := get_app get_last
      repeat walk_at "wk"
      refine wp_dgx ?_
      repeat walk_at "wk"
      refine ⟨_, .inl r, _, _, rfl, rfl, r_dicAt hg, hval _ (Tm.rows_mem.mp hr), ?_⟩
      repeat walk_at "wk"
      refine wp_dgx ?_
      repeat walk_at "wk"
      refine ⟨_, .inl r, _, _, rfl, rfl, r_dicAt get_last, vd_mapI (β := Int) hr, ?_⟩
      repeat walk_at "wk"
      exact ⟨rfl, rfl⟩
    · have hg : (S ++ [MO.dic (ixI t.nums t.nums.length)] ++ [MO.dic (lackD t tl)])[S.length]? = some (.dic (ixI t.nums t.nums.length)) := get_app get_last
      repeat walk_at "wk"
      refine wp2_eq (renumbered3 (φ := fun k => ((rk t.nums k : Nat) : Int)) (ψ := fun k => ((rk t.nums k : Nat) : Int)) 60 o (by omega) hg fun p hp => ?_) ?_
      · rw [hval p hp]
        obtain ⟨c, k⟩ := p
        cases c <;> rfl
      · repeat walk_at "wk"
        exact ⟨rfl, by rw [List.append_assoc]; exact take_app⟩
/-! ### the same scheme for other numbers -/
theorem sch_moved {t : Tm} {φ ψ : Int → Int} (inj : ∀ p ∈ t.seen, ∀ q ∈ t.seen, (mvP φ ψ p).2 = (mvP φ ψ q).2 → p = q) {tl X : Int → List Str} (hX : ∀ r ∈ t.rows, ∀ s, s ∈ t.bes r ++ tl (ψ r) ↔ s ∈ X r) :
    PyData.tuple [((t.mp φ ψ).mp (fun k => ((rk (t.mp φ ψ).nums k : Nat) : Int)) fun k => ((rk (t.mp φ ψ).nums k : Nat) : Int)).enc, .tuple ((t.mp φ ψ).rows.map fun r => .tuple [.int ((rk (t.mp φ ψ).nums r : Nat) : Int), .tuple ((sset ltS ((t.mp φ ψ).bes r ++ tl r)).map .str)])] = schD t X := by
  have hn : (t.mp φ ψ).nums = (onceL t.seen).map fun p => (mvP φ ψ p).2 := by
    unfold Tm.nums
    rw [Tm.seen_mp, List.map_map]
    exact onceL_map (f := fun p => (mvP φ ψ p).2) _ inj
  have inj2 : ∀ p ∈ onceL t.seen, ∀ q ∈ onceL t.seen, (mvP φ ψ p).2 = (mvP φ ψ q).2 → p = q := fun p hp q hq => inj p ((onceL_mem _).mp hp) q ((onceL_mem _).mp hq)
  have hrk : ∀ p ∈ t.seen, rk (t.mp φ ψ).nums (mvP φ ψ p).2 = rk (onceL t.seen) p := fun p hp => by
    rw [hn]
    exact rk_map (f := fun p => (mvP φ ψ p).2) (onceL_nodup _) ((onceL_mem _).mpr hp) inj2
  have hrows : (t.mp φ ψ).rows = t.rows.map ψ := by
    unfold Tm.rows
    rw [Tm.seen_mp, List.filter_map, List.map_map]
    have e1 : t.seen.filter ((fun x : Bool × Int => x.1) ∘ mvP φ ψ) = t.seen.filter (·.1) := List.filter_congr fun p _ => rfl
    rw [e1, ← onceL_map (f := ψ) _ fun a ha b hb e => ?_, List.map_map]
    · congr 1
      refine List.map_congr_left fun p hp => ?_
      have := (List.mem_filter.mp hp).2
      show (if p.1 = true then ψ p.2 else φ p.2) = ψ p.2
      rw [if_pos this]
    · obtain ⟨⟨c, k⟩, h1, rfl⟩ := List.mem_map.mp ha
      obtain ⟨⟨d, l⟩, h2, rfl⟩ := List.mem_map.mp hb
      obtain ⟨h3, h4⟩ := List.mem_filter.mp h1
      obtain ⟨h5, h6⟩ := List.mem_filter.mp h2
      dsimp only at h4 h6
      subst h4 h6
      exact congrArg Prod.snd (inj _ h3 _ h5 e)
  have hin : ∀ r ∈ t.rows, (true, r) ∈ t.seen := fun r hr => Tm.rows_mem.mp hr
  unfold schD
  rw [hrows, List.map_map, Tm.mp_mp]
  congr 2
  · congr 1
    refine Tm.mp_congr t fun p hp => ?_
    obtain ⟨c, k⟩ := p
    have := hrk _ hp
    cases c with
    | true => exact Prod.ext rfl (congrArg Int.ofNat this)
    | false => exact Prod.ext rfl (congrArg Int.ofNat this)
  · congr 2
    refine List.map_congr_left fun r hr => ?_
    have h1 := hrk _ (hin r hr)
    show PyData.tuple [.int ((rk (t.mp φ ψ).nums (ψ r) : Nat) : Int), .tuple ((sset ltS ((t.mp φ ψ).bes (ψ r) ++ tl (ψ r))).map .str)] = _
    have h2 : (t.mp φ ψ).bes (ψ r) = t.bes r := Tm.bes_mp t fun q hq e => congrArg Prod.snd (inj _ hq _ (hin r hr) e)
    rw [h2, sset_congr (hX r hr)]
    rw [show rk (t.mp φ ψ).nums (ψ r) = rk (onceL t.seen) (true, r) from h1]
end EA
namespace EA
open PySem PySem.Spec PyProof.Rows L2
local macro_rules | `(tactic| walk_at "ix") => `(tactic| first | rfl | exact atI_cons0 | exact atI_map0)
local macro_rules | `(tactic| walk_at "st") => `(tactic| first | assumption | rfl | exact get_set (by assumption) | exact get_set (get_set (by assumption)) | exact get_last | exact get_setlast | exact get_setapp (by assumption) | exact get_app (by assumption) | exact get_app (get_set (by assumption)))
local macro_rules | `(tactic| walk_at "tk") => `(tactic| first | exact List.take_length | exact take_set | exact take_set2 | exact take_set3 | exact take_app | exact take_aset | exact take_setapp | rfl)
local macro_rules | `(tactic| walk_at "sd") => `(tactic| first | omega | assumption | decide)
local macro_rules | `(tactic| walk_at "wpx") => `(tactic| first
  | with_reducible refine ite2 (fun _ => ?_) (fun z => absurd rfl z)
  | with_reducible refine ite2 (fun z => absurd z Bool.false_ne_true) (fun _ => ?_)
  | ((with_reducible refine gate_wp ?_); (first
    | ((with_reducible apply wp_viewr); (walk_at "st")) | ((with_reducible apply wp_lat); (walk_at "st"))
    | ((with_reducible refine gate_eq ?_); (first | with_reducible refine wp_geqs ?_ | with_reducible refine wp_geqb ?_ | with_reducible refine wp_geq_nil ?_))
    | ((with_reducible refine gate_ne ?_); (first | with_reducible refine wp_gnes ?_ | with_reducible refine wp_gneb ?_ | with_reducible refine wp_gne_nil ?_))
    | ((with_reducible refine gate_ix ?_); (first | ((with_reducible apply wp_ixd); (walk_at "ix")) | ((with_reducible apply wp_ixt); (walk_at "ix")) | ((with_reducible apply wp_ixr); (walk_at "st"); (walk_at "ix"))))
    | ((with_reducible apply wp_trur); (walk_at "st"))
    | ((with_reducible refine wp_l4s ?_ ?_); (first | omega | assumption | decide +kernel)) | with_reducible refine wp_l4 ?_ | ((with_reducible apply wp_l3r); (walk_at "st"))
    | ((with_reducible refine wp_mod ?_ ?_); (walk_at "sd")) | ((with_reducible refine wp_fdiv ?_ ?_); (walk_at "sd")) | ((with_reducible refine wp_mulr ?_ ?_); (walk_at "sd")) | ((with_reducible refine wp_mull ?_ ?_); (walk_at "sd")) | ((with_reducible refine wp_pow ?_ ?_); (walk_at "sd"))
    | ((with_reducible apply wp_lenr); (walk_at "st"))
    | ((with_reducible refine wp_gis ?_ ?_); rfl) | ((with_reducible refine wp_gisn ?_ ?_); rfl)
    | ((with_reducible refine gate_isi ?_); (first | ((with_reducible refine isi_t (r := true) ?_ ?_); (decide +kernel)) | ((with_reducible refine isi_t (r := false) ?_ ?_); (decide +kernel)) | ((with_reducible refine isi_b (r := true) ?_ ?_); (decide +kernel)) | ((with_reducible refine isi_b (r := false) ?_ ?_); (decide +kernel)) | ((with_reducible refine isi_i (r := true) ?_ ?_); (decide +kernel)) | ((with_reducible refine isi_i (r := false) ?_ ?_); (decide +kernel)) | ((with_reducible refine isi_s (r := true) ?_ ?_); (decide +kernel)) | ((with_reducible refine isi_s (r := false) ?_ ?_); (decide +kernel)) | ((with_reducible refine isi_l (r := true) ?_ ?_); (decide +kernel)) | ((with_reducible refine isi_l (r := false) ?_ ?_); (decide +kernel)) | ((with_reducible refine isi_n (r := true) ?_ ?_); (decide +kernel)) | ((with_reducible refine isi_n (r := false) ?_ ?_); (decide +kernel))))
    | ((with_reducible apply wp_tupr); (walk_at "st"))))
  | ((with_reducible refine gate_rq ?_); (first | ((with_reducible apply rq_dt); (walk_at "tk")) | ((with_reducible apply rq_nxt); (walk_at "tk"))))
  | ((with_reducible apply fz_r); (walk_at "st")) | ((with_reducible apply sq_r); (walk_at "st"))
  | ((with_reducible apply atSet_i); (walk_at "st"); rfl) | ((with_reducible apply atLst_i); (walk_at "st")) | ((with_reducible apply nowLst_i); (walk_at "st"))
  | ((with_reducible refine rng1_i ?_ ?_); (walk_at "sd")) | ((with_reducible refine rng2_i ?_ ?_); (walk_at "sd")))
local macro_rules | `(tactic| walk_at "wp") => `(tactic| first
  | with_reducible refine step_of ?_ | ((with_reducible apply wp_var); rfl) | walk_at "wpx")
local macro_rules | `(tactic| walk_at "fdef") => `(tactic| (refine wp_fdef rfl ?_; simp only [List.map_cons, List.map_nil, List.replicate_succ, List.replicate_zero, List.cons_append, List.nil_append]))
local macro_rules | `(tactic| walk_at "keq") => `(tactic| first
  | refine wp_geqD (c := false) (.inr (by decide +kernel)) rfl ?_ | refine wp_geqD (c := true) (.inr (by decide +kernel)) rfl ?_)
local macro_rules | `(tactic| walk_at "wk") => `(tactic| first
  | with_reducible refine step_of ?_ | ((with_reducible apply wp_var); rfl)
  | ((with_reducible refine gate_wp ?_); (first
    | with_reducible refine wp_geqsD (c := false) (by decide +kernel) ?_ | with_reducible refine wp_geqsD (c := true) (by decide +kernel) ?_
    | with_reducible refine wp_gnesD (c := false) (by decide +kernel) ?_ | with_reducible refine wp_gnesD (c := true) (by decide +kernel) ?_
    | with_reducible refine wp_gin_lit (c := true) (by decide +kernel) ?_ | with_reducible refine wp_gin_lit (c := false) (by decide +kernel) ?_))
  | with_reducible refine ite_t rfl ?_ | with_reducible refine ite_f rfl ?_
  | walk_at "wpx")
local macro_rules | `(tactic| walk_at "w1") => `(tactic| (fail_if_success (with_reducible refine th_nx ?_)); walk_at "wk")
noncomputable def f3_same : Nat → F3
  | 0 => fun _ _ => none
  | n + 1 => fdef false 2 1
      (sSeq (sIf (tTr (eB gIsi (aCons (eVar 0) (aCons (eTy "tuple") aNil))))
        (sRt (eAn (eB gIsi (aCons (eVar 1) (aCons (eTy "tuple") aNil))) (eAn (eCmp gEq (eB gLen (aCons (eVar 0) aNil)) (eB gLen (aCons (eVar 1) aNil))) (eB (g1 (anyD fun bs => bs.all id)) (aCons (eNd (nLc [2] (iR1 (aCons (eB gLen (aCons (eVar 0) aNil)) aNil)) (gNm 2) tYes3 (eCall (f3_same n) (aCons (eOp gIx (eVar 0) (eVar 2)) (aCons (eOp gIx (eVar 1) (eVar 2)) aNil))))) aNil)))))
        sNx)
        (sSeq (sIf (tOr3 (tTr (eB gIsi (aCons (eVar 0) (aCons (eTy "bool") aNil)))) (tTr (eB gIsi (aCons (eVar 1) (aCons (eTy "bool") aNil)))))
        (sRt (eAn (eB gIsi (aCons (eVar 0) (aCons (eTy "bool") aNil))) (eAn (eB gIsi (aCons (eVar 1) (aCons (eTy "bool") aNil))) (eCmp gEq (eVar 0) (eVar 1)))))
        sNx)
        (sSeq (sIf (tTr (eB gIsi (aCons (eVar 0) (aCons (eTy "str") aNil))))
        (sRt (eAn (eB gIsi (aCons (eVar 1) (aCons (eTy "str") aNil))) (eCmp gEq (eVar 0) (eVar 1))))
        sNx)
        (sSeq (sIf (tOr3 (tCmp gIs (eVar 0) (eD .none)) (tCmp gIs (eVar 1) (eD .none)))
        (sRt (eAn (eCmp gIs (eVar 0) (eD .none)) (eCmp gIs (eVar 1) (eD .none))))
        sNx)
        (sRt (eAn (eCall f3_whole (aCons (eVar 1) aNil)) (eCmp gEq (eVar 0) (eVar 1))))))))
noncomputable def f3_asked_of : F3 := fdef false 4 5
  (sSeq (sSet 4 (eNo (nLst aNil)))
  (sSeq (sSet 5 (eNo (nLst aNil)))
  (sSeq (sFor (iSq (eCall f3_tonce (aCons (eCall (f3_tseen 60) (aCons (eVar 0) aNil)) aNil))) (gTp (gsCons (gNm 6) (gsCons (gNm 7) gsNil)))
  (sSeq (sEx (eM mApp (eVar 4) (aCons (eOp gIx (eOp gIx (eVar 2) (eVar 6)) (eVar 7)) aNil)))
  (sIf (tCmp gEq (eVar 6) (eD (.int (1))))
  (sEx (eM mApp (eVar 5) (aCons (eOp gIx (eOp gIx (eVar 2) (eD (.int (1)))) (eVar 7)) aNil)))
  sNx)))
  (sSeq (sIf (tOr3 (tNt (tTr (eCall (f3_same 60) (aCons (eCall f3_letters_in (aCons (eVar 1) aNil)) (aCons (eB gTupOf (aCons (eVar 4) aNil)) aNil))))) (tNt (tTr (eCall (f3_same 60) (aCons (eCall f3_row_letters_in (aCons (eVar 1) aNil)) (aCons (eB gTupOf (aCons (eVar 5) aNil)) aNil))))))
  (sRt (eD (.bool false)))
  sNx)
  (sSeq (sIf (tCmp gIn (eOp gIx (eVar 1) (eD (.int (0)))) (eTup (aCons (eD (.str "record")) (aCons (eD (.str "variant")) aNil))))
  (sSeq (sSet 8 (eTup (aCons (eD (.str "row")) (aCons (eOp gIx (eVar 1) (eD (.int (1)))) (aCons (eOp gIx (eVar 1) (eD (.int (2)))) aNil)))))
  (sIf (tOr3 (tNt (tTr (eCall (f3_same 60) (aCons (eCall f3_letters_in (aCons (eVar 8) aNil)) (aCons (eB gTupOf (aCons (eVar 4) aNil)) aNil))))) (tNt (tTr (eCall (f3_same 60) (aCons (eCall f3_row_letters_in (aCons (eVar 8) aNil)) (aCons (eB gTupOf (aCons (eVar 5) aNil)) aNil))))))
  (sRt (eD (.bool false)))
  sNx))
  sNx)
  (sRt (eOr (eCmp gIs (eVar 3) (eD .none)) (eCall (f3_same 60) (aCons (eCallD f3_scheme_of (aCons (eVar 1) aNil) [.none]) (aCons (eVar 3) aNil))))))))))
inductive SD : Nat → PyData → Prop
  | int {h : Nat} (i : Int) : SD h (.int i)
  | str {h : Nat} (x : Str) : SD h (.str x)
  | bool {h : Nat} (b : Bool) : SD h (.bool b)
  | none {h : Nat} : SD h .none
  | tup {h : Nat} {xs : List PyData} : xs.length ≤ 90000 → (∀ x ∈ xs, SD h x) → SD (h + 1) (.tuple xs)
theorem SD.mono {h : Nat} {d : PyData} (o : SD h d) : ∀ {k : Nat}, h ≤ k → SD k d := by
  induction o with
  | int i => intro k _; exact .int i
  | str i => intro k _; exact .str i
  | bool i => intro k _; exact .bool i
  | none => intro k _; exact .none
  | tup a b ih => intro k hk; obtain ⟨k, rfl⟩ : ∃ x, k = x + 1 := ⟨k - 1, by omega⟩; exact .tup a fun x hx => ih x hx (by omega)
theorem same3 : ∀ (n : Nat) {h : Nat} {d : PyData} {S : List MO}, SD h d → h < n → f3_same n [.d d, .d d] S = some (.d (.bool true), S)
  | 0, _, _, _, _, hn => absurd hn (by omega)
  | n + 1, h, d, S, o, hn => by
    refine eq_of ?_
    unfold f3_same
    cases o with
    | int i =>
      walk_at "fdef"
      repeat walk_at "wk"
      refine wp2_eq (show f3_whole [.d (.int i)] S = some (.d (.bool true), S) from eq_of (by
        unfold f3_whole
        walk_at "fdef"
        repeat walk_at "wk"
        exact ⟨rfl, rfl⟩)) ?_
      repeat walk_at "wk"
      exact ⟨by simp, rfl⟩
    | str x =>
      walk_at "fdef"
      repeat walk_at "wk"
      exact ⟨by simp, rfl⟩
    | bool b =>
      walk_at "fdef"
      repeat walk_at "wk"
      exact ⟨by simp, rfl⟩
    | none =>
      walk_at "fdef"
      repeat walk_at "wk"
      exact ⟨rfl, rfl⟩
    | @tup h xs hl hx =>
      walk_at "fdef"
      repeat walk_at "wk"
      refine ite_t (by simp) ?_
      repeat walk_at "wk"
      refine ⟨by dsimp only; rw [intsW_len, Int.toNat_natCast]; omega, ?_⟩
      refine wp_all (xs := List.range xs.length) (w := fun j => .d (.int (j : Nat))) (v := fun _ => .bool true) (intsW_of rfl) rfl (fun j hj => ?_) ?_ gnm_st
      · have hj := List.mem_range.mp hj
        have hat : atI xs (j : Int) = some xs[j] := atI_at (List.getElem?_eq_getElem hj)
        repeat walk_at "wk"
        refine wp_ixt hat ?_
        repeat walk_at "wk"
        refine wp_ixt hat ?_
        repeat walk_at "wk"
        refine wp2_eq (same3 n (hx _ (List.getElem_mem hj)) (by omega)) ?_
        exact ⟨rfl, rfl⟩
      · repeat walk_at "wk"
        refine wp_anyb (bs := (List.range xs.length).map fun _ => true) (by rw [List.map_map]; rfl) ?_
        repeat walk_at "wk"
        refine ⟨?_, rfl⟩
        have : ((List.range xs.length).map fun _ => true).all id = true := List.all_eq_true.mpr fun b hb => by
          obtain ⟨_, _, rfl⟩ := List.mem_map.mp hb
          rfl
        rw [this]
theorem sd_ints {ks : List Int} (h : ks.length ≤ 90000) : SD 1 (.tuple (ks.map .int)) := .tup (by rw [List.length_map]; exact h) fun x hx => by
  obtain ⟨k, _, rfl⟩ := List.mem_map.mp hx
  exact .int k
theorem sd_strs {ks : List Str} (h : ks.length ≤ 90000) : SD 1 (.tuple (ks.map .str)) := .tup (by rw [List.length_map]; exact h) fun x hx => by
  obtain ⟨k, _, rfl⟩ := List.mem_map.mp hx
  exact .str k
theorem sd_optI {h : Nat} (t : Option Int) : SD h (optI t) := by cases t with
  | none => exact .none
  | some r => exact .int r
theorem sd_two {h : Nat} {x y : PyData} (hx : SD h x) (hy : SD h y) : SD (h + 1) (.tuple [x, y]) := .tup (by show 2 ≤ _; decide) fun z hz => by
  simp only [List.mem_cons, List.not_mem_nil, or_false] at hz
  rcases hz with rfl | rfl
  · exact hx
  · exact hy
theorem sd_three {h : Nat} {x y w : PyData} (hx : SD h x) (hy : SD h y) (hw : SD h w) : SD (h + 1) (.tuple [x, y, w]) := .tup (by show 3 ≤ _; decide) fun z hz => by
  simp only [List.mem_cons, List.not_mem_nil, or_false] at hz
  rcases hz with rfl | rfl | rfl
  · exact hx
  · exact hy
  · exact hw
theorem build_sd {b : Bool} {h : Nat} {hd : Hd} {qs : List PyData} (f : hd.fits b qs.length) (hpp : ∀ x ∈ qs, SD h x) : SD (h + 3) (hd.build qs) := by
  have h5 := Hd.fits_len f
  have htp : SD (h + 1) (.tuple qs) := .tup (by omega) hpp
  have plain : ∀ w : Str, SD (h + 3) (.tuple (.str w :: qs)) := fun w => SD.mono (h := h + 1) (.tup (by rw [List.length_cons]; omega) fun x hx => by
    rcases List.mem_cons.mp hx with rfl | hx
    · exact .str _
    · exact hpp x hx) (by omega)
  cases hd with
  | atom w r =>
    obtain ⟨hw, _, ss, h2, rfl⟩ := f
    refine SD.tup ?_ fun x hx => ?_
    · show (ss.map PyData.str).length + 1 ≤ _
      rw [List.length_map]; omega
    · rcases List.mem_cons.mp hx with rfl | hx
      · exact .str _
      · obtain ⟨s, _, rfl⟩ := List.mem_map.mp (show x ∈ ss.map PyData.str from hx)
        exact .str s
  | arrow => exact plain _
  | cell => exact plain _
  | tuple => exact (sd_two (.str _) htp).mono (by omega)
  | data d => exact (sd_three (.str _) (.str _) htp).mono (by omega)
  | row w ls u =>
    refine SD.mono (sd_three (.str _) (SD.tup (h := h + 1) ?_ fun x hx => ?_) (sd_optI u)) (by omega)
    · unfold fieldsD
      rw [List.length_map, List.length_zip]; omega
    · unfold fieldsD at hx
      obtain ⟨⟨l, p⟩, hq, rfl⟩ := List.mem_map.mp hx
      exact sd_two (.str _) (hpp p (List.of_mem_zip hq).2)
theorem TOk.sd {PL PR : Int → Prop} {b : Bool} {h : Nat} {t : Tm} (o : TOk PL PR b h t) : SD (3 * h + 3) t.enc := by
  induction o with
  | @letter b h k =>
    rw [Tm.enc]
    exact (sd_two (h := 0) (.str _) (.int _)).mono (by omega)
  | @leaf b h hd f g =>
    rw [Tm.enc_node]
    exact (build_sd (h := 0) f fun x hx => by cases hx).mono (by omega)
  | @node b h hd ps f _ _ ih =>
    rw [Tm.enc_node]
    refine SD.mono (h := 3 * h + 3 + 3) (build_sd (b := b) (h := 3 * h + 3) (by rw [List.length_map]; exact f) fun x hx => ?_) (by omega)
    obtain ⟨p, hp, rfl⟩ := List.mem_map.mp hx
    exact ih p hp
theorem schD_sd {PL PR : Int → Prop} {b : Bool} {h : Nat} {t : Tm} {X : Int → List Str} (o : TOk PL PR b h t) (h4 : h ≤ 4) (hX : ∀ r ∈ t.rows, (sset ltS (X r)).length ≤ 90000) : SD 20 (schD t X) := by
  have hsl := o.seen_len
  have hp : 6 ^ h ≤ 6 ^ 4 := Nat.pow_le_pow_right (by decide) h4
  have hp5 : 6 ^ 4 = 1296 := by decide
  have hrow : t.rows.length ≤ 1296 := Nat.le_trans (onceL_len _) (by
    rw [List.length_map]
    exact Nat.le_trans (List.length_filter_le _ _) (by omega))
  have o2 : TOk (fun _ => True) (fun _ => True) b h (t.mp (rkA t) (rkR t)) := o.mp (fun _ _ => trivial) fun _ _ => trivial
  refine sd_two (h := 19) (o2.sd.mono (by omega)) (SD.tup (h := 18) (by rw [List.length_map]; omega) fun x hx => ?_)
  obtain ⟨r, hr, rfl⟩ := List.mem_map.mp hx
  exact (sd_two (h := 1) (.int _) (sd_strs (hX r hr))).mono (by omega)
theorem sset_len_le (l : List Str) : (sset ltS l).length ≤ l.length := by
  induction l with
  | nil => exact Nat.le_refl _
  | cons a l ih =>
    have : ∀ m : List Str, (insS ltS a m).length ≤ m.length + 1 := by
      intro m
      induction m with
      | nil => exact Nat.le_refl _
      | cons b m ih2 =>
        unfold insS
        split
        · rw [List.length_cons]; omega
        · split
          · rw [List.length_cons]; exact Nat.le_refl _
          · rw [List.length_cons, List.length_cons]; omega
    rw [sset, List.length_cons]
    have := this (sset ltS l)
    omega
theorem isRow_of {hd : Hd} (h : hd.isRow = true) : ∃ w ls u, hd = .row w ls u := by
  cases hd with
  | row w ls u => exact ⟨w, ls, u, rfl⟩
  | _ => cases h
theorem nums_row {w w2 : Str} {ls : List Str} {u : Option Int} {ps : List Tm} : (Tm.node (.row w ls u) ps).seen = (Tm.node (.row w2 ls u) ps).seen := by
  rw [Tm.seen_node, Tm.seen_node]; rfl
theorem asked_of3 {PL PR : Int → Prop} {h : Nat} {t : Tm} {S : List MO} {φ ψ : Int → Int} {Ls Rs : List PyData} {due : PyData} (o : TOk PL PR false h t) (h4 : h ≤ 4) (inj : ∀ p ∈ t.seen, ∀ q ∈ t.seen, (mvP φ ψ p).2 = (mvP φ ψ q).2 → p = q)
    (hL : ∀ k, (false, k) ∈ t.seen → atI Ls k = some (.int (φ k))) (hR : ∀ k, (true, k) ∈ t.seen → atI Rs k = some (.int (ψ k))) (hdue : due = .none ∨ due = schD t fun r => t.bes r) :
    f3_asked_of [.d t.enc, .d (t.mp φ ψ).enc, .d (.list [.list Ls, .list Rs]), .d due] S = some (.d (.bool true), S) := by
  refine eq_of ?_
  have hsl := o.seen_len
  have hp : 6 ^ h ≤ 6 ^ 4 := Nat.pow_le_pow_right (by decide) h4
  have hp5 : 6 ^ 4 = 1296 := by decide
  have hol := onceL_len t.seen
  have hn : (t.mp φ ψ).nums = (onceL t.seen).map fun p => (mvP φ ψ p).2 := by
    unfold Tm.nums
    rw [Tm.seen_mp, List.map_map]
    exact onceL_map (f := fun p => (mvP φ ψ p).2) _ inj
  have hr : (t.mp φ ψ).rows = ((onceL t.seen).filter (·.1)).map fun p => ψ p.2 := by
    rw [rows_ranks, Tm.seen_mp, onceL_map (f := mvP φ ψ) _ fun a ha b hb e => inj a ha b hb (congrArg Prod.snd e), List.filter_map, List.map_map]
    rw [show (onceL t.seen).filter ((fun x : Bool × Int => x.1) ∘ mvP φ ψ) = (onceL t.seen).filter (·.1) from List.filter_congr fun p _ => rfl]
    refine List.map_congr_left fun p hp => ?_
    show (if p.1 = true then ψ p.2 else φ p.2) = ψ p.2
    rw [if_pos (List.mem_filter.mp hp).2]
  have o2 : TOk (fun _ => True) (fun _ => True) false h (t.mp φ ψ) := o.mp (fun _ _ => trivial) fun _ _ => trivial
  have sdN : SD 1 (.tuple ((t.mp φ ψ).nums.map .int)) := sd_ints (by rw [hn, List.length_map]; omega)
  have sdR : SD 1 (.tuple ((t.mp φ ψ).rows.map .int)) := sd_ints (by
    rw [hr, List.length_map]
    exact Nat.le_trans (List.length_filter_le _ _) (by omega))
  have hbl : ∀ r, (t.bes r).length ≤ 1250 := fun r => by
    have h1 := o.bes_len (r := r)
    have h2 : 5 ^ h ≤ 5 ^ 4 := Nat.pow_le_pow_right (by decide) h4
    have h3 : 5 ^ 4 = 625 := by decide
    omega
  unfold f3_asked_of
  walk_at "fdef"
  repeat walk_at "wk"
  refine wp2_eq (tseen3 60 o (by omega) (by omega)) ?_
  repeat walk_at "wk"
  refine wp2_eq (tonce3 eqv_qP depth_qP (by omega)) ?_
  repeat walk_at "wk"
  refine wp_loop (n := 0) (fun j sl S' => ∃ x y, sl = [some (.d t.enc), some (.d (t.mp φ ψ).enc), some (.d (.list [.list Ls, .list Rs])), some (.d due), some (.r S.length), some (.r (S.length + 1)), x, y, none] ∧
    S' = S ++ [.lst ((((onceL t.seen).take j).map fun p => (mvP φ ψ p).2).map .int), .lst (((((onceL t.seen).take j).filter (·.1)).map fun p => ψ p.2).map .int)]) ⟨none, none, by rw [List.length_append]; rfl, by rw [List.append_assoc]; rfl⟩ (fun _ _ _ _ => rfl) (fun j w sl S' hw hj hq => ?_) (fun sl S' hq => ?_)
  · obtain ⟨x, y, rfl, rfl⟩ := hq
    obtain ⟨d, hd2, rfl⟩ := ws_get hw
    rw [Nat.sub_zero, List.getElem?_map] at hd2
    obtain ⟨⟨c, k⟩, hpj, rfl⟩ := Option.map_eq_some_iff.mp hd2
    have hps : (c, k) ∈ t.seen := (onceL_mem _).mp (List.mem_of_getElem? hpj)
    have g1 : ∀ a b : MO, (S ++ [a, b])[S.length]? = some a := fun a b => by rw [List.getElem?_append_right (Nat.le_refl _), Nat.sub_self]; rfl
    have g2 : ∀ a b : MO, (S ++ [a, b])[S.length + 1]? = some b := fun a b => by rw [List.getElem?_append_right (by omega), show S.length + 1 - S.length = 1 by omega]; rfl
    have s1 : ∀ a b c : MO, (S ++ [a, b]).set S.length c = S ++ [c, b] := fun a b c => by rw [List.set_append_right _ _ (Nat.le_refl _), Nat.sub_self]; rfl
    have s2 : ∀ a b c : MO, (S ++ [a, b]).set (S.length + 1) c = S ++ [a, c] := fun a b c => by rw [List.set_append_right _ _ (by omega), show S.length + 1 - S.length = 1 by omega]; rfl
    have l1 : (((onceL t.seen).take j).map fun p => (mvP φ ψ p).2).length ≤ 1296 := by rw [List.length_map, List.length_take]; omega
    have l2 : ((((onceL t.seen).take j).filter (·.1)).map fun p => ψ p.2).length ≤ 1296 := by
      rw [List.length_map]
      refine Nat.le_trans (List.length_filter_le _ _) ?_
      rw [List.length_take]; omega
    rw [take_snocU hpj, List.filter_append, List.map_append, List.map_append]
    cases c with
    | false =>
      have hk := hL k hps
      unfold qP
      repeat walk_at "wk"
      refine atLst_i (g1 _ _) ?_
      repeat walk_at "wk"
      refine wp_ixd hk ?_
      repeat walk_at "wk"
      refine nowLst_i (g1 _ _) ?_
      refine wp_app (by rw [List.length_map]; omega) ?_
      rw [s1]
      repeat walk_at "wk"
      refine ⟨_, _, rfl, ?_⟩
      rw [List.filter_cons_of_neg (by exact Bool.false_ne_true), List.filter_nil, List.append_nil]
      rfl
    | true =>
      have hk := hR k hps
      unfold qP
      repeat walk_at "wk"
      refine atLst_i (g1 _ _) ?_
      repeat walk_at "wk"
      refine wp_ixd hk ?_
      repeat walk_at "wk"
      refine nowLst_i (g1 _ _) ?_
      refine wp_app (by rw [List.length_map]; omega) ?_
      rw [s1]
      repeat walk_at "wk"
      refine atLst_i (g2 _ _) ?_
      repeat walk_at "wk"
      refine wp_ixd hk ?_
      repeat walk_at "wk"
      refine nowLst_i (g2 _ _) ?_
      refine wp_app (by rw [List.length_map]; omega) ?_
      rw [s2]
      repeat walk_at "wk"
      refine ⟨_, _, rfl, ?_⟩
      rw [List.filter_cons_of_pos rfl, List.filter_nil, List.map_append, List.map_append]
      rfl
  · obtain ⟨x, y, rfl, rfl⟩ := hq
    rw [List.length_map, List.length_map, Nat.zero_add, List.take_length, ← hn, ← hr]
    have g1 : ∀ a b : MO, (S ++ [a, b])[S.length]? = some a := fun a b => by rw [List.getElem?_append_right (Nat.le_refl _), Nat.sub_self]; rfl
    have g2 : ∀ a b : MO, (S ++ [a, b])[S.length + 1]? = some b := fun a b => by rw [List.getElem?_append_right (by omega), show S.length + 1 - S.length = 1 by omega]; rfl
    haveI : ∀ a b : MO, CutR S (S ++ [a, b]) := fun a b => CutR.of_take take_app
    refine th_nx (wp_seq (wp_sif ?_))
    repeat walk_at "wk"
    refine wp2_eq (letters_in3 o2 (by omega)) ?_
    repeat walk_at "wk"
    refine wp_tupr (g1 _ _) ?_
    repeat walk_at "wk"
    refine wp2_eq (same3 60 sdN (by omega)) ?_
    repeat walk_at "wk"
    refine wp2_eq (row_letters_in3 o2 (by omega)) ?_
    repeat walk_at "wk"
    refine wp_tupr (g2 _ _) ?_
    repeat walk_at "wk"
    refine wp2_eq (same3 60 sdR (by omega)) ?_
    repeat walk_at "w1"
    refine th_nx (wp_seq (wp_sif ?_))
    have last : ∀ z : Option W3, Wp (sRt (eOr (eCmp gIs (eVar 3) (eD .none)) (eCall (f3_same 60) (aCons (eCallD f3_scheme_of (aCons (eVar 1) aNil) [.none]) (aCons (eVar 3) aNil)))) [some (.d t.enc), some (.d (t.mp φ ψ).enc), some (.d (.list [.list Ls, .list Rs])), some (.d due), some (.r S.length), some (.r (S.length + 1)), x, y, z] (S ++ [.lst ((t.mp φ ψ).nums.map .int), .lst ((t.mp φ ψ).rows.map .int)])) (retQ false S fun a c => a = .d (.bool true) ∧ c = S) := fun z => by
      rcases hdue with rfl | rfl
      · repeat walk_at "wk"
        exact ⟨rfl, rfl⟩
      · have hsc := sch_moved (t := t) inj (tl := fun _ => []) (X := fun r => t.bes r) fun r _ s => by rw [List.append_nil]
        have hsf := fun S => scheme_of3 (S := S) (w := .d .none) (tl := fun _ => []) o2 h4 (.inl ⟨rfl, fun _ _ => rfl⟩) fun _ => Nat.zero_le _
        rw [hsc] at hsf
        have hsd := schD_sd (X := fun r => t.bes r) o h4 fun r _ => Nat.le_trans (sset_len_le _) (by have := hbl r; omega)
        obtain ⟨xs, hxs⟩ : ∃ xs, schD t (fun r => t.bes r) = .tuple xs := ⟨_, rfl⟩
        rw [hxs] at hsd hsf ⊢
        repeat walk_at "wk"
        refine wp2_eq (hsf _) ?_
        repeat walk_at "wk"
        refine wp2_eq (same3 60 hsd (by omega)) ?_
        repeat walk_at "wk"
        exact ⟨rfl, rfl⟩
    cases t with
    | letter k =>
      simp only [Tm.mp, Tm.enc] at last ⊢
      repeat walk_at "w1"
      exact last none
    | node hd ps =>
      have hf2 := o2
      rw [Tm.mp_node] at hf2
      obtain ⟨hf, ht, hpp⟩ := hf2.top
      have he : ((Tm.node hd ps).mp φ ψ) = .node (hd.setTail (hd.tail.map ψ)) (ps.map (Tm.mp φ ψ)) := Tm.mp_node
      generalize hd.setTail (hd.tail.map ψ) = hd2 at he hf ht hf2
      generalize ps.map (Tm.mp φ ψ) = ps2 at he hf hpp hf2
      rw [he] at last sdN sdR ⊢
      generalize (Tm.node hd ps).enc = te at last ⊢
      rw [Tm.enc_node] at last ⊢
      refine wp_tcmp (wp_op (wp_var rfl ?_))
      unfold Hd.build
      repeat walk_at "wk"
      refine wp_gin_lit (word_in2 hf) ?_
      cases hrow : hd2.isRow with
      | false =>
        refine ite_f rfl ?_
        exact wp_nx (th_nx (last none))
      | true =>
        obtain ⟨w, ls, u, rfl⟩ := isRow_of hrow
        have ok2 : TOk (fun _ => True) (fun _ => True) true h (.node (.row "row" ls u) ps2) := by
          cases hf2 with
          | leaf f g => exact .leaf ⟨.inr (.inr ⟨rfl, rfl⟩), f.2.1, f.2.2⟩ g
          | node f g k => exact .node ⟨.inr (.inr ⟨rfl, rfl⟩), f.2.1, f.2.2⟩ (fun _ _ => trivial) k
        have en : (Tm.node (.row "row" ls u) ps2).nums = (Tm.node (.row w ls u) ps2).nums := by unfold Tm.nums; rw [nums_row (w2 := w)]
        have er : (Tm.node (.row "row" ls u) ps2).rows = (Tm.node (.row w ls u) ps2).rows := by unfold Tm.rows; rw [nums_row (w2 := w)]
        have l2 := fun S => letters_in3 (S := S) ok2 (by omega)
        have r2 := fun S => row_letters_in3 (S := S) ok2 (by omega)
        rw [en, Tm.enc_node] at l2
        rw [er, Tm.enc_node] at r2
        unfold Hd.build at l2 r2 last
        refine ite_t rfl ?_
        simp only [Hd.word, Hd.rest] at l2 r2 last ⊢
        repeat walk_at "w1"
        refine th_nx (wp_sif ?_)
        repeat walk_at "wk"
        refine wp2_eq (l2 _) ?_
        repeat walk_at "wk"
        refine wp_tupr (g1 _ _) ?_
        repeat walk_at "wk"
        refine wp2_eq (same3 60 sdN (by omega)) ?_
        repeat walk_at "wk"
        refine wp2_eq (r2 _) ?_
        repeat walk_at "wk"
        refine wp_tupr (g2 _ _) ?_
        repeat walk_at "wk"
        refine wp2_eq (same3 60 sdR (by omega)) ?_
        repeat walk_at "w1"
        exact th_nx (last _)
end EA
namespace EA
open PySem PySem.Spec PyProof.Rows L2
local macro_rules | `(tactic| walk_at "ix") => `(tactic| first | rfl | exact atI_cons0 | exact atI_map0)
local macro_rules | `(tactic| walk_at "st") => `(tactic| first | assumption | rfl | exact get_set (by assumption) | exact get_set (get_set (by assumption)) | exact get_last | exact get_setlast | exact get_setapp (by assumption) | exact get_app (by assumption) | exact get_app (get_set (by assumption)))
local macro_rules | `(tactic| walk_at "tk") => `(tactic| first | exact List.take_length | exact take_set | exact take_set2 | exact take_set3 | exact take_app | exact take_aset | exact take_setapp | rfl)
local macro_rules | `(tactic| walk_at "sd") => `(tactic| first | omega | assumption | decide)
local macro_rules | `(tactic| walk_at "wpx") => `(tactic| first
  | with_reducible refine ite2 (fun _ => ?_) (fun z => absurd rfl z)
  | with_reducible refine ite2 (fun z => absurd z Bool.false_ne_true) (fun _ => ?_)
  | ((with_reducible refine gate_wp ?_); (first
    | ((with_reducible apply wp_viewr); (walk_at "st")) | ((with_reducible apply wp_lat); (walk_at "st"))
    | ((with_reducible refine gate_eq ?_); (first | with_reducible refine wp_geqs ?_ | with_reducible refine wp_geqb ?_ | with_reducible refine wp_geq_nil ?_))
    | ((with_reducible refine gate_ne ?_); (first | with_reducible refine wp_gnes ?_ | with_reducible refine wp_gneb ?_ | with_reducible refine wp_gne_nil ?_))
    | ((with_reducible refine gate_ix ?_); (first | ((with_reducible apply wp_ixd); (walk_at "ix")) | ((with_reducible apply wp_ixt); (walk_at "ix")) | ((with_reducible apply wp_ixr); (walk_at "st"); (walk_at "ix"))))
    | ((with_reducible apply wp_trur); (walk_at "st"))
    | ((with_reducible refine wp_l4s ?_ ?_); (first | omega | assumption | decide +kernel)) | with_reducible refine wp_l4 ?_ | ((with_reducible apply wp_l3r); (walk_at "st"))
    | ((with_reducible refine wp_mod ?_ ?_); (walk_at "sd")) | ((with_reducible refine wp_fdiv ?_ ?_); (walk_at "sd")) | ((with_reducible refine wp_mulr ?_ ?_); (walk_at "sd")) | ((with_reducible refine wp_mull ?_ ?_); (walk_at "sd")) | ((with_reducible refine wp_pow ?_ ?_); (walk_at "sd"))
    | ((with_reducible apply wp_lenr); (walk_at "st"))
    | ((with_reducible refine wp_gis ?_ ?_); rfl) | ((with_reducible refine wp_gisn ?_ ?_); rfl)
    | ((with_reducible refine gate_isi ?_); (first | ((with_reducible refine isi_t (r := true) ?_ ?_); (decide +kernel)) | ((with_reducible refine isi_t (r := false) ?_ ?_); (decide +kernel)) | ((with_reducible refine isi_b (r := true) ?_ ?_); (decide +kernel)) | ((with_reducible refine isi_b (r := false) ?_ ?_); (decide +kernel)) | ((with_reducible refine isi_i (r := true) ?_ ?_); (decide +kernel)) | ((with_reducible refine isi_i (r := false) ?_ ?_); (decide +kernel)) | ((with_reducible refine isi_s (r := true) ?_ ?_); (decide +kernel)) | ((with_reducible refine isi_s (r := false) ?_ ?_); (decide +kernel)) | ((with_reducible refine isi_l (r := true) ?_ ?_); (decide +kernel)) | ((with_reducible refine isi_l (r := false) ?_ ?_); (decide +kernel)) | ((with_reducible refine isi_n (r := true) ?_ ?_); (decide +kernel)) | ((with_reducible refine isi_n (r := false) ?_ ?_); (decide +kernel))))
    | ((with_reducible apply wp_tupr); (walk_at "st"))))
  | ((with_reducible refine gate_rq ?_); (first | ((with_reducible apply rq_dt); (walk_at "tk")) | ((with_reducible apply rq_nxt); (walk_at "tk"))))
  | ((with_reducible apply fz_r); (walk_at "st")) | ((with_reducible apply sq_r); (walk_at "st"))
  | ((with_reducible apply atSet_i); (walk_at "st"); rfl) | ((with_reducible apply atLst_i); (walk_at "st")) | ((with_reducible apply nowLst_i); (walk_at "st"))
  | ((with_reducible refine rng1_i ?_ ?_); (walk_at "sd")) | ((with_reducible refine rng2_i ?_ ?_); (walk_at "sd")))
local macro_rules | `(tactic| walk_at "wp") => `(tactic| first
  | with_reducible refine step_of ?_ | ((with_reducible apply wp_var); rfl) | walk_at "wpx")
local macro_rules | `(tactic| walk_at "fdef") => `(tactic| (refine wp_fdef rfl ?_; simp only [List.map_cons, List.map_nil, List.replicate_succ, List.replicate_zero, List.cons_append, List.nil_append]))
local macro_rules | `(tactic| walk_at "keq") => `(tactic| first
  | refine wp_geqD (c := false) (.inr (by decide +kernel)) rfl ?_ | refine wp_geqD (c := true) (.inr (by decide +kernel)) rfl ?_)
local macro_rules | `(tactic| walk_at "wk") => `(tactic| first
  | with_reducible refine step_of ?_ | ((with_reducible apply wp_var); rfl)
  | ((with_reducible refine gate_wp ?_); (first
    | with_reducible refine wp_geqsD (c := false) (by decide +kernel) ?_ | with_reducible refine wp_geqsD (c := true) (by decide +kernel) ?_
    | with_reducible refine wp_gnesD (c := false) (by decide +kernel) ?_ | with_reducible refine wp_gnesD (c := true) (by decide +kernel) ?_
    | with_reducible refine wp_gin_lit (c := true) (by decide +kernel) ?_ | with_reducible refine wp_gin_lit (c := false) (by decide +kernel) ?_))
  | with_reducible refine ite_t rfl ?_ | with_reducible refine ite_f rfl ?_
  | walk_at "wpx")
local macro_rules | `(tactic| walk_at "w1") => `(tactic| (fail_if_success (with_reducible refine th_nx ?_)); walk_at "wk")
noncomputable def f3_some : F3 := fdef false 2 2
  (sSeq (sSet 2 (eNo (nLst aNil)))
  (sSeq (sFor (iSq (eVar 1)) (gNm 3)
  (sIf (tCmp gEq (eCall f3_take (aCons (eVar 0) (aCons (eD (.int (2))) aNil))) (eD (.int (1))))
  (sEx (eM mApp (eVar 2) (aCons (eVar 3) aNil)))
  sNx))
  (sRt (eVar 2))))
noncomputable def f3_world : F3 := fdef true 4 7
  (sSeq (sSet 4 (eCall f3_take (aCons (eVar 0) (aCons (eD (.int (26))) aNil))))
  (sSeq (sSet 5 (eOp gIx (eNd (nLst (aCons (eD (.int (1))) (aCons (eD (.int (3))) (aCons (eD (.int (5))) (aCons (eD (.int (7))) (aCons (eD (.int (9))) (aCons (eD (.int (11))) aNil)))))))) (eCall f3_take (aCons (eVar 0) (aCons (eD (.int (6))) aNil)))))
  (sSeq (sSet 6 (eOp gIx (eNd (nLst (aCons (eD (.str "")) (aCons (eD (.str "0")) (aCons (eD (.str "a7")) aNil))))) (eCall f3_take (aCons (eVar 0) (aCons (eD (.int (3))) aNil)))))
  (sSeq (sSet 7 (eNd (nB gSorted (aCons (eNd (nLc [8] (iR1 (aCons (eD (.int (5))) aNil)) (gNm 8) tYes3 (eOp gAdd (eOp gIx (eD (.str "abcdefghijklmnopqrstuvwxyz")) (eOp gMod (eB (g1 intD) (aCons (eOp gAdd (eVar 4) (eOp gMul (eVar 5) (eVar 8))) aNil)) (eD (.int (26))))) (eVar 6)))) aNil))))
  (sSeq (sSet 9 (eNo (nLst aNil)))
  (sSeq (sFor (iR1 (aCons (eVar 2) aNil)) (gNm 10)
  (sEx (eM mApp (eVar 9) (aCons (eCall f3_some (aCons (eVar 0) (aCons (eVar 7) aNil))) aNil))))
  (sRt (eRD (("hand", (eVar 0)) :: ("left", (eD (.int (10)))) :: ("words", (eVar 3)) :: ("letters", (eVar 1)) :: ("labels", (eVar 7)) :: ("beside", (eVar 9)) :: [])))))))))
noncomputable def f3_tmay : F3 := fdef false 1 0
  (sRt (eAn (eCmp gGt (eRG (eVar 0) "left") (eD (.int (0)))) (eCmp gGt (eRG (eVar 0) "letters") (eD (.int (0))))))
noncomputable def f3_tletter : F3 := fdef false 1 0
  (sSeq (sRS (eVar 0) "left" (eOp gSub (eRG (eVar 0) "left") (eD (.int (1)))))
  (sRt (eTup (aCons (eD (.str "letter")) (aCons (eCall f3_take (aCons (eRG (eVar 0) "hand") (aCons (eRG (eVar 0) "letters") aNil))) aNil)))))
noncomputable def f3_tatom : F3 := fdef false 1 2
  (sSeq (sSet 1 (eRG (eVar 0) "hand"))
  (sSeq (sSet 2 (eCall f3_take (aCons (eVar 1) (aCons (eD (.int (6))) aNil))))
  (sSeq (sIf (tCmp gLt (eVar 2) (eD (.int (2))))
  (sRt (eTup (aCons (eD (.str "int")) aNil)))
  sNx)
  (sSeq (sIf (tCmp gEq (eVar 2) (eD (.int (2))))
  (sRt (eTup (aCons (eD (.str "bool")) aNil)))
  sNx)
  (sSeq (sIf (tCmp gEq (eVar 2) (eD (.int (3))))
  (sRt (eTup (aCons (eD (.str "hidden")) (aCons (eOp gAdd (eD (.str "m")) (eB (g1 strD) (aCons (eCall f3_take (aCons (eVar 1) (aCons (eD (.int (2))) aNil))) aNil))) (aCons (eOp gAdd (eD (.str "t")) (eB (g1 strD) (aCons (eCall f3_take (aCons (eVar 1) (aCons (eD (.int (2))) aNil))) aNil))) aNil)))))
  sNx)
  (sSeq (sIf (tCmp gEq (eVar 2) (eD (.int (4))))
  (sRt (eTup (aCons (eD (.str "stone")) (aCons (eOp gIx (eNd (nLst (aCons (eD (.str "a")) (aCons (eD (.str "a.b")) (aCons (eD (.str "a.b2")) aNil))))) (eCall f3_take (aCons (eVar 1) (aCons (eD (.int (3))) aNil)))) aNil))))
  sNx)
  (sRt (eTup (aCons (eD (.str "data")) (aCons (eD (.str "d")) (aCons (eTup aNil) aNil)))))))))))
noncomputable def f3_ttail : F3 := fdef false 1 0
  (sSeq (sIf (tOr3 (tCmp gEq (eB gLen (aCons (eRG (eVar 0) "beside") aNil)) (eD (.int (0)))) (tOr3 (tCmp gLe (eRG (eVar 0) "left") (eD (.int (0)))) (tCmp gEq (eCall f3_take (aCons (eRG (eVar 0) "hand") (aCons (eD (.int (3))) aNil))) (eD (.int (0))))))
  (sRt (eD .none))
  sNx)
  (sSeq (sRS (eVar 0) "left" (eOp gSub (eRG (eVar 0) "left") (eD (.int (1)))))
  (sRt (eCall f3_take (aCons (eRG (eVar 0) "hand") (aCons (eB gLen (aCons (eRG (eVar 0) "beside") aNil)) aNil))))))
mutual
noncomputable def f3_trow : Nat → F3
  | 0 => fun _ _ => none
  | n + 1 => fdef false 3 4
      (sSeq (sSet 3 (eCall f3_ttail (aCons (eVar 0) aNil)))
        (sSeq (sSet 4 (eRG (eVar 0) "labels"))
        (sSeq (sIf (tCmp gIsN (eVar 3) (eD .none))
        (sSet 4 (eOp gIx (eRG (eVar 0) "beside") (eVar 3)))
        sNx)
        (sSeq (sSet 5 (eNo (nLst aNil)))
        (sSeq (sFor (iSq (eCall f3_some (aCons (eRG (eVar 0) "hand") (aCons (eVar 4) aNil)))) (gNm 6)
        (sEx (eM mApp (eVar 5) (aCons (eTup (aCons (eVar 6) (aCons (eCall (f3_tdrawn n) (aCons (eVar 0) (aCons (eOp gSub (eVar 2) (eD (.int (1)))) aNil))) aNil))) aNil))))
        (sRt (eTup (aCons (eVar 1) (aCons (eB gTupOf (aCons (eVar 5) aNil)) (aCons (eVar 3) aNil))))))))))
noncomputable def f3_tdrawn : Nat → F3
  | 0 => fun _ _ => none
  | n + 1 => fdef false 2 4
      (sSeq (sSet 2 (eRG (eVar 0) "hand"))
        (sSeq (sRS (eVar 0) "words" (eOp gSub (eRG (eVar 0) "words") (eD (.int (1)))))
        (sSeq (sSet 3 (eCall f3_take (aCons (eVar 2) (aCons (eD (.int (16))) aNil))))
        (sSeq (sIf (tAn (tCmp gLt (eVar 3) (eD (.int (5)))) (tTr (eCall f3_tmay (aCons (eVar 0) aNil))))
        (sRt (eCall f3_tletter (aCons (eVar 0) aNil)))
        sNx)
        (sSeq (sIf (tOr3 (tCmp gLe (eVar 1) (eD (.int (0)))) (tOr3 (tCmp gLt (eVar 3) (eD (.int (7)))) (tCmp gLe (eRG (eVar 0) "words") (eD (.int (0))))))
        (sRt (eCall f3_tatom (aCons (eVar 0) aNil)))
        sNx)
        (sSeq (sIf (tCmp gLt (eVar 3) (eD (.int (9))))
        (sRt (eTup (aCons (eD (.str "arrow")) (aCons (eCall (f3_tdrawn n) (aCons (eVar 0) (aCons (eOp gSub (eVar 1) (eD (.int (1)))) aNil))) (aCons (eCall (f3_tdrawn n) (aCons (eVar 0) (aCons (eOp gSub (eVar 1) (eD (.int (1)))) aNil))) aNil)))))
        sNx)
        (sSeq (sIf (tCmp gEq (eVar 3) (eD (.int (9))))
        (sRt (eTup (aCons (eD (.str "tuple")) (aCons (eB gTupOf (aCons (eNd (nLc [4] (iR1 (aCons (eOp gAdd (eD (.int (2))) (eCall f3_take (aCons (eVar 2) (aCons (eD (.int (3))) aNil)))) aNil)) (gNm 4) tYes3 (eCall (f3_tdrawn n) (aCons (eVar 0) (aCons (eOp gSub (eVar 1) (eD (.int (1)))) aNil))))) aNil)) aNil))))
        sNx)
        (sSeq (sIf (tCmp gLt (eVar 3) (eD (.int (14))))
        (sRt (eCall (f3_trow n) (aCons (eVar 0) (aCons (eOp gIx (eNd (nLst (aCons (eD (.str "record")) (aCons (eD (.str "variant")) aNil)))) (eCall f3_take (aCons (eVar 2) (aCons (eD (.int (2))) aNil)))) (aCons (eVar 1) aNil)))))
        sNx)
        (sSeq (sIf (tCmp gEq (eVar 3) (eD (.int (14))))
        (sSeq (sSet 5 (eOp gIx (eNd (nLst (aCons (eD (.str "d")) (aCons (eD (.str "d2")) aNil)))) (eCall f3_take (aCons (eVar 2) (aCons (eD (.int (2))) aNil)))))
        (sRt (eTup (aCons (eD (.str "data")) (aCons (eVar 5) (aCons (eB gTupOf (aCons (eNd (nLc [4] (iR1 (aCons (eCall f3_take (aCons (eVar 2) (aCons (eD (.int (3))) aNil))) aNil)) (gNm 4) tYes3 (eCall (f3_tdrawn n) (aCons (eVar 0) (aCons (eOp gSub (eVar 1) (eD (.int (1)))) aNil))))) aNil)) aNil))))))
        sNx)
        (sRt (eTup (aCons (eD (.str "cell")) (aCons (eCall (f3_tdrawn n) (aCons (eVar 0) (aCons (eOp gSub (eVar 1) (eD (.int (1)))) aNil))) aNil)))))))))))))
end
noncomputable def f3_numbering : F3 := fdef false 2 4
  (sSeq (sSet 2 (eCall f3_shuffled (aCons (eVar 0) (aCons (eNd (nRg (eD (.int (12))))) aNil))))
  (sSeq (sSet 3 (eOp gIx (eNd (nLst (aCons (eD (.int (1))) (aCons (eD (.int (1))) (aCons (eD (.int (1009))) (aCons (eOp gPow (eD (.int (10))) (eD (.int (9)))) aNil)))))) (eCall f3_take (aCons (eVar 0) (aCons (eD (.int (4))) aNil)))))
  (sSeq (sSet 4 (eNd (nLc [5] (iSq (eVar 2)) (gNm 5) tYes3 (eOp gMul (eVar 5) (eVar 3)))))
  (sRt (eNd (nLst (aCons (eSl (eVar 4) oNone (oSome (eRG (eVar 1) "letters"))) (aCons (eSl (eVar 4) (oSome (eD (.int (6)))) (oSome (eOp gAdd (eD (.int (6))) (eB gLen (aCons (eRG (eVar 1) "beside") aNil))))) aNil))))))))
theorem atI_ltU {α : Type} {xs : List α} {k : Int} (h0 : 0 ≤ k) (h1 : k < xs.length) : ∃ x, atI xs k = some x ∧ x ∈ xs := by
  have hk : k.toNat < xs.length := by omega
  exact ⟨xs[k.toNat], atI_of h0 (List.getElem?_eq_getElem hk), List.getElem_mem hk⟩
theorem some3 {α : Type} {f : α → PyData} {S : List MO} {h : Nat} {o : List PyData} {xs : List α} (hh : S[h]? = some (.lst o)) (ho : HandO o) (hl : xs.length ≤ 1000) {Q : W3 → List MO → Prop} (q : ∀ (ys : List α) (o' : List PyData), ys.Sublist xs → HandO o' → Q (.d (.list (ys.map f))) (S.set h (.lst o'))) : Wp2 (f3_some [.r h, .d (.list (xs.map f))] S) Q := by
  unfold f3_some
  walk_at "fdef"
  repeat walk_at "wk"
  have hlt : h < S.length := (List.getElem?_eq_some_iff.mp hh).1
  refine wp_loop (n := 0) (fun j sl S' => ∃ x ys o', sl = [some (.r h), some (.d (.list (xs.map f))), some (.r S.length), x] ∧ ys.Sublist (xs.take j) ∧ HandO o' ∧ S' = S.set h (.lst o') ++ [.lst (ys.map f)]) ⟨none, [], o, rfl, List.nil_sublist _, ho, by rw [set_same hh]; rfl⟩ (fun _ _ _ _ => rfl) (fun j w sl S' hw hj hq => ?_) (fun sl S' hq => ?_)
  · obtain ⟨x, ys, o', rfl, hs, ho', rfl⟩ := hq
    obtain ⟨d, hd2, rfl⟩ := ws_get hw
    rw [Nat.sub_zero, List.getElem?_map] at hd2
    obtain ⟨a, hpj, rfl⟩ := Option.map_eq_some_iff.mp hd2
    have hyl : ys.length ≤ 1000 := Nat.le_trans hs.length_le (by rw [List.length_take]; omega)
    repeat walk_at "wk"
    refine take3 (get_setapp hh) ho' (by decide) (by decide) fun v o2 v0 v1 ho2 => ?_
    rw [set_setapp hh]
    repeat walk_at "wk"
    rw [take_snocU hpj]
    refine ite2 (fun c => ?_) (fun c => ?_)
    · repeat walk_at "wk"
      refine wp_app (by rw [List.length_map]; omega) ?_
      repeat walk_at "wk"
      exact ⟨some (.d (f a)), ys ++ [a], o2, rfl, hs.append (List.Sublist.refl _), ho2, by rw [set_setlast, List.map_append]; rfl⟩
    · repeat walk_at "wk"
      exact ⟨some (.d (f a)), ys, o2, rfl, List.sublist_append_of_sublist_left hs, ho2, rfl⟩
  · obtain ⟨x, ys, o', rfl, hs, ho', rfl⟩ := hq
    rw [List.length_map, List.length_map, Nat.zero_add, List.take_length] at hs
    have hsl : (S.set h (.lst o')).length = S.length := List.length_set ..
    repeat walk_at "wk"
    refine rq_dat (S0 := S.set h (.lst o')) (Nat.le_refl _) get_setlast (by rw [List.take_append_of_le_length (by omega), ← hsl, List.take_length]) (q ys o' hs ho')
/-! ### the world -/
abbrev wdR (left words L : Int) (labels : List Str) : List (Str × W3) := [("hand", .r 0), ("left", .d (.int left)), ("words", .d (.int words)), ("letters", .d (.int L)), ("labels", .d (.list (labels.map .str))), ("beside", .r 1)]
def strsL (l : List Str) : PyData := .list (l.map .str)
def Ws (L : Int) (labels : List Str) (bs : List (List Str)) (o : List PyData) (left words : Int) (T : List MO) : List MO := .lst o :: .lst (bs.map strsL) :: .rcd (wdR left words L labels) :: T
section
variable {L : Int} {labels : List Str} {bs : List (List Str)} {o : List PyData} {left words : Int} {T : List MO} {sl : Sl} {Q : W3 → List MO → Prop}
theorem ws_app {T2 : List MO} : Ws L labels bs o left words T ++ T2 = Ws L labels bs o left words (T ++ T2) := rfl
theorem wrg_hand (h : sl[0]?.join = some (.r 2)) (q : Q (.r 0) (Ws L labels bs o left words T)) : Wp2 (eRG (eVar 0) "hand" sl (Ws L labels bs o left words T)) Q := wp_rg (wp_var h ⟨_, _, rfl, rfl, q⟩)
theorem wrg_left (h : sl[0]?.join = some (.r 2)) (q : Q (.d (.int left)) (Ws L labels bs o left words T)) : Wp2 (eRG (eVar 0) "left" sl (Ws L labels bs o left words T)) Q := wp_rg (wp_var h ⟨_, _, rfl, rfl, q⟩)
theorem wrg_words (h : sl[0]?.join = some (.r 2)) (q : Q (.d (.int words)) (Ws L labels bs o left words T)) : Wp2 (eRG (eVar 0) "words" sl (Ws L labels bs o left words T)) Q := wp_rg (wp_var h ⟨_, _, rfl, rfl, q⟩)
theorem wrg_letters (h : sl[0]?.join = some (.r 2)) (q : Q (.d (.int L)) (Ws L labels bs o left words T)) : Wp2 (eRG (eVar 0) "letters" sl (Ws L labels bs o left words T)) Q := wp_rg (wp_var h ⟨_, _, rfl, rfl, q⟩)
theorem wrg_labels (h : sl[0]?.join = some (.r 2)) (q : Q (.d (.list (labels.map .str))) (Ws L labels bs o left words T)) : Wp2 (eRG (eVar 0) "labels" sl (Ws L labels bs o left words T)) Q := wp_rg (wp_var h ⟨_, _, rfl, rfl, q⟩)
theorem wrg_beside (h : sl[0]?.join = some (.r 2)) (q : Q (.r 1) (Ws L labels bs o left words T)) : Wp2 (eRG (eVar 0) "beside" sl (Ws L labels bs o left words T)) Q := wp_rg (wp_var h ⟨_, _, rfl, rfl, q⟩)
theorem wrs_left {v : FE} {QS : Out → Prop} (h : Wp2 (v sl (Ws L labels bs o left words T)) fun p1 p2 => ∃ l2 : Int, p1 = .d (.int l2) ∧ p2 = Ws L labels bs o left words T ∧ sl[0]?.join = some (.r 2) ∧ QS (.nx sl (Ws L labels bs o l2 words T))) : Wp (sRS (eVar 0) "left" v sl (Ws L labels bs o left words T)) QS := wp_rs (Wp2.imp h fun p1 p2 ⟨l2, e1, e2, e3, q⟩ => by
  subst e1 e2
  exact ⟨_, rfl, wp_var e3 ⟨_, rfl, ⟨rfl, by show 6 ≤ 15; decide⟩, q⟩⟩)
theorem wrs_words {v : FE} {QS : Out → Prop} (h : Wp2 (v sl (Ws L labels bs o left words T)) fun p1 p2 => ∃ l2 : Int, p1 = .d (.int l2) ∧ p2 = Ws L labels bs o left words T ∧ sl[0]?.join = some (.r 2) ∧ QS (.nx sl (Ws L labels bs o left l2 T))) : Wp (sRS (eVar 0) "words" v sl (Ws L labels bs o left words T)) QS := wp_rs (Wp2.imp h fun p1 p2 ⟨l2, e1, e2, e3, q⟩ => by
  subst e1 e2
  exact ⟨_, rfl, wp_var e3 ⟨_, rfl, ⟨rfl, by show 6 ≤ 15; decide⟩, q⟩⟩)
theorem takeW {m : Int} (ho : HandO o) (m0 : 0 < m) (m1 : m < 1073741824) (q : ∀ (v : Int) (o' : List PyData), 0 ≤ v → v < m → HandO o' → Q (.d (.int v)) (Ws L labels bs o' left words T)) : Wp2 (f3_take [.r 0, .d (.int m)] (Ws L labels bs o left words T)) Q := take3 (h := 0) rfl ho m0 m1 q
theorem rq_dW {own : Bool} {Se : List MO} {x : PyData} [CutR Se (Ws L labels bs o left words T)] (e : T.length + 3 = Se.length) (h : Q (.d x) (Ws L labels bs o left words T)) : retQ own Se Q (.rt (.d x) (Ws L labels bs o left words T)) := rq_dt (by
  rw [List.take_of_length_le]
  rw [← e]; exact Nat.le_refl _) h
theorem ws_len : (Ws L labels bs o left words T).length = T.length + 3 := rfl
instance ws_cut {o' : List PyData} {left' words' : Int} : CutR (Ws L labels bs o left words T) (Ws L labels bs o' left' words' T) := ⟨fun i u hi e => by
  match i with
  | 0 => cases e; exact .inl trivial
  | 1 => exact .inr e
  | 2 => cases e; exact .inl trivial
  | i + 3 => exact .inr e⟩
end
local macro_rules | `(tactic| walk_at "rg") => `(tactic| first
  | ((with_reducible apply wrg_hand); rfl) | ((with_reducible apply wrg_left); rfl) | ((with_reducible apply wrg_words); rfl) | ((with_reducible apply wrg_letters); rfl) | ((with_reducible apply wrg_labels); rfl) | ((with_reducible apply wrg_beside); rfl)
  | ((with_reducible refine rq_dW ?_ ?_); rfl)
  | walk_at "wk")
local macro_rules | `(tactic| walk_at "r1") => `(tactic| (fail_if_success (with_reducible refine th_nx ?_)); walk_at "rg")
abbrev PLt (L : Int) (k : Int) : Prop := 0 ≤ k ∧ k < L
section
variable {L : Int} {labels : List Str} {bs : List (List Str)} {o : List PyData} {left words : Int} {T : List MO} {Q : W3 → List MO → Prop}
theorem tletter3 (hL : L ≤ 1000) (h0 : 0 < L) (ho : HandO o) (q : ∀ (k : Int) (o' : List PyData) (left' : Int), PLt L k → HandO o' → Q (.d (Tm.letter k).enc) (Ws L labels bs o' left' words T)) : Wp2 (f3_tletter [.r 2] (Ws L labels bs o left words T)) Q := by
  unfold f3_tletter
  walk_at "fdef"
  refine wp_seq (wrs_left ?_)
  repeat walk_at "rg"
  refine ⟨_, rfl, rfl, rfl, ?_⟩
  repeat walk_at "rg"
  refine takeW ho h0 (by omega) fun v o1 v0 v1 h1 => ?_
  repeat walk_at "rg"
  have := q v o1 (left - 1) ⟨v0, v1⟩ h1
  rw [Tm.enc] at this
  exact this
theorem tatom3 {PL PR : Int → Prop} (ho : HandO o) (q : ∀ (t : Tm) (o' : List PyData), TOk PL PR false 0 t → HandO o' → Q (.d t.enc) (Ws L labels bs o' left words T)) : Wp2 (f3_tatom [.r 2] (Ws L labels bs o left words T)) Q := by
  have leaf : ∀ (w : Str) (ss : List Str) (o' : List PyData), (w = "int" ∨ w = "bool" ∨ w = "hidden" ∨ w = "stone") → ss.length ≤ 2 → HandO o' → Q (.d (.tuple (.str w :: ss.map .str))) (Ws L labels bs o' left words T) := fun w ss o' h1 h2 h3 => by
    have := q (.node (.atom w (ss.map .str)) []) o' (.leaf ⟨h1, rfl, ss, h2, rfl⟩ rfl) h3
    rw [Tm.enc_node] at this
    exact this
  have h0 : ∀ o' : List PyData, HandO o' → Q (.d (.tuple [.str "data", .str "d", .tuple []])) (Ws L labels bs o' left words T) := fun o' h3 => by
    have := q (.node (.data "d") []) o' (.leaf (by show 0 ≤ 5; decide) rfl) h3
    rw [Tm.enc_node] at this
    exact this
  unfold f3_tatom
  walk_at "fdef"
  repeat walk_at "rg"
  refine takeW ho (by decide) (by decide) fun v o1 v0 v1 h1 => ?_
  repeat walk_at "rg"
  refine ite2 (fun c => ?_) (fun c => ?_)
  · repeat walk_at "rg"
    exact leaf "int" [] o1 (.inl rfl) (by decide) h1
  · repeat walk_at "rg"
    refine ite2 (fun c => ?_) (fun c => ?_)
    · repeat walk_at "rg"
      exact leaf "bool" [] o1 (.inr (.inl rfl)) (by decide) h1
    · repeat walk_at "rg"
      refine ite2 (fun c => ?_) (fun c => ?_)
      · repeat walk_at "rg"
        refine takeW h1 (by decide) (by decide) fun u o2 u0 u1 h2 => ?_
        repeat walk_at "rg"
        refine wp_str (by have : u = 0 ∨ u = 1 := by omega
                          rcases this with rfl | rfl <;> decide) ?_
        repeat walk_at "rg"
        refine wp_adds (by have : u = 0 ∨ u = 1 := by omega
                           rcases this with rfl | rfl <;> decide +kernel) ?_
        repeat walk_at "rg"
        refine takeW h2 (by decide) (by decide) fun x o3 x0 x1 h3 => ?_
        repeat walk_at "rg"
        refine wp_str (by have : x = 0 ∨ x = 1 := by omega
                          rcases this with rfl | rfl <;> decide) ?_
        repeat walk_at "rg"
        refine wp_adds (by have : x = 0 ∨ x = 1 := by omega
                           rcases this with rfl | rfl <;> decide +kernel) ?_
        repeat walk_at "rg"
        exact leaf "hidden" [_, _] o3 (.inr (.inr (.inl rfl))) (by show 2 ≤ 2; decide) h3
      · repeat walk_at "rg"
        refine ite2 (fun c => ?_) (fun c => ?_)
        · repeat walk_at "rg"
          refine takeW h1 (by decide) (by decide) fun u o2 u0 u1 h2 => ?_
          obtain ⟨x, hx, hm⟩ := atI_ltU (xs := [PyData.str "a", .str "a.b", .str "a.b2"]) u0 (by show u < 3; omega)
          repeat walk_at "rg"
          refine wp_ixd hx ?_
          obtain ⟨s, rfl⟩ : ∃ s : Str, x = .str s := by
            simp only [List.mem_cons, List.not_mem_nil, or_false] at hm
            rcases hm with rfl | rfl | rfl <;> exact ⟨_, rfl⟩
          repeat walk_at "rg"
          exact leaf "stone" [s] o2 (.inr (.inr (.inr rfl))) (by show 1 ≤ 2; decide) h2
        · repeat walk_at "rg"
          exact h0 o1 h1
theorem ttail3 (hb : bs.length ≤ 1000) (ho : HandO o) (q : ∀ (r : Option Int) (o' : List PyData) (left' : Int), (∀ k, r = some k → PLt bs.length k) → HandO o' → Q (.d (optI r)) (Ws L labels bs o' left' words T)) : Wp2 (f3_ttail [.r 2] (Ws L labels bs o left words T)) Q := by
  have hg : ∀ (o : List PyData) (left words : Int), (Ws L labels bs o left words T)[1]? = some (.lst (bs.map strsL)) := fun _ _ _ => rfl
  have tk : ∀ (oa : List PyData) (la : Int), HandO oa → 0 < bs.length → Wp (sRS (eVar 0) "left" (eOp gSub (eRG (eVar 0) "left") (eD (.int 1))) [some (.r 2)] (Ws L labels bs oa la words T)) (then3 (sRt (eCall f3_take (aCons (eRG (eVar 0) "hand") (aCons (eB gLen (aCons (eRG (eVar 0) "beside") aNil)) aNil)))) (retQ false (Ws L labels bs o left words T) Q)) := fun oa la ha h0 => by
    refine wrs_left ?_
    repeat walk_at "rg"
    refine ⟨_, rfl, rfl, rfl, ?_⟩
    repeat walk_at "rg"
    rw [List.length_map]
    refine takeW ha (by omega) (by omega) fun v o1 v0 v1 h1 => ?_
    repeat walk_at "rg"
    exact q (some v) o1 (la - 1) (fun k e => by cases e; exact ⟨v0, v1⟩) h1
  unfold f3_ttail
  walk_at "fdef"
  repeat walk_at "rg"
  rw [List.length_map]
  refine ite2 (fun c => ?_) (fun c => ?_)
  · repeat walk_at "rg"
    exact q none o left (fun k e => by cases e) ho
  · have hb0 : 0 < bs.length := by
      have : ¬ ((bs.length : Nat) : Int) = 0 := fun z => c (by rw [z]; rfl)
      omega
    repeat walk_at "rg"
    refine ite2 (fun c2 => ?_) (fun c2 => ?_)
    · repeat walk_at "rg"
      exact q none o left (fun k e => by cases e) ho
    · repeat walk_at "rg"
      refine takeW ho (by decide) (by decide) fun v o1 v0 v1 h1 => ?_
      repeat walk_at "rg"
      refine ite2 (fun c3 => ?_) (fun c3 => ?_)
      · repeat walk_at "rg"
        exact q none o1 left (fun k e => by cases e) h1
      · repeat walk_at "rg"
        exact tk o1 left h1 hb0
theorem rq_dV {own : Bool} {Se : List MO} {x : PyData} {T2 : List MO} [CutR Se (Ws L labels bs o left words T)] (e : T.length + 3 = Se.length) (h : Q (.d x) (Ws L labels bs o left words T)) : retQ own Se Q (.rt (.d x) (Ws L labels bs o left words (T ++ T2))) := by
  rw [← ws_app]
  have e2 : (Ws L labels bs o left words T ++ T2).take Se.length = Ws L labels bs o left words T := by
    rw [← e, show T.length + 3 = (Ws L labels bs o left words T).length from rfl]; exact cut3
  haveI c : CutR Se (Ws L labels bs o left words T ++ T2) := ⟨fun i u hi e3 => by
    rw [List.getElem?_append_left (by rw [ws_len]; omega)] at e3
    exact (‹CutR Se (Ws L labels bs o left words T)›).h i u hi e3⟩
  exact rq_dt e2 h
end
/-! ### terms drawn -/
def Drawn (L : Int) (labels : List Str) (bs : List (List Str)) (n : Nat) : Prop := ∀ (d : Int) (T : List MO) (o : List PyData) (left words : Int) (Q : W3 → List MO → Prop), 2 * d.toNat + 1 ≤ n → HandO o →
  (∀ (t : Tm) (o' : List PyData) (left' words' : Int), TOk (PLt L) (PLt bs.length) false d.toNat t → HandO o' → Q (.d t.enc) (Ws L labels bs o' left' words' T)) → Wp2 (f3_tdrawn n [.r 2, .d (.int d)] (Ws L labels bs o left words T)) Q
def DrawnR (L : Int) (labels : List Str) (bs : List (List Str)) (n : Nat) : Prop := ∀ (d : Int) (w : Str) (T : List MO) (o : List PyData) (left words : Int) (Q : W3 → List MO → Prop), 0 < d → 2 * d.toNat ≤ n → (w = "record" ∨ w = "variant") → HandO o →
  (∀ (t : Tm) (o' : List PyData) (left' words' : Int), TOk (PLt L) (PLt bs.length) false d.toNat t → HandO o' → Q (.d t.enc) (Ws L labels bs o' left' words' T)) → Wp2 (f3_trow n [.r 2, .d (.str w), .d (.int d)] (Ws L labels bs o left words T)) Q
theorem fields_snoc {ls : List Str} {ps : List PyData} {l : Str} {p : PyData} (h : ls.length = ps.length) : fieldsD (ls ++ [l]) (ps ++ [p]) = fieldsD ls ps ++ [.tuple [.str l, p]] := by
  unfold fieldsD
  rw [List.zip_append h, List.map_append]; rfl
theorem drawnR_step {L : Int} {labels : List Str} {bs : List (List Str)} (hlab : labels.length ≤ 5) (hbs : bs.length ≤ 1000) (hbe : ∀ b ∈ bs, b.length ≤ 5) {n : Nat} (ih : Drawn L labels bs n) : DrawnR L labels bs (n + 1) := by
  intro d w T o left words Q hd hn hw ho q
  unfold f3_trow
  walk_at "fdef"
  repeat walk_at "rg"
  refine ttail3 hbs ho fun u o1 left1 hu h1 => ?_
  repeat walk_at "rg"
  have go : ∀ (xs : List Str) (x4 : Option W3), x4 = some (.d (.list (xs.map .str))) → xs.length ≤ 5 → Wp (sSeq (sSet 5 (eNo (nLst aNil))) (sSeq (sFor (iSq (eCall f3_some (aCons (eRG (eVar 0) "hand") (aCons (eVar 4) aNil)))) (gNm 6)
        (sEx (eM mApp (eVar 5) (aCons (eTup (aCons (eVar 6) (aCons (eCall (f3_tdrawn n) (aCons (eVar 0) (aCons (eOp gSub (eVar 2) (eD (.int (1)))) aNil))) aNil))) aNil))))
        (sRt (eTup (aCons (eVar 1) (aCons (eB gTupOf (aCons (eVar 5) aNil)) (aCons (eVar 3) aNil))))))
      [some (.r 2), some (.d (.str w)), some (.d (.int d)), some (.d (optI u)), x4, none, none] (Ws L labels bs o1 left1 words T)) (retQ false (Ws L labels bs o left words T) Q) := fun xs x4 hx4 hxl => by
    subst hx4
    repeat walk_at "rg"
    rw [ws_app, ws_len]
    repeat walk_at "rg"
    refine some3 (S := Ws L labels bs o1 left1 words (T ++ [.lst []])) (f := PyData.str) (xs := xs) (h := 0) rfl h1 (by omega) fun ls o2 hls h2 => ?_
    have hll : ls.length ≤ 5 := Nat.le_trans hls.length_le hxl
    repeat walk_at "rg"
    refine wp_loop (n := 0) (fun j sl S' => ∃ x ps o3 left3 words3, sl = [some (.r 2), some (.d (.str w)), some (.d (.int d)), some (.d (optI u)), some (.d (.list (xs.map .str))), some (.r (T.length + 3)), x] ∧ ps.length = j ∧ (∀ p ∈ ps, TOk (PLt L) (PLt bs.length) false (d - 1).toNat p) ∧ HandO o3 ∧ S' = Ws L labels bs o3 left3 words3 (T ++ [.lst (fieldsD (ls.take j) (ps.map Tm.enc))])) ⟨none, [], o2, left1, words, rfl, rfl, (fun p hp => by cases hp), h2, rfl⟩ (fun _ _ _ _ => rfl) (fun j w2 sl S' hw2 hj hq => ?_) (fun sl S' hq => ?_)
    · obtain ⟨x, ps, o3, left3, words3, rfl, hpl, hps, h3, rfl⟩ := hq
      obtain ⟨dd, hd2, rfl⟩ := ws_get hw2
      rw [Nat.sub_zero, List.getElem?_map] at hd2
      obtain ⟨l, hlj, rfl⟩ := Option.map_eq_some_iff.mp hd2
      have hjl := (List.getElem?_eq_some_iff.mp hlj).1
      have gT : ∀ (oa : List PyData) (la wa : Int) (m : MO), (Ws L labels bs oa la wa (T ++ [m]))[T.length + 3]? = some m := fun oa la wa m => by
        show (T ++ [m])[T.length]? = _
        exact get_last
      have sT : ∀ (oa : List PyData) (la wa : Int) (m m2 : MO), (Ws L labels bs oa la wa (T ++ [m])).set (T.length + 3) m2 = Ws L labels bs oa la wa (T ++ [m2]) := fun oa la wa m m2 => by
        show .lst oa :: .lst _ :: .rcd _ :: (T ++ [m]).set T.length m2 = _
        rw [set_last]; rfl
      repeat walk_at "rg"
      refine ih (d - 1) _ o3 left3 words3 _ (by omega) h3 fun p o4 left4 words4 hp h4 => ?_
      repeat walk_at "rg"
      refine wp_app (by unfold fieldsD; rw [List.length_map, List.length_zip, List.length_take]; omega) ?_
      rw [sT]
      repeat walk_at "rg"
      refine ⟨_, ps ++ [p], o4, left4, words4, rfl, by rw [List.length_append, hpl]; rfl, fun x hx => ?_, h4, ?_⟩
      · rcases List.mem_append.mp hx with hx | hx
        · exact hps x hx
        · rw [List.mem_singleton.mp hx]; exact hp
      · rw [take_snocU hlj, List.map_append, List.map_singleton, fields_snoc (by rw [List.length_take, List.length_map]; omega)]
    · obtain ⟨x, ps, o3, left3, words3, rfl, hpl, hps, h3, rfl⟩ := hq
      rw [List.length_map, List.length_map, Nat.zero_add] at hpl
      rw [List.length_map, List.length_map, Nat.zero_add, List.take_length]
      have gT : ∀ (oa : List PyData) (la wa : Int) (m : MO), (Ws L labels bs oa la wa (T ++ [m]))[T.length + 3]? = some m := fun oa la wa m => by
        show (T ++ [m])[T.length]? = _
        exact get_last
      repeat walk_at "rg"
      refine rq_dV rfl ?_
      have ok : TOk (PLt L) (PLt bs.length) false d.toNat (.node (.row w ls u) ps) := by
        rw [show d.toNat = (d - 1).toNat + 1 by omega]
        refine .node ⟨hw.imp id .inl, hpl.symm, by omega⟩ (fun r e => hu r e) hps
      have := q _ o3 left3 words3 ok h3
      rw [Tm.enc_node] at this
      exact this
  cases u with
  | none =>
    unfold optI at go ⊢
    repeat walk_at "r1"
    exact th_nx (go labels _ rfl hlab)
  | some r =>
    obtain ⟨r0, r1⟩ := hu r rfl
    have hrl : r.toNat < bs.length := by omega
    have hat : atI (bs.map strsL) r = some (strsL bs[r.toNat]) := atI_of r0 (by rw [List.getElem?_map, List.getElem?_eq_getElem hrl]; rfl)
    unfold optI at go ⊢
    repeat walk_at "r1"
    refine wp_ixr (i := 1) (xs := bs.map strsL) rfl hat ?_
    repeat walk_at "r1"
    exact th_nx (go bs[r.toNat] _ rfl (hbe _ (List.getElem_mem hrl)))
end EA
namespace EA
open PySem PySem.Spec PyProof.Rows L2
local macro_rules | `(tactic| walk_at "ix") => `(tactic| first | rfl | exact atI_cons0 | exact atI_map0)
local macro_rules | `(tactic| walk_at "st") => `(tactic| first | assumption | rfl | exact get_set (by assumption) | exact get_set (get_set (by assumption)) | exact get_last | exact get_setlast | exact get_setapp (by assumption) | exact get_app (by assumption) | exact get_app (get_set (by assumption)))
local macro_rules | `(tactic| walk_at "tk") => `(tactic| first | exact List.take_length | exact take_set | exact take_set2 | exact take_set3 | exact take_app | exact take_aset | exact take_setapp | rfl)
local macro_rules | `(tactic| walk_at "sd") => `(tactic| first | omega | assumption | decide)
local macro_rules | `(tactic| walk_at "wpx") => `(tactic| first
  | with_reducible refine ite2 (fun _ => ?_) (fun z => absurd rfl z)
  | with_reducible refine ite2 (fun z => absurd z Bool.false_ne_true) (fun _ => ?_)
  | ((with_reducible refine gate_wp ?_); (first
    | ((with_reducible apply wp_viewr); (walk_at "st")) | ((with_reducible apply wp_lat); (walk_at "st"))
    | ((with_reducible refine gate_eq ?_); (first | with_reducible refine wp_geqs ?_ | with_reducible refine wp_geqb ?_ | with_reducible refine wp_geq_nil ?_))
    | ((with_reducible refine gate_ne ?_); (first | with_reducible refine wp_gnes ?_ | with_reducible refine wp_gneb ?_ | with_reducible refine wp_gne_nil ?_))
    | ((with_reducible refine gate_ix ?_); (first | ((with_reducible apply wp_ixd); (walk_at "ix")) | ((with_reducible apply wp_ixt); (walk_at "ix")) | ((with_reducible apply wp_ixr); (walk_at "st"); (walk_at "ix"))))
    | ((with_reducible apply wp_trur); (walk_at "st"))
    | ((with_reducible refine wp_l4s ?_ ?_); (first | omega | assumption | decide +kernel)) | with_reducible refine wp_l4 ?_ | ((with_reducible apply wp_l3r); (walk_at "st"))
    | ((with_reducible refine wp_mod ?_ ?_); (walk_at "sd")) | ((with_reducible refine wp_fdiv ?_ ?_); (walk_at "sd")) | ((with_reducible refine wp_mulr ?_ ?_); (walk_at "sd")) | ((with_reducible refine wp_mull ?_ ?_); (walk_at "sd")) | ((with_reducible refine wp_pow ?_ ?_); (walk_at "sd"))
    | ((with_reducible apply wp_lenr); (walk_at "st"))
    | ((with_reducible refine wp_gis ?_ ?_); rfl) | ((with_reducible refine wp_gisn ?_ ?_); rfl)
    | ((with_reducible refine gate_isi ?_); (first | ((with_reducible refine isi_t (r := true) ?_ ?_); (decide +kernel)) | ((with_reducible refine isi_t (r := false) ?_ ?_); (decide +kernel)) | ((with_reducible refine isi_b (r := true) ?_ ?_); (decide +kernel)) | ((with_reducible refine isi_b (r := false) ?_ ?_); (decide +kernel)) | ((with_reducible refine isi_i (r := true) ?_ ?_); (decide +kernel)) | ((with_reducible refine isi_i (r := false) ?_ ?_); (decide +kernel)) | ((with_reducible refine isi_s (r := true) ?_ ?_); (decide +kernel)) | ((with_reducible refine isi_s (r := false) ?_ ?_); (decide +kernel)) | ((with_reducible refine isi_l (r := true) ?_ ?_); (decide +kernel)) | ((with_reducible refine isi_l (r := false) ?_ ?_); (decide +kernel)) | ((with_reducible refine isi_n (r := true) ?_ ?_); (decide +kernel)) | ((with_reducible refine isi_n (r := false) ?_ ?_); (decide +kernel))))
    | ((with_reducible apply wp_tupr); (walk_at "st"))))
  | ((with_reducible refine gate_rq ?_); (first | ((with_reducible apply rq_dt); (walk_at "tk")) | ((with_reducible apply rq_nxt); (walk_at "tk"))))
  | ((with_reducible apply fz_r); (walk_at "st")) | ((with_reducible apply sq_r); (walk_at "st"))
  | ((with_reducible apply atSet_i); (walk_at "st"); rfl) | ((with_reducible apply atLst_i); (walk_at "st")) | ((with_reducible apply nowLst_i); (walk_at "st"))
  | ((with_reducible refine rng1_i ?_ ?_); (walk_at "sd")) | ((with_reducible refine rng2_i ?_ ?_); (walk_at "sd")))
local macro_rules | `(tactic| walk_at "wp") => `(tactic| first
  | with_reducible refine step_of ?_ | ((with_reducible apply wp_var); rfl) | walk_at "wpx")
local macro_rules | `(tactic| walk_at "fdef") => `(tactic| (refine wp_fdef rfl ?_; simp only [List.map_cons, List.map_nil, List.replicate_succ, List.replicate_zero, List.cons_append, List.nil_append]))
local macro_rules | `(tactic| walk_at "keq") => `(tactic| first
  | refine wp_geqD (c := false) (.inr (by decide +kernel)) rfl ?_ | refine wp_geqD (c := true) (.inr (by decide +kernel)) rfl ?_)
local macro_rules | `(tactic| walk_at "wk") => `(tactic| first
  | with_reducible refine step_of ?_ | ((with_reducible apply wp_var); rfl)
  | ((with_reducible refine gate_wp ?_); (first
    | with_reducible refine wp_geqsD (c := false) (by decide +kernel) ?_ | with_reducible refine wp_geqsD (c := true) (by decide +kernel) ?_
    | with_reducible refine wp_gnesD (c := false) (by decide +kernel) ?_ | with_reducible refine wp_gnesD (c := true) (by decide +kernel) ?_
    | with_reducible refine wp_gin_lit (c := true) (by decide +kernel) ?_ | with_reducible refine wp_gin_lit (c := false) (by decide +kernel) ?_))
  | with_reducible refine ite_t rfl ?_ | with_reducible refine ite_f rfl ?_
  | walk_at "wpx")
local macro_rules | `(tactic| walk_at "w1") => `(tactic| (fail_if_success (with_reducible refine th_nx ?_)); walk_at "wk")
local macro_rules | `(tactic| walk_at "rg") => `(tactic| first
  | ((with_reducible apply wrg_hand); rfl) | ((with_reducible apply wrg_left); rfl) | ((with_reducible apply wrg_words); rfl) | ((with_reducible apply wrg_letters); rfl) | ((with_reducible apply wrg_labels); rfl) | ((with_reducible apply wrg_beside); rfl)
  | ((with_reducible refine rq_dW ?_ ?_); rfl)
  | walk_at "wk")
local macro_rules | `(tactic| walk_at "r1") => `(tactic| (fail_if_success (with_reducible refine th_nx ?_)); walk_at "rg")
section
variable {L : Int} {labels : List Str} {bs : List (List Str)} {o : List PyData} {left words : Int} {T : List MO} {Q : W3 → List MO → Prop}
theorem tmay3 (q : ∀ c : Bool, (c = true → 0 < L) → Q (.d (.bool c)) (Ws L labels bs o left words T)) : Wp2 (f3_tmay [.r 2] (Ws L labels bs o left words T)) Q := by
  unfold f3_tmay
  walk_at "fdef"
  repeat walk_at "rg"
  refine ite2 (fun c => ?_) (fun c => ?_)
  · repeat walk_at "rg"
    exact q _ fun h => of_decide_eq_true h
  · repeat walk_at "rg"
    exact q false fun h => by cases h
theorem parts3 {n : Nat} (ih : Drawn L labels bs n) {d : Int} (hd : 0 < d) (hn : 2 * (d - 1).toNat + 1 ≤ n) {x2 x3 x5 : Option W3} {m : Nat} {QN : List PyData → List MO → Prop} (ho : HandO o)
    (q : ∀ (ts : List Tm) (o' : List PyData) (left' words' : Int), ts.length = m → (∀ t ∈ ts, TOk (PLt L) (PLt bs.length) false (d - 1).toNat t) → HandO o' → QN (ts.map Tm.enc) (Ws L labels bs o' left' words' T)) :
    Wp2 (cLoop yes (gNm 4) tYes3 (eCall (f3_tdrawn n) (aCons (eVar 0) (aCons (eOp gSub (eVar 1) (eD (.int (1)))) aNil))) [some (.r 2), some (.d (.int d)), x2, x3, none, x5] (intsW 0 m) (Ws L labels bs o left words T)) QN := by
  refine wp_comp (n := 0) (acc := []) (fun i acc S' => ∃ ts o' left' words', acc = ts.map Tm.enc ∧ ts.length = i ∧ (∀ t ∈ ts, TOk (PLt L) (PLt bs.length) false (d - 1).toNat t) ∧ HandO o' ∧ S' = Ws L labels bs o' left' words' T)
    ⟨[], o, left, words, rfl, rfl, (fun t ht => by cases ht), ho, rfl⟩ (fun _ _ _ _ => rfl) (fun i w acc S' hw hi hp => ?_) (fun ys S' hp => ?_)
  · obtain ⟨ts, o1, l1, w1, rfl, hl, ht, h1, rfl⟩ := hp
    obtain ⟨_, rfl⟩ := intsW_get hw
    repeat walk_at "rg"
    refine ih (d - 1) T o1 l1 w1 _ hn h1 fun t o2 l2 w2 h2 h3 => ?_
    repeat walk_at "rg"
    refine ⟨ts ++ [t], o2, l2, w2, by rw [List.map_append]; rfl, by rw [List.length_append, hl]; rfl, fun x hx => ?_, h3, rfl⟩
    rcases List.mem_append.mp hx with hx | hx
    · exact ht x hx
    · rw [List.mem_singleton.mp hx]; exact h2
  · obtain ⟨ts, o1, l1, w1, e, hl, ht, h1, rfl⟩ := hp
    rw [intsW_len, Nat.zero_add] at hl
    rw [List.nil_append] at e
    rw [e]
    exact q ts o1 l1 w1 hl ht h1
end
theorem lit2 {a b : Str} {v : Int} (v0 : 0 ≤ v) (v1 : v < 2) : ∃ s : Str, atI [PyData.str a, .str b] v = some (.str s) ∧ (s = a ∨ s = b) := by
  have : v = 0 ∨ v = 1 := by omega
  rcases this with rfl | rfl
  · exact ⟨a, rfl, .inl rfl⟩
  · exact ⟨b, rfl, .inr rfl⟩
theorem drawn_step {L : Int} {labels : List Str} {bs : List (List Str)} (hL : L ≤ 1000) {n : Nat} (ih : Drawn L labels bs n) (ihR : DrawnR L labels bs n) : Drawn L labels bs (n + 1) := by
  intro d T o left words Q hn ho q
  unfold f3_tdrawn
  walk_at "fdef"
  repeat walk_at "r1"
  refine th_nx (wp_seq (wrs_words ?_))
  repeat walk_at "r1"
  refine ⟨_, rfl, rfl, rfl, ?_⟩
  repeat walk_at "rg"
  refine takeW ho (by decide) (by decide) fun v o1 v0 v1 h1 => ?_
  repeat walk_at "rg"
  have mono : ∀ {t : Tm}, TOk (PLt L) (PLt bs.length) false 0 t → TOk (PLt L) (PLt bs.length) false d.toNat t := fun h => h.mono (Nat.zero_le _)
  -- the rest, behind the letters
  have rest : ∀ (oa : List PyData) (la wa : Int), HandO oa → Wp (sSeq (sIf (tOr3 (tCmp gLe (eVar 1) (eD (.int (0)))) (tOr3 (tCmp gLt (eVar 3) (eD (.int (7)))) (tCmp gLe (eRG (eVar 0) "words") (eD (.int (0))))))
        (sRt (eCall f3_tatom (aCons (eVar 0) aNil)))
        sNx)
        (sSeq (sIf (tCmp gLt (eVar 3) (eD (.int (9))))
        (sRt (eTup (aCons (eD (.str "arrow")) (aCons (eCall (f3_tdrawn n) (aCons (eVar 0) (aCons (eOp gSub (eVar 1) (eD (.int (1)))) aNil))) (aCons (eCall (f3_tdrawn n) (aCons (eVar 0) (aCons (eOp gSub (eVar 1) (eD (.int (1)))) aNil))) aNil)))))
        sNx)
        (sSeq (sIf (tCmp gEq (eVar 3) (eD (.int (9))))
        (sRt (eTup (aCons (eD (.str "tuple")) (aCons (eB gTupOf (aCons (eNd (nLc [4] (iR1 (aCons (eOp gAdd (eD (.int (2))) (eCall f3_take (aCons (eVar 2) (aCons (eD (.int (3))) aNil)))) aNil)) (gNm 4) tYes3 (eCall (f3_tdrawn n) (aCons (eVar 0) (aCons (eOp gSub (eVar 1) (eD (.int (1)))) aNil))))) aNil)) aNil))))
        sNx)
        (sSeq (sIf (tCmp gLt (eVar 3) (eD (.int (14))))
        (sRt (eCall (f3_trow n) (aCons (eVar 0) (aCons (eOp gIx (eNd (nLst (aCons (eD (.str "record")) (aCons (eD (.str "variant")) aNil)))) (eCall f3_take (aCons (eVar 2) (aCons (eD (.int (2))) aNil)))) (aCons (eVar 1) aNil)))))
        sNx)
        (sSeq (sIf (tCmp gEq (eVar 3) (eD (.int (14))))
        (sSeq (sSet 5 (eOp gIx (eNd (nLst (aCons (eD (.str "d")) (aCons (eD (.str "d2")) aNil)))) (eCall f3_take (aCons (eVar 2) (aCons (eD (.int (2))) aNil)))))
        (sRt (eTup (aCons (eD (.str "data")) (aCons (eVar 5) (aCons (eB gTupOf (aCons (eNd (nLc [4] (iR1 (aCons (eCall f3_take (aCons (eVar 2) (aCons (eD (.int (3))) aNil))) aNil)) (gNm 4) tYes3 (eCall (f3_tdrawn n) (aCons (eVar 0) (aCons (eOp gSub (eVar 1) (eD (.int (1)))) aNil))))) aNil)) aNil))))))
        sNx)
        (sRt (eTup (aCons (eD (.str "cell")) (aCons (eCall (f3_tdrawn n) (aCons (eVar 0) (aCons (eOp gSub (eVar 1) (eD (.int (1)))) aNil))) aNil)))))))) [some (.r 2), some (.d (.int d)), some (.r 0), some (.d (.int v)), none, none] (Ws L labels bs oa la wa T)) (retQ false (Ws L labels bs o left words T) Q) := fun oa la wa ha => by
    have atom : Wp2 (f3_tatom [.r 2] (Ws L labels bs oa la wa T)) (fun p1 p2 => retQ false (Ws L labels bs o left words T) Q (.rt p1 p2)) := tatom3 (PL := PLt L) (PR := PLt bs.length) ha fun t o' ht h' => rq_dW rfl (q t o' _ _ (mono ht) h')
    repeat walk_at "r1"
    refine ite2 (fun c => ?_) (fun c => ?_)
    · repeat walk_at "r1"
      exact atom
    · have hd : 0 < d := by
        have : ¬ d ≤ 0 := fun z => c (decide_eq_true z)
        omega
      have e1 : d.toNat = (d - 1).toNat + 1 := by omega
      have hn2 : 2 * (d - 1).toNat + 1 ≤ n := by omega
      have noR : ∀ {hd : Hd}, hd.tail = none → ∀ r, hd.tail = some r → PLt bs.length r := fun h r e => by rw [h] at e; cases e
      repeat walk_at "r1"
      refine ite2 (fun c => ?_) (fun c => ?_)
      · repeat walk_at "r1"
        exact atom
      · repeat walk_at "r1"
        refine ite2 (fun c => ?_) (fun c => ?_)
        · repeat walk_at "r1"
          exact atom
        · repeat walk_at "rg"
          refine ite2 (fun c => ?_) (fun c => ?_)
          · repeat walk_at "rg"
            refine ih (d - 1) T oa la wa _ hn2 ha fun t1 o2 l2 w2 ht1 h2 => ?_
            repeat walk_at "rg"
            refine ih (d - 1) T o2 l2 w2 _ hn2 h2 fun t2 o3 l3 w3 ht2 h3 => ?_
            repeat walk_at "rg"
            have := q (.node .arrow [t1, t2]) o3 l3 w3 (by
              rw [e1]
              exact .node rfl (noR rfl) fun p hp => by
                simp only [List.mem_cons, List.not_mem_nil, or_false] at hp
                rcases hp with rfl | rfl
                · exact ht1
                · exact ht2) h3
            rw [Tm.enc_node] at this
            exact this
          · repeat walk_at "rg"
            refine ite2 (fun c => ?_) (fun c => ?_)
            · repeat walk_at "rg"
              refine takeW ha (by decide) (by decide) fun u o2 u0 u1 h2 => ?_
              repeat walk_at "rg"
              refine ⟨by dsimp only; rw [intsW_len]; omega, ?_⟩
              refine parts3 ih hd hn2 h2 fun ts o3 l3 w3 hl ht h3 => ?_
              repeat walk_at "rg"
              have := q (.node .tuple ts) o3 l3 w3 (by
                rw [e1]
                exact .node (by show ts.length ≤ 5; omega) (noR rfl) ht) h3
              rw [Tm.enc_node] at this
              exact this
            · repeat walk_at "rg"
              refine ite2 (fun c => ?_) (fun c => ?_)
              · repeat walk_at "rg"
                refine takeW ha (by decide) (by decide) fun u o2 u0 u1 h2 => ?_
                obtain ⟨s, hs, hs2⟩ := lit2 (a := "record") (b := "variant") u0 u1
                repeat walk_at "rg"
                refine wp_ixd hs ?_
                repeat walk_at "rg"
                refine ihR d s T o2 la wa _ hd (by omega) hs2 h2 fun t o3 l3 w3 ht h3 => ?_
                repeat walk_at "rg"
                exact q t o3 l3 w3 ht h3
              · repeat walk_at "rg"
                refine ite2 (fun c => ?_) (fun c => ?_)
                · repeat walk_at "rg"
                  refine takeW ha (by decide) (by decide) fun u o2 u0 u1 h2 => ?_
                  obtain ⟨s, hs, hs2⟩ := lit2 (a := "d") (b := "d2") u0 u1
                  repeat walk_at "rg"
                  refine wp_ixd hs ?_
                  repeat walk_at "rg"
                  refine takeW h2 (by decide) (by decide) fun x o3 x0 x1 h3 => ?_
                  repeat walk_at "rg"
                  refine ⟨by dsimp only; rw [intsW_len]; omega, ?_⟩
                  refine parts3 ih hd hn2 h3 fun ts o4 l4 w4 hl ht h4 => ?_
                  repeat walk_at "rg"
                  have := q (.node (.data s) ts) o4 l4 w4 (by
                    rw [e1]
                    exact .node (by show ts.length ≤ 5; omega) (noR rfl) ht) h4
                  rw [Tm.enc_node] at this
                  exact this
                · repeat walk_at "rg"
                  refine ih (d - 1) T oa la wa _ hn2 ha fun t1 o2 l2 w2 ht1 h2 => ?_
                  repeat walk_at "rg"
                  have := q (.node .cell [t1]) o2 l2 w2 (by
                    rw [e1]
                    exact .node rfl (noR rfl) fun p hp => by
                      rw [List.mem_singleton.mp hp]; exact ht1) h2
                  rw [Tm.enc_node] at this
                  exact this
  refine ite2 (fun c => ?_) (fun c => ?_)
  · repeat walk_at "r1"
    refine tmay3 fun c2 hc2 => ?_
    repeat walk_at "r1"
    cases c2 with
    | true =>
      refine ite_t rfl ?_
      repeat walk_at "r1"
      refine tletter3 hL (hc2 rfl) h1 fun k o2 l2 hk h2 => ?_
      repeat walk_at "rg"
      exact q _ o2 l2 _ (.letter hk) h2
    | false =>
      refine ite_f rfl ?_
      exact wp_nx (th_nx (rest o1 left _ h1))
  · exact wp_nx (th_nx (rest o1 left _ h1))
theorem drawn_all {L : Int} {labels : List Str} {bs : List (List Str)} (hL : L ≤ 1000) (hlab : labels.length ≤ 5) (hbs : bs.length ≤ 1000) (hbe : ∀ b ∈ bs, b.length ≤ 5) : ∀ n, Drawn L labels bs n ∧ DrawnR L labels bs n
  | 0 => ⟨fun d T o l w Q hn => absurd hn (by omega), fun d w T o l wd Q hd hn => absurd hn (by omega)⟩
  | n + 1 => ⟨drawn_step hL (drawn_all hL hlab hbs hbe n).1 (drawn_all hL hlab hbs hbe n).2, drawnR_step hlab hbs hbe (drawn_all hL hlab hbs hbe n).1⟩
end EA
namespace EA
open PySem PySem.Spec PyProof.Rows L2
local macro_rules | `(tactic| walk_at "ix") => `(tactic| first | rfl | exact atI_cons0 | exact atI_map0)
local macro_rules | `(tactic| walk_at "st") => `(tactic| first | assumption | rfl | exact get_set (by assumption) | exact get_set (get_set (by assumption)) | exact get_last | exact get_setlast | exact get_setapp (by assumption) | exact get_app (by assumption) | exact get_app (get_set (by assumption)))
local macro_rules | `(tactic| walk_at "tk") => `(tactic| first | exact List.take_length | exact take_set | exact take_set2 | exact take_set3 | exact take_app | exact take_aset | exact take_setapp | rfl)
local macro_rules | `(tactic| walk_at "sd") => `(tactic| first | omega | assumption | decide)
local macro_rules | `(tactic| walk_at "wpx") => `(tactic| first
  | with_reducible refine ite2 (fun _ => ?_) (fun z => absurd rfl z)
  | with_reducible refine ite2 (fun z => absurd z Bool.false_ne_true) (fun _ => ?_)
  | ((with_reducible refine gate_wp ?_); (first
    | ((with_reducible apply wp_viewr); (walk_at "st")) | ((with_reducible apply wp_lat); (walk_at "st"))
    | ((with_reducible refine gate_eq ?_); (first | with_reducible refine wp_geqs ?_ | with_reducible refine wp_geqb ?_ | with_reducible refine wp_geq_nil ?_))
    | ((with_reducible refine gate_ne ?_); (first | with_reducible refine wp_gnes ?_ | with_reducible refine wp_gneb ?_ | with_reducible refine wp_gne_nil ?_))
    | ((with_reducible refine gate_ix ?_); (first | ((with_reducible apply wp_ixd); (walk_at "ix")) | ((with_reducible apply wp_ixt); (walk_at "ix")) | ((with_reducible apply wp_ixr); (walk_at "st"); (walk_at "ix"))))
    | ((with_reducible apply wp_trur); (walk_at "st"))
    | ((with_reducible refine wp_l4s ?_ ?_); (first | omega | assumption | decide +kernel)) | with_reducible refine wp_l4 ?_ | ((with_reducible apply wp_l3r); (walk_at "st"))
    | ((with_reducible refine wp_mod ?_ ?_); (walk_at "sd")) | ((with_reducible refine wp_fdiv ?_ ?_); (walk_at "sd")) | ((with_reducible refine wp_mulr ?_ ?_); (walk_at "sd")) | ((with_reducible refine wp_mull ?_ ?_); (walk_at "sd")) | ((with_reducible refine wp_pow ?_ ?_); (walk_at "sd"))
    | ((with_reducible apply wp_lenr); (walk_at "st"))
    | ((with_reducible refine wp_gis ?_ ?_); rfl) | ((with_reducible refine wp_gisn ?_ ?_); rfl)
    | ((with_reducible refine gate_isi ?_); (first | ((with_reducible refine isi_t (r := true) ?_ ?_); (decide +kernel)) | ((with_reducible refine isi_t (r := false) ?_ ?_); (decide +kernel)) | ((with_reducible refine isi_b (r := true) ?_ ?_); (decide +kernel)) | ((with_reducible refine isi_b (r := false) ?_ ?_); (decide +kernel)) | ((with_reducible refine isi_i (r := true) ?_ ?_); (decide +kernel)) | ((with_reducible refine isi_i (r := false) ?_ ?_); (decide +kernel)) | ((with_reducible refine isi_s (r := true) ?_ ?_); (decide +kernel)) | ((with_reducible refine isi_s (r := false) ?_ ?_); (decide +kernel)) | ((with_reducible refine isi_l (r := true) ?_ ?_); (decide +kernel)) | ((with_reducible refine isi_l (r := false) ?_ ?_); (decide +kernel)) | ((with_reducible refine isi_n (r := true) ?_ ?_); (decide +kernel)) | ((with_reducible refine isi_n (r := false) ?_ ?_); (decide +kernel))))
    | ((with_reducible apply wp_tupr); (walk_at "st"))))
  | ((with_reducible refine gate_rq ?_); (first | ((with_reducible apply rq_dt); (walk_at "tk")) | ((with_reducible apply rq_nxt); (walk_at "tk"))))
  | ((with_reducible apply fz_r); (walk_at "st")) | ((with_reducible apply sq_r); (walk_at "st"))
  | ((with_reducible apply atSet_i); (walk_at "st"); rfl) | ((with_reducible apply atLst_i); (walk_at "st")) | ((with_reducible apply nowLst_i); (walk_at "st"))
  | ((with_reducible refine rng1_i ?_ ?_); (walk_at "sd")) | ((with_reducible refine rng2_i ?_ ?_); (walk_at "sd")))
local macro_rules | `(tactic| walk_at "wp") => `(tactic| first
  | with_reducible refine step_of ?_ | ((with_reducible apply wp_var); rfl) | walk_at "wpx")
local macro_rules | `(tactic| walk_at "fdef") => `(tactic| (refine wp_fdef rfl ?_; simp only [List.map_cons, List.map_nil, List.replicate_succ, List.replicate_zero, List.cons_append, List.nil_append]))
local macro_rules | `(tactic| walk_at "keq") => `(tactic| first
  | refine wp_geqD (c := false) (.inr (by decide +kernel)) rfl ?_ | refine wp_geqD (c := true) (.inr (by decide +kernel)) rfl ?_)
local macro_rules | `(tactic| walk_at "wk") => `(tactic| first
  | with_reducible refine step_of ?_ | ((with_reducible apply wp_var); rfl)
  | ((with_reducible refine gate_wp ?_); (first
    | with_reducible refine wp_geqsD (c := false) (by decide +kernel) ?_ | with_reducible refine wp_geqsD (c := true) (by decide +kernel) ?_
    | with_reducible refine wp_gnesD (c := false) (by decide +kernel) ?_ | with_reducible refine wp_gnesD (c := true) (by decide +kernel) ?_
    | with_reducible refine wp_gin_lit (c := true) (by decide +kernel) ?_ | with_reducible refine wp_gin_lit (c := false) (by decide +kernel) ?_))
  | with_reducible refine ite_t rfl ?_ | with_reducible refine ite_f rfl ?_
  | walk_at "wpx")
local macro_rules | `(tactic| walk_at "w1") => `(tactic| (fail_if_success (with_reducible refine th_nx ?_)); walk_at "wk")
theorem rq_ownW {Se S : List MO} {i : Nat} {kvs : List (Str × W3)} {Q : W3 → List MO → Prop} (hi : ¬ i < Se.length) (e : S[i]? = some (.rcd kvs)) (q : Q (.r i) S) : retQ true Se Q (.rt (.r i) S) := by
  refine ⟨(.r i, S), ?_, q⟩
  unfold ret3
  dsimp only
  rw [if_neg hi, e]; rfl
theorem wp_sortP {S : List MO} {ks : List Str} {QL : List PyData → Prop} (q : ∀ ms : List Str, ms.Perm ks → QL (ms.map .str)) : Wp (gSorted S [.d (.list (ks.map .str))]) QL := by
  refine wp_sortD (fun a ha b hb => ?_) (fun _ => .inr fun d hd => ?_) (fun d hd => ?_) ?_
  · obtain ⟨x, _, rfl⟩ := List.mem_map.mp ha
    obtain ⟨y, _, rfl⟩ := List.mem_map.mp hb
    rfl
  · obtain ⟨x, _, rfl⟩ := List.mem_map.mp hd
    exact ⟨(fun z => nomatch z), fun _ z => nomatch z⟩
  · obtain ⟨x, _, rfl⟩ := List.mem_map.mp hd
    exact dep_str x
  · obtain ⟨ms, e, p⟩ := perm_map_inv (List.mergeSort_perm (ks.map PyData.str) (W.dataLe false id)) rfl
    rw [e]
    exact q ms p
theorem world3 {o : List PyData} {L R words : Int} (ho : HandO o) (r0 : 0 ≤ R) (r1 : R ≤ 10) {Q : W3 → List MO → Prop}
    (q : ∀ (labels : List Str) (bs : List (List Str)) (o' : List PyData), HandO o' → labels.length = 5 → (bs.length : Int) = R → (∀ b ∈ bs, b.length ≤ 5) → Q (.r 2) (Ws L labels bs o' 10 words [])) : Wp2 (f3_world [.r 0, .d (.int L), .d (.int R), .d (.int words)] [.lst o]) Q := by
  have fetch : ∀ {o : List PyData} {T : List MO} {m : Int} {Q : W3 → List MO → Prop}, HandO o → 0 < m → m < 1073741824 → (∀ (v : Int) (o' : List PyData), 0 ≤ v → v < m → HandO o' → Q (.d (.int v)) (.lst o' :: T)) → Wp2 (f3_take [.r 0, .d (.int m)] (.lst o :: T)) Q := fun ho m0 m1 q => take3 (h := 0) rfl ho m0 m1 q
  unfold f3_world
  walk_at "fdef"
  repeat walk_at "wk"
  refine fetch ho (by decide) (by decide) fun v o1 v0 v1 h1 => ?_
  repeat walk_at "wk"
  refine fetch h1 (by decide) (by decide) fun u o2 u0 u1 h2 => ?_
  repeat walk_at "wk"
  obtain ⟨x, hx, hm⟩ := atI_ltU (xs := [PyData.int 1, .int 3, .int 5, .int 7, .int 9, .int 11]) u0 (by show u < 6; omega)
  refine wp_ixd hx ?_
  obtain ⟨st, rfl⟩ : ∃ s : Int, x = .int s := by
    simp only [List.mem_cons, List.not_mem_nil, or_false] at hm
    rcases hm with rfl | rfl | rfl | rfl | rfl | rfl <;> exact ⟨_, rfl⟩
  clear hx hm
  repeat walk_at "wk"
  refine fetch h2 (by decide) (by decide) fun y o3 y0 y1 h3 => ?_
  repeat walk_at "wk"
  obtain ⟨x, hx, hm⟩ := atI_ltU (xs := [PyData.str "", .str "0", .str "a7"]) y0 (by show y < 3; omega)
  refine wp_ixd hx ?_
  obtain ⟨en, rfl, hen⟩ : ∃ s : Str, x = .str s ∧ s.length ≤ 10 := by
    simp only [List.mem_cons, List.not_mem_nil, or_false] at hm
    rcases hm with rfl | rfl | rfl <;> exact ⟨_, rfl, by decide +kernel⟩
  clear hx hm
  repeat walk_at "wk"
  refine ⟨by dsimp only; rw [intsW_len]; decide, ?_⟩
  refine wp_comp (n := 0) (acc := []) (fun i acc S' => ∃ ks : List Str, acc = ks.map .str ∧ ks.length = i ∧ S' = [.lst o3]) ⟨[], rfl, rfl, rfl⟩ (fun _ _ _ _ => rfl) (fun i w acc S' hw hi hp => ?_) (fun ys S' hp => ?_)
  · obtain ⟨ks, rfl, hk, rfl⟩ := hp
    obtain ⟨hi5, rfl⟩ := intsW_get hw
    have hi5 : i - 0 < 5 := hi5
    have z0 := Int.emod_nonneg (v + st * (0 + ((i - 0 : Nat) : Int))) (by decide : (26 : Int) ≠ 0)
    have z1 := Int.emod_lt_of_pos (v + st * (0 + ((i - 0 : Nat) : Int))) (by decide : (0 : Int) < 26)
    obtain ⟨c, hc, _⟩ := atI_ltU (xs := (("abcdefghijklmnopqrstuvwxyz" : Str).cps.toList)) z0 (by show _ < (26 : Int); exact z1)
    repeat walk_at "wk"
    refine wp_ixs (by decide +kernel) hc ?_
    repeat walk_at "wk"
    refine wp_adds (by show 1 + _ ≤ _; omega) ?_
    repeat walk_at "wk"
    exact ⟨ks ++ [_], by rw [List.map_append]; rfl, by rw [List.length_append, hk]; rfl, rfl⟩
  · obtain ⟨ks, e, hk, rfl⟩ := hp
    rw [List.nil_append] at e
    subst e
    rw [intsW_len] at hk
    repeat walk_at "wk"
    refine wp_sortP fun labels hpm => ?_
    have hl5 : labels.length = 5 := by rw [hpm.length_eq, hk]; rfl
    repeat walk_at "wk"
    refine wp_loop (n := 0) (fun j sl S' => ∃ x ob bs, sl = [some (.r 0), some (.d (.int L)), some (.d (.int R)), some (.d (.int words)), some (.d (.int v)), some (.d (.int st)), some (.d (.str en)), some (.d (.list (labels.map .str))), none, some (.r 1), x] ∧ HandO ob ∧ bs.length = j ∧ (∀ b ∈ bs, b.length ≤ 5) ∧ S' = [.lst ob, .lst (bs.map strsL)])
      ⟨none, o3, [], rfl, h3, rfl, (fun b hb => by cases hb), rfl⟩ (fun _ _ _ _ => rfl) (fun j w sl S' hw hj hq => ?_) (fun sl S' hq => ?_)
    · obtain ⟨x, ob, bs, rfl, hb, hbl, hb5, rfl⟩ := hq
      obtain ⟨hj2, rfl⟩ := intsW_get hw
      have hj3 : j - 0 < R.toNat := hj2
      repeat walk_at "wk"
      refine some3 (f := PyData.str) (xs := labels) (h := 0) rfl hb (by omega) fun ls o5 hls h5 => ?_
      repeat walk_at "wk"
      refine wp_app (by rw [List.length_map]; omega) ?_
      repeat walk_at "wk"
      refine ⟨_, o5, bs ++ [ls], rfl, h5, by rw [List.length_append, hbl]; rfl, fun b hb => ?_, by rw [List.map_append]; rfl⟩
      rcases List.mem_append.mp hb with hb | hb
      · exact hb5 b hb
      · rw [List.mem_singleton.mp hb]
        exact Nat.le_trans hls.length_le (by omega)
    · obtain ⟨x, ob, bs, rfl, hb, hbl, hb5, rfl⟩ := hq
      have hbl2 : bs.length = R.toNat := by rw [hbl]; show 0 + (intsW 0 R.toNat).length = _; rw [intsW_len]; omega
      repeat walk_at "wk"
      refine wp_rd ?_
      repeat (first | walk_at "wk" | refine wp_rd1 ?_ | refine wp_rd0 ?_)
      refine ⟨⟨by show (["hand", "left", "words", "letters", "labels", "beside"] : List Str).Nodup; decide +kernel, by show 6 ≤ 15; decide⟩, ?_⟩
      exact rq_ownW (by show ¬ 2 < 1; decide) rfl (q labels bs ob hb hl5 (by omega) hb5)
/-! ### numberings -/
structure Num (L : Nat) (R : Nat) (Ls Rs : List PyData) (φ ψ : Int → Int) : Prop where
  hL : ∀ k, PLt L k → atI Ls k = some (.int (φ k))
  hR : ∀ k, PLt R k → atI Rs k = some (.int (ψ k))
  inj : ∀ p q : Bool × Int, (if p.1 = true then PLt R p.2 else PLt L p.2) → (if q.1 = true then PLt R q.2 else PLt L q.2) → (mvP φ ψ p).2 = (mvP φ ψ q).2 → p = q
  small : ∀ k, PLt R k → ψ k < 50000000000
theorem num_of {es : List Int} {f : Int} {L R : Nat} (hp : es.Perm ((List.range 12).map fun i : Nat => (i : Int))) (hf : 0 < f) (hf2 : f ≤ 1000000000) (hL : L ≤ 6) (hR : R ≤ 4) :
    Num L R (((es.map (· * f)).take L).map .int) ((((es.map (· * f)).drop 6).take R).map .int) (fun k => es.getD k.toNat 0 * f) (fun k => es.getD (6 + k.toNat) 0 * f) := by
  have hl : es.length = 12 := by rw [hp.length_eq]; rfl
  have hnd : es.Nodup := by
    rw [hp.nodup_iff]
    decide
  have hb : ∀ j, j < 12 → 0 ≤ es.getD j 0 ∧ es.getD j 0 < 12 := fun j hj => by
    have hm : es.getD j 0 ∈ es := by
      rw [List.getD_eq_getElem?_getD, List.getElem?_eq_getElem (by omega)]
      exact List.getElem_mem _
    have := hp.mem_iff.mp hm
    obtain ⟨i, hi, e⟩ := List.mem_map.mp this
    have := List.mem_range.mp hi
    omega
  have hin : ∀ i j, i < 12 → j < 12 → es.getD i 0 * f = es.getD j 0 * f → i = j := fun i j hi hj e => by
    have e2 : es.getD i 0 = es.getD j 0 := Int.eq_of_mul_eq_mul_right (by omega) e
    rw [List.getD_eq_getElem?_getD, List.getD_eq_getElem?_getD, List.getElem?_eq_getElem (by omega), List.getElem?_eq_getElem (by omega)] at e2
    exact nodup_at hnd (List.getElem?_eq_some_iff.mpr ⟨by omega, e2⟩) (List.getElem?_eq_getElem (by omega))
  refine ⟨fun k hk => ?_, fun k hk => ?_, fun p q hp2 hq2 e => ?_, fun k hk => ?_⟩
  · refine atI_of hk.1 ?_
    have : k.toNat < L := by have := hk.1; have := hk.2; omega
    rw [List.getElem?_map, List.getElem?_take_of_lt this, List.getElem?_map, List.getElem?_eq_getElem (by omega), List.getD_eq_getElem?_getD, List.getElem?_eq_getElem (by omega)]
    rfl
  · refine atI_of hk.1 ?_
    have : k.toNat < R := by have := hk.1; have := hk.2; omega
    rw [List.getElem?_map, List.getElem?_take_of_lt this, List.getElem?_drop, List.getElem?_map, List.getElem?_eq_getElem (by omega), List.getD_eq_getElem?_getD, List.getElem?_eq_getElem (by omega)]
    rfl
  · obtain ⟨c, k⟩ := p
    obtain ⟨d, l⟩ := q
    cases c <;> cases d
    · have h1 : PLt L k := hp2
      have h2 : PLt L l := hq2
      have := hin k.toNat l.toNat (by have := h1.1; have := h1.2; omega) (by have := h2.1; have := h2.2; omega) e
      exact Prod.ext rfl (by show k = l; have := h1.1; have := h2.1; omega)
    · have h1 : PLt L k := hp2
      have h2 : PLt R l := hq2
      have := hin k.toNat (6 + l.toNat) (by have := h1.1; have := h1.2; omega) (by have := h2.1; have := h2.2; omega) e
      have := h1.2
      omega
    · have h1 : PLt R k := hp2
      have h2 : PLt L l := hq2
      have := hin (6 + k.toNat) l.toNat (by have := h1.1; have := h1.2; omega) (by have := h2.1; have := h2.2; omega) e
      have := h2.2
      omega
    · have h1 : PLt R k := hp2
      have h2 : PLt R l := hq2
      have := hin (6 + k.toNat) (6 + l.toNat) (by have := h1.1; have := h1.2; omega) (by have := h2.1; have := h2.2; omega) e
      exact Prod.ext rfl (by show k = l; have := h1.1; have := h2.1; omega)
  · have h1 := hb (6 + k.toNat) (by have := hk.1; have := hk.2; omega)
    show es.getD (6 + k.toNat) 0 * f < _
    have h2 : es.getD (6 + k.toNat) 0 * f ≤ 11 * f := Int.mul_le_mul_of_nonneg_right (by omega) (by omega)
    omega
theorem cutD_mid {α : Type} (xs : List α) (a b : Nat) (ha : a ≤ xs.length) : cutD xs (some (a : Int)) (some ((a + b : Nat) : Int)) = (xs.drop a).take b := by
  unfold cutD
  rw [HT.sIx_nat, HT.sIx_nat, Nat.min_eq_left ha]
  by_cases h : a + b ≤ xs.length
  · rw [Nat.min_eq_left h, show a + b - a = b by omega]
  · rw [Nat.min_eq_right (by omega)]
    rw [List.take_of_length_le (by rw [List.length_drop]; exact Nat.le_refl _), List.take_of_length_le (by rw [List.length_drop]; omega)]
theorem numbering3 {l : Nat} {labels : List Str} {bs : List (List Str)} {o : List PyData} {left words : Int} {T : List MO} {Q : W3 → List MO → Prop} (hl : l ≤ 6) (hb : bs.length ≤ 4) (ho : HandO o)
    (q : ∀ (Ls Rs : List PyData) (φ ψ : Int → Int) (o' : List PyData), Num l bs.length Ls Rs φ ψ → HandO o' → Q (.d (.list [.list Ls, .list Rs])) (Ws l labels bs o' left words T)) : Wp2 (f3_numbering [.r 0, .r 2] (Ws l labels bs o left words T)) Q := by
  unfold f3_numbering
  walk_at "fdef"
  repeat walk_at "wk"
  refine wp_nrg ?_
  repeat walk_at "wk"
  refine ⟨12, rfl, by decide, ?_⟩
  repeat walk_at "wk"
  refine shuffled3 (h := 0) rfl ho (by rw [List.length_map, List.length_range]; decide) fun es o1 hp h1 => ?_
  obtain ⟨es, rfl, hp2⟩ := perm_map_inv (f := PyData.int) hp (m := (List.range 12).map fun i : Nat => (i : Int)) (by rw [List.map_map]; rfl)
  have hlen : es.length = 12 := by rw [hp2.length_eq]; rfl
  clear hp
  rw [show (Ws l labels bs o left words T).set 0 (.lst o1) = Ws l labels bs o1 left words T from rfl]
  repeat walk_at "wk"
  refine takeW h1 (by decide) (by decide) fun v o2 v0 v1 h2 => ?_
  obtain ⟨x, hx, hm⟩ := atI_ltU (xs := [PyData.int 1, .int 1, .int 1009, .int (10 ^ (9 : Int).toNat)]) v0 (by show v < 4; omega)
  repeat walk_at "wk"
  refine wp_ixd hx ?_
  obtain ⟨f, rfl, hf0, hf1⟩ : ∃ s : Int, x = .int s ∧ 0 < s ∧ s ≤ 1000000000 := by
    simp only [List.mem_cons, List.not_mem_nil, or_false] at hm
    rcases hm with rfl | rfl | rfl | rfl <;> exact ⟨_, rfl, by decide, by decide⟩
  clear hx hm
  repeat walk_at "wk"
  refine ⟨by rw [List.length_map, List.length_map]; omega, ?_⟩
  refine wp_all (xs := es) (w := fun k => .d (.int k)) (v := fun k => .int (k * f)) (by dsimp only; rw [List.map_map]; rfl) rfl (fun k hk => ?_) ?_ gnm_st
  · repeat walk_at "wk"
    exact ⟨rfl, rfl⟩
  · have hes : (es.map fun k => PyData.int (k * f)) = (es.map (· * f)).map .int := by rw [List.map_map]; rfl
    rw [hes]
    repeat walk_at "wk"
    refine wp_rg ?_
    repeat walk_at "wk"
    refine ⟨wdR left words l labels, _, rfl, rfl, ?_⟩
    repeat walk_at "wk"
    refine wp_rg ?_
    repeat walk_at "wk"
    refine ⟨wdR left words l labels, _, rfl, rfl, ?_⟩
    repeat (first | ((with_reducible refine rq_dW ?_ ?_); rfl) | walk_at "wk")
    rw [List.length_map, show (6 : Int) + (bs.length : Nat) = ((6 + bs.length : Nat) : Int) by omega, cutD_map, cutD_map, cutD_to, show (some (6 : Int)) = some ((6 : Nat) : Int) from rfl, cutD_mid _ _ _ (by simp only [List.length_map]; omega)]
    have hn := num_of hp2 hf0 hf1 hl hb
    simp only [List.map_take, List.map_drop] at hn ⊢
    exact q _ _ _ _ o2 hn h2
end EA
namespace EA
open PySem PySem.Spec PyProof.Rows L2
local macro_rules | `(tactic| walk_at "ix") => `(tactic| first | rfl | exact atI_cons0 | exact atI_map0)
local macro_rules | `(tactic| walk_at "st") => `(tactic| first | assumption | rfl | exact get_set (by assumption) | exact get_set (get_set (by assumption)) | exact get_last | exact get_setlast | exact get_setapp (by assumption) | exact get_app (by assumption) | exact get_app (get_set (by assumption)))
local macro_rules | `(tactic| walk_at "tk") => `(tactic| first | exact List.take_length | exact take_set | exact take_set2 | exact take_set3 | exact take_app | exact take_aset | exact take_setapp | rfl)
local macro_rules | `(tactic| walk_at "sd") => `(tactic| first | omega | assumption | decide)
local macro_rules | `(tactic| walk_at "wpx") => `(tactic| first
  | with_reducible refine ite2 (fun _ => ?_) (fun z => absurd rfl z)
  | with_reducible refine ite2 (fun z => absurd z Bool.false_ne_true) (fun _ => ?_)
  | ((with_reducible refine gate_wp ?_); (first
    | ((with_reducible apply wp_viewr); (walk_at "st")) | ((with_reducible apply wp_lat); (walk_at "st"))
    | ((with_reducible refine gate_eq ?_); (first | with_reducible refine wp_geqs ?_ | with_reducible refine wp_geqb ?_ | with_reducible refine wp_geq_nil ?_))
    | ((with_reducible refine gate_ne ?_); (first | with_reducible refine wp_gnes ?_ | with_reducible refine wp_gneb ?_ | with_reducible refine wp_gne_nil ?_))
    | ((with_reducible refine gate_ix ?_); (first | ((with_reducible apply wp_ixd); (walk_at "ix")) | ((with_reducible apply wp_ixt); (walk_at "ix")) | ((with_reducible apply wp_ixr); (walk_at "st"); (walk_at "ix"))))
    | ((with_reducible apply wp_trur); (walk_at "st"))
    | ((with_reducible refine wp_l4s ?_ ?_); (first | omega | assumption | decide +kernel)) | with_reducible refine wp_l4 ?_ | ((with_reducible apply wp_l3r); (walk_at "st"))
    | ((with_reducible refine wp_mod ?_ ?_); (walk_at "sd")) | ((with_reducible refine wp_fdiv ?_ ?_); (walk_at "sd")) | ((with_reducible refine wp_mulr ?_ ?_); (walk_at "sd")) | ((with_reducible refine wp_mull ?_ ?_); (walk_at "sd")) | ((with_reducible refine wp_pow ?_ ?_); (walk_at "sd"))
    | ((with_reducible apply wp_lenr); (walk_at "st"))
    | ((with_reducible refine wp_gis ?_ ?_); rfl) | ((with_reducible refine wp_gisn ?_ ?_); rfl)
    | ((with_reducible refine gate_isi ?_); (first | ((with_reducible refine isi_t (r := true) ?_ ?_); (decide +kernel)) | ((with_reducible refine isi_t (r := false) ?_ ?_); (decide +kernel)) | ((with_reducible refine isi_b (r := true) ?_ ?_); (decide +kernel)) | ((with_reducible refine isi_b (r := false) ?_ ?_); (decide +kernel)) | ((with_reducible refine isi_i (r := true) ?_ ?_); (decide +kernel)) | ((with_reducible refine isi_i (r := false) ?_ ?_); (decide +kernel)) | ((with_reducible refine isi_s (r := true) ?_ ?_); (decide +kernel)) | ((with_reducible refine isi_s (r := false) ?_ ?_); (decide +kernel)) | ((with_reducible refine isi_l (r := true) ?_ ?_); (decide +kernel)) | ((with_reducible refine isi_l (r := false) ?_ ?_); (decide +kernel)) | ((with_reducible refine isi_n (r := true) ?_ ?_); (decide +kernel)) | ((with_reducible refine isi_n (r := false) ?_ ?_); (decide +kernel))))
    | ((with_reducible apply wp_tupr); (walk_at "st"))))
  | ((with_reducible refine gate_rq ?_); (first | ((with_reducible apply rq_dt); (walk_at "tk")) | ((with_reducible apply rq_nxt); (walk_at "tk"))))
  | ((with_reducible apply fz_r); (walk_at "st")) | ((with_reducible apply sq_r); (walk_at "st"))
  | ((with_reducible apply atSet_i); (walk_at "st"); rfl) | ((with_reducible apply atLst_i); (walk_at "st")) | ((with_reducible apply nowLst_i); (walk_at "st"))
  | ((with_reducible refine rng1_i ?_ ?_); (walk_at "sd")) | ((with_reducible refine rng2_i ?_ ?_); (walk_at "sd")))
local macro_rules | `(tactic| walk_at "wp") => `(tactic| first
  | with_reducible refine step_of ?_ | ((with_reducible apply wp_var); rfl) | walk_at "wpx")
local macro_rules | `(tactic| walk_at "fdef") => `(tactic| (refine wp_fdef rfl ?_; simp only [List.map_cons, List.map_nil, List.replicate_succ, List.replicate_zero, List.cons_append, List.nil_append]))
local macro_rules | `(tactic| walk_at "keq") => `(tactic| first
  | refine wp_geqD (c := false) (.inr (by decide +kernel)) rfl ?_ | refine wp_geqD (c := true) (.inr (by decide +kernel)) rfl ?_)
local macro_rules | `(tactic| walk_at "wk") => `(tactic| first
  | with_reducible refine step_of ?_ | ((with_reducible apply wp_var); rfl)
  | ((with_reducible refine gate_wp ?_); (first
    | with_reducible refine wp_geqsD (c := false) (by decide +kernel) ?_ | with_reducible refine wp_geqsD (c := true) (by decide +kernel) ?_
    | with_reducible refine wp_gnesD (c := false) (by decide +kernel) ?_ | with_reducible refine wp_gnesD (c := true) (by decide +kernel) ?_
    | with_reducible refine wp_gin_lit (c := true) (by decide +kernel) ?_ | with_reducible refine wp_gin_lit (c := false) (by decide +kernel) ?_))
  | with_reducible refine ite_t rfl ?_ | with_reducible refine ite_f rfl ?_
  | walk_at "wpx")
local macro_rules | `(tactic| walk_at "w1") => `(tactic| (fail_if_success (with_reducible refine th_nx ?_)); walk_at "wk")
/-! ### dicts of lists of texts -/
def strP : PyData → Option Str
  | .str s => some s
  | _ => none
def itemsP : PyData → List PyData
  | .list xs => xs
  | .tuple xs => xs
  | _ => []
def strsP (d : PyData) : List Str := (itemsP d).filterMap strP
theorem strP_map (ss : List Str) : (ss.map PyData.str).filterMap strP = ss := by
  induction ss with
  | nil => rfl
  | cons s ss ih => rw [List.map_cons]; show s :: (ss.map PyData.str).filterMap strP = _; rw [ih]
def LT (d : PyData) : Prop := ∃ ss : List Str, ss.length ≤ 10 ∧ (d = .list (ss.map .str) ∨ d = .tuple (ss.map .str))
theorem LT.form {d : PyData} (h : LT d) : (strsP d).length ≤ 10 ∧ (d = .list ((strsP d).map .str) ∨ d = .tuple ((strsP d).map .str)) := by
  obtain ⟨ss, h1, rfl | rfl⟩ := h
  · have e : strsP (.list (ss.map .str)) = ss := strP_map ss
    rw [e]; exact ⟨h1, .inl rfl⟩
  · have e : strsP (.tuple (ss.map .str)) = ss := strP_map ss
    rw [e]; exact ⟨h1, .inr rfl⟩
def DOk (D : List (Key × PyData)) : Prop := ∀ kv ∈ D, (∃ k, kv.1 = .inl k) ∧ LT kv.2
theorem vd_mem {k : Key} {d : PyData} : ∀ {D : List (Key × PyData)}, valD D k = some d → (k, d) ∈ D
  | [], h => by cases h
  | q :: D, h => by
    rw [vd_cons] at h
    by_cases z : q.1 = k
    · rw [if_pos z] at h
      cases h
      subst z
      exact List.mem_cons_self
    · rw [if_neg z] at h
      exact List.mem_cons_of_mem _ (vd_mem h)
theorem vd_some {k : Key} : ∀ {D : List (Key × PyData)}, k ∈ D.map (·.1) → ∃ d, valD D k = some d
  | [], h => by cases h
  | q :: D, h => by
    rw [vd_cons]
    by_cases z : q.1 = k
    · rw [if_pos z]; exact ⟨_, rfl⟩
    · rw [if_neg z]
      rw [List.map_cons, List.mem_cons] at h
      exact vd_some (h.resolve_left fun w => z w.symm)
theorem mem_put {k : Key} {v : PyData} {D : List (Key × PyData)} {kv : Key × PyData} (h : kv ∈ putD D k v) : kv = (k, v) ∨ kv ∈ D := by
  unfold putD at h
  split at h
  · obtain ⟨q, hq, rfl⟩ := List.mem_map.mp h
    split
    · rename_i z
      exact .inl (by rw [z])
    · exact .inr hq
  · rcases List.mem_append.mp h with h | h
    · exact .inr h
    · exact .inl (List.mem_singleton.mp h)
theorem DOk.put {D : List (Key × PyData)} {k : Int} {d : PyData} (h : DOk D) (hd : LT d) : DOk (putD D (.inl k) d) := fun kv hkv => by
  rcases mem_put hkv with rfl | hkv
  · exact ⟨⟨k, rfl⟩, hd⟩
  · exact h kv hkv
theorem vd_put {kvs : List (Key × PyData)} {k k' : Key} {v : PyData} : valD (putD kvs k v) k' = if k' = k then some v else valD kvs k' := by
  unfold putD
  split
  · rename_i h
    induction kvs with
    | nil => cases h
    | cons p r ih =>
      rw [List.map_cons, vd_cons]
      have e1 : (if p.1 = k then (p.1, v) else p).1 = p.1 := by split <;> rfl
      rw [e1]
      by_cases a : p.1 = k'
      · rw [if_pos a]
        by_cases b : p.1 = k
        · rw [if_pos b, if_pos (a.symm.trans b)]
        · rw [if_neg b, if_neg (fun z => b (a.trans z)), vd_cons, if_pos a]
      · rw [if_neg a]
        by_cases c : k' = k
        · rw [if_pos c]
          rw [List.any_cons, Bool.or_eq_true, decide_eq_true_iff] at h
          rw [ih (h.resolve_left fun z => a (z.trans c.symm)), if_pos c]
        · rw [if_neg c, vd_cons, if_neg a]
          by_cases d : (r.any fun kv => decide (kv.1 = k)) = true
          · rw [ih d, if_neg c]
          · have : r.map (fun kv => if kv.1 = k then (kv.1, v) else kv) = r := by
              clear ih h
              induction r with
              | nil => rfl
              | cons q r ih2 =>
                rw [List.any_cons, Bool.or_eq_true, not_or, decide_eq_true_iff] at d
                rw [List.map_cons, if_neg d.1, ih2 d.2]
            rw [this]
  · rename_i h
    rw [vd_app]
    by_cases c : k' = k
    · subst c
      rw [if_pos rfl, vd_none fun z => h ?_, Option.none_or, vd_cons, if_pos rfl]
      obtain ⟨q, hq, e⟩ := List.mem_map.mp z
      exact List.any_eq_true.mpr ⟨q, hq, decide_eq_true e⟩
    · rw [if_neg c, vd_cons, if_neg fun z => c z.symm, show valD [] k' = none from rfl, Option.or_none]
/-- what a copy of it is -/
def copyD (D : List (Key × PyData)) : List PyData := D.map fun kv => .tuple [keyP kv.1, .list (itemsP ((valD D kv.1).getD .none))]
theorem LT.l4 {d : PyData} (h : LT d) {S : List MO} {QL : List PyData → Prop} (q : QL (itemsP d)) : Wp (gLst4 S [.d d]) QL := by
  obtain ⟨ss, _, rfl | rfl⟩ := h
  · exact wp_l4 (wp_l3l q)
  · exact wp_l4 (wp_l3t q)
theorem copy3 {D : List (Key × PyData)} (hD : DOk D) (hl : D.length ≤ 1000) {S : List MO} {i : Nat} {x0 x1 x2 x3 x4 x5 x6 x7 x8 x9 x10 x12 x13 x14 : Option W3} (hS : S[i]? = some (.ldic D)) {QN : List PyData → List MO → Prop} (q : QN (copyD D) S) :
    Wp2 (nLc [14] (iDK (eVar 11)) (gNm 14) tYes3 (eTup (aCons (eVar 14) (aCons (eNd (nB gLst4 (aCons (eDGL (eVar 11) (eVar 14)) aNil))) aNil))) [x0, x1, x2, x3, x4, x5, x6, x7, x8, x9, x10, some (.r i), x12, x13, x14] S) QN := by
  refine wp_lc (wp_idk (wp_var rfl ⟨D, ldicAt_r hS, ?_⟩))
  refine ⟨by rw [List.length_map]; omega, ?_⟩
  refine wp_all (xs := D) (w := fun kv => .d (keyP kv.1)) (v := fun kv => .tuple [keyP kv.1, .list (itemsP ((valD D kv.1).getD .none))]) rfl (okL_t (ldicAt_r hS)) (fun kv hkv => ?_) q gnm_st
  obtain ⟨k, hk⟩ := (hD kv hkv).1
  obtain ⟨d, hd⟩ := vd_some (List.mem_map_of_mem (f := (·.1)) hkv)
  have hlt : LT d := (hD _ (vd_mem hd)).2
  repeat walk_at "wk"
  refine wp_dgl ?_
  repeat walk_at "wk"
  refine ⟨_, kv.1, D, d, rfl, by rw [hk]; rfl, ldicAt_r hS, hd, ?_⟩
  refine wp_nil ?_
  refine hlt.l4 ?_
  repeat walk_at "wk"
  exact ⟨by rw [hd]; rfl, rfl⟩
theorem strs_plain (ss : List Str) : PyData.plainAll (ss.map .str) = true := by
  induction ss with
  | nil => rfl
  | cons s ss ih => rw [List.map_cons, PyData.plainAll, ih]; rfl
theorem strs_depA (ss : List Str) : PyData.depthAll (ss.map .str) ≤ 0 := by
  induction ss with
  | nil => exact Nat.le_refl _
  | cons s ss ih =>
    rw [List.map_cons]
    show max (PyData.str s).depth (PyData.depthAll _) ≤ 0
    rw [PyData.depth]
    omega
theorem copy_ok {D : List (Key × PyData)} (hD : DOk D) : PyData.plainAll (copyD D) = true ∧ PyData.depthAll (copyD D) ≤ 10 := by
  have main : ∀ E : List (Key × PyData), (∀ kv ∈ E, kv ∈ D) → PyData.plainAll (E.map fun kv => .tuple [keyP kv.1, .list (itemsP ((valD D kv.1).getD .none))]) = true ∧ PyData.depthAll (E.map fun kv => .tuple [keyP kv.1, .list (itemsP ((valD D kv.1).getD .none))]) ≤ 10 := by
    intro E
    induction E with
    | nil => intro _; exact ⟨rfl, by show PyData.depthAll [] ≤ 10; decide⟩
    | cons kv E ih =>
      intro h
      obtain ⟨h1, h2⟩ := ih fun q hq => h q (List.mem_cons_of_mem _ hq)
      have hkv := h kv List.mem_cons_self
      obtain ⟨k, hk⟩ := (hD kv hkv).1
      obtain ⟨d, hd⟩ := vd_some (List.mem_map_of_mem (f := (·.1)) hkv)
      obtain ⟨ss, hs⟩ : ∃ ss : List Str, itemsP d = ss.map .str := by
        obtain ⟨ss, _, rfl | rfl⟩ := (hD _ (vd_mem hd)).2
        · exact ⟨ss, rfl⟩
        · exact ⟨ss, rfl⟩
      rw [List.map_cons, hk]
      rw [hk] at hd
      rw [hd]
      have hs2 : itemsP ((some d).getD .none) = ss.map .str := hs
      rw [hs2]
      have h3 := strs_depA ss
      constructor
      · show ((true && (PyData.plainAll (ss.map .str) && true)) && _) = true
        rw [strs_plain, h1]; rfl
      · show max _ (PyData.depthAll _) ≤ 10
        have : (PyData.tuple [keyP (.inl k), .list (ss.map .str)]).depth ≤ 10 := by
          simp only [keyP, PyData.depth, PyData.depthAll]
          omega
        omega
  exact main D fun _ h => h
theorem copy_ne {D : List (Key × PyData)} (hD : DOk D) {P : Bool → Prop} (q : P false) : Wp (gNe (.list (copyD D)) (.list (copyD D))) P := by
  obtain ⟨h1, h2⟩ := copy_ok hD
  refine wp_gneD (c := true) (.inl ?_) (SeqAt.eqv_refl_plain _ ?_) q
  · show PyData.depthAll _ + 1 ≤ 40
    omega
  · exact h1
end EA
namespace EA
open PySem PySem.Spec PyProof.Rows L2
local macro_rules | `(tactic| walk_at "ix") => `(tactic| first | rfl | exact atI_cons0 | exact atI_map0)
local macro_rules | `(tactic| walk_at "st") => `(tactic| first | assumption | rfl | exact get_set (by assumption) | exact get_set (get_set (by assumption)) | exact get_last | exact get_setlast | exact get_setapp (by assumption) | exact get_app (by assumption) | exact get_app (get_set (by assumption)))
local macro_rules | `(tactic| walk_at "tk") => `(tactic| first | exact List.take_length | exact take_set | exact take_set2 | exact take_set3 | exact take_app | exact take_aset | exact take_setapp | rfl)
local macro_rules | `(tactic| walk_at "sd") => `(tactic| first | omega | assumption | decide)
local macro_rules | `(tactic| walk_at "wpx") => `(tactic| first
  | with_reducible refine ite2 (fun _ => ?_) (fun z => absurd rfl z)
  | with_reducible refine ite2 (fun z => absurd z Bool.false_ne_true) (fun _ => ?_)
  | ((with_reducible refine gate_wp ?_); (first
    | ((with_reducible apply wp_viewr); (walk_at "st")) | ((with_reducible apply wp_lat); (walk_at "st"))
    | ((with_reducible refine gate_eq ?_); (first | with_reducible refine wp_geqs ?_ | with_reducible refine wp_geqb ?_ | with_reducible refine wp_geq_nil ?_))
    | ((with_reducible refine gate_ne ?_); (first | with_reducible refine wp_gnes ?_ | with_reducible refine wp_gneb ?_ | with_reducible refine wp_gne_nil ?_))
    | ((with_reducible refine gate_ix ?_); (first | ((with_reducible apply wp_ixd); (walk_at "ix")) | ((with_reducible apply wp_ixt); (walk_at "ix")) | ((with_reducible apply wp_ixr); (walk_at "st"); (walk_at "ix"))))
    | ((with_reducible apply wp_trur); (walk_at "st"))
    | ((with_reducible refine wp_l4s ?_ ?_); (first | omega | assumption | decide +kernel)) | with_reducible refine wp_l4 ?_ | ((with_reducible apply wp_l3r); (walk_at "st"))
    | ((with_reducible refine wp_mod ?_ ?_); (walk_at "sd")) | ((with_reducible refine wp_fdiv ?_ ?_); (walk_at "sd")) | ((with_reducible refine wp_mulr ?_ ?_); (walk_at "sd")) | ((with_reducible refine wp_mull ?_ ?_); (walk_at "sd")) | ((with_reducible refine wp_pow ?_ ?_); (walk_at "sd"))
    | ((with_reducible apply wp_lenr); (walk_at "st"))
    | ((with_reducible refine wp_gis ?_ ?_); rfl) | ((with_reducible refine wp_gisn ?_ ?_); rfl)
    | ((with_reducible refine gate_isi ?_); (first | ((with_reducible refine isi_t (r := true) ?_ ?_); (decide +kernel)) | ((with_reducible refine isi_t (r := false) ?_ ?_); (decide +kernel)) | ((with_reducible refine isi_b (r := true) ?_ ?_); (decide +kernel)) | ((with_reducible refine isi_b (r := false) ?_ ?_); (decide +kernel)) | ((with_reducible refine isi_i (r := true) ?_ ?_); (decide +kernel)) | ((with_reducible refine isi_i (r := false) ?_ ?_); (decide +kernel)) | ((with_reducible refine isi_s (r := true) ?_ ?_); (decide +kernel)) | ((with_reducible refine isi_s (r := false) ?_ ?_); (decide +kernel)) | ((with_reducible refine isi_l (r := true) ?_ ?_); (decide +kernel)) | ((with_reducible refine isi_l (r := false) ?_ ?_); (decide +kernel)) | ((with_reducible refine isi_n (r := true) ?_ ?_); (decide +kernel)) | ((with_reducible refine isi_n (r := false) ?_ ?_); (decide +kernel))))
    | ((with_reducible apply wp_tupr); (walk_at "st"))))
  | ((with_reducible refine gate_rq ?_); (first | ((with_reducible apply rq_dt); (walk_at "tk")) | ((with_reducible apply rq_nxt); (walk_at "tk"))))
  | ((with_reducible apply fz_r); (walk_at "st")) | ((with_reducible apply sq_r); (walk_at "st"))
  | ((with_reducible apply atSet_i); (walk_at "st"); rfl) | ((with_reducible apply atLst_i); (walk_at "st")) | ((with_reducible apply nowLst_i); (walk_at "st"))
  | ((with_reducible refine rng1_i ?_ ?_); (walk_at "sd")) | ((with_reducible refine rng2_i ?_ ?_); (walk_at "sd")))
local macro_rules | `(tactic| walk_at "wp") => `(tactic| first
  | with_reducible refine step_of ?_ | ((with_reducible apply wp_var); rfl) | walk_at "wpx")
local macro_rules | `(tactic| walk_at "fdef") => `(tactic| (refine wp_fdef rfl ?_; simp only [List.map_cons, List.map_nil, List.replicate_succ, List.replicate_zero, List.cons_append, List.nil_append]))
local macro_rules | `(tactic| walk_at "keq") => `(tactic| first
  | refine wp_geqD (c := false) (.inr (by decide +kernel)) rfl ?_ | refine wp_geqD (c := true) (.inr (by decide +kernel)) rfl ?_)
local macro_rules | `(tactic| walk_at "wk") => `(tactic| first
  | with_reducible refine step_of ?_ | ((with_reducible apply wp_var); rfl)
  | ((with_reducible refine gate_wp ?_); (first
    | with_reducible refine wp_geqsD (c := false) (by decide +kernel) ?_ | with_reducible refine wp_geqsD (c := true) (by decide +kernel) ?_
    | with_reducible refine wp_gnesD (c := false) (by decide +kernel) ?_ | with_reducible refine wp_gnesD (c := true) (by decide +kernel) ?_
    | with_reducible refine wp_gin_lit (c := true) (by decide +kernel) ?_ | with_reducible refine wp_gin_lit (c := false) (by decide +kernel) ?_))
  | with_reducible refine ite_t rfl ?_ | with_reducible refine ite_f rfl ?_
  | walk_at "wpx")
local macro_rules | `(tactic| walk_at "w1") => `(tactic| (fail_if_success (with_reducible refine th_nx ?_)); walk_at "wk")
noncomputable def f3_law : F3 := fdef false 1 14
  (sSeq (sSet 1 (eCall f3_hand (aCons (eVar 0) aNil)))
  (sSeq (sSet 2 (eCall f3_world (aCons (eVar 1) (aCons (eCall f3_take (aCons (eVar 1) (aCons (eD (.int (7))) aNil))) (aCons (eCall f3_take (aCons (eVar 1) (aCons (eD (.int (5))) aNil))) (aCons (eD (.int (50))) aNil))))))
  (sSeq (sSet 3 (eCall (f3_tdrawn 60) (aCons (eVar 2) (aCons (eD (.int (3))) aNil))))
  (sSeq (sSet 4 (eNo (nLst aNil)))
  (sSeq (sSet 5 (eNo (nLst aNil)))
  (sSeq (sFor (iR1 (aCons (eB gLen (aCons (eRG (eVar 2) "beside") aNil)) aNil)) (gNm 6)
  (sSeq (sEx (eM mApp (eVar 4) (aCons (eCall (f3_tbeside 60) (aCons (eVar 3) (aCons (eVar 6) aNil))) aNil)))
  (sEx (eM mApp (eVar 5) (aCons (eCall f3_some (aCons (eVar 1) (aCons (eRG (eVar 2) "labels") aNil))) aNil)))))
  (sSeq (sSet 7 (eCall f3_tscheme (aCons (eVar 3) (aCons (eNd (nLc [6] (iR1 (aCons (eB gLen (aCons (eVar 4) aNil)) aNil)) (gNm 6) tYes3 (eOp gAdd (eOp gIx (eVar 4) (eVar 6)) (eOp gIx (eVar 5) (eVar 6))))) aNil))))
  (sSeq (sFor (iR1 (aCons (eD (.int (2))) aNil)) (gNm 8)
  (sSeq (sSet 9 (eCall f3_numbering (aCons (eVar 1) (aCons (eVar 2) aNil))))
  (sSeq (sSet 10 (eCall (f3_tmoved 60) (aCons (eVar 3) (aCons (eOp gIx (eVar 9) (eD (.int (0)))) (aCons (eOp gIx (eVar 9) (eD (.int (1)))) aNil)))))
  (sSeq (sSet 11 eDN)
  (sSeq (sFor (iR1 (aCons (eB gLen (aCons (eVar 4) aNil)) aNil)) (gNm 6)
  (sIf (tOr3 (tCmp gGt (eB gLen (aCons (eOp gIx (eVar 5) (eVar 6)) aNil)) (eD (.int (0)))) (tCmp gEq (eCall f3_take (aCons (eVar 1) (aCons (eD (.int (2))) aNil))) (eD (.int (0)))))
  (sSeq (sSet 12 (eCall f3_shuffled (aCons (eVar 1) (aCons (eOp gAdd (eOp gIx (eVar 5) (eVar 6)) (eSl (eOp gIx (eVar 5) (eVar 6)) oNone (oSome (eD (.int (1)))))) aNil))))
  (sDP (eVar 11) (eOp gIx (eOp gIx (eVar 9) (eD (.int (1)))) (eVar 6)) (eVar 12)))
  sNx))
  (sSeq (sDP (eVar 11) (eOp gAdd (eOp gMul (eD (.int (5))) (eOp gPow (eD (.int (10))) (eD (.int (10))))) (eCall f3_take (aCons (eVar 1) (aCons (eD (.int (9))) aNil)))) (eTup (aCons (eD (.str "zz")) (aCons (eD (.str "a")) aNil))))
  (sSeq (sLock 11 (sSet 13 (eNd (nLc [14] (iDK (eVar 11)) (gNm 14) tYes3 (eTup (aCons (eVar 14) (aCons (eNd (nB gLst4 (aCons (eDGL (eVar 11) (eVar 14)) aNil))) aNil)))))))
  (sSeq (sIf (tOr3 (tNt (tTr (eCall (f3_same 60) (aCons (eCall f3_scheme_of (aCons (eVar 10) (aCons (eVar 11) aNil))) (aCons (eVar 7) aNil))))) (tCmp gNe (eLock 11 (eNd (nLc [14] (iDK (eVar 11)) (gNm 14) tYes3 (eTup (aCons (eVar 14) (aCons (eNd (nB gLst4 (aCons (eDGL (eVar 11) (eVar 14)) aNil))) aNil)))))) (eVar 13)))
  (sRt (eD (.bool false)))
  sNx)
  (sIf (tNt (tTr (eCall f3_asked_of (aCons (eVar 3) (aCons (eVar 10) (aCons (eVar 9) (aCons (eOp gIx (eNd (nLst (aCons (eD .none) (aCons (eCall f3_tscheme (aCons (eVar 3) (aCons (eVar 4) aNil))) aNil)))) (eVar 8)) aNil)))))))
  (sRt (eD (.bool false)))
  sNx)))))))))
  (sRt (eD (.bool true)))))))))))
theorem wrgI {L : Int} {labels : List Str} {bs : List (List Str)} {o : List PyData} {left words : Int} {T : List MO} {sl : Sl} {Q : W3 → List MO → Prop} {i : Nat} {k : Str} {w : W3} (h : sl[i]?.join = some (.r 2)) (hk : (wdR left words L labels).lookup k = some w) (q : Q w (Ws L labels bs o left words T)) : Wp2 (eRG (eVar i) k sl (Ws L labels bs o left words T)) Q := wp_rg (wp_var h ⟨_, w, rfl, hk, q⟩)
local macro_rules | `(tactic| walk_at "rg") => `(tactic| first
  | ((with_reducible apply wrgI); (rfl); (rfl))
  | walk_at "wk")
local macro_rules | `(tactic| walk_at "r1") => `(tactic| (fail_if_success (with_reducible refine th_nx ?_)); walk_at "rg")
instance cutNil {S : List MO} : CutR [] S := ⟨fun i o hi e => absurd hi (Nat.not_lt_zero _)⟩
theorem TOk.pl {PL PR : Int → Prop} {b : Bool} {h : Nat} {t : Tm} (o : TOk PL PR b h t) : ∀ p ∈ t.seen, if p.1 = true then PR p.2 else PL p.2 := by
  induction o with
  | letter a =>
    intro p hp
    rw [Tm.seen, List.mem_singleton] at hp
    subst hp
    exact a
  | leaf f g =>
    intro p hp
    rw [Tm.seen_node, List.flatMap_nil, List.nil_append, Hd.tls_none g] at hp
    cases hp
  | @node b h hd ps f g k ih =>
    intro p hp
    rw [Tm.seen_node] at hp
    rcases List.mem_append.mp hp with hp | hp
    · obtain ⟨q, hq, hp⟩ := List.mem_flatMap.mp hp
      exact ih q hq p hp
    · cases e : hd.tail with
      | none => rw [Hd.tls_none e] at hp; cases hp
      | some r =>
        rw [Hd.tls_some e, List.mem_singleton] at hp
        subst hp
        exact g r e
section
variable {L : Int} {labels : List Str} {bs : List (List Str)} {o : List PyData} {left words : Int} {T : List MO} {a b c : MO}
theorem ws_set0 {o2 : List PyData} : (Ws L labels bs o left words T).set 0 (.lst o2) = Ws L labels bs o2 left words T := rfl
theorem ws_set3 : (Ws L labels bs o left words (a :: T)).set 3 c = Ws L labels bs o left words (c :: T) := rfl
theorem ws_set4 : (Ws L labels bs o left words (a :: b :: T)).set 4 c = Ws L labels bs o left words (a :: c :: T) := rfl
end
theorem law13 (ns : List Int) (hl : ns.length ≤ 63) : ∃ S, f3_law [.sc ns] [] = some (.d (.bool true), S) := by
  suffices h : Wp2 (f3_law [.sc ns] []) fun w _ => w = .d (.bool true) by
    obtain ⟨⟨a, b⟩, e, e2⟩ := h
    exact ⟨b, by rw [e]; exact congrArg (fun x => some (x, b)) e2⟩
  unfold f3_law
  walk_at "fdef"
  repeat walk_at "wk"
  refine hand3 hl fun o ho => ?_
  repeat walk_at "wk"
  refine take3 (h := 0) rfl ho (by decide) (by decide) fun v o1 v0 v1 h1 => ?_
  repeat walk_at "wk"
  refine take3 (h := 0) rfl h1 (by decide) (by decide) fun u o2 u0 u1 h2 => ?_
  repeat walk_at "wk"
  refine world3 (o := o2) h2 u0 (by omega) fun labels bs o3 h3 hlab hbs hbe => ?_
  obtain ⟨l, rfl⟩ : ∃ l : Nat, v = l := Int.eq_ofNat_of_zero_le v0
  have hl6 : l ≤ 6 := by omega
  have hR4 : bs.length ≤ 4 := by omega
  repeat walk_at "rg"
  refine (drawn_all (L := l) (by omega) (by omega) (by omega) hbe 60).1 3 [] o3 10 50 _ (by decide) h3 fun t o4 left words ok h4 => ?_
  have h34 : (3 : Int).toNat = 3 := rfl
  rw [h34] at ok
  repeat walk_at "rg"
  have hbl : ∀ r, (t.bes r).length ≤ 1250 := fun r => by
    have h1 := ok.bes_len (r := r)
    have h3 : 5 ^ 3 = 125 := by decide
    omega
  rw [show Ws l labels bs o4 left words [] ++ [MO.lst []] ++ [MO.lst []] = Ws l labels bs o4 left words [.lst [], .lst []] from rfl]
  repeat walk_at "rg"
  rw [List.length_map]
  refine rng1_i (by omega) ?_
  refine wp_loop (n := 0) (fun j sl S' => ∃ x o' lks, sl = [some (.sc ns), some (.r 0), some (.r 2), some (.d t.enc), some (.r 3), some (.r 4), x, none, none, none, none, none, none, none, none] ∧ HandO o' ∧ lks.length = j ∧ (∀ k ∈ lks, k.length ≤ 5) ∧ S' = Ws l labels bs o' left words [.lst (((List.range j).map fun r : Nat => t.bes (r : Int)).map strsL), .lst (lks.map strsL)])
    ⟨none, o4, [], rfl, h4, rfl, (fun k hk => by cases hk), rfl⟩ (fun _ _ _ _ => rfl) (fun j w sl S' hw hj hq => ?_) (fun sl S' hq => ?_)
  · obtain ⟨x, o', lks, rfl, ho', hlk, hlk5, rfl⟩ := hq
    obtain ⟨hj2, rfl⟩ := intsW_get hw
    rw [Int.toNat_natCast, Nat.sub_zero] at hj2
    rw [Nat.sub_zero, Int.zero_add]
    repeat walk_at "rg"
    refine wp2_eq (tbeside3 60 ok (by decide) (by decide)) ?_
    repeat walk_at "rg"
    refine wp_app (by rw [List.length_map, List.length_map, List.length_range]; omega) ?_
    rw [ws_set3]
    repeat walk_at "rg"
    refine some3 (S := Ws l labels bs o' left words _) (f := PyData.str) (xs := labels) (h := 0) rfl ho' (by omega) fun ls o5 hls h5 => ?_
    rw [ws_set0]
    repeat walk_at "rg"
    refine wp_app (by rw [List.length_map]; omega) ?_
    rw [ws_set4]
    repeat walk_at "rg"
    refine ⟨_, o5, lks ++ [ls], rfl, h5, by rw [List.length_append, hlk]; rfl, fun k hk => ?_, ?_⟩
    · rcases List.mem_append.mp hk with hk | hk
      · exact hlk5 k hk
      · rw [List.mem_singleton.mp hk]
        exact Nat.le_trans hls.length_le (by omega)
    · rw [List.range_succ, List.map_append, List.map_append, List.map_append]
      rfl
  · obtain ⟨x, o5, lks, rfl, h5, hlk, hlk5, rfl⟩ := hq
    rw [intsW_len, Int.toNat_natCast, Nat.zero_add] at hlk
    rw [intsW_len, Int.toNat_natCast, Nat.zero_add]
    have hbL : (((List.range bs.length).map fun r : Nat => t.bes (r : Int)).map strsL).length = bs.length := by rw [List.length_map, List.length_map, List.length_range]
    have hkL : (lks.map strsL).length = bs.length := by rw [List.length_map, hlk]
    have atB : ∀ r : Nat, r < bs.length → atI (((List.range bs.length).map fun r : Nat => t.bes (r : Int)).map strsL) (r : Int) = some (strsL (t.bes r)) := fun r hr => atI_at (by rw [List.getElem?_map, List.getElem?_map, List.getElem?_range hr]; rfl)
    have atK : ∀ r : Nat, r < bs.length → atI (lks.map strsL) (r : Int) = some (strsL (lks.getD r [])) := fun r hr => atI_at (by rw [List.getElem?_map, List.getElem?_eq_getElem (by omega), List.getD_eq_getElem?_getD, List.getElem?_eq_getElem (by omega)]; rfl)
    have lkl : ∀ r : Nat, r < bs.length → (lks.getD r []).length ≤ 5 := fun r hr => by
      rw [List.getD_eq_getElem?_getD, List.getElem?_eq_getElem (by omega)]
      exact hlk5 _ (List.getElem_mem _)
    generalize hB : (((List.range bs.length).map fun r : Nat => t.bes (r : Int)).map strsL) = B at *
    generalize hK : lks.map strsL = K at *
    repeat walk_at "rg"
    rw [hbL]
    refine ⟨by dsimp only; rw [intsW_len]; omega, ?_⟩
    refine wp_all (xs := List.range bs.length) (w := fun j => .d (.int (j : Nat))) (v := fun j => strsL (t.bes (j : Nat) ++ lks.getD j [])) (intsW_of rfl) rfl (fun j hj => ?_) ?_ gnm_st
    · have hj := List.mem_range.mp hj
      have h6 := lkl j hj
      have h7 := hbl j
      repeat walk_at "rg"
      refine wp_ixr (i := 3) rfl (atB j hj) ?_
      repeat walk_at "rg"
      refine wp_ixr (i := 4) rfl (atK j hj) ?_
      unfold strsL
      refine wp_addl (by rw [List.length_map, List.length_map]; omega) ?_
      rw [← List.map_append]
      exact ⟨rfl, rfl⟩
    have hpl := ok.pl
    have rowN : ∀ r, (true, r) ∈ t.seen → 0 ≤ r ∧ r.toNat < bs.length := fun r hr => by
      have : PLt bs.length r := hpl _ hr
      have h1 := this.1
      have h2 := this.2
      exact ⟨h1, by omega⟩
    have sch1 : ∀ S, f3_tscheme [.d t.enc, .d (.list ((List.range bs.length).map fun j : Nat => strsL (t.bes (j : Int) ++ lks.getD j [])))] S = some (.d (schD t fun r => t.bes r ++ lks.getD r.toNat []), S) := fun S => tscheme3 ok (by decide) fun r hr => by
      obtain ⟨r0, r1⟩ := rowN r hr
      have h6 := lkl _ r1
      have h7 := hbl r
      refine ⟨fun u => ?_, by rw [List.length_append]; omega⟩
      show atI _ r = _
      refine atI_of r0 ?_
      rw [List.getElem?_map, List.getElem?_range r1]
      show some (strsL (t.bes ((r.toNat : Nat) : Int) ++ _)) = _
      rw [Int.toNat_of_nonneg r0]; rfl
    repeat walk_at "rg"
    refine wp2_eq (sch1 _) ?_
    repeat walk_at "rg"
    have sdDue : SD 20 (schD t fun r => t.bes r ++ lks.getD r.toNat []) := schD_sd ok (by decide) fun r hr => Nat.le_trans (sset_len_le _) (by
      obtain ⟨r0, r1⟩ := rowN r (Tm.rows_mem.mp hr)
      have h6 := lkl _ r1
      have h7 := hbl r
      rw [List.length_append]; omega)
    generalize hdue : (schD t fun r => t.bes r ++ lks.getD r.toNat []) = due at *
    clear sch1
    refine wp_loop (n := 0) (fun j sl S' => ∃ x6 x8 x9 x10 x11 x12 x13 x14 o' J, sl = [some (.sc ns), some (.r 0), some (.r 2), some (.d t.enc), some (.r 3), some (.r 4), x6, some (.d due), x8, x9, x10, x11, x12, x13, x14] ∧ HandO o' ∧ S' = Ws l labels bs o' left words (.lst B :: .lst K :: J))
      ⟨_, _, _, _, _, _, _, _, o5, [], rfl, h5, rfl⟩ (fun _ _ _ _ => rfl) (fun turn w sl S' hw hj hq => ?_) (fun sl S' hq => ?_)
    · obtain ⟨x6, x8, x9, x10, x11, x12, x13, x14, o6, J, rfl, h6, rfl⟩ := hq
      obtain ⟨ht2, rfl⟩ := intsW_get hw
      rw [Nat.sub_zero] at ht2
      rw [Nat.sub_zero, Int.zero_add]
      clear hw
      have gD : ∀ (oa : List PyData) (m : MO), (Ws l labels bs oa left words (.lst B :: .lst K :: (J ++ [m])))[J.length + 5]? = some m := fun oa m => by
        show (J ++ [m])[J.length]? = _
        exact get_last
      have sD : ∀ (oa : List PyData) (m m2 : MO), (Ws l labels bs oa left words (.lst B :: .lst K :: (J ++ [m]))).set (J.length + 5) m2 = Ws l labels bs oa left words (.lst B :: .lst K :: (J ++ [m2])) := fun oa m m2 => by
        show .lst oa :: .lst _ :: .rcd _ :: .lst B :: .lst K :: (J ++ [m]).set J.length m2 = _
        rw [set_last]; rfl
      repeat walk_at "rg"
      refine numbering3 hl6 hR4 h6 fun Ls Rs φ ψ o7 hN h7 => ?_
      have inj : ∀ p ∈ t.seen, ∀ q ∈ t.seen, (mvP φ ψ p).2 = (mvP φ ψ q).2 → p = q := fun p hp q hq => hN.inj p q (hpl p hp) (hpl q hq)
      repeat walk_at "rg"
      refine wp2_eq (tmoved3 (φ := φ) (ψ := ψ) 60 ok (by decide) (fun k hk => hN.hL k (hpl _ hk)) fun k hk => hN.hR k (hpl _ hk)) ?_
      repeat walk_at "rg"
      rw [show Ws l labels bs o7 left words (.lst B :: .lst K :: J) ++ [MO.dic []] = Ws l labels bs o7 left words (.lst B :: .lst K :: (J ++ [MO.dic []])) from rfl]
      repeat walk_at "rg"
      rw [hbL]
      refine wp_loop (n := 0) (fun j sl S' => ∃ x6 x12 oa D, sl = [some (.sc ns), some (.r 0), some (.r 2), some (.d t.enc), some (.r 3), some (.r 4), x6, some (.d due), some (.d (.int (turn : Nat))), some (.d (.list [.list Ls, .list Rs])), some (.d (t.mp φ ψ).enc), some (.r (J.length + 5)), x12, x13, x14] ∧ HandO oa ∧ DOk D ∧ D.length ≤ j ∧
          (∀ r : Nat, r < j → ∀ s, s ∈ strsP ((valD D (.inl (ψ r))).getD (.tuple [])) ↔ s ∈ lks.getD r []) ∧ (∀ r : Nat, j ≤ r → r < bs.length → valD D (.inl (ψ r)) = none) ∧ S' = Ws l labels bs oa left words (.lst B :: .lst K :: (J ++ [.dic D])))
        ⟨x6, x12, o7, [], rfl, h7, (fun kv hkv => by cases hkv), Nat.le_refl _, (fun r hr => absurd hr (Nat.not_lt_zero _)), (fun r _ _ => rfl), rfl⟩ (fun _ _ _ _ => rfl) (fun j w sl S' hw hj hq => ?_) (fun sl S' hq => ?_)
      · obtain ⟨y6, y12, oa, D, rfl, ha, hD, hDl, hdone, htodo, rfl⟩ := hq
        obtain ⟨hj2, rfl⟩ := intsW_get hw
        rw [Nat.sub_zero, Int.toNat_natCast] at hj2
        rw [Nat.sub_zero, Int.zero_add]
        have hatK : atI K (j : Int) = some (.list ((lks.getD j []).map .str)) := atK j hj2
        have hlk5j := lkl j hj2
        have hpj : PLt bs.length (j : Int) := ⟨by omega, by omega⟩
        have gK : ∀ (oa : List PyData) (m : MO), (Ws l labels bs oa left words (.lst B :: .lst K :: (J ++ [m])))[4]? = some (.lst K) := fun _ _ => rfl
        generalize hlj : lks.getD j [] = lj at *
        have tst : ∀ QT : Bool → List MO → Prop, (∀ (c : Bool) (ob : List PyData), HandO ob → (c = false → lj = []) → QT c (Ws l labels bs ob left words (.lst B :: .lst K :: (J ++ [.dic D])))) →
            Wp2 (tOr3 (tCmp gGt (eB gLen (aCons (eOp gIx (eVar 5) (eVar 6)) aNil)) (eD (.int (0)))) (tCmp gEq (eCall f3_take (aCons (eVar 1) (aCons (eD (.int (2))) aNil))) (eD (.int (0)))) [some (.sc ns), some (.r 0), some (.r 2), some (.d t.enc), some (.r 3), some (.r 4), some (.d (.int (j : Nat))), some (.d due), some (.d (.int (turn : Nat))), some (.d (.list [.list Ls, .list Rs])), some (.d (t.mp φ ψ).enc), some (.r (J.length + 5)), y12, x13, x14] (Ws l labels bs oa left words (.lst B :: .lst K :: (J ++ [.dic D])))) QT := fun QT q => by
          repeat walk_at "rg"
          refine wp_ixr (i := 4) (gK _ _) hatK ?_
          repeat walk_at "rg"
          refine ite2 (fun c => ?_) (fun c => ?_)
          · exact q true oa ha fun z => by cases z
          · have hz : lj = [] := by
              have : ¬ (0 : Int) < ((lj.map PyData.str).length : Nat) := fun z => c (decide_eq_true z)
              rw [List.length_map] at this
              exact List.length_eq_zero_iff.mp (by omega)
            repeat walk_at "rg"
            refine take3 (h := 0) rfl ha (by decide) (by decide) fun v ob v0 v1 hb => ?_
            rw [ws_set0]
            repeat walk_at "rg"
            exact q _ ob hb fun _ => hz
        refine wp_gnm (wp_sif (tst _ fun c ob hb hc => ?_))
        cases c with
        | false =>
          refine ite_f rfl ?_
          have hz := hc rfl
          refine wp_nx (lq_nx ⟨_, _, ob, D, rfl, hb, hD, by omega, fun r hr => ?_, fun r h1 h2 => htodo r (by omega) h2, rfl⟩)
          by_cases e : r = j
          · subst e
            rw [htodo r (Nat.le_refl _) hj2, hlj, hz]
            exact fun s => Iff.rfl
          · exact hdone r (by omega)
        | true =>
          refine ite_t rfl ?_
          repeat walk_at "rg"
          refine wp_ixr (i := 4) (gK _ _) hatK ?_
          repeat walk_at "rg"
          refine wp_ixr (i := 4) (gK _ _) hatK ?_
          repeat walk_at "rg"
          rw [cutD_map, show (some (1 : Int)) = some ((1 : Nat) : Int) from rfl, cutD_to]
          refine wp_addl (by rw [List.length_map, List.length_map, List.length_take]; omega) ?_
          rw [← List.map_append]
          repeat walk_at "rg"
          refine shuffled3 (h := 0) rfl hb (by rw [List.length_map, List.length_append, List.length_take]; omega) fun es oc hes hc2 => ?_
          rw [ws_set0]
          obtain ⟨ss, rfl, hss⟩ := perm_map_inv (f := PyData.str) hes (m := lj ++ lj.take 1) rfl
          clear hes
          have hsl : ss.length ≤ 10 := by rw [hss.length_eq, List.length_append, List.length_take]; omega
          have hsm : ∀ s, s ∈ ss ↔ s ∈ lj := fun s => by
            rw [hss.mem_iff, List.mem_append]
            exact ⟨fun h => h.elim id List.mem_of_mem_take, .inl⟩
          have hRj := hN.hR _ hpj
          repeat walk_at "rg"
          refine ⟨_, rfl, ?_⟩
          repeat walk_at "rg"
          refine wp_ixd hRj ?_
          refine ⟨_, .inl (ψ j), rfl, rfl, D, r_dicAt (gD _ _), by omega, ?_⟩
          rw [r_setAt, sD]
          have hnew : ∀ r : Nat, r < bs.length → r ≠ j → ψ (r : Int) ≠ ψ (j : Int) := fun r hr ne e => by
            have := hN.inj (true, (r : Int)) (true, (j : Int)) ⟨by omega, by omega⟩ hpj e
            have := congrArg Prod.snd this
            exact ne (Int.ofNat.inj this)
          refine lq_nx ⟨_, _, oc, putD D (.inl (ψ j)) (.list (ss.map .str)), rfl, hc2, hD.put ⟨ss, hsl, .inl rfl⟩, by have := @putD_len D (.inl (ψ j)) (.list (ss.map .str)); omega, fun r hr s => ?_, fun r h1 h2 => ?_, rfl⟩
          · rw [vd_put]
            by_cases e : r = j
            · subst e
              rw [if_pos rfl, hlj, ← hsm]
              show s ∈ strsP (.list (ss.map .str)) ↔ _
              rw [show strsP (.list (ss.map .str)) = ss from strP_map ss]
            · rw [if_neg fun z => hnew r (by omega) e (Sum.inl.inj z)]
              exact hdone r (by omega) s
          · rw [vd_put, if_neg fun z => hnew r h2 (by omega) (Sum.inl.inj z)]
            exact htodo r (by omega) h2
      · obtain ⟨y6, y12, oa, D, rfl, ha, hD, hDl, hdone, _, rfl⟩ := hq
        rw [intsW_len, Int.toNat_natCast, Nat.zero_add] at hDl hdone
        repeat walk_at "rg"
        refine ⟨_, rfl, ?_⟩
        repeat walk_at "rg"
        refine take3 (h := 0) rfl ha (by decide) (by decide) fun v ob v0 v1 hb => ?_
        rw [ws_set0]
        repeat walk_at "rg"
        refine ⟨_, .inl (5 * 10 ^ (10 : Int).toNat + v), rfl, rfl, D, r_dicAt (gD _ _), by omega, ?_⟩
        rw [r_setAt, sD]
        have hkey : (5 * 10 ^ (10 : Int).toNat + v : Int) = 50000000000 + v := rfl
        have hD2 : DOk (putD D (.inl (5 * 10 ^ (10 : Int).toNat + v)) (.tuple [.str "zz", .str "a"])) := hD.put ⟨["zz", "a"], by decide, .inr rfl⟩
        have hD2l : (putD D (.inl (5 * 10 ^ (10 : Int).toNat + v)) (.tuple [.str "zz", .str "a"])).length ≤ 5 := by
          have := @putD_len D (.inl (5 * 10 ^ (10 : Int).toNat + v)) (.tuple [.str "zz", .str "a"])
          omega
        have hdone2 : ∀ r : Nat, r < bs.length → ∀ s, s ∈ strsP ((valD (putD D (.inl (5 * 10 ^ (10 : Int).toNat + v)) (.tuple [.str "zz", .str "a"])) (.inl (ψ r))).getD (.tuple [])) ↔ s ∈ lks.getD r [] := fun r hr s => by
          have h9 := hN.small (r : Int) ⟨by omega, by omega⟩
          rw [vd_put, if_neg fun z => by
            have := Sum.inl.inj z
            rw [hkey] at this
            omega]
          exact hdone r hr s
        clear hdone hDl hD
        generalize putD D (.inl (5 * 10 ^ (10 : Int).toNat + v)) (.tuple [.str "zz", .str "a"]) = D2 at *
        have okm : TOk (fun _ => True) (fun _ => True) false 3 (t.mp φ ψ) := ok.mp (fun _ _ => trivial) fun _ _ => trivial
        have ltv : ∀ r, LT ((valD D2 (.inl r)).getD (.tuple [])) := fun r => by
          cases e : valD D2 (.inl r) with
          | none => exact ⟨[], by decide, .inr rfl⟩
          | some d => exact (hD2 _ (vd_mem e)).2
        have hsf := scheme_of3 (S := Ws l labels bs ob left words (.lst B :: .lst K :: (J ++ [.dic D2]))) (w := .r (J.length + 5)) (tl := fun r => strsP ((valD D2 (.inl r)).getD (.tuple []))) okm (by decide) (.inr ⟨_, D2, rfl, gD _ _, fun r _ => (ltv r).form.2⟩) fun r => by have := (ltv r).form.1; omega
        have hsc := sch_moved (t := t) inj (tl := fun r => strsP ((valD D2 (.inl r)).getD (.tuple []))) (X := fun r => t.bes r ++ lks.getD r.toNat []) fun r hr s => by
          obtain ⟨r0, r1⟩ := rowN r (Tm.rows_mem.mp hr)
          have := hdone2 _ r1 s
          rw [Int.toNat_of_nonneg r0] at this
          rw [List.mem_append, List.mem_append, this]
        rw [hsc, hdue] at hsf
        refine th_nx (wp_seq (wp_slock (i := J.length + 5) rfl (gD _ _) ?_))
        rw [sD]
        refine wp_set (wp_nd (copy3 hD2 (by omega) (gD _ _) ?_))
        refine ⟨_, _, D2, rfl, gD _ _, ?_⟩
        rw [sD]
        refine th_nx (wp_seq (wp_sif ?_))
        repeat walk_at "rg"
        refine wp2_eq hsf ?_
        repeat walk_at "rg"
        refine wp2_eq (same3 60 sdDue (by omega)) ?_
        repeat walk_at "rg"
        refine wp_elock (i := J.length + 5) rfl (gD _ _) ?_
        rw [sD]
        refine wp_nd (copy3 hD2 (by omega) (gD _ _) ?_)
        refine ⟨D2, gD _ _, ?_⟩
        rw [sD]
        repeat walk_at "rg"
        refine copy_ne hD2 ?_
        have gB : ∀ u : MO, (Ws l labels bs ob left words (.lst B :: .lst K :: (J ++ [.dic D2])) ++ [u])[3]? = some (.lst B) := fun _ => rfl
        have sch2 := tscheme3 (S := Ws l labels bs ob left words (.lst B :: .lst K :: (J ++ [.dic D2]))) (lw := .r 3) (X := fun r => t.bes r) ok (by decide) fun r hr => by
          obtain ⟨r0, r1⟩ := rowN r hr
          have h7 := hbl r
          refine ⟨fun u => ?_, by omega⟩
          have := atB _ r1
          rw [Int.toNat_of_nonneg r0] at this
          unfold gIx
          dsimp only
          rw [r_viewr (gB u)]
          exact this
        have asked := fun (dd : PyData) (hdd : dd = .none ∨ dd = schD t fun r => t.bes r) => asked_of3 (S := Ws l labels bs ob left words (.lst B :: .lst K :: (J ++ [.dic D2]))) (due := dd) ok (by decide) inj (fun k hk => hN.hL k (hpl _ hk)) (fun k hk => hN.hR k (hpl _ hk)) hdd
        repeat walk_at "rg"
        refine wp2_eq sch2 ?_
        repeat walk_at "rg"
        obtain ⟨dd, hd1, hd2⟩ : ∃ dd, atI [PyData.none, schD t fun r => t.bes r] (turn : Int) = some dd ∧ (dd = .none ∨ dd = schD t fun r => t.bes r) := by
          have : turn = 0 ∨ turn = 1 := by
            have : turn < 2 := ht2
            omega
          rcases this with rfl | rfl
          · exact ⟨_, rfl, .inl rfl⟩
          · exact ⟨_, rfl, .inr rfl⟩
        refine wp_ixd hd1 ?_
        repeat walk_at "rg"
        refine wp2_eq (asked dd hd2) ?_
        repeat walk_at "rg"
        exact ⟨_, _, _, _, _, _, _, _, ob, J ++ [.dic D2], rfl, hb, rfl⟩
    · obtain ⟨x6, x8, x9, x10, x11, x12, x13, x14, o6, J, rfl, h6, rfl⟩ := hq
      repeat walk_at "rg"
      rfl
end EA
namespace EA
open PySem PySem.Spec PyProof.Rows L2
def topS (i : Nat) : Stmt := PySem.Challenge.pw_eacharm_k13_one_form_of_a_scheme.main.body.getD i (.Pass ⟨0, 0, 0, 0⟩)
abbrev s_term_parts : Stmt := topS 2
theorem sc_term_parts : FnScope ["term", "word", "_", "part"] ["term"] (defScope s_term_parts) := ⟨rfl, rfl, rfl, by decide +kernel, rfl, by decide +kernel, by decide +kernel⟩
abbrev s_rebuilt : Stmt := topS 3
theorem sc_rebuilt : FnScope ["term", "parts", "tail", "word", "field", "part"] ["term", "parts", "tail"] (defScope s_rebuilt) := ⟨rfl, rfl, rfl, by decide +kernel, rfl, by decide +kernel, by decide +kernel⟩
abbrev s_gather_letters : Stmt := topS 4
theorem sc_gather_letters : FnScope ["term", "found", "part"] ["term", "found"] (defScope s_gather_letters) := ⟨rfl, rfl, rfl, by decide +kernel, rfl, by decide +kernel, by decide +kernel⟩
abbrev s_letters_in : Stmt := topS 5
theorem sc_letters_in : FnScope ["term", "found", "letter", "_"] ["term"] (defScope s_letters_in) := ⟨rfl, rfl, rfl, by decide +kernel, rfl, by decide +kernel, by decide +kernel⟩
abbrev s_row_letters_in : Stmt := topS 6
theorem sc_row_letters_in : FnScope ["term", "found", "letter", "is_row"] ["term"] (defScope s_row_letters_in) := ⟨rfl, rfl, rfl, by decide +kernel, rfl, by decide +kernel, by decide +kernel⟩
abbrev s_gather_beside : Stmt := topS 7
theorem sc_gather_beside : FnScope ["term", "found", "part", "beside", "label", "_"] ["term", "found"] (defScope s_gather_beside) := ⟨rfl, rfl, rfl, by decide +kernel, rfl, by decide +kernel, by decide +kernel⟩
abbrev s_lacked_labels : Stmt := topS 8
theorem sc_lacked_labels : FnScope ["term", "lacks", "beside", "found", "letter", "more"] ["term", "lacks"] (defScope s_lacked_labels) := ⟨rfl, rfl, rfl, by decide +kernel, rfl, by decide +kernel, by decide +kernel⟩
abbrev s_renumbered : Stmt := topS 9
theorem sc_renumbered : FnScope ["term", "ranks", "tail", "part"] ["term", "ranks"] (defScope s_renumbered) := ⟨rfl, rfl, rfl, by decide +kernel, rfl, by decide +kernel, by decide +kernel⟩
abbrev s_scheme_of : Stmt := topS 10
theorem sc_scheme_of : FnScope ["term", "lacks", "ranks", "at", "letter", "found", "told"] ["term", "lacks"] (defScope s_scheme_of) := ⟨rfl, rfl, rfl, by decide +kernel, rfl, by decide +kernel, by decide +kernel⟩
abbrev s_stirred : Stmt := topS 12
theorem sc_stirred : FnScope ["_law_number", "_law_turn", "_law_once", "_law_twice"] ["_law_number", "_law_turn"] (defScope s_stirred) := ⟨rfl, rfl, rfl, by decide +kernel, rfl, by decide +kernel, by decide +kernel⟩
abbrev s_take : Stmt := topS 13
theorem sc_take : FnScope ["_law_hand_here", "_law_many", "_law_cell", "_law_rest"] ["_law_hand_here", "_law_many"] (defScope s_take) := ⟨rfl, rfl, rfl, by decide +kernel, rfl, by decide +kernel, by decide +kernel⟩
abbrev s_shuffled : Stmt := topS 14
theorem sc_shuffled : FnScope ["_law_hand_here", "_law_things", "_law_left", "_law_k"] ["_law_hand_here", "_law_things"] (defScope s_shuffled) := ⟨rfl, rfl, rfl, by decide +kernel, rfl, by decide +kernel, by decide +kernel⟩
abbrev s_tonce : Stmt := topS 15
theorem sc_tonce : FnScope ["_law_things", "_law_told", "_law_one"] ["_law_things"] (defScope s_tonce) := ⟨rfl, rfl, rfl, by decide +kernel, rfl, by decide +kernel, by decide +kernel⟩
abbrev s_tparts : Stmt := topS 16
theorem sc_tparts : FnScope ["_law_term", "_law_label", "_law_one"] ["_law_term"] (defScope s_tparts) := ⟨rfl, rfl, rfl, by decide +kernel, rfl, by decide +kernel, by decide +kernel⟩
abbrev s_tseen : Stmt := topS 17
theorem sc_tseen : FnScope ["_law_term", "_law_told", "_law_one"] ["_law_term"] (defScope s_tseen) := ⟨rfl, rfl, rfl, by decide +kernel, rfl, by decide +kernel, by decide +kernel⟩
abbrev s_whole : Stmt := topS 18
theorem sc_whole : FnScope ["_law_thing"] ["_law_thing"] (defScope s_whole) := ⟨rfl, rfl, rfl, by decide +kernel, rfl, by decide +kernel, by decide +kernel⟩
abbrev s_same : Stmt := topS 19
theorem sc_same : FnScope ["_law_left", "_law_right", "_law_k"] ["_law_left", "_law_right"] (defScope s_same) := ⟨rfl, rfl, rfl, by decide +kernel, rfl, by decide +kernel, by decide +kernel⟩
abbrev s_hand : Stmt := topS 20
theorem sc_hand : FnScope ["_law_script", "_law_total", "_law_cells", "_law_cell"] ["_law_script"] (defScope s_hand) := ⟨rfl, rfl, rfl, by decide +kernel, rfl, by decide +kernel, by decide +kernel⟩
abbrev s_some : Stmt := topS 21
theorem sc_some : FnScope ["_law_hand_here", "_law_things", "_law_told", "_law_one"] ["_law_hand_here", "_law_things"] (defScope s_some) := ⟨rfl, rfl, rfl, by decide +kernel, rfl, by decide +kernel, by decide +kernel⟩
abbrev s_world : Stmt := topS 22
theorem sc_world : FnScope ["_law_hand_here", "_law_letters", "_law_rows", "_law_words", "_law_first", "_law_step", "_law_ending", "_law_labels", "_law_k", "_law_beside", "_law_r"] ["_law_hand_here", "_law_letters", "_law_rows", "_law_words"] (defScope s_world) := ⟨rfl, rfl, rfl, by decide +kernel, rfl, by decide +kernel, by decide +kernel⟩
abbrev s_tmay : Stmt := topS 23
theorem sc_tmay : FnScope ["_law_world_here"] ["_law_world_here"] (defScope s_tmay) := ⟨rfl, rfl, rfl, by decide +kernel, rfl, by decide +kernel, by decide +kernel⟩
abbrev s_tletter : Stmt := topS 24
theorem sc_tletter : FnScope ["_law_world_here"] ["_law_world_here"] (defScope s_tletter) := ⟨rfl, rfl, rfl, by decide +kernel, rfl, by decide +kernel, by decide +kernel⟩
abbrev s_tatom : Stmt := topS 25
theorem sc_tatom : FnScope ["_law_world_here", "_law_hand_here", "_law_turn"] ["_law_world_here"] (defScope s_tatom) := ⟨rfl, rfl, rfl, by decide +kernel, rfl, by decide +kernel, by decide +kernel⟩
abbrev s_ttail : Stmt := topS 26
theorem sc_ttail : FnScope ["_law_world_here"] ["_law_world_here"] (defScope s_ttail) := ⟨rfl, rfl, rfl, by decide +kernel, rfl, by decide +kernel, by decide +kernel⟩
abbrev s_trow : Stmt := topS 27
theorem sc_trow : FnScope ["_law_world_here", "_law_word", "_law_deep", "_law_tail", "_law_labels", "_law_told", "_law_label"] ["_law_world_here", "_law_word", "_law_deep"] (defScope s_trow) := ⟨rfl, rfl, rfl, by decide +kernel, rfl, by decide +kernel, by decide +kernel⟩
abbrev s_tdrawn : Stmt := topS 28
theorem sc_tdrawn : FnScope ["_law_world_here", "_law_deep", "_law_hand_here", "_law_turn", "_law_k", "_law_name"] ["_law_world_here", "_law_deep"] (defScope s_tdrawn) := ⟨rfl, rfl, rfl, by decide +kernel, rfl, by decide +kernel, by decide +kernel⟩
abbrev s_tbeside : Stmt := topS 29
theorem sc_tbeside : FnScope ["_law_term", "_law_row", "_law_told", "_law_label", "_law_one"] ["_law_term", "_law_row"] (defScope s_tbeside) := ⟨rfl, rfl, rfl, by decide +kernel, rfl, by decide +kernel, by decide +kernel⟩
abbrev s_trebuilt : Stmt := topS 30
theorem sc_trebuilt : FnScope ["_law_term", "_law_parts", "_law_tail", "_law_k"] ["_law_term", "_law_parts", "_law_tail"] (defScope s_trebuilt) := ⟨rfl, rfl, rfl, by decide +kernel, rfl, by decide +kernel, by decide +kernel⟩
abbrev s_tranked : Stmt := topS 31
theorem sc_tranked : FnScope ["_law_term", "_law_ranks", "_law_tail", "_law_one"] ["_law_term", "_law_ranks"] (defScope s_tranked) := ⟨rfl, rfl, rfl, by decide +kernel, rfl, by decide +kernel, by decide +kernel⟩
abbrev s_tscheme : Stmt := topS 32
theorem sc_tscheme : FnScope ["_law_term", "_law_lacks", "_law_ranks", "_law_told", "_law_k"] ["_law_term", "_law_lacks"] (defScope s_tscheme) := ⟨rfl, rfl, rfl, by decide +kernel, rfl, by decide +kernel, by decide +kernel⟩
abbrev s_tmoved : Stmt := topS 33
theorem sc_tmoved : FnScope ["_law_term", "_law_letters", "_law_rows", "_law_tail", "_law_one"] ["_law_term", "_law_letters", "_law_rows"] (defScope s_tmoved) := ⟨rfl, rfl, rfl, by decide +kernel, rfl, by decide +kernel, by decide +kernel⟩
abbrev s_numbering : Stmt := topS 34
theorem sc_numbering : FnScope ["_law_hand_here", "_law_world_here", "_law_pool", "_law_far", "_law_told", "_law_k"] ["_law_hand_here", "_law_world_here"] (defScope s_numbering) := ⟨rfl, rfl, rfl, by decide +kernel, rfl, by decide +kernel, by decide +kernel⟩
abbrev s_asked_of : Stmt := topS 35
theorem sc_asked_of : FnScope ["_law_term", "_law_shown", "_law_numbers", "_law_due", "_law_seen", "_law_rows", "_law_sort", "_law_k", "_law_row"] ["_law_term", "_law_shown", "_law_numbers", "_law_due"] (defScope s_asked_of) := ⟨rfl, rfl, rfl, by decide +kernel, rfl, by decide +kernel, by decide +kernel⟩
abbrev s_law : Stmt := topS 36
theorem sc_law : FnScope ["_law_script", "_law_hand_here", "_law_world_here", "_law_term", "_law_bare", "_law_lacks", "_law_r", "_law_due", "_law_turn", "_law_numbers", "_law_shown", "_law_told", "_law_row", "_law_copy", "_law_key"] ["_law_script"] (defScope s_law) := ⟨rfl, rfl, rfl, by decide +kernel, rfl, by decide +kernel, by decide +kernel⟩
structure Tp (K : PySem.W.Frag) (mg : Str → Option Value) where
  a_term_parts : Addr
  d_term_parts : FuncData
  F_term_parts : Fun K "term_parts" "term_parts" s_term_parts a_term_parts d_term_parts
  g_term_parts : mg "term_parts" = some (.ref a_term_parts)
  b_term_parts : Binds K d_term_parts ["term"] []
  a_rebuilt : Addr
  d_rebuilt : FuncData
  F_rebuilt : FunD K "rebuilt" "rebuilt" (defArgs s_rebuilt) (defBody s_rebuilt) (defScope s_rebuilt) [.non] [] a_rebuilt d_rebuilt
  g_rebuilt : mg "rebuilt" = some (.ref a_rebuilt)
  b_rebuilt : Binds K d_rebuilt ["term", "parts", "tail"] []
  bd_rebuilt : ∃ dus, Vals [.non] dus ∧ Binds K d_rebuilt ["term", "parts", "tail"] dus
  a_gather_letters : Addr
  d_gather_letters : FuncData
  F_gather_letters : Fun K "gather_letters" "gather_letters" s_gather_letters a_gather_letters d_gather_letters
  g_gather_letters : mg "gather_letters" = some (.ref a_gather_letters)
  b_gather_letters : Binds K d_gather_letters ["term", "found"] []
  a_letters_in : Addr
  d_letters_in : FuncData
  F_letters_in : Fun K "letters_in" "letters_in" s_letters_in a_letters_in d_letters_in
  g_letters_in : mg "letters_in" = some (.ref a_letters_in)
  b_letters_in : Binds K d_letters_in ["term"] []
  a_row_letters_in : Addr
  d_row_letters_in : FuncData
  F_row_letters_in : Fun K "row_letters_in" "row_letters_in" s_row_letters_in a_row_letters_in d_row_letters_in
  g_row_letters_in : mg "row_letters_in" = some (.ref a_row_letters_in)
  b_row_letters_in : Binds K d_row_letters_in ["term"] []
  a_gather_beside : Addr
  d_gather_beside : FuncData
  F_gather_beside : Fun K "gather_beside" "gather_beside" s_gather_beside a_gather_beside d_gather_beside
  g_gather_beside : mg "gather_beside" = some (.ref a_gather_beside)
  b_gather_beside : Binds K d_gather_beside ["term", "found"] []
  a_lacked_labels : Addr
  d_lacked_labels : FuncData
  F_lacked_labels : Fun K "lacked_labels" "lacked_labels" s_lacked_labels a_lacked_labels d_lacked_labels
  g_lacked_labels : mg "lacked_labels" = some (.ref a_lacked_labels)
  b_lacked_labels : Binds K d_lacked_labels ["term", "lacks"] []
  a_renumbered : Addr
  d_renumbered : FuncData
  F_renumbered : Fun K "renumbered" "renumbered" s_renumbered a_renumbered d_renumbered
  g_renumbered : mg "renumbered" = some (.ref a_renumbered)
  b_renumbered : Binds K d_renumbered ["term", "ranks"] []
  a_scheme_of : Addr
  d_scheme_of : FuncData
  F_scheme_of : FunD K "scheme_of" "scheme_of" (defArgs s_scheme_of) (defBody s_scheme_of) (defScope s_scheme_of) [.non] [] a_scheme_of d_scheme_of
  g_scheme_of : mg "scheme_of" = some (.ref a_scheme_of)
  b_scheme_of : Binds K d_scheme_of ["term", "lacks"] []
  bd_scheme_of : ∃ dus, Vals [.non] dus ∧ Binds K d_scheme_of ["term", "lacks"] dus
  a_stirred : Addr
  d_stirred : FuncData
  F_stirred : Fun K "_law_stirred" "_law_stirred" s_stirred a_stirred d_stirred
  g_stirred : mg "_law_stirred" = some (.ref a_stirred)
  b_stirred : Binds K d_stirred ["_law_number", "_law_turn"] []
  a_take : Addr
  d_take : FuncData
  F_take : Fun K "_law_take" "_law_take" s_take a_take d_take
  g_take : mg "_law_take" = some (.ref a_take)
  b_take : Binds K d_take ["_law_hand_here", "_law_many"] []
  a_shuffled : Addr
  d_shuffled : FuncData
  F_shuffled : Fun K "_law_shuffled" "_law_shuffled" s_shuffled a_shuffled d_shuffled
  g_shuffled : mg "_law_shuffled" = some (.ref a_shuffled)
  b_shuffled : Binds K d_shuffled ["_law_hand_here", "_law_things"] []
  a_tonce : Addr
  d_tonce : FuncData
  F_tonce : Fun K "_law_tonce" "_law_tonce" s_tonce a_tonce d_tonce
  g_tonce : mg "_law_tonce" = some (.ref a_tonce)
  b_tonce : Binds K d_tonce ["_law_things"] []
  a_tparts : Addr
  d_tparts : FuncData
  F_tparts : Fun K "_law_tparts" "_law_tparts" s_tparts a_tparts d_tparts
  g_tparts : mg "_law_tparts" = some (.ref a_tparts)
  b_tparts : Binds K d_tparts ["_law_term"] []
  a_tseen : Addr
  d_tseen : FuncData
  F_tseen : Fun K "_law_tseen" "_law_tseen" s_tseen a_tseen d_tseen
  g_tseen : mg "_law_tseen" = some (.ref a_tseen)
  b_tseen : Binds K d_tseen ["_law_term"] []
  a_whole : Addr
  d_whole : FuncData
  F_whole : Fun K "_law_whole" "_law_whole" s_whole a_whole d_whole
  g_whole : mg "_law_whole" = some (.ref a_whole)
  b_whole : Binds K d_whole ["_law_thing"] []
  a_same : Addr
  d_same : FuncData
  F_same : Fun K "_law_same" "_law_same" s_same a_same d_same
  g_same : mg "_law_same" = some (.ref a_same)
  b_same : Binds K d_same ["_law_left", "_law_right"] []
  a_hand : Addr
  d_hand : FuncData
  F_hand : Fun K "_law_hand" "_law_hand" s_hand a_hand d_hand
  g_hand : mg "_law_hand" = some (.ref a_hand)
  b_hand : Binds K d_hand ["_law_script"] []
  a_some : Addr
  d_some : FuncData
  F_some : Fun K "_law_some" "_law_some" s_some a_some d_some
  g_some : mg "_law_some" = some (.ref a_some)
  b_some : Binds K d_some ["_law_hand_here", "_law_things"] []
  a_world : Addr
  d_world : FuncData
  F_world : Fun K "_law_world" "_law_world" s_world a_world d_world
  g_world : mg "_law_world" = some (.ref a_world)
  b_world : Binds K d_world ["_law_hand_here", "_law_letters", "_law_rows", "_law_words"] []
  a_tmay : Addr
  d_tmay : FuncData
  F_tmay : Fun K "_law_tmay" "_law_tmay" s_tmay a_tmay d_tmay
  g_tmay : mg "_law_tmay" = some (.ref a_tmay)
  b_tmay : Binds K d_tmay ["_law_world_here"] []
  a_tletter : Addr
  d_tletter : FuncData
  F_tletter : Fun K "_law_tletter" "_law_tletter" s_tletter a_tletter d_tletter
  g_tletter : mg "_law_tletter" = some (.ref a_tletter)
  b_tletter : Binds K d_tletter ["_law_world_here"] []
  a_tatom : Addr
  d_tatom : FuncData
  F_tatom : Fun K "_law_tatom" "_law_tatom" s_tatom a_tatom d_tatom
  g_tatom : mg "_law_tatom" = some (.ref a_tatom)
  b_tatom : Binds K d_tatom ["_law_world_here"] []
  a_ttail : Addr
  d_ttail : FuncData
  F_ttail : Fun K "_law_ttail" "_law_ttail" s_ttail a_ttail d_ttail
  g_ttail : mg "_law_ttail" = some (.ref a_ttail)
  b_ttail : Binds K d_ttail ["_law_world_here"] []
  a_trow : Addr
  d_trow : FuncData
  F_trow : Fun K "_law_trow" "_law_trow" s_trow a_trow d_trow
  g_trow : mg "_law_trow" = some (.ref a_trow)
  b_trow : Binds K d_trow ["_law_world_here", "_law_word", "_law_deep"] []
  a_tdrawn : Addr
  d_tdrawn : FuncData
  F_tdrawn : Fun K "_law_tdrawn" "_law_tdrawn" s_tdrawn a_tdrawn d_tdrawn
  g_tdrawn : mg "_law_tdrawn" = some (.ref a_tdrawn)
  b_tdrawn : Binds K d_tdrawn ["_law_world_here", "_law_deep"] []
  a_tbeside : Addr
  d_tbeside : FuncData
  F_tbeside : Fun K "_law_tbeside" "_law_tbeside" s_tbeside a_tbeside d_tbeside
  g_tbeside : mg "_law_tbeside" = some (.ref a_tbeside)
  b_tbeside : Binds K d_tbeside ["_law_term", "_law_row"] []
  a_trebuilt : Addr
  d_trebuilt : FuncData
  F_trebuilt : Fun K "_law_trebuilt" "_law_trebuilt" s_trebuilt a_trebuilt d_trebuilt
  g_trebuilt : mg "_law_trebuilt" = some (.ref a_trebuilt)
  b_trebuilt : Binds K d_trebuilt ["_law_term", "_law_parts", "_law_tail"] []
  a_tranked : Addr
  d_tranked : FuncData
  F_tranked : Fun K "_law_tranked" "_law_tranked" s_tranked a_tranked d_tranked
  g_tranked : mg "_law_tranked" = some (.ref a_tranked)
  b_tranked : Binds K d_tranked ["_law_term", "_law_ranks"] []
  a_tscheme : Addr
  d_tscheme : FuncData
  F_tscheme : Fun K "_law_tscheme" "_law_tscheme" s_tscheme a_tscheme d_tscheme
  g_tscheme : mg "_law_tscheme" = some (.ref a_tscheme)
  b_tscheme : Binds K d_tscheme ["_law_term", "_law_lacks"] []
  a_tmoved : Addr
  d_tmoved : FuncData
  F_tmoved : Fun K "_law_tmoved" "_law_tmoved" s_tmoved a_tmoved d_tmoved
  g_tmoved : mg "_law_tmoved" = some (.ref a_tmoved)
  b_tmoved : Binds K d_tmoved ["_law_term", "_law_letters", "_law_rows"] []
  a_numbering : Addr
  d_numbering : FuncData
  F_numbering : Fun K "_law_numbering" "_law_numbering" s_numbering a_numbering d_numbering
  g_numbering : mg "_law_numbering" = some (.ref a_numbering)
  b_numbering : Binds K d_numbering ["_law_hand_here", "_law_world_here"] []
  a_asked_of : Addr
  d_asked_of : FuncData
  F_asked_of : Fun K "_law_asked_of" "_law_asked_of" s_asked_of a_asked_of d_asked_of
  g_asked_of : mg "_law_asked_of" = some (.ref a_asked_of)
  b_asked_of : Binds K d_asked_of ["_law_term", "_law_shown", "_law_numbers", "_law_due"] []
  a_law : Addr
  d_law : FuncData
  F_law : Fun K "law" "law" s_law a_law d_law
  g_law : mg "law" = some (.ref a_law)
  b_law : Binds K d_law ["_law_script"] []
  z_abs : mg "abs" = none
  z_all : mg "all" = none
  z_bool : mg "bool" = none
  z_enumerate : mg "enumerate" = none
  z_int : mg "int" = none
  z_isinstance : mg "isinstance" = none
  z_len : mg "len" = none
  z_list : mg "list" = none
  z_range : mg "range" = none
  z_set : mg "set" = none
  z_sorted : mg "sorted" = none
  z_str : mg "str" = none
  z_tuple : mg "tuple" = none
  z_zip : mg "zip" = none
  ca_ROW_WORDS : Addr
  cg_ROW_WORDS : mg "ROW_WORDS" = some (.ref ca_ROW_WORDS)
  ct_ROW_WORDS : TopT K ca_ROW_WORDS [.str "record", .str "variant", .str "row"]
section
variable {P : Program} {w : World} {K : PySem.W.Frag} {mg : Str → Option Value} {base : Heap}
theorem ok3_term_parts (T : Tp K mg) : FnOk P w K mg base CX0 1 T.a_term_parts T.d_term_parts ["term"] (sp3 K f3_term_parts) := by
  refine fn3 T.F_term_parts sc_term_parts rfl rfl fun cdv A outer s H E hr => ?_
  have hu64 := hr.units
  have hu1 := hr.units1
  have hu65 := hr.units65
  exact (b_cons (s_set (i := 1) sc_term_parts.nd rfl (Or.inl rfl) (e_ix (ix_sq rfl) ok_ix (v3 0) e_int (fun _ _ => rfl)))
  (b_cons (s_if (t_cmp rfl (op_gIn hu64) (v3 1) (e_topT (by rfl) T.cg_ROW_WORDS T.ct_ROW_WORDS) (by rfl))
  (b_one (s_ret (e_cT (tupK3 rfl) ck_tupOf (by rfl) T.z_tuple (by decide +kernel) (a_cons (e_nd (n_lc (own := [("_", 2), ("part", 3)]) (vs := [2, 3]) rfl sc_term_parts.nd (i_sq rfl (e_ix (ix_sq rfl) ok_ix (v3 0) e_int (fun _ _ => rfl))) (blkOk_by (own := [("_", 2), ("part", 3)]) (N := ["term", "word", "_", "part"]) (sc := defScope s_term_parts) (scope := { kind := PySem.ScopeKind.function, names := [ (PySem.Str.ofString ".0", PySem.NameKind.local), (PySem.Str.ofString "_", PySem.NameKind.local), (PySem.Str.ofString "part", PySem.NameKind.local)], isGenerator := false, isCoroutine := false, more := [] : PySem.Scope }) (by decide +kernel)) rfl (by decide) (fun _ _ _ _ _ => (g_tup rfl rfl (gs_cons (g_name (i := 2) sc_term_parts.nd rfl (Or.inl rfl) (Or.inr rfl)) (gs_cons (g_name (i := 3) sc_term_parts.nd rfl (Or.inl rfl) (Or.inr rfl)) gs_nil)))) (fun _ _ _ _ _ => t_nil) (fun _ _ _ _ _ => (v3 3)))) a_nil))))
  b_nil)
  (b_cons (s_if (t_cmp rfl (op_gEq hu64) (v3 1) e_str (nomark _))
  (b_one (s_ret (e_tup (a_cons (e_ix (ix_sq rfl) ok_ix (v3 0) e_int (fun _ _ => rfl)) (a_cons (e_ix (ix_sq rfl) ok_ix (v3 0) e_int (fun _ _ => rfl)) a_nil)))))
  b_nil)
  (b_cons (s_if (t_cmp rfl (op_gEq hu64) (v3 1) e_str (nomark _))
  (b_one (s_ret (e_ix (ix_sq rfl) ok_ix (v3 0) e_int (fun _ _ => rfl))))
  b_nil)
  (b_cons (s_if (t_cmp rfl (op_gEq hu64) (v3 1) e_str (nomark _))
  (b_one (s_ret (e_ix (ix_sq rfl) ok_ix (v3 0) e_int (fun _ _ => rfl))))
  b_nil)
  (b_cons (s_if (t_cmp rfl (op_gEq hu64) (v3 1) e_str (nomark _))
  (b_one (s_ret (e_tup (a_cons (e_ix (ix_sq rfl) ok_ix (v3 0) e_int (fun _ _ => rfl)) a_nil))))
  b_nil)
  (b_one (s_ret (e_tup a_nil)))))))))
theorem ok3_rebuilt (T : Tp K mg) : FnOk P w K mg base CX0 1 T.a_rebuilt T.d_rebuilt ["term", "parts", "tail"] (sp3 K f3_rebuilt) := by
  refine fn3D T.F_rebuilt sc_rebuilt rfl rfl fun cdv A outer s H E hr => ?_
  have hu64 := hr.units
  have hu1 := hr.units1
  have hu65 := hr.units65
  exact (b_cons (s_set (i := 3) sc_rebuilt.nd rfl (Or.inl rfl) (e_ix (ix_sq rfl) ok_ix (v3 0) e_int (fun _ _ => rfl)))
  (b_cons (s_if (t_cmp rfl (op_gIn hu64) (v3 3) (e_topT (by rfl) T.cg_ROW_WORDS T.ct_ROW_WORDS) (by rfl))
  (b_one (s_ret (e_tup (a_cons (v3 3) (a_cons (e_cT (tupK3 rfl) ck_tupOf (by rfl) T.z_tuple (by decide +kernel) (a_cons (e_nd (n_lc (own := [("field", 4), ("part", 5)]) (vs := [4, 5]) rfl sc_rebuilt.nd (i_zTL rfl (by rfl) T.z_zip (a_cons (e_ix (ix_sq rfl) ok_ix (v3 0) e_int (fun _ _ => rfl)) (a_cons (v3 1) a_nil))) (blkOk_by (own := [("field", 4), ("part", 5)]) (N := ["term", "parts", "tail", "word", "field", "part"]) (sc := defScope s_rebuilt) (scope := { kind := PySem.ScopeKind.function, names := [ (PySem.Str.ofString ".0", PySem.NameKind.local), (PySem.Str.ofString "field", PySem.NameKind.local), (PySem.Str.ofString "part", PySem.NameKind.local)], isGenerator := false, isCoroutine := false, more := [] : PySem.Scope }) (by decide +kernel)) rfl (by decide) (fun _ _ _ _ _ => (g_tup rfl rfl (gs_cons (g_name (i := 4) sc_rebuilt.nd rfl (Or.inl rfl) (Or.inr rfl)) (gs_cons (g_name (i := 5) sc_rebuilt.nd rfl (Or.inl rfl) (Or.inr rfl)) gs_nil)))) (fun _ _ _ _ _ => t_nil) (fun _ _ _ _ _ => (e_tup (a_cons (e_ix (ix_sq rfl) ok_ix (v3 4) e_int (fun _ _ => rfl)) (a_cons (v3 5) a_nil)))))) a_nil)) (a_cons (v3 2) a_nil))))))
  b_nil)
  (b_cons (s_if (t_cmp rfl (op_gEq hu64) (v3 3) e_str (nomark _))
  (b_one (s_ret (e_tup (a_cons e_str (a_cons (e_ix (ix_sq rfl) ok_ix (v3 1) e_int (fun _ _ => rfl)) (a_cons (e_ix (ix_sq rfl) ok_ix (v3 1) e_int (fun _ _ => rfl)) a_nil))))))
  b_nil)
  (b_cons (s_if (t_cmp rfl (op_gEq hu64) (v3 3) e_str (nomark _))
  (b_one (s_ret (e_tup (a_cons e_str (a_cons (e_cT (tupK3 rfl) ck_tupOf (by rfl) T.z_tuple (by decide +kernel) (a_cons (v3 1) a_nil)) a_nil)))))
  b_nil)
  (b_cons (s_if (t_cmp rfl (op_gEq hu64) (v3 3) e_str (nomark _))
  (b_one (s_ret (e_tup (a_cons e_str (a_cons (e_ix (ix_sq rfl) ok_ix (v3 0) e_int (fun _ _ => rfl)) (a_cons (e_cT (tupK3 rfl) ck_tupOf (by rfl) T.z_tuple (by decide +kernel) (a_cons (v3 1) a_nil)) a_nil))))))
  b_nil)
  (b_cons (s_if (t_cmp rfl (op_gEq hu64) (v3 3) e_str (nomark _))
  (b_one (s_ret (e_tup (a_cons e_str (a_cons (e_ix (ix_sq rfl) ok_ix (v3 1) e_int (fun _ _ => rfl)) a_nil)))))
  b_nil)
  (b_one (s_ret (v3 0)))))))))
theorem ok3_gather_letters (T : Tp K mg) : ∀ n, FnOk P w K mg base CX0 (n + 2) T.a_gather_letters T.d_gather_letters ["term", "found"] (sp3 K (f3_gather_letters n))
  | 0 => fn3_none
  | n + 1 => by
    have G_term_parts := ok3_term_parts (P := P) (w := w) (base := base) T
    have G_gather_letters := ok3_gather_letters T n
    show FnOk P w K mg base CX0 (n + 2 + 1) T.a_gather_letters T.d_gather_letters ["term", "found"] (sp3 K (fdef false 2 1 _))
    refine fn3 T.F_gather_letters sc_gather_letters rfl rfl fun cdv A outer s H E hr => ?_
    have hu64 := hr.units
    have hu1 := hr.units1
    have hu65 := hr.units65
    exact (b_cons (s_if (t_cmp rfl (op_gEq hu64) (e_ix (ix_sq rfl) ok_ix (v3 0) e_int (fun _ _ => rfl)) e_str (nomark _))
  (b_one (s_expr (e_m rfl PySem.F.slot_list_append PySem.F.type_list_append mt_append mk_app (v3 1) (a_cons (e_tup (a_cons (e_ix (ix_sq rfl) ok_ix (v3 0) e_int (fun _ _ => rfl)) (a_cons e_bl a_nil))) a_nil))))
  b_nil)
  (b_cons (s_for PassesOwn.never rfl (i_sq rfl (e_call rfl G_term_parts (hr.mono (by omega)) (by rfl) T.g_term_parts T.F_term_parts.kp T.b_term_parts (a_cons (v3 0) a_nil))) (g_name (i := 2) sc_gather_letters.nd rfl (Or.inl rfl))
  (b_one (s_expr (e_call rfl G_gather_letters (hr.mono (by omega)) (by rfl) T.g_gather_letters T.F_gather_letters.kp T.b_gather_letters (a_cons (v3 2) (a_cons (v3 1) a_nil))))))
  (b_one (s_if (t_w (w_and (t_cmp rfl (op_gIn hu64) (e_ix (ix_sq rfl) ok_ix (v3 0) e_int (fun _ _ => rfl)) (e_topT (by rfl) T.cg_ROW_WORDS T.ct_ROW_WORDS) (by rfl)) (w_and1 (t_cmp rfl op_gIsN (e_ix (ix_sq rfl) ok_ix (v3 0) e_int (fun _ _ => rfl)) e_non (nomark _)))))
  (b_one (s_expr (e_m rfl PySem.F.slot_list_append PySem.F.type_list_append mt_append mk_app (v3 1) (a_cons (e_tup (a_cons (e_ix (ix_sq rfl) ok_ix (v3 0) e_int (fun _ _ => rfl)) (a_cons e_bl a_nil))) a_nil))))
  b_nil))))
theorem ok3_letters_in (T : Tp K mg) : FnOk P w K mg base CX0 63 T.a_letters_in T.d_letters_in ["term"] (sp3 K f3_letters_in) := by
  have G_gather_letters := ok3_gather_letters (P := P) (w := w) (base := base) T 60
  refine fn3 T.F_letters_in sc_letters_in rfl rfl fun cdv A outer s H E hr => ?_
  have hu64 := hr.units
  have hu1 := hr.units1
  have hu65 := hr.units65
  exact (b_cons (s_set (i := 1) sc_letters_in.nd rfl (Or.inl rfl) (e_no (n_lst a_nil)))
  (b_cons (s_expr (e_call rfl G_gather_letters (hr.mono (by omega)) (by rfl) T.g_gather_letters T.F_gather_letters.kp T.b_gather_letters (a_cons (v3 0) (a_cons (v3 1) a_nil))))
  (b_one (s_ret (e_cT (tupK3 rfl) ck_tupOf (by rfl) T.z_tuple (by decide +kernel) (a_cons (e_nd (n_cT (cr_lst4 rfl rfl) nk_lst4 (by rfl) T.z_list (by decide +kernel) (a_cons (e_dc (own := [("letter", 2), ("_", 3)]) (vs := [2, 3]) rfl sc_letters_in.nd (i_sq rfl (v3 1)) (blkOk_by (own := [("letter", 2), ("_", 3)]) (N := ["term", "found", "letter", "_"]) (sc := defScope s_letters_in) (scope := { kind := PySem.ScopeKind.function, names := [ (PySem.Str.ofString ".0", PySem.NameKind.local), (PySem.Str.ofString "letter", PySem.NameKind.local), (PySem.Str.ofString "_", PySem.NameKind.local)], isGenerator := false, isCoroutine := false, more := [] : PySem.Scope }) (by decide +kernel)) rfl (by decide) (fun _ _ _ _ _ => (g_tup rfl rfl (gs_cons (g_name (i := 2) sc_letters_in.nd rfl (Or.inl rfl) (Or.inr rfl)) (gs_cons (g_name (i := 3) sc_letters_in.nd rfl (Or.inl rfl) (Or.inr rfl)) gs_nil)))) (fun _ _ _ _ _ => t_nil) (fun _ _ _ _ _ => (v3 2)) (fun _ _ _ _ _ => e_bl)) a_nil))) a_nil))))))
theorem ok3_row_letters_in (T : Tp K mg) : FnOk P w K mg base CX0 63 T.a_row_letters_in T.d_row_letters_in ["term"] (sp3 K f3_row_letters_in) := by
  have G_gather_letters := ok3_gather_letters (P := P) (w := w) (base := base) T 60
  refine fn3 T.F_row_letters_in sc_row_letters_in rfl rfl fun cdv A outer s H E hr => ?_
  have hu64 := hr.units
  have hu1 := hr.units1
  have hu65 := hr.units65
  exact (b_cons (s_set (i := 1) sc_row_letters_in.nd rfl (Or.inl rfl) (e_no (n_lst a_nil)))
  (b_cons (s_expr (e_call rfl G_gather_letters (hr.mono (by omega)) (by rfl) T.g_gather_letters T.F_gather_letters.kp T.b_gather_letters (a_cons (v3 0) (a_cons (v3 1) a_nil))))
  (b_one (s_ret (e_cT (tupK3 rfl) ck_tupOf (by rfl) T.z_tuple (by decide +kernel) (a_cons (e_nd (n_cT (cr_lst4 rfl rfl) nk_lst4 (by rfl) T.z_list (by decide +kernel) (a_cons (e_dc (own := [("letter", 2), ("is_row", 3)]) (vs := [2, 3]) rfl sc_row_letters_in.nd (i_sq rfl (v3 1)) (blkOk_by (own := [("letter", 2), ("is_row", 3)]) (N := ["term", "found", "letter", "is_row"]) (sc := defScope s_row_letters_in) (scope := { kind := PySem.ScopeKind.function, names := [ (PySem.Str.ofString ".0", PySem.NameKind.local), (PySem.Str.ofString "letter", PySem.NameKind.local), (PySem.Str.ofString "is_row", PySem.NameKind.local)], isGenerator := false, isCoroutine := false, more := [] : PySem.Scope }) (by decide +kernel)) rfl (by decide) (fun _ _ _ _ _ => (g_tup rfl rfl (gs_cons (g_name (i := 2) sc_row_letters_in.nd rfl (Or.inl rfl) (Or.inr rfl)) (gs_cons (g_name (i := 3) sc_row_letters_in.nd rfl (Or.inl rfl) (Or.inr rfl)) gs_nil)))) (fun _ _ _ _ _ => (t_one (t_tr rfl (v3 3) (by intro _; rfl)))) (fun _ _ _ _ _ => (v3 2)) (fun _ _ _ _ _ => e_bl)) a_nil))) a_nil))))))
theorem ok3_gather_beside (T : Tp K mg) : ∀ n, FnOk P w K mg base CX0 (n + 2) T.a_gather_beside T.d_gather_beside ["term", "found"] (sp3 K (f3_gather_beside n))
  | 0 => fn3_none
  | n + 1 => by
    have G_term_parts := ok3_term_parts (P := P) (w := w) (base := base) T
    have G_gather_beside := ok3_gather_beside T n
    show FnOk P w K mg base CX0 (n + 2 + 1) T.a_gather_beside T.d_gather_beside ["term", "found"] (sp3 K (fdefK 2 4 _))
    refine fn3K T.F_gather_beside sc_gather_beside rfl rfl fun cdv A outer s H E hr => ?_
    have hu64 := hr.units
    have hu1 := hr.units1
    have hu65 := hr.units65
    exact (b_cons (s_for PassesOwn.never rfl (i_sq rfl (e_call rfl G_term_parts (hr.mono (by omega)) (by rfl) T.g_term_parts T.F_term_parts.kp T.b_term_parts (a_cons (v3 0) a_nil))) (g_name (i := 2) sc_gather_beside.nd rfl (Or.inl rfl))
  (b_one (s_expr (e_call rfl G_gather_beside (hr.mono (by omega)) (by rfl) T.g_gather_beside T.F_gather_beside.kp T.b_gather_beside (a_cons (v3 2) (a_cons (v3 1) a_nil))))))
  (b_one (s_if (t_w (w_and (t_cmp rfl (op_gIn hu64) (e_ix (ix_sq rfl) ok_ix (v3 0) e_int (fun _ _ => rfl)) (e_topT (by rfl) T.cg_ROW_WORDS T.ct_ROW_WORDS) (by rfl)) (w_and1 (t_cmp rfl op_gIsN (e_ix (ix_sq rfl) ok_ix (v3 0) e_int (fun _ _ => rfl)) e_non (nomark _)))))
  (b_cons (s_set (i := 3) sc_gather_beside.nd rfl (Or.inl rfl) (e_nsdl (v3 1) (e_ix (ix_sq rfl) ok_ix (v3 0) e_int (fun _ _ => rfl)) ⟨rfl, rfl, rfl, rfl⟩))
  (b_one (s_expr (e_m rfl PySem.F.slot_list_extend PySem.F.type_list_extend mt_extend mk_extL (v3 3) (a_cons (e_nd (n_lc (own := [("label", 4), ("_", 5)]) (vs := [4, 5]) rfl sc_gather_beside.nd (i_sq rfl (e_ix (ix_sq rfl) ok_ix (v3 0) e_int (fun _ _ => rfl))) (blkOk_by (own := [("label", 4), ("_", 5)]) (N := ["term", "found", "part", "beside", "label", "_"]) (sc := defScope s_gather_beside) (scope := { kind := PySem.ScopeKind.function, names := [ (PySem.Str.ofString ".0", PySem.NameKind.local), (PySem.Str.ofString "label", PySem.NameKind.local), (PySem.Str.ofString "_", PySem.NameKind.local)], isGenerator := false, isCoroutine := false, more := [] : PySem.Scope }) (by decide +kernel)) rfl (by decide) (fun _ _ _ _ _ => (g_tup rfl rfl (gs_cons (g_name (i := 4) sc_gather_beside.nd rfl (Or.inl rfl) (Or.inr rfl)) (gs_cons (g_name (i := 5) sc_gather_beside.nd rfl (Or.inl rfl) (Or.inr rfl)) gs_nil)))) (fun _ _ _ _ _ => t_nil) (fun _ _ _ _ _ => (v3 4)))) a_nil)))))
  b_nil)))
theorem ok3_lacked_labels (T : Tp K mg) : FnOk P w K mg base CX0 64 T.a_lacked_labels T.d_lacked_labels ["term", "lacks"] (sp3 K f3_lacked_labels) := by
  have G_gather_beside := ok3_gather_beside (P := P) (w := w) (base := base) T 60
  have G_row_letters_in := ok3_row_letters_in (P := P) (w := w) (base := base) T
  refine fn3 T.F_lacked_labels sc_lacked_labels rfl rfl fun cdv A outer s H E hr => ?_
  have hu64 := hr.units
  have hu1 := hr.units1
  have hu65 := hr.units65
  exact (b_cons (s_set (i := 2) sc_lacked_labels.nd rfl (Or.inl rfl) e_ndn)
  (b_cons (s_expr (e_call rfl G_gather_beside (hr.mono (by omega)) (by rfl) T.g_gather_beside T.F_gather_beside.kp T.b_gather_beside (a_cons (v3 0) (a_cons (v3 2) a_nil))))
  (b_cons (s_set (i := 3) sc_lacked_labels.nd rfl (Or.inl rfl) e_dn)
  (b_cons (s_for PassesOwn.never rfl (i_sq rfl (e_call rfl G_row_letters_in (hr.mono (by omega)) (by rfl) T.g_row_letters_in T.F_row_letters_in.kp T.b_row_letters_in (a_cons (v3 0) a_nil))) (g_name (i := 4) sc_lacked_labels.nd rfl (Or.inl rfl))
  (b_cons (s_set (i := 5) sc_lacked_labels.nd rfl (Or.inl rfl) (e_if (t_isn (v3 1)) (e_nd (n_lst a_nil)) (e_nd (n_cT (cr_lst4 rfl rfl) nk_lst4 (by rfl) T.z_list (by decide +kernel) (a_cons (e_dget2 hu1 (v3 1) (v3 4) (e_tup a_nil) ⟨rfl, rfl, rfl, rfl⟩) a_nil)))))
  (b_one (s_dp hu1 (v3 3) (v3 4) (e_cT (tupK3 rfl) ck_tupOf (by rfl) T.z_tuple (by decide +kernel) (a_cons (e_nd (n_ss rfl rfl rfl rfl hu64 (by rfl) T.z_sorted (by rfl) T.z_set (a_cons (e_op (op_ad rfl) ok_add (e_ndg hu1 (v3 2) (v3 4) (fun _ _ => rfl)) (v3 5)) a_nil))) a_nil)) rfl))))
  (b_one (s_ret (v3 3)))))))
theorem ok3_renumbered (T : Tp K mg) : ∀ n, FnOk P w K mg base CX0 (n + 2) T.a_renumbered T.d_renumbered ["term", "ranks"] (sp3 K (f3_renumbered n))
  | 0 => fn3_none
  | n + 1 => by
    have G_rebuilt := ok3_rebuilt (P := P) (w := w) (base := base) T
    have G_term_parts := ok3_term_parts (P := P) (w := w) (base := base) T
    have G_renumbered := ok3_renumbered T n
    show FnOk P w K mg base CX0 (n + 2 + 1) T.a_renumbered T.d_renumbered ["term", "ranks"] (sp3 K (fdef false 2 2 _))
    refine fn3 T.F_renumbered sc_renumbered rfl rfl fun cdv A outer s H E hr => ?_
    have hu64 := hr.units
    have hu1 := hr.units1
    have hu65 := hr.units65
    exact (b_cons (s_if (t_cmp rfl (op_gEq hu64) (e_ix (ix_sq rfl) ok_ix (v3 0) e_int (fun _ _ => rfl)) e_str (nomark _))
  (b_one (s_ret (e_tup (a_cons e_str (a_cons (e_dg hu1 (v3 1) (e_ix (ix_sq rfl) ok_ix (v3 0) e_int (fun _ _ => rfl)) (fun _ _ => rfl)) a_nil)))))
  b_nil)
  (b_cons (s_set (i := 2) sc_renumbered.nd rfl (Or.inl rfl) e_non)
  (b_cons (s_if (t_w (w_and (t_cmp rfl (op_gIn hu64) (e_ix (ix_sq rfl) ok_ix (v3 0) e_int (fun _ _ => rfl)) (e_topT (by rfl) T.cg_ROW_WORDS T.ct_ROW_WORDS) (by rfl)) (w_and1 (t_cmp rfl op_gIsN (e_ix (ix_sq rfl) ok_ix (v3 0) e_int (fun _ _ => rfl)) e_non (nomark _)))))
  (b_one (s_set (i := 2) sc_renumbered.nd rfl (Or.inl rfl) (e_dg hu1 (v3 1) (e_ix (ix_sq rfl) ok_ix (v3 0) e_int (fun _ _ => rfl)) (fun _ _ => rfl))))
  b_nil)
  (b_one (s_ret (e_call rfl G_rebuilt (hr.mono (by omega)) (by rfl) T.g_rebuilt T.F_rebuilt.kp T.b_rebuilt (a_cons (v3 0) (a_cons (e_nd (n_lc (own := [("part", 3)]) (vs := [3]) rfl sc_renumbered.nd (i_sq rfl (e_call rfl G_term_parts (hr.mono (by omega)) (by rfl) T.g_term_parts T.F_term_parts.kp T.b_term_parts (a_cons (v3 0) a_nil))) (blkOk_by (own := [("part", 3)]) (N := ["term", "ranks", "tail", "part"]) (sc := defScope s_renumbered) (scope := { kind := PySem.ScopeKind.function, names := [ (PySem.Str.ofString ".0", PySem.NameKind.local), (PySem.Str.ofString "part", PySem.NameKind.local), (PySem.Str.ofString "renumbered", PySem.NameKind.globalImplicit), (PySem.Str.ofString "ranks", PySem.NameKind.free)], isGenerator := false, isCoroutine := false, more := [] : PySem.Scope }) (by decide +kernel)) rfl (by decide) (fun _ _ _ _ _ => (g_name (i := 3) sc_renumbered.nd rfl (Or.inl rfl) (Or.inr rfl))) (fun _ _ _ _ _ => t_nil) (fun _ _ _ _ _ => (e_call rfl G_renumbered (hr.mono (by omega)) (by rfl) T.g_renumbered T.F_renumbered.kp T.b_renumbered (a_cons (v3 3) (a_cons (v3 1) a_nil)))))) (a_cons (v3 2) a_nil)))))))))
theorem ok3_scheme_of (T : Tp K mg) : FnOk P w K mg base CX0 65 T.a_scheme_of T.d_scheme_of ["term", "lacks"] (sp3 K f3_scheme_of) := by
  have G_lacked_labels := ok3_lacked_labels (P := P) (w := w) (base := base) T
  have G_letters_in := ok3_letters_in (P := P) (w := w) (base := base) T
  have G_renumbered := ok3_renumbered (P := P) (w := w) (base := base) T 60
  have G_row_letters_in := ok3_row_letters_in (P := P) (w := w) (base := base) T
  refine fn3D T.F_scheme_of sc_scheme_of rfl rfl fun cdv A outer s H E hr => ?_
  have hu64 := hr.units
  have hu1 := hr.units1
  have hu65 := hr.units65
  exact (b_cons (s_set (i := 2) sc_scheme_of.nd rfl (Or.inr rfl) (e_dc (own := [("at", 3), ("letter", 4)]) (vs := [3, 4]) rfl sc_scheme_of.nd (i_enT rfl (by rfl) T.z_enumerate (a_cons (e_call rfl G_letters_in (hr.mono (by omega)) (by rfl) T.g_letters_in T.F_letters_in.kp T.b_letters_in (a_cons (v3 0) a_nil)) a_nil)) (blkOk_by (own := [("at", 3), ("letter", 4)]) (N := ["term", "lacks", "ranks", "at", "letter", "found", "told"]) (sc := defScope s_scheme_of) (scope := { kind := PySem.ScopeKind.function, names := [ (PySem.Str.ofString ".0", PySem.NameKind.local), (PySem.Str.ofString "at", PySem.NameKind.local), (PySem.Str.ofString "letter", PySem.NameKind.local)], isGenerator := false, isCoroutine := false, more := [] : PySem.Scope }) (by decide +kernel)) rfl (by decide) (fun _ _ _ _ _ => (g_tup rfl rfl (gs_cons (g_name (i := 3) sc_scheme_of.nd rfl (Or.inl rfl) (Or.inr rfl)) (gs_cons (g_name (i := 4) sc_scheme_of.nd rfl (Or.inl rfl) (Or.inr rfl)) gs_nil)))) (fun _ _ _ _ _ => t_nil) (fun _ _ _ _ _ => (v3 4)) (fun _ _ _ _ _ => (v3 3))))
  (b_cons (s_set (i := 5) sc_scheme_of.nd rfl (Or.inr rfl) (e_call rfl G_lacked_labels (hr.mono (by omega)) (by rfl) T.g_lacked_labels T.F_lacked_labels.kp T.b_lacked_labels (a_cons (v3 0) (a_cons (v3 1) a_nil))))
  (b_cons (s_setLc (i := 6) (own := [("letter", 4)]) (vs := [4]) eNd (.inl rfl) rfl sc_scheme_of.nd rfl rfl (sw_true rfl rfl rfl (by decide +kernel)) (i_sq rfl (e_call rfl G_row_letters_in (hr.mono (by omega)) (by rfl) T.g_row_letters_in T.F_row_letters_in.kp T.b_row_letters_in (a_cons (v3 0) a_nil))) (blkOk_by (own := [("letter", 4)]) (N := ["term", "lacks", "ranks", "at", "letter", "found", "told"]) (sc := defScope s_scheme_of) (scope := { kind := PySem.ScopeKind.function, names := [ (PySem.Str.ofString ".0", PySem.NameKind.local), (PySem.Str.ofString "letter", PySem.NameKind.local), (PySem.Str.ofString "found", PySem.NameKind.free), (PySem.Str.ofString "ranks", PySem.NameKind.free)], isGenerator := false, isCoroutine := false, more := [] : PySem.Scope }) (by decide +kernel)) rfl (by decide) (fun _ _ _ _ _ => (g_name (i := 4) sc_scheme_of.nd rfl (Or.inl rfl) (Or.inr rfl))) (fun _ _ _ _ _ => t_nil) (fun _ _ _ _ _ => (e_tup (a_cons (e_dg hu1 (v3 2) (v3 4) (fun _ _ => rfl)) (a_cons (e_dg hu1 (v3 5) (v3 4) (fun _ _ => rfl)) a_nil)))))
  (b_one (s_ret (e_tup (a_cons (e_call rfl G_renumbered (hr.mono (by omega)) (by rfl) T.g_renumbered T.F_renumbered.kp T.b_renumbered (a_cons (v3 0) (a_cons (v3 2) a_nil))) (a_cons (e_cT (tupK3 rfl) ck_tupOf (by rfl) T.z_tuple (by decide +kernel) (a_cons (v3 6) a_nil)) a_nil))))))))
theorem ok3_stirred (T : Tp K mg) : FnOk P w K mg base CX0 1 T.a_stirred T.d_stirred ["_law_number", "_law_turn"] (sp3 K f3_stirred) := by
  refine fn3 T.F_stirred sc_stirred rfl rfl fun cdv A outer s H E hr => ?_
  have hu64 := hr.units
  have hu1 := hr.units1
  have hu65 := hr.units65
  exact (b_cons (s_set (i := 2) sc_stirred.nd rfl (Or.inl rfl) (e_op op_mod ok_mod (e_cT int1_3 ck_int (by rfl) T.z_int (by decide +kernel) (a_cons (e_op (op_ad rfl) ok_add (e_op (op_ad rfl) ok_add (e_op op_mul3 ok_mul (v3 0) e_int) (e_op op_mul3 ok_mul (v3 1) e_int)) e_int) a_nil)) e_int))
  (b_cons (s_set (i := 3) sc_stirred.nd rfl (Or.inl rfl) (e_op op_mod ok_mod (e_cT int1_3 ck_int (by rfl) T.z_int (by decide +kernel) (a_cons (e_op (op_ad rfl) ok_add (e_op (op_ad rfl) ok_add (e_op op_mul3 ok_mul (v3 2) (v3 2)) (e_op op_mul3 ok_mul (v3 1) e_int)) (e_op op_fdiv ok_fdiv (v3 2) e_int)) a_nil)) e_int))
  (b_one (s_ret (e_op op_fdiv ok_fdiv (e_cT int1_3 ck_int (by rfl) T.z_int (by decide +kernel) (a_cons (e_op op_mod ok_mod (e_cT int1_3 ck_int (by rfl) T.z_int (by decide +kernel) (a_cons (e_op (op_ad rfl) ok_add (e_op op_mul3 ok_mul (v3 3) e_int) (e_op op_fdiv ok_fdiv (v3 2) e_int)) a_nil)) e_int) a_nil)) e_int)))))
theorem ok3_take (T : Tp K mg) : FnOk P w K mg base CX0 2 T.a_take T.d_take ["_law_hand_here", "_law_many"] (sp3 K f3_take) := by
  have G_stirred := ok3_stirred (P := P) (w := w) (base := base) T
  refine fn3 T.F_take sc_take rfl rfl fun cdv A outer s H E hr => ?_
  have hu64 := hr.units
  have hu1 := hr.units1
  have hu65 := hr.units65
  exact (b_cons (s_if (t_w (w_and (t_cmp rfl (op_gEq hu64) (e_ix (ix_sq rfl) ok_ix (v3 0) e_int (fun _ _ => rfl)) e_int (nomark _)) (w_and1 (t_cmp rfl (op_gLt hu64) (e_ix (ix_sq rfl) ok_ix (v3 0) e_int (fun _ _ => rfl)) (e_cB (lenK3 rfl) ck_len (by rfl) T.z_len (by decide +kernel) (a_cons (e_ix (ix_sq rfl) ok_ix (v3 0) e_int (fun _ _ => rfl)) a_nil)) (nomark _)))))
  (b_cons (s_set (i := 2) sc_take.nd rfl (Or.inl rfl) (e_ix (ix_sq rfl) ok_ix (e_ix (ix_sq rfl) ok_ix (v3 0) e_int (fun _ _ => rfl)) (e_ix (ix_sq rfl) ok_ix (v3 0) e_int (fun _ _ => rfl)) (fun _ _ => rfl)))
  (b_cons (s_asg (e_op (op_ad rfl) ok_add (e_ix (ix_sq rfl) ok_ix (v3 0) e_int (fun _ _ => rfl)) e_int) (g_sub (v3 0) e_int))
  (b_cons (s_if (t_cmp rfl (op_gLt hu64) (v3 2) (e_op op_pow ok_pow e_int e_int) (nomark _))
  (b_one (s_ret (e_op op_mod ok_mod (e_cT int1_3 ck_int (by rfl) T.z_int (by decide +kernel) (a_cons (e_call rfl G_stirred (hr.mono (by omega)) (by rfl) T.g_stirred T.F_stirred.kp T.b_stirred (a_cons (e_op op_mod ok_mod (e_cT int1_3 ck_int (by rfl) T.z_int (by decide +kernel) (a_cons (v3 2) a_nil)) e_int) (a_cons (e_ix (ix_sq rfl) ok_ix (v3 0) e_int (fun _ _ => rfl)) a_nil))) a_nil)) (v3 1))))
  b_nil)
  (b_one (s_asg (v3 2) (g_sub (v3 0) e_int))))))
  b_nil)
  (b_cons (s_if (t_cmp rfl (op_gGt hu64) (e_ix (ix_sq rfl) ok_ix (v3 0) e_int (fun _ _ => rfl)) e_int (nomark _))
  (b_cons (s_set (i := 3) sc_take.nd rfl (Or.inl rfl) (e_ix (ix_sq rfl) ok_ix (v3 0) e_int (fun _ _ => rfl)))
  (b_cons (s_asg (e_op op_fdiv ok_fdiv (e_cT int1_3 ck_int (by rfl) T.z_int (by decide +kernel) (a_cons (v3 3) a_nil)) (v3 1)) (g_sub (v3 0) e_int))
  (b_one (s_ret (e_op op_mod ok_mod (e_cT int1_3 ck_int (by rfl) T.z_int (by decide +kernel) (a_cons (v3 3) a_nil)) (v3 1))))))
  b_nil)
  (b_cons (s_asg (e_op op_mod ok_mod (e_cT int1_3 ck_int (by rfl) T.z_int (by decide +kernel) (a_cons (e_op (op_ad rfl) ok_add (e_ix (ix_sq rfl) ok_ix (v3 0) e_int (fun _ _ => rfl)) e_int) a_nil)) e_int) (g_sub (v3 0) e_int))
  (b_one (s_ret (e_op op_mod ok_mod (e_cT int1_3 ck_int (by rfl) T.z_int (by decide +kernel) (a_cons (e_call rfl G_stirred (hr.mono (by omega)) (by rfl) T.g_stirred T.F_stirred.kp T.b_stirred (a_cons (e_ix (ix_sq rfl) ok_ix (v3 0) e_int (fun _ _ => rfl)) (a_cons (e_ix (ix_sq rfl) ok_ix (v3 0) e_int (fun _ _ => rfl)) a_nil))) a_nil)) (v3 1)))))))
theorem ok3_shuffled (T : Tp K mg) : FnOk P w K mg base CX0 3 T.a_shuffled T.d_shuffled ["_law_hand_here", "_law_things"] (sp3 K f3_shuffled) := by
  have G_take := ok3_take (P := P) (w := w) (base := base) T
  refine fn3 T.F_shuffled sc_shuffled rfl rfl fun cdv A outer s H E hr => ?_
  have hu64 := hr.units
  have hu1 := hr.units1
  have hu65 := hr.units65
  exact (b_cons (s_set (i := 2) sc_shuffled.nd rfl (Or.inr rfl) (e_no (n_cT (cr_lst4 rfl rfl) nk_lst4 (by rfl) T.z_list (by decide +kernel) (a_cons (v3 1) a_nil))))
  (b_one (s_ret (e_nd (n_lc (own := [("_law_k", 3)]) (vs := [3]) rfl sc_shuffled.nd (i_r1 (by rfl) T.z_range (a_cons (e_cB (lenK3 rfl) ck_len (by rfl) T.z_len (by decide +kernel) (a_cons (v3 2) a_nil)) a_nil)) (blkOk_by (own := [("_law_k", 3)]) (N := ["_law_hand_here", "_law_things", "_law_left", "_law_k"]) (sc := defScope s_shuffled) (scope := { kind := PySem.ScopeKind.function, names := [ (PySem.Str.ofString ".0", PySem.NameKind.local), (PySem.Str.ofString "_law_k", PySem.NameKind.local), (PySem.Str.ofString "_law_take", PySem.NameKind.globalImplicit), (PySem.Str.ofString "len", PySem.NameKind.globalImplicit), (PySem.Str.ofString "_law_hand_here", PySem.NameKind.free), (PySem.Str.ofString "_law_left", PySem.NameKind.free)], isGenerator := false, isCoroutine := false, more := [] : PySem.Scope }) (by decide +kernel)) rfl (by decide) (fun _ _ _ _ _ => (g_name (i := 3) sc_shuffled.nd rfl (Or.inl rfl) (Or.inr rfl))) (fun _ _ _ _ _ => t_nil) (fun _ _ _ _ _ => (e_m rfl PySem.F.slot_list_pop PySem.F.type_list_pop mt_popAt mk_popAt (v3 2) (a_cons (e_call rfl G_take (hr.mono (by omega)) (by rfl) T.g_take T.F_take.kp T.b_take (a_cons (v3 0) (a_cons (e_cB (lenK3 rfl) ck_len (by rfl) T.z_len (by decide +kernel) (a_cons (v3 2) a_nil)) a_nil))) a_nil))))))))
theorem ok3_tonce (T : Tp K mg) : FnOk P w K mg base CX0 1 T.a_tonce T.d_tonce ["_law_things"] (sp3 K f3_tonce) := by
  refine fn3 T.F_tonce sc_tonce rfl rfl fun cdv A outer s H E hr => ?_
  have hu64 := hr.units
  have hu1 := hr.units1
  have hu65 := hr.units65
  exact (b_cons (s_set (i := 1) sc_tonce.nd rfl (Or.inl rfl) (e_no (n_lst a_nil)))
  (b_cons (s_for PassesOwn.never rfl (i_sq rfl (v3 0)) (g_name (i := 2) sc_tonce.nd rfl (Or.inl rfl))
  (b_one (s_if (t_cmp rfl (op_gNin hu64) (v3 2) (v3 1) (by rfl))
  (b_one (s_expr (e_m rfl PySem.F.slot_list_append PySem.F.type_list_append mt_append mk_app (v3 1) (a_cons (v3 2) a_nil))))
  b_nil)))
  (b_one (s_ret (v3 1)))))
theorem ok3_tparts (T : Tp K mg) : FnOk P w K mg base CX0 1 T.a_tparts T.d_tparts ["_law_term"] (sp3 K f3_tparts) := by
  refine fn3 T.F_tparts sc_tparts rfl rfl fun cdv A outer s H E hr => ?_
  have hu64 := hr.units
  have hu1 := hr.units1
  have hu65 := hr.units65
  exact (b_cons (s_if (t_cmp rfl (op_gIn hu64) (e_ix (ix_sq rfl) ok_ix (v3 0) e_int (fun _ _ => rfl)) (e_tup (a_cons e_str (a_cons e_str a_nil))) (by rfl))
  (b_one (s_ret (e_nd (n_lc (own := [("_law_label", 1), ("_law_one", 2)]) (vs := [1, 2]) rfl sc_tparts.nd (i_sq rfl (e_ix (ix_sq rfl) ok_ix (v3 0) e_int (fun _ _ => rfl))) (blkOk_by (own := [("_law_label", 1), ("_law_one", 2)]) (N := ["_law_term", "_law_label", "_law_one"]) (sc := defScope s_tparts) (scope := { kind := PySem.ScopeKind.function, names := [ (PySem.Str.ofString ".0", PySem.NameKind.local), (PySem.Str.ofString "_law_label", PySem.NameKind.local), (PySem.Str.ofString "_law_one", PySem.NameKind.local)], isGenerator := false, isCoroutine := false, more := [] : PySem.Scope }) (by decide +kernel)) rfl (by decide) (fun _ _ _ _ _ => (g_tup rfl rfl (gs_cons (g_name (i := 1) sc_tparts.nd rfl (Or.inl rfl) (Or.inr rfl)) (gs_cons (g_name (i := 2) sc_tparts.nd rfl (Or.inl rfl) (Or.inr rfl)) gs_nil)))) (fun _ _ _ _ _ => t_nil) (fun _ _ _ _ _ => (v3 2))))))
  b_nil)
  (b_cons (s_if (t_cmp rfl (op_gEq hu64) (e_ix (ix_sq rfl) ok_ix (v3 0) e_int (fun _ _ => rfl)) e_str (nomark _))
  (b_one (s_ret (e_nd (n_lst (a_cons (e_ix (ix_sq rfl) ok_ix (v3 0) e_int (fun _ _ => rfl)) (a_cons (e_ix (ix_sq rfl) ok_ix (v3 0) e_int (fun _ _ => rfl)) a_nil))))))
  b_nil)
  (b_cons (s_if (t_cmp rfl (op_gEq hu64) (e_ix (ix_sq rfl) ok_ix (v3 0) e_int (fun _ _ => rfl)) e_str (nomark _))
  (b_one (s_ret (e_nd (n_cT (cr_lst4 rfl rfl) nk_lst4 (by rfl) T.z_list (by decide +kernel) (a_cons (e_ix (ix_sq rfl) ok_ix (v3 0) e_int (fun _ _ => rfl)) a_nil)))))
  b_nil)
  (b_cons (s_if (t_cmp rfl (op_gEq hu64) (e_ix (ix_sq rfl) ok_ix (v3 0) e_int (fun _ _ => rfl)) e_str (nomark _))
  (b_one (s_ret (e_nd (n_cT (cr_lst4 rfl rfl) nk_lst4 (by rfl) T.z_list (by decide +kernel) (a_cons (e_ix (ix_sq rfl) ok_ix (v3 0) e_int (fun _ _ => rfl)) a_nil)))))
  b_nil)
  (b_cons (s_if (t_cmp rfl (op_gEq hu64) (e_ix (ix_sq rfl) ok_ix (v3 0) e_int (fun _ _ => rfl)) e_str (nomark _))
  (b_one (s_ret (e_nd (n_lst (a_cons (e_ix (ix_sq rfl) ok_ix (v3 0) e_int (fun _ _ => rfl)) a_nil)))))
  b_nil)
  (b_one (s_ret (e_nd (n_lst a_nil)))))))))
theorem ok3_tseen (T : Tp K mg) : ∀ n, FnOk P w K mg base CX0 (n + 2) T.a_tseen T.d_tseen ["_law_term"] (sp3 K (f3_tseen n))
  | 0 => fn3_none
  | n + 1 => by
    have G_tparts := ok3_tparts (P := P) (w := w) (base := base) T
    have G_tseen := ok3_tseen T n
    show FnOk P w K mg base CX0 (n + 2 + 1) T.a_tseen T.d_tseen ["_law_term"] (sp3 K (fdef false 1 2 _))
    refine fn3 T.F_tseen sc_tseen rfl rfl fun cdv A outer s H E hr => ?_
    have hu64 := hr.units
    have hu1 := hr.units1
    have hu65 := hr.units65
    exact (b_cons (s_if (t_cmp rfl (op_gEq hu64) (e_ix (ix_sq rfl) ok_ix (v3 0) e_int (fun _ _ => rfl)) e_str (nomark _))
  (b_one (s_ret (e_nd (n_lst (a_cons (e_tup (a_cons e_int (a_cons (e_ix (ix_sq rfl) ok_ix (v3 0) e_int (fun _ _ => rfl)) a_nil))) a_nil)))))
  b_nil)
  (b_cons (s_set (i := 1) sc_tseen.nd rfl (Or.inl rfl) (e_no (n_lst a_nil)))
  (b_cons (s_for PassesOwn.never rfl (i_sq rfl (e_call rfl G_tparts (hr.mono (by omega)) (by rfl) T.g_tparts T.F_tparts.kp T.b_tparts (a_cons (v3 0) a_nil))) (g_name (i := 2) sc_tseen.nd rfl (Or.inl rfl))
  (b_one (s_set (i := 1) sc_tseen.nd rfl (Or.inl rfl) (e_no (n_cat (v3 1) (e_call rfl G_tseen (hr.mono (by omega)) (by rfl) T.g_tseen T.F_tseen.kp T.b_tseen (a_cons (v3 2) a_nil)))))))
  (b_cons (s_if (t_w (w_and (t_cmp rfl (op_gIn hu64) (e_ix (ix_sq rfl) ok_ix (v3 0) e_int (fun _ _ => rfl)) (e_tup (a_cons e_str (a_cons e_str a_nil))) (by rfl)) (w_and1 (t_cmp rfl op_gIsN (e_ix (ix_sq rfl) ok_ix (v3 0) e_int (fun _ _ => rfl)) e_non (nomark _)))))
  (b_one (s_expr (e_m rfl PySem.F.slot_list_append PySem.F.type_list_append mt_append mk_app (v3 1) (a_cons (e_tup (a_cons e_int (a_cons (e_ix (ix_sq rfl) ok_ix (v3 0) e_int (fun _ _ => rfl)) a_nil))) a_nil))))
  b_nil)
  (b_one (s_ret (v3 1)))))))
theorem ok3_whole (T : Tp K mg) : FnOk P w K mg base CX0 1 T.a_whole T.d_whole ["_law_thing"] (sp3 K f3_whole) := by
  refine fn3 T.F_whole sc_whole rfl rfl fun cdv A outer s H E hr => ?_
  have hu64 := hr.units
  have hu1 := hr.units1
  have hu65 := hr.units65
  exact (b_one (s_ret (e_and (e_cB (isiK3 rfl) ck_isi (by rfl) T.z_isinstance (by decide +kernel) (a_cons (v3 0) (a_cons (e_ty (by rfl) T.z_int (by decide +kernel)) a_nil))) (e_one (e_not rfl (e_cB (isiK3 rfl) ck_isi (by rfl) T.z_isinstance (by decide +kernel) (a_cons (v3 0) (a_cons (e_ty (by rfl) T.z_bool (by decide +kernel)) a_nil))))))))
theorem ok3_same (T : Tp K mg) : ∀ n, FnOk P w K mg base CX0 (n + 2) T.a_same T.d_same ["_law_left", "_law_right"] (sp3 K (f3_same n))
  | 0 => fn3_none
  | n + 1 => by
    have G_whole := ok3_whole (P := P) (w := w) (base := base) T
    have G_same := ok3_same T n
    show FnOk P w K mg base CX0 (n + 2 + 1) T.a_same T.d_same ["_law_left", "_law_right"] (sp3 K (fdef false 2 1 _))
    refine fn3 T.F_same sc_same rfl rfl fun cdv A outer s H E hr => ?_
    have hu64 := hr.units
    have hu1 := hr.units1
    have hu65 := hr.units65
    exact (b_cons (s_if (t_tr rfl (e_cB (isiK3 rfl) ck_isi (by rfl) T.z_isinstance (by decide +kernel) (a_cons (v3 0) (a_cons (e_ty (by rfl) T.z_tuple (by decide +kernel)) a_nil))) (by intro _; rfl))
  (b_one (s_ret (e_and (e_cB (isiK3 rfl) ck_isi (by rfl) T.z_isinstance (by decide +kernel) (a_cons (v3 1) (a_cons (e_ty (by rfl) T.z_tuple (by decide +kernel)) a_nil))) (e_and (e_cmp rfl (op_gEq hu64) (e_cB (lenK3 rfl) ck_len (by rfl) T.z_len (by decide +kernel) (a_cons (v3 0) a_nil)) (e_cB (lenK3 rfl) ck_len (by rfl) T.z_len (by decide +kernel) (a_cons (v3 1) a_nil)) (nomark _)) (e_one (e_cB (allK3 rfl rfl) ck_all (by rfl) T.z_all (by decide +kernel) (a_cons (e_nd (n_lc (own := [("_law_k", 2)]) (vs := [2]) rfl sc_same.nd (i_r1 (by rfl) T.z_range (a_cons (e_cB (lenK3 rfl) ck_len (by rfl) T.z_len (by decide +kernel) (a_cons (v3 0) a_nil)) a_nil)) (blkOk_by (own := [("_law_k", 2)]) (N := ["_law_left", "_law_right", "_law_k"]) (sc := defScope s_same) (scope := { kind := PySem.ScopeKind.function, names := [ (PySem.Str.ofString ".0", PySem.NameKind.local), (PySem.Str.ofString "_law_k", PySem.NameKind.local), (PySem.Str.ofString "_law_same", PySem.NameKind.globalImplicit), (PySem.Str.ofString "_law_left", PySem.NameKind.free), (PySem.Str.ofString "_law_right", PySem.NameKind.free)], isGenerator := false, isCoroutine := false, more := [] : PySem.Scope }) (by decide +kernel)) rfl (by decide) (fun _ _ _ _ _ => (g_name (i := 2) sc_same.nd rfl (Or.inl rfl) (Or.inr rfl))) (fun _ _ _ _ _ => t_nil) (fun _ _ _ _ _ => (e_call rfl G_same (hr.mono (by omega)) (by rfl) T.g_same T.F_same.kp T.b_same (a_cons (e_ix (ix_sq rfl) ok_ix (v3 0) (v3 2) (fun _ _ => rfl)) (a_cons (e_ix (ix_sq rfl) ok_ix (v3 1) (v3 2) (fun _ _ => rfl)) a_nil)))))) a_nil)))))))
  b_nil)
  (b_cons (s_if (t_w (w_or (t_tr rfl (e_cB (isiK3 rfl) ck_isi (by rfl) T.z_isinstance (by decide +kernel) (a_cons (v3 0) (a_cons (e_ty (by rfl) T.z_bool (by decide +kernel)) a_nil))) (by intro _; rfl)) (w_or1 (t_tr rfl (e_cB (isiK3 rfl) ck_isi (by rfl) T.z_isinstance (by decide +kernel) (a_cons (v3 1) (a_cons (e_ty (by rfl) T.z_bool (by decide +kernel)) a_nil))) (by intro _; rfl)))))
  (b_one (s_ret (e_and (e_cB (isiK3 rfl) ck_isi (by rfl) T.z_isinstance (by decide +kernel) (a_cons (v3 0) (a_cons (e_ty (by rfl) T.z_bool (by decide +kernel)) a_nil))) (e_and (e_cB (isiK3 rfl) ck_isi (by rfl) T.z_isinstance (by decide +kernel) (a_cons (v3 1) (a_cons (e_ty (by rfl) T.z_bool (by decide +kernel)) a_nil))) (e_one (e_cmp rfl (op_gEq hu64) (v3 0) (v3 1) (nomark _)))))))
  b_nil)
  (b_cons (s_if (t_tr rfl (e_cB (isiK3 rfl) ck_isi (by rfl) T.z_isinstance (by decide +kernel) (a_cons (v3 0) (a_cons (e_ty (by rfl) T.z_str (by decide +kernel)) a_nil))) (by intro _; rfl))
  (b_one (s_ret (e_and (e_cB (isiK3 rfl) ck_isi (by rfl) T.z_isinstance (by decide +kernel) (a_cons (v3 1) (a_cons (e_ty (by rfl) T.z_str (by decide +kernel)) a_nil))) (e_one (e_cmp rfl (op_gEq hu64) (v3 0) (v3 1) (nomark _))))))
  b_nil)
  (b_cons (s_if (t_w (w_or (t_cmp rfl op_gIs (v3 0) e_non (nomark _)) (w_or1 (t_cmp rfl op_gIs (v3 1) e_non (nomark _)))))
  (b_one (s_ret (e_and (e_cmp rfl op_gIs (v3 0) e_non (nomark _)) (e_one (e_cmp rfl op_gIs (v3 1) e_non (nomark _))))))
  b_nil)
  (b_one (s_ret (e_and (e_call rfl G_whole (hr.mono (by omega)) (by rfl) T.g_whole T.F_whole.kp T.b_whole (a_cons (v3 1) a_nil)) (e_one (e_cmp rfl (op_gEq hu64) (v3 0) (v3 1) (nomark _))))))))))
theorem ok3_hand (T : Tp K mg) : FnOk P w K mg base CX0 1 T.a_hand T.d_hand ["_law_script"] (sp3 K f3_hand) := by
  refine fn3 T.F_hand sc_hand rfl rfl fun cdv A outer s H E hr => ?_
  have hu64 := hr.units
  have hu1 := hr.units1
  have hu65 := hr.units65
  exact (b_cons (s_set (i := 1) sc_hand.nd rfl (Or.inl rfl) (e_op (op_ad rfl) ok_add (e_op op_mul3 ok_mul (e_cB (lenK3 rfl) ck_len (by rfl) T.z_len (by decide +kernel) (a_cons (v3 0) a_nil)) e_int) e_int))
  (b_cons (s_set (i := 2) sc_hand.nd rfl (Or.inl rfl) (e_no (n_lst a_nil)))
  (b_cons (s_for PassesOwn.never rfl (i_sq rfl (v3 0)) (g_name (i := 3) sc_hand.nd rfl (Or.inl rfl))
  (b_cons (s_set (i := 1) sc_hand.nd rfl (Or.inl rfl) (e_op op_mod ok_mod (e_cT int1_3 ck_int (by rfl) T.z_int (by decide +kernel) (a_cons (e_op (op_ad rfl) ok_add (e_op op_mul3 ok_mul (v3 1) e_int) (e_cT int1_3 ck_int (by rfl) T.z_int (by decide +kernel) (a_cons (v3 3) a_nil))) a_nil)) e_int))
  (b_one (s_expr (e_m rfl PySem.F.slot_list_append PySem.F.type_list_append mt_append mk_app (v3 2) (a_cons (e_cB abs_3 ck_abs (by rfl) T.z_abs (by decide +kernel) (a_cons (e_cT int1_3 ck_int (by rfl) T.z_int (by decide +kernel) (a_cons (v3 3) a_nil)) a_nil)) a_nil))))))
  (b_one (s_ret (e_no (n_lst (a_cons (e_frz (v3 2)) (a_cons e_int (a_cons e_int (a_cons (v3 1) a_nil)))))))))))
theorem ok3_some (T : Tp K mg) : FnOk P w K mg base CX0 3 T.a_some T.d_some ["_law_hand_here", "_law_things"] (sp3 K f3_some) := by
  have G_take := ok3_take (P := P) (w := w) (base := base) T
  refine fn3 T.F_some sc_some rfl rfl fun cdv A outer s H E hr => ?_
  have hu64 := hr.units
  have hu1 := hr.units1
  have hu65 := hr.units65
  exact (b_cons (s_set (i := 2) sc_some.nd rfl (Or.inl rfl) (e_no (n_lst a_nil)))
  (b_cons (s_for PassesOwn.never rfl (i_sq rfl (v3 1)) (g_name (i := 3) sc_some.nd rfl (Or.inl rfl))
  (b_one (s_if (t_cmp rfl (op_gEq hu64) (e_call rfl G_take (hr.mono (by omega)) (by rfl) T.g_take T.F_take.kp T.b_take (a_cons (v3 0) (a_cons e_int a_nil))) e_int (nomark _))
  (b_one (s_expr (e_m rfl PySem.F.slot_list_append PySem.F.type_list_append mt_append mk_app (v3 2) (a_cons (v3 3) a_nil))))
  b_nil)))
  (b_one (s_ret (v3 2)))))
theorem ok3_world (T : Tp K mg) : FnOk P w K mg base CX0 4 T.a_world T.d_world ["_law_hand_here", "_law_letters", "_law_rows", "_law_words"] (sp3 K f3_world) := by
  have G_some := ok3_some (P := P) (w := w) (base := base) T
  have G_take := ok3_take (P := P) (w := w) (base := base) T
  refine fn3 T.F_world sc_world rfl rfl fun cdv A outer s H E hr => ?_
  have hu64 := hr.units
  have hu1 := hr.units1
  have hu65 := hr.units65
  exact (b_cons (s_set (i := 4) sc_world.nd rfl (Or.inr rfl) (e_call rfl G_take (hr.mono (by omega)) (by rfl) T.g_take T.F_take.kp T.b_take (a_cons (v3 0) (a_cons e_int a_nil))))
  (b_cons (s_set (i := 5) sc_world.nd rfl (Or.inr rfl) (e_ix (ix_sq rfl) ok_ix (e_nd (n_lst (a_cons e_int (a_cons e_int (a_cons e_int (a_cons e_int (a_cons e_int (a_cons e_int a_nil)))))))) (e_call rfl G_take (hr.mono (by omega)) (by rfl) T.g_take T.F_take.kp T.b_take (a_cons (v3 0) (a_cons e_int a_nil))) (fun _ _ => rfl)))
  (b_cons (s_set (i := 6) sc_world.nd rfl (Or.inr rfl) (e_ix (ix_sq rfl) ok_ix (e_nd (n_lst (a_cons e_str (a_cons e_str (a_cons e_str a_nil))))) (e_call rfl G_take (hr.mono (by omega)) (by rfl) T.g_take T.F_take.kp T.b_take (a_cons (v3 0) (a_cons e_int a_nil))) (fun _ _ => rfl)))
  (b_cons (s_set (i := 7) sc_world.nd rfl (Or.inl rfl) (e_nd (n_cB (sortK3 rfl hu64) nk_sorted (by rfl) T.z_sorted (by decide +kernel) (a_cons (e_nd (n_lc (own := [("_law_k", 8)]) (vs := [8]) rfl sc_world.nd (i_r1 (by rfl) T.z_range (a_cons e_int a_nil)) (blkOk_by (own := [("_law_k", 8)]) (N := ["_law_hand_here", "_law_letters", "_law_rows", "_law_words", "_law_first", "_law_step", "_law_ending", "_law_labels", "_law_k", "_law_beside", "_law_r"]) (sc := defScope s_world) (scope := { kind := PySem.ScopeKind.function, names := [ (PySem.Str.ofString ".0", PySem.NameKind.local), (PySem.Str.ofString "_law_k", PySem.NameKind.local), (PySem.Str.ofString "int", PySem.NameKind.globalImplicit), (PySem.Str.ofString "_law_ending", PySem.NameKind.free), (PySem.Str.ofString "_law_first", PySem.NameKind.free), (PySem.Str.ofString "_law_step", PySem.NameKind.free)], isGenerator := false, isCoroutine := false, more := [] : PySem.Scope }) (by decide +kernel)) rfl (by decide) (fun _ _ _ _ _ => (g_name (i := 8) sc_world.nd rfl (Or.inl rfl) (Or.inr rfl))) (fun _ _ _ _ _ => t_nil) (fun _ _ _ _ _ => (e_op (op_ad rfl) ok_add (e_ix (ix_sq rfl) ok_ix e_str (e_op op_mod ok_mod (e_cT int1_3 ck_int (by rfl) T.z_int (by decide +kernel) (a_cons (e_op (op_ad rfl) ok_add (v3 4) (e_op op_mul3 ok_mul (v3 5) (v3 8))) a_nil)) e_int) (fun _ _ => rfl)) (v3 6))))) a_nil))))
  (b_cons (s_set (i := 9) sc_world.nd rfl (Or.inl rfl) (e_no (n_lst a_nil)))
  (b_cons (s_for PassesOwn.never rfl (i_r1 (by rfl) T.z_range (a_cons (v3 2) a_nil)) (g_name (i := 10) sc_world.nd rfl (Or.inl rfl))
  (b_one (s_expr (e_m rfl PySem.F.slot_list_append PySem.F.type_list_append mt_append mk_app (v3 9) (a_cons (e_call rfl G_some (hr.mono (by omega)) (by rfl) T.g_some T.F_some.kp T.b_some (a_cons (v3 0) (a_cons (v3 7) a_nil))) a_nil)))))
  (b_one (s_ret (e_rd (rd_cons (v3 0) e_str (rd_cons e_int e_str (rd_cons (v3 3) e_str (rd_cons (v3 1) e_str (rd_cons (v3 7) e_str (rd_cons (v3 9) e_str rd_nil)))))) (fun h => nomatch h) (by decide))))))))))
theorem ok3_tmay (T : Tp K mg) : FnOk P w K mg base CX0 1 T.a_tmay T.d_tmay ["_law_world_here"] (sp3 K f3_tmay) := by
  refine fn3 T.F_tmay sc_tmay rfl rfl fun cdv A outer s H E hr => ?_
  have hu64 := hr.units
  have hu1 := hr.units1
  have hu65 := hr.units65
  exact (b_one (s_ret (e_and (e_cmp rfl (op_gGt hu64) (e_rg hu1 (v3 0) e_str (fun _ _ => rfl)) e_int (nomark _)) (e_one (e_cmp rfl (op_gGt hu64) (e_rg hu1 (v3 0) e_str (fun _ _ => rfl)) e_int (nomark _))))))
theorem ok3_tletter (T : Tp K mg) : FnOk P w K mg base CX0 3 T.a_tletter T.d_tletter ["_law_world_here"] (sp3 K f3_tletter) := by
  have G_take := ok3_take (P := P) (w := w) (base := base) T
  refine fn3 T.F_tletter sc_tletter rfl rfl fun cdv A outer s H E hr => ?_
  have hu64 := hr.units
  have hu1 := hr.units1
  have hu65 := hr.units65
  exact (b_cons (s_rs hu1 (v3 0) e_str (e_op op_sub ok_sub (e_rg hu1 (v3 0) e_str (fun _ _ => rfl)) e_int) rfl)
  (b_one (s_ret (e_tup (a_cons e_str (a_cons (e_call rfl G_take (hr.mono (by omega)) (by rfl) T.g_take T.F_take.kp T.b_take (a_cons (e_rg hu1 (v3 0) e_str (fun _ _ => rfl)) (a_cons (e_rg hu1 (v3 0) e_str (fun _ _ => rfl)) a_nil))) a_nil))))))
theorem ok3_tatom (T : Tp K mg) : FnOk P w K mg base CX0 3 T.a_tatom T.d_tatom ["_law_world_here"] (sp3 K f3_tatom) := by
  have G_take := ok3_take (P := P) (w := w) (base := base) T
  refine fn3 T.F_tatom sc_tatom rfl rfl fun cdv A outer s H E hr => ?_
  have hu64 := hr.units
  have hu1 := hr.units1
  have hu65 := hr.units65
  exact (b_cons (s_set (i := 1) sc_tatom.nd rfl (Or.inl rfl) (e_rg hu1 (v3 0) e_str (fun _ _ => rfl)))
  (b_cons (s_set (i := 2) sc_tatom.nd rfl (Or.inl rfl) (e_call rfl G_take (hr.mono (by omega)) (by rfl) T.g_take T.F_take.kp T.b_take (a_cons (v3 1) (a_cons e_int a_nil))))
  (b_cons (s_if (t_cmp rfl (op_gLt hu64) (v3 2) e_int (nomark _))
  (b_one (s_ret (e_tup (a_cons e_str a_nil))))
  b_nil)
  (b_cons (s_if (t_cmp rfl (op_gEq hu64) (v3 2) e_int (nomark _))
  (b_one (s_ret (e_tup (a_cons e_str a_nil))))
  b_nil)
  (b_cons (s_if (t_cmp rfl (op_gEq hu64) (v3 2) e_int (nomark _))
  (b_one (s_ret (e_tup (a_cons e_str (a_cons (e_op (op_ad rfl) ok_add e_str (e_cT str_3 ck_str (by rfl) T.z_str (by decide +kernel) (a_cons (e_call rfl G_take (hr.mono (by omega)) (by rfl) T.g_take T.F_take.kp T.b_take (a_cons (v3 1) (a_cons e_int a_nil))) a_nil))) (a_cons (e_op (op_ad rfl) ok_add e_str (e_cT str_3 ck_str (by rfl) T.z_str (by decide +kernel) (a_cons (e_call rfl G_take (hr.mono (by omega)) (by rfl) T.g_take T.F_take.kp T.b_take (a_cons (v3 1) (a_cons e_int a_nil))) a_nil))) a_nil))))))
  b_nil)
  (b_cons (s_if (t_cmp rfl (op_gEq hu64) (v3 2) e_int (nomark _))
  (b_one (s_ret (e_tup (a_cons e_str (a_cons (e_ix (ix_sq rfl) ok_ix (e_nd (n_lst (a_cons e_str (a_cons e_str (a_cons e_str a_nil))))) (e_call rfl G_take (hr.mono (by omega)) (by rfl) T.g_take T.F_take.kp T.b_take (a_cons (v3 1) (a_cons e_int a_nil))) (fun _ _ => rfl)) a_nil)))))
  b_nil)
  (b_one (s_ret (e_tup (a_cons e_str (a_cons e_str (a_cons (e_tup a_nil) a_nil))))))))))))
theorem ok3_ttail (T : Tp K mg) : FnOk P w K mg base CX0 3 T.a_ttail T.d_ttail ["_law_world_here"] (sp3 K f3_ttail) := by
  have G_take := ok3_take (P := P) (w := w) (base := base) T
  refine fn3 T.F_ttail sc_ttail rfl rfl fun cdv A outer s H E hr => ?_
  have hu64 := hr.units
  have hu1 := hr.units1
  have hu65 := hr.units65
  exact (b_cons (s_if (t_w (w_or (t_cmp rfl (op_gEq hu64) (e_cB (lenK3 rfl) ck_len (by rfl) T.z_len (by decide +kernel) (a_cons (e_rg hu1 (v3 0) e_str (fun _ _ => rfl)) a_nil)) e_int (nomark _)) (w_or (t_cmp rfl (op_gLe hu64) (e_rg hu1 (v3 0) e_str (fun _ _ => rfl)) e_int (nomark _)) (w_or1 (t_cmp rfl (op_gEq hu64) (e_call rfl G_take (hr.mono (by omega)) (by rfl) T.g_take T.F_take.kp T.b_take (a_cons (e_rg hu1 (v3 0) e_str (fun _ _ => rfl)) (a_cons e_int a_nil))) e_int (nomark _))))))
  (b_one (s_ret e_non))
  b_nil)
  (b_cons (s_rs hu1 (v3 0) e_str (e_op op_sub ok_sub (e_rg hu1 (v3 0) e_str (fun _ _ => rfl)) e_int) rfl)
  (b_one (s_ret (e_call rfl G_take (hr.mono (by omega)) (by rfl) T.g_take T.F_take.kp T.b_take (a_cons (e_rg hu1 (v3 0) e_str (fun _ _ => rfl)) (a_cons (e_cB (lenK3 rfl) ck_len (by rfl) T.z_len (by decide +kernel) (a_cons (e_rg hu1 (v3 0) e_str (fun _ _ => rfl)) a_nil)) a_nil)))))))
theorem ok3m_trow (T : Tp K mg) : ∀ n, FnOk P w K mg base CX0 (n + 4) T.a_trow T.d_trow ["_law_world_here", "_law_word", "_law_deep"] (sp3 K (f3_trow n)) ∧ FnOk P w K mg base CX0 (n + 4) T.a_tdrawn T.d_tdrawn ["_law_world_here", "_law_deep"] (sp3 K (f3_tdrawn n))
  | 0 => ⟨fn3_none, fn3_none⟩
  | n + 1 => by
    have G_some := ok3_some (P := P) (w := w) (base := base) T
    have G_ttail := ok3_ttail (P := P) (w := w) (base := base) T
    have G_take := ok3_take (P := P) (w := w) (base := base) T
    have G_tatom := ok3_tatom (P := P) (w := w) (base := base) T
    have G_tletter := ok3_tletter (P := P) (w := w) (base := base) T
    have G_tmay := ok3_tmay (P := P) (w := w) (base := base) T
    obtain ⟨G_trow, G_tdrawn⟩ := ok3m_trow T n
    refine ⟨?_, ?_⟩
    · show FnOk P w K mg base CX0 (n + 4 + 1) T.a_trow T.d_trow ["_law_world_here", "_law_word", "_law_deep"] (sp3 K (fdef false 3 4 _))
      refine fn3 T.F_trow sc_trow rfl rfl fun cdv A outer s H E hr => ?_
      have hu64 := hr.units
      have hu1 := hr.units1
      have hu65 := hr.units65
      exact (b_cons (s_set (i := 3) sc_trow.nd rfl (Or.inl rfl) (e_call rfl G_ttail (hr.mono (by omega)) (by rfl) T.g_ttail T.F_ttail.kp T.b_ttail (a_cons (v3 0) a_nil)))
  (b_cons (s_set (i := 4) sc_trow.nd rfl (Or.inl rfl) (e_rg hu1 (v3 0) e_str (fun _ _ => rfl)))
  (b_cons (s_if (t_cmp rfl op_gIsN (v3 3) e_non (nomark _))
  (b_one (s_set (i := 4) sc_trow.nd rfl (Or.inl rfl) (e_ix (ix_sq rfl) ok_ix (e_rg hu1 (v3 0) e_str (fun _ _ => rfl)) (v3 3) (fun _ _ => rfl))))
  b_nil)
  (b_cons (s_set (i := 5) sc_trow.nd rfl (Or.inl rfl) (e_no (n_lst a_nil)))
  (b_cons (s_for PassesOwn.never rfl (i_sq rfl (e_call rfl G_some (hr.mono (by omega)) (by rfl) T.g_some T.F_some.kp T.b_some (a_cons (e_rg hu1 (v3 0) e_str (fun _ _ => rfl)) (a_cons (v3 4) a_nil)))) (g_name (i := 6) sc_trow.nd rfl (Or.inl rfl))
  (b_one (s_expr (e_m rfl PySem.F.slot_list_append PySem.F.type_list_append mt_append mk_app (v3 5) (a_cons (e_tup (a_cons (v3 6) (a_cons (e_call rfl G_tdrawn (hr.mono (by omega)) (by rfl) T.g_tdrawn T.F_tdrawn.kp T.b_tdrawn (a_cons (v3 0) (a_cons (e_op op_sub ok_sub (v3 2) e_int) a_nil))) a_nil))) a_nil)))))
  (b_one (s_ret (e_tup (a_cons (v3 1) (a_cons (e_cT (tupK3 rfl) ck_tupOf (by rfl) T.z_tuple (by decide +kernel) (a_cons (v3 5) a_nil)) (a_cons (v3 3) a_nil)))))))))))
    · show FnOk P w K mg base CX0 (n + 4 + 1) T.a_tdrawn T.d_tdrawn ["_law_world_here", "_law_deep"] (sp3 K (fdef false 2 4 _))
      refine fn3 T.F_tdrawn sc_tdrawn rfl rfl fun cdv A outer s H E hr => ?_
      have hu64 := hr.units
      have hu1 := hr.units1
      have hu65 := hr.units65
      exact (b_cons (s_set (i := 2) sc_tdrawn.nd rfl (Or.inl rfl) (e_rg hu1 (v3 0) e_str (fun _ _ => rfl)))
  (b_cons (s_rs hu1 (v3 0) e_str (e_op op_sub ok_sub (e_rg hu1 (v3 0) e_str (fun _ _ => rfl)) e_int) rfl)
  (b_cons (s_set (i := 3) sc_tdrawn.nd rfl (Or.inl rfl) (e_call rfl G_take (hr.mono (by omega)) (by rfl) T.g_take T.F_take.kp T.b_take (a_cons (v3 2) (a_cons e_int a_nil))))
  (b_cons (s_if (t_w (w_and (t_cmp rfl (op_gLt hu64) (v3 3) e_int (nomark _)) (w_and1 (t_tr rfl (e_call rfl G_tmay (hr.mono (by omega)) (by rfl) T.g_tmay T.F_tmay.kp T.b_tmay (a_cons (v3 0) a_nil)) (by intro _; rfl)))))
  (b_one (s_ret (e_call rfl G_tletter (hr.mono (by omega)) (by rfl) T.g_tletter T.F_tletter.kp T.b_tletter (a_cons (v3 0) a_nil))))
  b_nil)
  (b_cons (s_if (t_w (w_or (t_cmp rfl (op_gLe hu64) (v3 1) e_int (nomark _)) (w_or (t_cmp rfl (op_gLt hu64) (v3 3) e_int (nomark _)) (w_or1 (t_cmp rfl (op_gLe hu64) (e_rg hu1 (v3 0) e_str (fun _ _ => rfl)) e_int (nomark _))))))
  (b_one (s_ret (e_call rfl G_tatom (hr.mono (by omega)) (by rfl) T.g_tatom T.F_tatom.kp T.b_tatom (a_cons (v3 0) a_nil))))
  b_nil)
  (b_cons (s_if (t_cmp rfl (op_gLt hu64) (v3 3) e_int (nomark _))
  (b_one (s_ret (e_tup (a_cons e_str (a_cons (e_call rfl G_tdrawn (hr.mono (by omega)) (by rfl) T.g_tdrawn T.F_tdrawn.kp T.b_tdrawn (a_cons (v3 0) (a_cons (e_op op_sub ok_sub (v3 1) e_int) a_nil))) (a_cons (e_call rfl G_tdrawn (hr.mono (by omega)) (by rfl) T.g_tdrawn T.F_tdrawn.kp T.b_tdrawn (a_cons (v3 0) (a_cons (e_op op_sub ok_sub (v3 1) e_int) a_nil))) a_nil))))))
  b_nil)
  (b_cons (s_if (t_cmp rfl (op_gEq hu64) (v3 3) e_int (nomark _))
  (b_one (s_ret (e_tup (a_cons e_str (a_cons (e_cT (tupK3 rfl) ck_tupOf (by rfl) T.z_tuple (by decide +kernel) (a_cons (e_nd (n_lc (own := [("_law_k", 4)]) (vs := [4]) rfl sc_tdrawn.nd (i_r1 (by rfl) T.z_range (a_cons (e_op (op_ad rfl) ok_add e_int (e_call rfl G_take (hr.mono (by omega)) (by rfl) T.g_take T.F_take.kp T.b_take (a_cons (v3 2) (a_cons e_int a_nil)))) a_nil)) (blkOk_by (own := [("_law_k", 4)]) (N := ["_law_world_here", "_law_deep", "_law_hand_here", "_law_turn", "_law_k", "_law_name"]) (sc := defScope s_tdrawn) (scope := { kind := PySem.ScopeKind.function, names := [ (PySem.Str.ofString ".0", PySem.NameKind.local), (PySem.Str.ofString "_law_k", PySem.NameKind.local), (PySem.Str.ofString "_law_tdrawn", PySem.NameKind.globalImplicit), (PySem.Str.ofString "_law_deep", PySem.NameKind.free), (PySem.Str.ofString "_law_world_here", PySem.NameKind.free)], isGenerator := false, isCoroutine := false, more := [] : PySem.Scope }) (by decide +kernel)) rfl (by decide) (fun _ _ _ _ _ => (g_name (i := 4) sc_tdrawn.nd rfl (Or.inl rfl) (Or.inr rfl))) (fun _ _ _ _ _ => t_nil) (fun _ _ _ _ _ => (e_call rfl G_tdrawn (hr.mono (by omega)) (by rfl) T.g_tdrawn T.F_tdrawn.kp T.b_tdrawn (a_cons (v3 0) (a_cons (e_op op_sub ok_sub (v3 1) e_int) a_nil)))))) a_nil)) a_nil)))))
  b_nil)
  (b_cons (s_if (t_cmp rfl (op_gLt hu64) (v3 3) e_int (nomark _))
  (b_one (s_ret (e_call rfl G_trow (hr.mono (by omega)) (by rfl) T.g_trow T.F_trow.kp T.b_trow (a_cons (v3 0) (a_cons (e_ix (ix_sq rfl) ok_ix (e_nd (n_lst (a_cons e_str (a_cons e_str a_nil)))) (e_call rfl G_take (hr.mono (by omega)) (by rfl) T.g_take T.F_take.kp T.b_take (a_cons (v3 2) (a_cons e_int a_nil))) (fun _ _ => rfl)) (a_cons (v3 1) a_nil))))))
  b_nil)
  (b_cons (s_if (t_cmp rfl (op_gEq hu64) (v3 3) e_int (nomark _))
  (b_cons (s_set (i := 5) sc_tdrawn.nd rfl (Or.inl rfl) (e_ix (ix_sq rfl) ok_ix (e_nd (n_lst (a_cons e_str (a_cons e_str a_nil)))) (e_call rfl G_take (hr.mono (by omega)) (by rfl) T.g_take T.F_take.kp T.b_take (a_cons (v3 2) (a_cons e_int a_nil))) (fun _ _ => rfl)))
  (b_one (s_ret (e_tup (a_cons e_str (a_cons (v3 5) (a_cons (e_cT (tupK3 rfl) ck_tupOf (by rfl) T.z_tuple (by decide +kernel) (a_cons (e_nd (n_lc (own := [("_law_k", 4)]) (vs := [4]) rfl sc_tdrawn.nd (i_r1 (by rfl) T.z_range (a_cons (e_call rfl G_take (hr.mono (by omega)) (by rfl) T.g_take T.F_take.kp T.b_take (a_cons (v3 2) (a_cons e_int a_nil))) a_nil)) (blkOk_by (own := [("_law_k", 4)]) (N := ["_law_world_here", "_law_deep", "_law_hand_here", "_law_turn", "_law_k", "_law_name"]) (sc := defScope s_tdrawn) (scope := { kind := PySem.ScopeKind.function, names := [ (PySem.Str.ofString ".0", PySem.NameKind.local), (PySem.Str.ofString "_law_k", PySem.NameKind.local), (PySem.Str.ofString "_law_tdrawn", PySem.NameKind.globalImplicit), (PySem.Str.ofString "_law_deep", PySem.NameKind.free), (PySem.Str.ofString "_law_world_here", PySem.NameKind.free)], isGenerator := false, isCoroutine := false, more := [] : PySem.Scope }) (by decide +kernel)) rfl (by decide) (fun _ _ _ _ _ => (g_name (i := 4) sc_tdrawn.nd rfl (Or.inl rfl) (Or.inr rfl))) (fun _ _ _ _ _ => t_nil) (fun _ _ _ _ _ => (e_call rfl G_tdrawn (hr.mono (by omega)) (by rfl) T.g_tdrawn T.F_tdrawn.kp T.b_tdrawn (a_cons (v3 0) (a_cons (e_op op_sub ok_sub (v3 1) e_int) a_nil)))))) a_nil)) a_nil)))))))
  b_nil)
  (b_one (s_ret (e_tup (a_cons e_str (a_cons (e_call rfl G_tdrawn (hr.mono (by omega)) (by rfl) T.g_tdrawn T.F_tdrawn.kp T.b_tdrawn (a_cons (v3 0) (a_cons (e_op op_sub ok_sub (v3 1) e_int) a_nil))) a_nil))))))))))))))
theorem ok3_tdrawn (T : Tp K mg) (n : Nat) : FnOk P w K mg base CX0 (n + 4) T.a_tdrawn T.d_tdrawn ["_law_world_here", "_law_deep"] (sp3 K (f3_tdrawn n)) := (ok3m_trow T n).2
theorem ok3_tbeside (T : Tp K mg) : ∀ n, FnOk P w K mg base CX0 (n + 2) T.a_tbeside T.d_tbeside ["_law_term", "_law_row"] (sp3 K (f3_tbeside n))
  | 0 => fn3_none
  | n + 1 => by
    have G_tparts := ok3_tparts (P := P) (w := w) (base := base) T
    have G_tbeside := ok3_tbeside T n
    show FnOk P w K mg base CX0 (n + 2 + 1) T.a_tbeside T.d_tbeside ["_law_term", "_law_row"] (sp3 K (fdef false 2 3 _))
    refine fn3 T.F_tbeside sc_tbeside rfl rfl fun cdv A outer s H E hr => ?_
    have hu64 := hr.units
    have hu1 := hr.units1
    have hu65 := hr.units65
    exact (b_cons (s_set (i := 2) sc_tbeside.nd rfl (Or.inl rfl) (e_nd (n_lst a_nil)))
  (b_cons (s_if (t_w (w_and (t_cmp rfl (op_gIn hu64) (e_ix (ix_sq rfl) ok_ix (v3 0) e_int (fun _ _ => rfl)) (e_tup (a_cons e_str (a_cons e_str a_nil))) (by rfl)) (w_and (t_cmp rfl op_gIsN (e_ix (ix_sq rfl) ok_ix (v3 0) e_int (fun _ _ => rfl)) e_non (nomark _)) (w_and1 (t_cmp rfl (op_gEq hu64) (e_ix (ix_sq rfl) ok_ix (v3 0) e_int (fun _ _ => rfl)) (v3 1) (nomark _))))))
  (b_one (s_setLc (i := 2) (own := [("_law_label", 3), ("_law_one", 4)]) (vs := [3, 4]) eNd (.inl rfl) rfl sc_tbeside.nd rfl rfl (sw_true rfl rfl rfl (by decide +kernel)) (i_sq rfl (e_ix (ix_sq rfl) ok_ix (v3 0) e_int (fun _ _ => rfl))) (blkOk_by (own := [("_law_label", 3), ("_law_one", 4)]) (N := ["_law_term", "_law_row", "_law_told", "_law_label", "_law_one"]) (sc := defScope s_tbeside) (scope := { kind := PySem.ScopeKind.function, names := [ (PySem.Str.ofString ".0", PySem.NameKind.local), (PySem.Str.ofString "_law_label", PySem.NameKind.local), (PySem.Str.ofString "_law_one", PySem.NameKind.local)], isGenerator := false, isCoroutine := false, more := [] : PySem.Scope }) (by decide +kernel)) rfl (by decide) (fun _ _ _ _ _ => (g_tup rfl rfl (gs_cons (g_name (i := 3) sc_tbeside.nd rfl (Or.inl rfl) (Or.inr rfl)) (gs_cons (g_name (i := 4) sc_tbeside.nd rfl (Or.inl rfl) (Or.inr rfl)) gs_nil)))) (fun _ _ _ _ _ => t_nil) (fun _ _ _ _ _ => (v3 3))))
  b_nil)
  (b_cons (s_for PassesOwn.never rfl (i_sq rfl (e_call rfl G_tparts (hr.mono (by omega)) (by rfl) T.g_tparts T.F_tparts.kp T.b_tparts (a_cons (v3 0) a_nil))) (g_name (i := 4) sc_tbeside.nd rfl (Or.inl rfl))
  (b_one (s_set (i := 2) sc_tbeside.nd rfl (Or.inl rfl) (e_op (op_ad rfl) ok_add (v3 2) (e_call rfl G_tbeside (hr.mono (by omega)) (by rfl) T.g_tbeside T.F_tbeside.kp T.b_tbeside (a_cons (v3 4) (a_cons (v3 1) a_nil)))))))
  (b_one (s_ret (v3 2))))))
theorem ok3_trebuilt (T : Tp K mg) : FnOk P w K mg base CX0 1 T.a_trebuilt T.d_trebuilt ["_law_term", "_law_parts", "_law_tail"] (sp3 K f3_trebuilt) := by
  refine fn3 T.F_trebuilt sc_trebuilt rfl rfl fun cdv A outer s H E hr => ?_
  have hu64 := hr.units
  have hu1 := hr.units1
  have hu65 := hr.units65
  exact (b_cons (s_if (t_cmp rfl (op_gIn hu64) (e_ix (ix_sq rfl) ok_ix (v3 0) e_int (fun _ _ => rfl)) (e_tup (a_cons e_str (a_cons e_str a_nil))) (by rfl))
  (b_one (s_ret (e_tup (a_cons (e_ix (ix_sq rfl) ok_ix (v3 0) e_int (fun _ _ => rfl)) (a_cons (e_cT (tupK3 rfl) ck_tupOf (by rfl) T.z_tuple (by decide +kernel) (a_cons (e_nd (n_lc (own := [("_law_k", 3)]) (vs := [3]) rfl sc_trebuilt.nd (i_r1 (by rfl) T.z_range (a_cons (e_cB (lenK3 rfl) ck_len (by rfl) T.z_len (by decide +kernel) (a_cons (v3 1) a_nil)) a_nil)) (blkOk_by (own := [("_law_k", 3)]) (N := ["_law_term", "_law_parts", "_law_tail", "_law_k"]) (sc := defScope s_trebuilt) (scope := { kind := PySem.ScopeKind.function, names := [ (PySem.Str.ofString ".0", PySem.NameKind.local), (PySem.Str.ofString "_law_k", PySem.NameKind.local), (PySem.Str.ofString "_law_parts", PySem.NameKind.free), (PySem.Str.ofString "_law_term", PySem.NameKind.free)], isGenerator := false, isCoroutine := false, more := [] : PySem.Scope }) (by decide +kernel)) rfl (by decide) (fun _ _ _ _ _ => (g_name (i := 3) sc_trebuilt.nd rfl (Or.inl rfl) (Or.inr rfl))) (fun _ _ _ _ _ => t_nil) (fun _ _ _ _ _ => (e_tup (a_cons (e_ix (ix_sq rfl) ok_ix (e_ix (ix_sq rfl) ok_ix (e_ix (ix_sq rfl) ok_ix (v3 0) e_int (fun _ _ => rfl)) (v3 3) (fun _ _ => rfl)) e_int (fun _ _ => rfl)) (a_cons (e_ix (ix_sq rfl) ok_ix (v3 1) (v3 3) (fun _ _ => rfl)) a_nil)))))) a_nil)) (a_cons (v3 2) a_nil))))))
  b_nil)
  (b_cons (s_if (t_cmp rfl (op_gEq hu64) (e_ix (ix_sq rfl) ok_ix (v3 0) e_int (fun _ _ => rfl)) e_str (nomark _))
  (b_one (s_ret (e_tup (a_cons e_str (a_cons (e_ix (ix_sq rfl) ok_ix (v3 1) e_int (fun _ _ => rfl)) (a_cons (e_ix (ix_sq rfl) ok_ix (v3 1) e_int (fun _ _ => rfl)) a_nil))))))
  b_nil)
  (b_cons (s_if (t_cmp rfl (op_gEq hu64) (e_ix (ix_sq rfl) ok_ix (v3 0) e_int (fun _ _ => rfl)) e_str (nomark _))
  (b_one (s_ret (e_tup (a_cons e_str (a_cons (e_cT (tupK3 rfl) ck_tupOf (by rfl) T.z_tuple (by decide +kernel) (a_cons (v3 1) a_nil)) a_nil)))))
  b_nil)
  (b_cons (s_if (t_cmp rfl (op_gEq hu64) (e_ix (ix_sq rfl) ok_ix (v3 0) e_int (fun _ _ => rfl)) e_str (nomark _))
  (b_one (s_ret (e_tup (a_cons e_str (a_cons (e_ix (ix_sq rfl) ok_ix (v3 0) e_int (fun _ _ => rfl)) (a_cons (e_cT (tupK3 rfl) ck_tupOf (by rfl) T.z_tuple (by decide +kernel) (a_cons (v3 1) a_nil)) a_nil))))))
  b_nil)
  (b_cons (s_if (t_cmp rfl (op_gEq hu64) (e_ix (ix_sq rfl) ok_ix (v3 0) e_int (fun _ _ => rfl)) e_str (nomark _))
  (b_one (s_ret (e_tup (a_cons e_str (a_cons (e_ix (ix_sq rfl) ok_ix (v3 1) e_int (fun _ _ => rfl)) a_nil)))))
  b_nil)
  (b_one (s_ret (v3 0))))))))
theorem ok3_tranked (T : Tp K mg) : ∀ n, FnOk P w K mg base CX0 (n + 2) T.a_tranked T.d_tranked ["_law_term", "_law_ranks"] (sp3 K (f3_tranked n))
  | 0 => fn3_none
  | n + 1 => by
    have G_tparts := ok3_tparts (P := P) (w := w) (base := base) T
    have G_trebuilt := ok3_trebuilt (P := P) (w := w) (base := base) T
    have G_tranked := ok3_tranked T n
    show FnOk P w K mg base CX0 (n + 2 + 1) T.a_tranked T.d_tranked ["_law_term", "_law_ranks"] (sp3 K (fdef false 2 2 _))
    refine fn3 T.F_tranked sc_tranked rfl rfl fun cdv A outer s H E hr => ?_
    have hu64 := hr.units
    have hu1 := hr.units1
    have hu65 := hr.units65
    exact (b_cons (s_if (t_cmp rfl (op_gEq hu64) (e_ix (ix_sq rfl) ok_ix (v3 0) e_int (fun _ _ => rfl)) e_str (nomark _))
  (b_one (s_ret (e_tup (a_cons e_str (a_cons (e_index rfl hu65 (v3 1) (a_cons (e_tup (a_cons e_int (a_cons (e_ix (ix_sq rfl) ok_ix (v3 0) e_int (fun _ _ => rfl)) a_nil))) a_nil)) a_nil)))))
  b_nil)
  (b_cons (s_set (i := 2) sc_tranked.nd rfl (Or.inl rfl) e_non)
  (b_cons (s_if (t_w (w_and (t_cmp rfl (op_gIn hu64) (e_ix (ix_sq rfl) ok_ix (v3 0) e_int (fun _ _ => rfl)) (e_tup (a_cons e_str (a_cons e_str a_nil))) (by rfl)) (w_and1 (t_cmp rfl op_gIsN (e_ix (ix_sq rfl) ok_ix (v3 0) e_int (fun _ _ => rfl)) e_non (nomark _)))))
  (b_one (s_set (i := 2) sc_tranked.nd rfl (Or.inl rfl) (e_index rfl hu65 (v3 1) (a_cons (e_tup (a_cons e_int (a_cons (e_ix (ix_sq rfl) ok_ix (v3 0) e_int (fun _ _ => rfl)) a_nil))) a_nil))))
  b_nil)
  (b_one (s_ret (e_call rfl G_trebuilt (hr.mono (by omega)) (by rfl) T.g_trebuilt T.F_trebuilt.kp T.b_trebuilt (a_cons (v3 0) (a_cons (e_nd (n_lc (own := [("_law_one", 3)]) (vs := [3]) rfl sc_tranked.nd (i_sq rfl (e_call rfl G_tparts (hr.mono (by omega)) (by rfl) T.g_tparts T.F_tparts.kp T.b_tparts (a_cons (v3 0) a_nil))) (blkOk_by (own := [("_law_one", 3)]) (N := ["_law_term", "_law_ranks", "_law_tail", "_law_one"]) (sc := defScope s_tranked) (scope := { kind := PySem.ScopeKind.function, names := [ (PySem.Str.ofString ".0", PySem.NameKind.local), (PySem.Str.ofString "_law_one", PySem.NameKind.local), (PySem.Str.ofString "_law_tranked", PySem.NameKind.globalImplicit), (PySem.Str.ofString "_law_ranks", PySem.NameKind.free)], isGenerator := false, isCoroutine := false, more := [] : PySem.Scope }) (by decide +kernel)) rfl (by decide) (fun _ _ _ _ _ => (g_name (i := 3) sc_tranked.nd rfl (Or.inl rfl) (Or.inr rfl))) (fun _ _ _ _ _ => t_nil) (fun _ _ _ _ _ => (e_call rfl G_tranked (hr.mono (by omega)) (by rfl) T.g_tranked T.F_tranked.kp T.b_tranked (a_cons (v3 3) (a_cons (v3 1) a_nil)))))) (a_cons (v3 2) a_nil)))))))))
theorem ok3_tscheme (T : Tp K mg) : FnOk P w K mg base CX0 63 T.a_tscheme T.d_tscheme ["_law_term", "_law_lacks"] (sp3 K f3_tscheme) := by
  have G_tonce := ok3_tonce (P := P) (w := w) (base := base) T
  have G_tranked := ok3_tranked (P := P) (w := w) (base := base) T 60
  have G_tseen := ok3_tseen (P := P) (w := w) (base := base) T 60
  refine fn3 T.F_tscheme sc_tscheme rfl rfl fun cdv A outer s H E hr => ?_
  have hu64 := hr.units
  have hu1 := hr.units1
  have hu65 := hr.units65
  exact (b_cons (s_set (i := 2) sc_tscheme.nd rfl (Or.inl rfl) (e_call rfl G_tonce (hr.mono (by omega)) (by rfl) T.g_tonce T.F_tonce.kp T.b_tonce (a_cons (e_call rfl G_tseen (hr.mono (by omega)) (by rfl) T.g_tseen T.F_tseen.kp T.b_tseen (a_cons (v3 0) a_nil)) a_nil)))
  (b_cons (s_set (i := 3) sc_tscheme.nd rfl (Or.inl rfl) (e_no (n_lst a_nil)))
  (b_cons (s_for PassesOwn.never rfl (i_r1 (by rfl) T.z_range (a_cons (e_cB (lenK3 rfl) ck_len (by rfl) T.z_len (by decide +kernel) (a_cons (v3 2) a_nil)) a_nil)) (g_name (i := 4) sc_tscheme.nd rfl (Or.inl rfl))
  (b_one (s_if (t_cmp rfl (op_gEq hu64) (e_ix (ix_sq rfl) ok_ix (e_ix (ix_sq rfl) ok_ix (v3 2) (v3 4) (fun _ _ => rfl)) e_int (fun _ _ => rfl)) e_int (nomark _))
  (b_one (s_expr (e_m rfl PySem.F.slot_list_append PySem.F.type_list_append mt_append mk_app (v3 3) (a_cons (e_tup (a_cons (v3 4) (a_cons (e_cT (tupK3 rfl) ck_tupOf (by rfl) T.z_tuple (by decide +kernel) (a_cons (e_nd (n_cB (sortK3 rfl hu64) nk_sorted (by rfl) T.z_sorted (by decide +kernel) (a_cons (e_call rfl G_tonce (hr.mono (by omega)) (by rfl) T.g_tonce T.F_tonce.kp T.b_tonce (a_cons (e_ix (ix_sq rfl) ok_ix (v3 1) (e_ix (ix_sq rfl) ok_ix (e_ix (ix_sq rfl) ok_ix (v3 2) (v3 4) (fun _ _ => rfl)) e_int (fun _ _ => rfl)) (fun _ _ => rfl)) a_nil)) a_nil))) a_nil)) a_nil))) a_nil))))
  b_nil)))
  (b_one (s_ret (e_tup (a_cons (e_call rfl G_tranked (hr.mono (by omega)) (by rfl) T.g_tranked T.F_tranked.kp T.b_tranked (a_cons (v3 0) (a_cons (v3 2) a_nil))) (a_cons (e_cT (tupK3 rfl) ck_tupOf (by rfl) T.z_tuple (by decide +kernel) (a_cons (v3 3) a_nil)) a_nil))))))))
theorem ok3_tmoved (T : Tp K mg) : ∀ n, FnOk P w K mg base CX0 (n + 2) T.a_tmoved T.d_tmoved ["_law_term", "_law_letters", "_law_rows"] (sp3 K (f3_tmoved n))
  | 0 => fn3_none
  | n + 1 => by
    have G_tparts := ok3_tparts (P := P) (w := w) (base := base) T
    have G_trebuilt := ok3_trebuilt (P := P) (w := w) (base := base) T
    have G_tmoved := ok3_tmoved T n
    show FnOk P w K mg base CX0 (n + 2 + 1) T.a_tmoved T.d_tmoved ["_law_term", "_law_letters", "_law_rows"] (sp3 K (fdef false 3 2 _))
    refine fn3 T.F_tmoved sc_tmoved rfl rfl fun cdv A outer s H E hr => ?_
    have hu64 := hr.units
    have hu1 := hr.units1
    have hu65 := hr.units65
    exact (b_cons (s_if (t_cmp rfl (op_gEq hu64) (e_ix (ix_sq rfl) ok_ix (v3 0) e_int (fun _ _ => rfl)) e_str (nomark _))
  (b_one (s_ret (e_tup (a_cons e_str (a_cons (e_ix (ix_sq rfl) ok_ix (v3 1) (e_ix (ix_sq rfl) ok_ix (v3 0) e_int (fun _ _ => rfl)) (fun _ _ => rfl)) a_nil)))))
  b_nil)
  (b_cons (s_set (i := 3) sc_tmoved.nd rfl (Or.inl rfl) e_non)
  (b_cons (s_if (t_w (w_and (t_cmp rfl (op_gIn hu64) (e_ix (ix_sq rfl) ok_ix (v3 0) e_int (fun _ _ => rfl)) (e_tup (a_cons e_str (a_cons e_str a_nil))) (by rfl)) (w_and1 (t_cmp rfl op_gIsN (e_ix (ix_sq rfl) ok_ix (v3 0) e_int (fun _ _ => rfl)) e_non (nomark _)))))
  (b_one (s_set (i := 3) sc_tmoved.nd rfl (Or.inl rfl) (e_ix (ix_sq rfl) ok_ix (v3 2) (e_ix (ix_sq rfl) ok_ix (v3 0) e_int (fun _ _ => rfl)) (fun _ _ => rfl))))
  b_nil)
  (b_one (s_ret (e_call rfl G_trebuilt (hr.mono (by omega)) (by rfl) T.g_trebuilt T.F_trebuilt.kp T.b_trebuilt (a_cons (v3 0) (a_cons (e_nd (n_lc (own := [("_law_one", 4)]) (vs := [4]) rfl sc_tmoved.nd (i_sq rfl (e_call rfl G_tparts (hr.mono (by omega)) (by rfl) T.g_tparts T.F_tparts.kp T.b_tparts (a_cons (v3 0) a_nil))) (blkOk_by (own := [("_law_one", 4)]) (N := ["_law_term", "_law_letters", "_law_rows", "_law_tail", "_law_one"]) (sc := defScope s_tmoved) (scope := { kind := PySem.ScopeKind.function, names := [ (PySem.Str.ofString ".0", PySem.NameKind.local), (PySem.Str.ofString "_law_one", PySem.NameKind.local), (PySem.Str.ofString "_law_tmoved", PySem.NameKind.globalImplicit), (PySem.Str.ofString "_law_letters", PySem.NameKind.free), (PySem.Str.ofString "_law_rows", PySem.NameKind.free)], isGenerator := false, isCoroutine := false, more := [] : PySem.Scope }) (by decide +kernel)) rfl (by decide) (fun _ _ _ _ _ => (g_name (i := 4) sc_tmoved.nd rfl (Or.inl rfl) (Or.inr rfl))) (fun _ _ _ _ _ => t_nil) (fun _ _ _ _ _ => (e_call rfl G_tmoved (hr.mono (by omega)) (by rfl) T.g_tmoved T.F_tmoved.kp T.b_tmoved (a_cons (v3 4) (a_cons (v3 1) (a_cons (v3 2) a_nil))))))) (a_cons (v3 3) a_nil)))))))))
theorem ok3_numbering (T : Tp K mg) : FnOk P w K mg base CX0 4 T.a_numbering T.d_numbering ["_law_hand_here", "_law_world_here"] (sp3 K f3_numbering) := by
  have G_shuffled := ok3_shuffled (P := P) (w := w) (base := base) T
  have G_take := ok3_take (P := P) (w := w) (base := base) T
  refine fn3 T.F_numbering sc_numbering rfl rfl fun cdv A outer s H E hr => ?_
  have hu64 := hr.units
  have hu1 := hr.units1
  have hu65 := hr.units65
  exact (b_cons (s_set (i := 2) sc_numbering.nd rfl (Or.inl rfl) (e_call rfl G_shuffled (hr.mono (by omega)) (by rfl) T.g_shuffled T.F_shuffled.kp T.b_shuffled (a_cons (v3 0) (a_cons (e_nd (n_rg rfl (by rfl) T.z_list (by rfl) T.z_range e_int)) a_nil))))
  (b_cons (s_set (i := 3) sc_numbering.nd rfl (Or.inr rfl) (e_ix (ix_sq rfl) ok_ix (e_nd (n_lst (a_cons e_int (a_cons e_int (a_cons e_int (a_cons (e_op op_pow ok_pow e_int e_int) a_nil)))))) (e_call rfl G_take (hr.mono (by omega)) (by rfl) T.g_take T.F_take.kp T.b_take (a_cons (v3 0) (a_cons e_int a_nil))) (fun _ _ => rfl)))
  (b_cons (s_setLc (i := 4) (own := [("_law_k", 5)]) (vs := [5]) eNd (.inl rfl) rfl sc_numbering.nd rfl rfl (sw_true rfl rfl rfl (by decide +kernel)) (i_sq rfl (v3 2)) (blkOk_by (own := [("_law_k", 5)]) (N := ["_law_hand_here", "_law_world_here", "_law_pool", "_law_far", "_law_told", "_law_k"]) (sc := defScope s_numbering) (scope := { kind := PySem.ScopeKind.function, names := [ (PySem.Str.ofString ".0", PySem.NameKind.local), (PySem.Str.ofString "_law_k", PySem.NameKind.local), (PySem.Str.ofString "_law_far", PySem.NameKind.free)], isGenerator := false, isCoroutine := false, more := [] : PySem.Scope }) (by decide +kernel)) rfl (by decide) (fun _ _ _ _ _ => (g_name (i := 5) sc_numbering.nd rfl (Or.inl rfl) (Or.inr rfl))) (fun _ _ _ _ _ => t_nil) (fun _ _ _ _ _ => (e_op op_mul3 ok_mul (v3 5) (v3 3))))
  (b_one (s_ret (e_nd (n_lst (a_cons (e_sl rfl (v3 4) o_none (o_some (e_rg hu1 (v3 1) e_str (fun _ _ => rfl)))) (a_cons (e_sl rfl (v3 4) (o_some e_int) (o_some (e_op (op_ad rfl) ok_add e_int (e_cB (lenK3 rfl) ck_len (by rfl) T.z_len (by decide +kernel) (a_cons (e_rg hu1 (v3 1) e_str (fun _ _ => rfl)) a_nil))))) a_nil)))))))))
theorem ok3_asked_of (T : Tp K mg) : FnOk P w K mg base CX0 66 T.a_asked_of T.d_asked_of ["_law_term", "_law_shown", "_law_numbers", "_law_due"] (sp3 K f3_asked_of) := by
  have G_same := ok3_same (P := P) (w := w) (base := base) T 60
  have G_tonce := ok3_tonce (P := P) (w := w) (base := base) T
  have G_tseen := ok3_tseen (P := P) (w := w) (base := base) T 60
  have G_letters_in := ok3_letters_in (P := P) (w := w) (base := base) T
  have G_row_letters_in := ok3_row_letters_in (P := P) (w := w) (base := base) T
  have G_scheme_of := ok3_scheme_of (P := P) (w := w) (base := base) T
  refine fn3 T.F_asked_of sc_asked_of rfl rfl fun cdv A outer s H E hr => ?_
  have hu64 := hr.units
  have hu1 := hr.units1
  have hu65 := hr.units65
  exact (b_cons (s_set (i := 4) sc_asked_of.nd rfl (Or.inl rfl) (e_no (n_lst a_nil)))
  (b_cons (s_set (i := 5) sc_asked_of.nd rfl (Or.inl rfl) (e_no (n_lst a_nil)))
  (b_cons (s_for PassesOwn.never rfl (i_sq rfl (e_call rfl G_tonce (hr.mono (by omega)) (by rfl) T.g_tonce T.F_tonce.kp T.b_tonce (a_cons (e_call rfl G_tseen (hr.mono (by omega)) (by rfl) T.g_tseen T.F_tseen.kp T.b_tseen (a_cons (v3 0) a_nil)) a_nil))) (g_tup rfl rfl (gs_cons (g_name (i := 6) sc_asked_of.nd rfl (Or.inl rfl)) (gs_cons (g_name (i := 7) sc_asked_of.nd rfl (Or.inl rfl)) gs_nil)))
  (b_cons (s_expr (e_m rfl PySem.F.slot_list_append PySem.F.type_list_append mt_append mk_app (v3 4) (a_cons (e_ix (ix_sq rfl) ok_ix (e_ix (ix_sq rfl) ok_ix (v3 2) (v3 6) (fun _ _ => rfl)) (v3 7) (fun _ _ => rfl)) a_nil)))
  (b_one (s_if (t_cmp rfl (op_gEq hu64) (v3 6) e_int (nomark _))
  (b_one (s_expr (e_m rfl PySem.F.slot_list_append PySem.F.type_list_append mt_append mk_app (v3 5) (a_cons (e_ix (ix_sq rfl) ok_ix (e_ix (ix_sq rfl) ok_ix (v3 2) e_int (fun _ _ => rfl)) (v3 7) (fun _ _ => rfl)) a_nil))))
  b_nil))))
  (b_cons (s_if (t_w (w_or (t_not (t_tr rfl (e_call rfl G_same (hr.mono (by omega)) (by rfl) T.g_same T.F_same.kp T.b_same (a_cons (e_call rfl G_letters_in (hr.mono (by omega)) (by rfl) T.g_letters_in T.F_letters_in.kp T.b_letters_in (a_cons (v3 1) a_nil)) (a_cons (e_cT (tupK3 rfl) ck_tupOf (by rfl) T.z_tuple (by decide +kernel) (a_cons (v3 4) a_nil)) a_nil))) (by intro _; rfl))) (w_or1 (t_not (t_tr rfl (e_call rfl G_same (hr.mono (by omega)) (by rfl) T.g_same T.F_same.kp T.b_same (a_cons (e_call rfl G_row_letters_in (hr.mono (by omega)) (by rfl) T.g_row_letters_in T.F_row_letters_in.kp T.b_row_letters_in (a_cons (v3 1) a_nil)) (a_cons (e_cT (tupK3 rfl) ck_tupOf (by rfl) T.z_tuple (by decide +kernel) (a_cons (v3 5) a_nil)) a_nil))) (by intro _; rfl))))))
  (b_one (s_ret e_bl))
  b_nil)
  (b_cons (s_if (t_cmp rfl (op_gIn hu64) (e_ix (ix_sq rfl) ok_ix (v3 1) e_int (fun _ _ => rfl)) (e_tup (a_cons e_str (a_cons e_str a_nil))) (by rfl))
  (b_cons (s_set (i := 8) sc_asked_of.nd rfl (Or.inl rfl) (e_tup (a_cons e_str (a_cons (e_ix (ix_sq rfl) ok_ix (v3 1) e_int (fun _ _ => rfl)) (a_cons (e_ix (ix_sq rfl) ok_ix (v3 1) e_int (fun _ _ => rfl)) a_nil)))))
  (b_one (s_if (t_w (w_or (t_not (t_tr rfl (e_call rfl G_same (hr.mono (by omega)) (by rfl) T.g_same T.F_same.kp T.b_same (a_cons (e_call rfl G_letters_in (hr.mono (by omega)) (by rfl) T.g_letters_in T.F_letters_in.kp T.b_letters_in (a_cons (v3 8) a_nil)) (a_cons (e_cT (tupK3 rfl) ck_tupOf (by rfl) T.z_tuple (by decide +kernel) (a_cons (v3 4) a_nil)) a_nil))) (by intro _; rfl))) (w_or1 (t_not (t_tr rfl (e_call rfl G_same (hr.mono (by omega)) (by rfl) T.g_same T.F_same.kp T.b_same (a_cons (e_call rfl G_row_letters_in (hr.mono (by omega)) (by rfl) T.g_row_letters_in T.F_row_letters_in.kp T.b_row_letters_in (a_cons (v3 8) a_nil)) (a_cons (e_cT (tupK3 rfl) ck_tupOf (by rfl) T.z_tuple (by decide +kernel) (a_cons (v3 5) a_nil)) a_nil))) (by intro _; rfl))))))
  (b_one (s_ret e_bl))
  b_nil)))
  b_nil)
  (b_one (s_ret (e_or (e_cmp rfl op_gIs (v3 3) e_non (nomark _)) (e_one (e_call rfl G_same (hr.mono (by omega)) (by rfl) T.g_same T.F_same.kp T.b_same (a_cons (e_callD1 rfl G_scheme_of (hr.mono (by omega)) (by rfl) T.g_scheme_of T.F_scheme_of.kp T.bd_scheme_of (fun _ => .cons .non .nil) (a_cons (v3 1) a_nil)) (a_cons (v3 3) a_nil))))))))))))
theorem ok3_law (T : Tp K mg) : FnOk P w K mg base CX0 67 T.a_law T.d_law ["_law_script"] (sp3 K f3_law) := by
  have G_asked_of := ok3_asked_of (P := P) (w := w) (base := base) T
  have G_hand := ok3_hand (P := P) (w := w) (base := base) T
  have G_numbering := ok3_numbering (P := P) (w := w) (base := base) T
  have G_same := ok3_same (P := P) (w := w) (base := base) T 60
  have G_shuffled := ok3_shuffled (P := P) (w := w) (base := base) T
  have G_some := ok3_some (P := P) (w := w) (base := base) T
  have G_take := ok3_take (P := P) (w := w) (base := base) T
  have G_tbeside := ok3_tbeside (P := P) (w := w) (base := base) T 60
  have G_tdrawn := ok3_tdrawn (P := P) (w := w) (base := base) T 60
  have G_tmoved := ok3_tmoved (P := P) (w := w) (base := base) T 60
  have G_tscheme := ok3_tscheme (P := P) (w := w) (base := base) T
  have G_world := ok3_world (P := P) (w := w) (base := base) T
  have G_scheme_of := ok3_scheme_of (P := P) (w := w) (base := base) T
  refine fn3 T.F_law sc_law rfl rfl fun cdv A outer s H E hr => ?_
  have hu64 := hr.units
  have hu1 := hr.units1
  have hu65 := hr.units65
  exact (b_cons (s_set (i := 1) sc_law.nd rfl (Or.inl rfl) (e_call rfl G_hand (hr.mono (by omega)) (by rfl) T.g_hand T.F_hand.kp T.b_hand (a_cons (v3 0) a_nil)))
  (b_cons (s_set (i := 2) sc_law.nd rfl (Or.inl rfl) (e_call rfl G_world (hr.mono (by omega)) (by rfl) T.g_world T.F_world.kp T.b_world (a_cons (v3 1) (a_cons (e_call rfl G_take (hr.mono (by omega)) (by rfl) T.g_take T.F_take.kp T.b_take (a_cons (v3 1) (a_cons e_int a_nil))) (a_cons (e_call rfl G_take (hr.mono (by omega)) (by rfl) T.g_take T.F_take.kp T.b_take (a_cons (v3 1) (a_cons e_int a_nil))) (a_cons e_int a_nil))))))
  (b_cons (s_set (i := 3) sc_law.nd rfl (Or.inl rfl) (e_call rfl G_tdrawn (hr.mono (by omega)) (by rfl) T.g_tdrawn T.F_tdrawn.kp T.b_tdrawn (a_cons (v3 2) (a_cons e_int a_nil))))
  (b_cons (s_set (i := 4) sc_law.nd rfl (Or.inr rfl) (e_no (n_lst a_nil)))
  (b_cons (s_set (i := 5) sc_law.nd rfl (Or.inr rfl) (e_no (n_lst a_nil)))
  (b_cons (s_for PassesOwn.never rfl (i_r1 (by rfl) T.z_range (a_cons (e_cB (lenK3 rfl) ck_len (by rfl) T.z_len (by decide +kernel) (a_cons (e_rg hu1 (v3 2) e_str (fun _ _ => rfl)) a_nil)) a_nil)) (g_name (i := 6) sc_law.nd rfl (Or.inl rfl))
  (b_cons (s_expr (e_m rfl PySem.F.slot_list_append PySem.F.type_list_append mt_append mk_app (v3 4) (a_cons (e_call rfl G_tbeside (hr.mono (by omega)) (by rfl) T.g_tbeside T.F_tbeside.kp T.b_tbeside (a_cons (v3 3) (a_cons (v3 6) a_nil))) a_nil)))
  (b_one (s_expr (e_m rfl PySem.F.slot_list_append PySem.F.type_list_append mt_append mk_app (v3 5) (a_cons (e_call rfl G_some (hr.mono (by omega)) (by rfl) T.g_some T.F_some.kp T.b_some (a_cons (v3 1) (a_cons (e_rg hu1 (v3 2) e_str (fun _ _ => rfl)) a_nil))) a_nil))))))
  (b_cons (s_set (i := 7) sc_law.nd rfl (Or.inl rfl) (e_call rfl G_tscheme (hr.mono (by omega)) (by rfl) T.g_tscheme T.F_tscheme.kp T.b_tscheme (a_cons (v3 3) (a_cons (e_nd (n_lc (own := [("_law_r", 6)]) (vs := [6]) rfl sc_law.nd (i_r1 (by rfl) T.z_range (a_cons (e_cB (lenK3 rfl) ck_len (by rfl) T.z_len (by decide +kernel) (a_cons (v3 4) a_nil)) a_nil)) (blkOk_by (own := [("_law_r", 6)]) (N := ["_law_script", "_law_hand_here", "_law_world_here", "_law_term", "_law_bare", "_law_lacks", "_law_r", "_law_due", "_law_turn", "_law_numbers", "_law_shown", "_law_told", "_law_row", "_law_copy", "_law_key"]) (sc := defScope s_law) (scope := { kind := PySem.ScopeKind.function, names := [ (PySem.Str.ofString ".0", PySem.NameKind.local), (PySem.Str.ofString "_law_r", PySem.NameKind.local), (PySem.Str.ofString "_law_bare", PySem.NameKind.free), (PySem.Str.ofString "_law_lacks", PySem.NameKind.free)], isGenerator := false, isCoroutine := false, more := [] : PySem.Scope }) (by decide +kernel)) rfl (by decide) (fun _ _ _ _ _ => (g_name (i := 6) sc_law.nd rfl (Or.inl rfl) (Or.inr rfl))) (fun _ _ _ _ _ => t_nil) (fun _ _ _ _ _ => (e_op (op_ad rfl) ok_add (e_ix (ix_sq rfl) ok_ix (v3 4) (v3 6) (fun _ _ => rfl)) (e_ix (ix_sq rfl) ok_ix (v3 5) (v3 6) (fun _ _ => rfl)))))) a_nil))))
  (b_cons (s_for PassesOwn.never rfl (i_r1 (by rfl) T.z_range (a_cons e_int a_nil)) (g_name (i := 8) sc_law.nd rfl (Or.inl rfl))
  (b_cons (s_set (i := 9) sc_law.nd rfl (Or.inl rfl) (e_call rfl G_numbering (hr.mono (by omega)) (by rfl) T.g_numbering T.F_numbering.kp T.b_numbering (a_cons (v3 1) (a_cons (v3 2) a_nil))))
  (b_cons (s_set (i := 10) sc_law.nd rfl (Or.inl rfl) (e_call rfl G_tmoved (hr.mono (by omega)) (by rfl) T.g_tmoved T.F_tmoved.kp T.b_tmoved (a_cons (v3 3) (a_cons (e_ix (ix_sq rfl) ok_ix (v3 9) e_int (fun _ _ => rfl)) (a_cons (e_ix (ix_sq rfl) ok_ix (v3 9) e_int (fun _ _ => rfl)) a_nil)))))
  (b_cons (s_set (i := 11) sc_law.nd rfl (Or.inr rfl) e_dn)
  (b_cons (s_for PassesOwn.never rfl (i_r1 (by rfl) T.z_range (a_cons (e_cB (lenK3 rfl) ck_len (by rfl) T.z_len (by decide +kernel) (a_cons (v3 4) a_nil)) a_nil)) (g_name (i := 6) sc_law.nd rfl (Or.inl rfl))
  (b_one (s_if (t_w (w_or (t_cmp rfl (op_gGt hu64) (e_cB (lenK3 rfl) ck_len (by rfl) T.z_len (by decide +kernel) (a_cons (e_ix (ix_sq rfl) ok_ix (v3 5) (v3 6) (fun _ _ => rfl)) a_nil)) e_int (nomark _)) (w_or1 (t_cmp rfl (op_gEq hu64) (e_call rfl G_take (hr.mono (by omega)) (by rfl) T.g_take T.F_take.kp T.b_take (a_cons (v3 1) (a_cons e_int a_nil))) e_int (nomark _)))))
  (b_cons (s_set (i := 12) sc_law.nd rfl (Or.inl rfl) (e_call rfl G_shuffled (hr.mono (by omega)) (by rfl) T.g_shuffled T.F_shuffled.kp T.b_shuffled (a_cons (v3 1) (a_cons (e_op (op_ad rfl) ok_add (e_ix (ix_sq rfl) ok_ix (v3 5) (v3 6) (fun _ _ => rfl)) (e_sl rfl (e_ix (ix_sq rfl) ok_ix (v3 5) (v3 6) (fun _ _ => rfl)) o_none (o_some e_int))) a_nil))))
  (b_one (s_dp hu1 (v3 11) (e_ix (ix_sq rfl) ok_ix (e_ix (ix_sq rfl) ok_ix (v3 9) e_int (fun _ _ => rfl)) (v3 6) (fun _ _ => rfl)) (v3 12) rfl)))
  b_nil)))
  (b_cons (s_dp hu1 (v3 11) (e_op (op_ad rfl) ok_add (e_op op_mul3 ok_mul e_int (e_op op_pow ok_pow e_int e_int)) (e_call rfl G_take (hr.mono (by omega)) (by rfl) T.g_take T.F_take.kp T.b_take (a_cons (v3 1) (a_cons e_int a_nil)))) (e_tup (a_cons e_str (a_cons e_str a_nil))) rfl)
  (b_cons (s_lock 11 (s_setLc (i := 13) (own := [("_law_key", 14)]) (vs := [14]) eNd (.inl rfl) rfl sc_law.nd rfl rfl (sw_true rfl rfl rfl (by decide +kernel)) (i_dk (v3 11)) (blkOk_by (own := [("_law_key", 14)]) (N := ["_law_script", "_law_hand_here", "_law_world_here", "_law_term", "_law_bare", "_law_lacks", "_law_r", "_law_due", "_law_turn", "_law_numbers", "_law_shown", "_law_told", "_law_row", "_law_copy", "_law_key"]) (sc := defScope s_law) (scope := { kind := PySem.ScopeKind.function, names := [ (PySem.Str.ofString ".0", PySem.NameKind.local), (PySem.Str.ofString "_law_key", PySem.NameKind.local), (PySem.Str.ofString "list", PySem.NameKind.globalImplicit), (PySem.Str.ofString "_law_told", PySem.NameKind.free)], isGenerator := false, isCoroutine := false, more := [] : PySem.Scope }) (by decide +kernel)) rfl (by decide) (fun _ _ _ _ _ => (g_name (i := 14) sc_law.nd rfl (Or.inl rfl) (Or.inr rfl))) (fun _ _ _ _ _ => t_nil) (fun _ _ _ _ _ => (e_tup (a_cons (v3 14) (a_cons (e_nd (n_cT (cr_lst4 rfl rfl) nk_lst4 (by rfl) T.z_list (by decide +kernel) (a_cons (e_dgl hu1 (v3 11) (v3 14) (fun _ _ => rfl)) a_nil))) a_nil))))))
  (b_cons (s_if (t_w (w_or (t_not (t_tr rfl (e_call rfl G_same (hr.mono (by omega)) (by rfl) T.g_same T.F_same.kp T.b_same (a_cons (e_call rfl G_scheme_of (hr.mono (by omega)) (by rfl) T.g_scheme_of T.F_scheme_of.kp T.b_scheme_of (a_cons (v3 10) (a_cons (v3 11) a_nil))) (a_cons (v3 7) a_nil))) (by intro _; rfl))) (w_or1 (t_cmp rfl (op_gNe hu64) (e_lock 11 (e_nd (n_lc (own := [("_law_key", 14)]) (vs := [14]) rfl sc_law.nd (i_dk (v3 11)) (blkOk_by (own := [("_law_key", 14)]) (N := ["_law_script", "_law_hand_here", "_law_world_here", "_law_term", "_law_bare", "_law_lacks", "_law_r", "_law_due", "_law_turn", "_law_numbers", "_law_shown", "_law_told", "_law_row", "_law_copy", "_law_key"]) (sc := defScope s_law) (scope := { kind := PySem.ScopeKind.function, names := [ (PySem.Str.ofString ".0", PySem.NameKind.local), (PySem.Str.ofString "_law_key", PySem.NameKind.local), (PySem.Str.ofString "list", PySem.NameKind.globalImplicit), (PySem.Str.ofString "_law_told", PySem.NameKind.free)], isGenerator := false, isCoroutine := false, more := [] : PySem.Scope }) (by decide +kernel)) rfl (by decide) (fun _ _ _ _ _ => (g_name (i := 14) sc_law.nd rfl (Or.inl rfl) (Or.inr rfl))) (fun _ _ _ _ _ => t_nil) (fun _ _ _ _ _ => (e_tup (a_cons (v3 14) (a_cons (e_nd (n_cT (cr_lst4 rfl rfl) nk_lst4 (by rfl) T.z_list (by decide +kernel) (a_cons (e_dgl hu1 (v3 11) (v3 14) (fun _ _ => rfl)) a_nil))) a_nil))))))) (v3 13) (nomark _)))))
  (b_one (s_ret e_bl))
  b_nil)
  (b_one (s_if (t_not (t_tr rfl (e_call rfl G_asked_of (hr.mono (by omega)) (by rfl) T.g_asked_of T.F_asked_of.kp T.b_asked_of (a_cons (v3 3) (a_cons (v3 10) (a_cons (v3 9) (a_cons (e_ix (ix_sq rfl) ok_ix (e_nd (n_lst (a_cons e_non (a_cons (e_call rfl G_tscheme (hr.mono (by omega)) (by rfl) T.g_tscheme T.F_tscheme.kp T.b_tscheme (a_cons (v3 3) (a_cons (v3 4) a_nil))) a_nil)))) (v3 8) (fun _ _ => rfl)) a_nil))))) (by intro _; rfl)))
  (b_one (s_ret e_bl))
  b_nil))))))))))
  (b_one (s_ret e_bl))))))))))
theorem ok_law (T : Tp K mg) (h : ∀ ns : List Int, ns.length ≤ 63 → ∃ S, f3_law [.sc ns] [] = some (.d (.bool true), S)) : FnOk P w K mg base CX0 67 T.a_law T.d_law ["_law_script"] (spLaw3 K) := law3 (ok3_law T) h
end
section
theorem tp_mk {K : PySem.W.Frag} {h : Heap} {mg : Str → Option Value} {fa : Addr} (X : K.In h) (G : h.Ns mainGlobals mg) (hfa : mg "law" = some (.ref fa))
    {f0 : Addr} {od0 an0 : Option Addr} {sl0 : Array (Option Value)} {oc0 kV0 dc0 pm0 cd0 ct0 : Value}
    (a0 : PySem.W.nsIn K mainGlobals "term_parts" = some (some (.ref f0))) (l0 : K.lookup f0 = some ⟨oc0, od0, .func (PySem.W.fnOf "term_parts" "term_parts" (defArgs s_term_parts) (defBody s_term_parts) (defScope s_term_parts) .none kV0 dc0 pm0 an0 cd0 ct0), sl0⟩) (c0 : PySem.W.codeIn K cd0 "term_parts" = true) (k0 : PySem.W.keepIn K (.ref f0) = true)
    {f1 : Addr} {od1 an1 : Option Addr} {sl1 : Array (Option Value)} {oc1 kV1 dc1 pm1 cd1 ct1 : Value}
    {T1 : Addr} {nT1 : Nat} {slT1 : Array (Option Value)}    (a1 : PySem.W.nsIn K mainGlobals "rebuilt" = some (some (.ref f1))) (l1 : K.lookup f1 = some ⟨oc1, od1, .func (PySem.W.fnOf "rebuilt" "rebuilt" (defArgs s_rebuilt) (defBody s_rebuilt) (defScope s_rebuilt) (.ref T1) kV1 dc1 pm1 an1 cd1 ct1), sl1⟩) (c1 : PySem.W.codeIn K cd1 "rebuilt" = true) (k1 : PySem.W.keepIn K (.ref f1) = true) (t1 : K.lookup T1 = some ⟨.type "tuple", none, .seq #[.none] nT1, slT1⟩)
    {f2 : Addr} {od2 an2 : Option Addr} {sl2 : Array (Option Value)} {oc2 kV2 dc2 pm2 cd2 ct2 : Value}
    (a2 : PySem.W.nsIn K mainGlobals "gather_letters" = some (some (.ref f2))) (l2 : K.lookup f2 = some ⟨oc2, od2, .func (PySem.W.fnOf "gather_letters" "gather_letters" (defArgs s_gather_letters) (defBody s_gather_letters) (defScope s_gather_letters) .none kV2 dc2 pm2 an2 cd2 ct2), sl2⟩) (c2 : PySem.W.codeIn K cd2 "gather_letters" = true) (k2 : PySem.W.keepIn K (.ref f2) = true)
    {f3 : Addr} {od3 an3 : Option Addr} {sl3 : Array (Option Value)} {oc3 kV3 dc3 pm3 cd3 ct3 : Value}
    (a3 : PySem.W.nsIn K mainGlobals "letters_in" = some (some (.ref f3))) (l3 : K.lookup f3 = some ⟨oc3, od3, .func (PySem.W.fnOf "letters_in" "letters_in" (defArgs s_letters_in) (defBody s_letters_in) (defScope s_letters_in) .none kV3 dc3 pm3 an3 cd3 ct3), sl3⟩) (c3 : PySem.W.codeIn K cd3 "letters_in" = true) (k3 : PySem.W.keepIn K (.ref f3) = true)
    {f4 : Addr} {od4 an4 : Option Addr} {sl4 : Array (Option Value)} {oc4 kV4 dc4 pm4 cd4 ct4 : Value}
    (a4 : PySem.W.nsIn K mainGlobals "row_letters_in" = some (some (.ref f4))) (l4 : K.lookup f4 = some ⟨oc4, od4, .func (PySem.W.fnOf "row_letters_in" "row_letters_in" (defArgs s_row_letters_in) (defBody s_row_letters_in) (defScope s_row_letters_in) .none kV4 dc4 pm4 an4 cd4 ct4), sl4⟩) (c4 : PySem.W.codeIn K cd4 "row_letters_in" = true) (k4 : PySem.W.keepIn K (.ref f4) = true)
    {f5 : Addr} {od5 an5 : Option Addr} {sl5 : Array (Option Value)} {oc5 kV5 dc5 pm5 cd5 ct5 : Value}
    (a5 : PySem.W.nsIn K mainGlobals "gather_beside" = some (some (.ref f5))) (l5 : K.lookup f5 = some ⟨oc5, od5, .func (PySem.W.fnOf "gather_beside" "gather_beside" (defArgs s_gather_beside) (defBody s_gather_beside) (defScope s_gather_beside) .none kV5 dc5 pm5 an5 cd5 ct5), sl5⟩) (c5 : PySem.W.codeIn K cd5 "gather_beside" = true) (k5 : PySem.W.keepIn K (.ref f5) = true)
    {f6 : Addr} {od6 an6 : Option Addr} {sl6 : Array (Option Value)} {oc6 kV6 dc6 pm6 cd6 ct6 : Value}
    (a6 : PySem.W.nsIn K mainGlobals "lacked_labels" = some (some (.ref f6))) (l6 : K.lookup f6 = some ⟨oc6, od6, .func (PySem.W.fnOf "lacked_labels" "lacked_labels" (defArgs s_lacked_labels) (defBody s_lacked_labels) (defScope s_lacked_labels) .none kV6 dc6 pm6 an6 cd6 ct6), sl6⟩) (c6 : PySem.W.codeIn K cd6 "lacked_labels" = true) (k6 : PySem.W.keepIn K (.ref f6) = true)
    {f7 : Addr} {od7 an7 : Option Addr} {sl7 : Array (Option Value)} {oc7 kV7 dc7 pm7 cd7 ct7 : Value}
    (a7 : PySem.W.nsIn K mainGlobals "renumbered" = some (some (.ref f7))) (l7 : K.lookup f7 = some ⟨oc7, od7, .func (PySem.W.fnOf "renumbered" "renumbered" (defArgs s_renumbered) (defBody s_renumbered) (defScope s_renumbered) .none kV7 dc7 pm7 an7 cd7 ct7), sl7⟩) (c7 : PySem.W.codeIn K cd7 "renumbered" = true) (k7 : PySem.W.keepIn K (.ref f7) = true)
    {f8 : Addr} {od8 an8 : Option Addr} {sl8 : Array (Option Value)} {oc8 kV8 dc8 pm8 cd8 ct8 : Value}
    {T8 : Addr} {nT8 : Nat} {slT8 : Array (Option Value)}    (a8 : PySem.W.nsIn K mainGlobals "scheme_of" = some (some (.ref f8))) (l8 : K.lookup f8 = some ⟨oc8, od8, .func (PySem.W.fnOf "scheme_of" "scheme_of" (defArgs s_scheme_of) (defBody s_scheme_of) (defScope s_scheme_of) (.ref T8) kV8 dc8 pm8 an8 cd8 ct8), sl8⟩) (c8 : PySem.W.codeIn K cd8 "scheme_of" = true) (k8 : PySem.W.keepIn K (.ref f8) = true) (t8 : K.lookup T8 = some ⟨.type "tuple", none, .seq #[.none] nT8, slT8⟩)
    {f9 : Addr} {od9 an9 : Option Addr} {sl9 : Array (Option Value)} {oc9 kV9 dc9 pm9 cd9 ct9 : Value}
    (a9 : PySem.W.nsIn K mainGlobals "_law_stirred" = some (some (.ref f9))) (l9 : K.lookup f9 = some ⟨oc9, od9, .func (PySem.W.fnOf "_law_stirred" "_law_stirred" (defArgs s_stirred) (defBody s_stirred) (defScope s_stirred) .none kV9 dc9 pm9 an9 cd9 ct9), sl9⟩) (c9 : PySem.W.codeIn K cd9 "_law_stirred" = true) (k9 : PySem.W.keepIn K (.ref f9) = true)
    {f10 : Addr} {od10 an10 : Option Addr} {sl10 : Array (Option Value)} {oc10 kV10 dc10 pm10 cd10 ct10 : Value}
    (a10 : PySem.W.nsIn K mainGlobals "_law_take" = some (some (.ref f10))) (l10 : K.lookup f10 = some ⟨oc10, od10, .func (PySem.W.fnOf "_law_take" "_law_take" (defArgs s_take) (defBody s_take) (defScope s_take) .none kV10 dc10 pm10 an10 cd10 ct10), sl10⟩) (c10 : PySem.W.codeIn K cd10 "_law_take" = true) (k10 : PySem.W.keepIn K (.ref f10) = true)
    {f11 : Addr} {od11 an11 : Option Addr} {sl11 : Array (Option Value)} {oc11 kV11 dc11 pm11 cd11 ct11 : Value}
    (a11 : PySem.W.nsIn K mainGlobals "_law_shuffled" = some (some (.ref f11))) (l11 : K.lookup f11 = some ⟨oc11, od11, .func (PySem.W.fnOf "_law_shuffled" "_law_shuffled" (defArgs s_shuffled) (defBody s_shuffled) (defScope s_shuffled) .none kV11 dc11 pm11 an11 cd11 ct11), sl11⟩) (c11 : PySem.W.codeIn K cd11 "_law_shuffled" = true) (k11 : PySem.W.keepIn K (.ref f11) = true)
    {f12 : Addr} {od12 an12 : Option Addr} {sl12 : Array (Option Value)} {oc12 kV12 dc12 pm12 cd12 ct12 : Value}
    (a12 : PySem.W.nsIn K mainGlobals "_law_tonce" = some (some (.ref f12))) (l12 : K.lookup f12 = some ⟨oc12, od12, .func (PySem.W.fnOf "_law_tonce" "_law_tonce" (defArgs s_tonce) (defBody s_tonce) (defScope s_tonce) .none kV12 dc12 pm12 an12 cd12 ct12), sl12⟩) (c12 : PySem.W.codeIn K cd12 "_law_tonce" = true) (k12 : PySem.W.keepIn K (.ref f12) = true)
    {f13 : Addr} {od13 an13 : Option Addr} {sl13 : Array (Option Value)} {oc13 kV13 dc13 pm13 cd13 ct13 : Value}
    (a13 : PySem.W.nsIn K mainGlobals "_law_tparts" = some (some (.ref f13))) (l13 : K.lookup f13 = some ⟨oc13, od13, .func (PySem.W.fnOf "_law_tparts" "_law_tparts" (defArgs s_tparts) (defBody s_tparts) (defScope s_tparts) .none kV13 dc13 pm13 an13 cd13 ct13), sl13⟩) (c13 : PySem.W.codeIn K cd13 "_law_tparts" = true) (k13 : PySem.W.keepIn K (.ref f13) = true)
    {f14 : Addr} {od14 an14 : Option Addr} {sl14 : Array (Option Value)} {oc14 kV14 dc14 pm14 cd14 ct14 : Value}
    (a14 : PySem.W.nsIn K mainGlobals "_law_tseen" = some (some (.ref f14))) (l14 : K.lookup f14 = some ⟨oc14, od14, .func (PySem.W.fnOf "_law_tseen" "_law_tseen" (defArgs s_tseen) (defBody s_tseen) (defScope s_tseen) .none kV14 dc14 pm14 an14 cd14 ct14), sl14⟩) (c14 : PySem.W.codeIn K cd14 "_law_tseen" = true) (k14 : PySem.W.keepIn K (.ref f14) = true)
    {f15 : Addr} {od15 an15 : Option Addr} {sl15 : Array (Option Value)} {oc15 kV15 dc15 pm15 cd15 ct15 : Value}
    (a15 : PySem.W.nsIn K mainGlobals "_law_whole" = some (some (.ref f15))) (l15 : K.lookup f15 = some ⟨oc15, od15, .func (PySem.W.fnOf "_law_whole" "_law_whole" (defArgs s_whole) (defBody s_whole) (defScope s_whole) .none kV15 dc15 pm15 an15 cd15 ct15), sl15⟩) (c15 : PySem.W.codeIn K cd15 "_law_whole" = true) (k15 : PySem.W.keepIn K (.ref f15) = true)
    {f16 : Addr} {od16 an16 : Option Addr} {sl16 : Array (Option Value)} {oc16 kV16 dc16 pm16 cd16 ct16 : Value}
    (a16 : PySem.W.nsIn K mainGlobals "_law_same" = some (some (.ref f16))) (l16 : K.lookup f16 = some ⟨oc16, od16, .func (PySem.W.fnOf "_law_same" "_law_same" (defArgs s_same) (defBody s_same) (defScope s_same) .none kV16 dc16 pm16 an16 cd16 ct16), sl16⟩) (c16 : PySem.W.codeIn K cd16 "_law_same" = true) (k16 : PySem.W.keepIn K (.ref f16) = true)
    {f17 : Addr} {od17 an17 : Option Addr} {sl17 : Array (Option Value)} {oc17 kV17 dc17 pm17 cd17 ct17 : Value}
    (a17 : PySem.W.nsIn K mainGlobals "_law_hand" = some (some (.ref f17))) (l17 : K.lookup f17 = some ⟨oc17, od17, .func (PySem.W.fnOf "_law_hand" "_law_hand" (defArgs s_hand) (defBody s_hand) (defScope s_hand) .none kV17 dc17 pm17 an17 cd17 ct17), sl17⟩) (c17 : PySem.W.codeIn K cd17 "_law_hand" = true) (k17 : PySem.W.keepIn K (.ref f17) = true)
    {f18 : Addr} {od18 an18 : Option Addr} {sl18 : Array (Option Value)} {oc18 kV18 dc18 pm18 cd18 ct18 : Value}
    (a18 : PySem.W.nsIn K mainGlobals "_law_some" = some (some (.ref f18))) (l18 : K.lookup f18 = some ⟨oc18, od18, .func (PySem.W.fnOf "_law_some" "_law_some" (defArgs s_some) (defBody s_some) (defScope s_some) .none kV18 dc18 pm18 an18 cd18 ct18), sl18⟩) (c18 : PySem.W.codeIn K cd18 "_law_some" = true) (k18 : PySem.W.keepIn K (.ref f18) = true)
    {f19 : Addr} {od19 an19 : Option Addr} {sl19 : Array (Option Value)} {oc19 kV19 dc19 pm19 cd19 ct19 : Value}
    (a19 : PySem.W.nsIn K mainGlobals "_law_world" = some (some (.ref f19))) (l19 : K.lookup f19 = some ⟨oc19, od19, .func (PySem.W.fnOf "_law_world" "_law_world" (defArgs s_world) (defBody s_world) (defScope s_world) .none kV19 dc19 pm19 an19 cd19 ct19), sl19⟩) (c19 : PySem.W.codeIn K cd19 "_law_world" = true) (k19 : PySem.W.keepIn K (.ref f19) = true)
    {f20 : Addr} {od20 an20 : Option Addr} {sl20 : Array (Option Value)} {oc20 kV20 dc20 pm20 cd20 ct20 : Value}
    (a20 : PySem.W.nsIn K mainGlobals "_law_tmay" = some (some (.ref f20))) (l20 : K.lookup f20 = some ⟨oc20, od20, .func (PySem.W.fnOf "_law_tmay" "_law_tmay" (defArgs s_tmay) (defBody s_tmay) (defScope s_tmay) .none kV20 dc20 pm20 an20 cd20 ct20), sl20⟩) (c20 : PySem.W.codeIn K cd20 "_law_tmay" = true) (k20 : PySem.W.keepIn K (.ref f20) = true)
    {f21 : Addr} {od21 an21 : Option Addr} {sl21 : Array (Option Value)} {oc21 kV21 dc21 pm21 cd21 ct21 : Value}
    (a21 : PySem.W.nsIn K mainGlobals "_law_tletter" = some (some (.ref f21))) (l21 : K.lookup f21 = some ⟨oc21, od21, .func (PySem.W.fnOf "_law_tletter" "_law_tletter" (defArgs s_tletter) (defBody s_tletter) (defScope s_tletter) .none kV21 dc21 pm21 an21 cd21 ct21), sl21⟩) (c21 : PySem.W.codeIn K cd21 "_law_tletter" = true) (k21 : PySem.W.keepIn K (.ref f21) = true)
    {f22 : Addr} {od22 an22 : Option Addr} {sl22 : Array (Option Value)} {oc22 kV22 dc22 pm22 cd22 ct22 : Value}
    (a22 : PySem.W.nsIn K mainGlobals "_law_tatom" = some (some (.ref f22))) (l22 : K.lookup f22 = some ⟨oc22, od22, .func (PySem.W.fnOf "_law_tatom" "_law_tatom" (defArgs s_tatom) (defBody s_tatom) (defScope s_tatom) .none kV22 dc22 pm22 an22 cd22 ct22), sl22⟩) (c22 : PySem.W.codeIn K cd22 "_law_tatom" = true) (k22 : PySem.W.keepIn K (.ref f22) = true)
    {f23 : Addr} {od23 an23 : Option Addr} {sl23 : Array (Option Value)} {oc23 kV23 dc23 pm23 cd23 ct23 : Value}
    (a23 : PySem.W.nsIn K mainGlobals "_law_ttail" = some (some (.ref f23))) (l23 : K.lookup f23 = some ⟨oc23, od23, .func (PySem.W.fnOf "_law_ttail" "_law_ttail" (defArgs s_ttail) (defBody s_ttail) (defScope s_ttail) .none kV23 dc23 pm23 an23 cd23 ct23), sl23⟩) (c23 : PySem.W.codeIn K cd23 "_law_ttail" = true) (k23 : PySem.W.keepIn K (.ref f23) = true)
    {f24 : Addr} {od24 an24 : Option Addr} {sl24 : Array (Option Value)} {oc24 kV24 dc24 pm24 cd24 ct24 : Value}
    (a24 : PySem.W.nsIn K mainGlobals "_law_trow" = some (some (.ref f24))) (l24 : K.lookup f24 = some ⟨oc24, od24, .func (PySem.W.fnOf "_law_trow" "_law_trow" (defArgs s_trow) (defBody s_trow) (defScope s_trow) .none kV24 dc24 pm24 an24 cd24 ct24), sl24⟩) (c24 : PySem.W.codeIn K cd24 "_law_trow" = true) (k24 : PySem.W.keepIn K (.ref f24) = true)
    {f25 : Addr} {od25 an25 : Option Addr} {sl25 : Array (Option Value)} {oc25 kV25 dc25 pm25 cd25 ct25 : Value}
    (a25 : PySem.W.nsIn K mainGlobals "_law_tdrawn" = some (some (.ref f25))) (l25 : K.lookup f25 = some ⟨oc25, od25, .func (PySem.W.fnOf "_law_tdrawn" "_law_tdrawn" (defArgs s_tdrawn) (defBody s_tdrawn) (defScope s_tdrawn) .none kV25 dc25 pm25 an25 cd25 ct25), sl25⟩) (c25 : PySem.W.codeIn K cd25 "_law_tdrawn" = true) (k25 : PySem.W.keepIn K (.ref f25) = true)
    {f26 : Addr} {od26 an26 : Option Addr} {sl26 : Array (Option Value)} {oc26 kV26 dc26 pm26 cd26 ct26 : Value}
    (a26 : PySem.W.nsIn K mainGlobals "_law_tbeside" = some (some (.ref f26))) (l26 : K.lookup f26 = some ⟨oc26, od26, .func (PySem.W.fnOf "_law_tbeside" "_law_tbeside" (defArgs s_tbeside) (defBody s_tbeside) (defScope s_tbeside) .none kV26 dc26 pm26 an26 cd26 ct26), sl26⟩) (c26 : PySem.W.codeIn K cd26 "_law_tbeside" = true) (k26 : PySem.W.keepIn K (.ref f26) = true)
    {f27 : Addr} {od27 an27 : Option Addr} {sl27 : Array (Option Value)} {oc27 kV27 dc27 pm27 cd27 ct27 : Value}
    (a27 : PySem.W.nsIn K mainGlobals "_law_trebuilt" = some (some (.ref f27))) (l27 : K.lookup f27 = some ⟨oc27, od27, .func (PySem.W.fnOf "_law_trebuilt" "_law_trebuilt" (defArgs s_trebuilt) (defBody s_trebuilt) (defScope s_trebuilt) .none kV27 dc27 pm27 an27 cd27 ct27), sl27⟩) (c27 : PySem.W.codeIn K cd27 "_law_trebuilt" = true) (k27 : PySem.W.keepIn K (.ref f27) = true)
    {f28 : Addr} {od28 an28 : Option Addr} {sl28 : Array (Option Value)} {oc28 kV28 dc28 pm28 cd28 ct28 : Value}
    (a28 : PySem.W.nsIn K mainGlobals "_law_tranked" = some (some (.ref f28))) (l28 : K.lookup f28 = some ⟨oc28, od28, .func (PySem.W.fnOf "_law_tranked" "_law_tranked" (defArgs s_tranked) (defBody s_tranked) (defScope s_tranked) .none kV28 dc28 pm28 an28 cd28 ct28), sl28⟩) (c28 : PySem.W.codeIn K cd28 "_law_tranked" = true) (k28 : PySem.W.keepIn K (.ref f28) = true)
    {f29 : Addr} {od29 an29 : Option Addr} {sl29 : Array (Option Value)} {oc29 kV29 dc29 pm29 cd29 ct29 : Value}
    (a29 : PySem.W.nsIn K mainGlobals "_law_tscheme" = some (some (.ref f29))) (l29 : K.lookup f29 = some ⟨oc29, od29, .func (PySem.W.fnOf "_law_tscheme" "_law_tscheme" (defArgs s_tscheme) (defBody s_tscheme) (defScope s_tscheme) .none kV29 dc29 pm29 an29 cd29 ct29), sl29⟩) (c29 : PySem.W.codeIn K cd29 "_law_tscheme" = true) (k29 : PySem.W.keepIn K (.ref f29) = true)
    {f30 : Addr} {od30 an30 : Option Addr} {sl30 : Array (Option Value)} {oc30 kV30 dc30 pm30 cd30 ct30 : Value}
    (a30 : PySem.W.nsIn K mainGlobals "_law_tmoved" = some (some (.ref f30))) (l30 : K.lookup f30 = some ⟨oc30, od30, .func (PySem.W.fnOf "_law_tmoved" "_law_tmoved" (defArgs s_tmoved) (defBody s_tmoved) (defScope s_tmoved) .none kV30 dc30 pm30 an30 cd30 ct30), sl30⟩) (c30 : PySem.W.codeIn K cd30 "_law_tmoved" = true) (k30 : PySem.W.keepIn K (.ref f30) = true)
    {f31 : Addr} {od31 an31 : Option Addr} {sl31 : Array (Option Value)} {oc31 kV31 dc31 pm31 cd31 ct31 : Value}
    (a31 : PySem.W.nsIn K mainGlobals "_law_numbering" = some (some (.ref f31))) (l31 : K.lookup f31 = some ⟨oc31, od31, .func (PySem.W.fnOf "_law_numbering" "_law_numbering" (defArgs s_numbering) (defBody s_numbering) (defScope s_numbering) .none kV31 dc31 pm31 an31 cd31 ct31), sl31⟩) (c31 : PySem.W.codeIn K cd31 "_law_numbering" = true) (k31 : PySem.W.keepIn K (.ref f31) = true)
    {f32 : Addr} {od32 an32 : Option Addr} {sl32 : Array (Option Value)} {oc32 kV32 dc32 pm32 cd32 ct32 : Value}
    (a32 : PySem.W.nsIn K mainGlobals "_law_asked_of" = some (some (.ref f32))) (l32 : K.lookup f32 = some ⟨oc32, od32, .func (PySem.W.fnOf "_law_asked_of" "_law_asked_of" (defArgs s_asked_of) (defBody s_asked_of) (defScope s_asked_of) .none kV32 dc32 pm32 an32 cd32 ct32), sl32⟩) (c32 : PySem.W.codeIn K cd32 "_law_asked_of" = true) (k32 : PySem.W.keepIn K (.ref f32) = true)
    {f33 : Addr} {od33 an33 : Option Addr} {sl33 : Array (Option Value)} {oc33 kV33 dc33 pm33 cd33 ct33 : Value}
    (a33 : PySem.W.nsIn K mainGlobals "law" = some (some (.ref f33))) (l33 : K.lookup f33 = some ⟨oc33, od33, .func (PySem.W.fnOf "law" "law" (defArgs s_law) (defBody s_law) (defScope s_law) .none kV33 dc33 pm33 an33 cd33 ct33), sl33⟩) (c33 : PySem.W.codeIn K cd33 "law" = true) (k33 : PySem.W.keepIn K (.ref f33) = true)
    (z_abs : PySem.W.nsIn K mainGlobals "abs" = some none)
    (z_all : PySem.W.nsIn K mainGlobals "all" = some none)
    (z_bool : PySem.W.nsIn K mainGlobals "bool" = some none)
    (z_enumerate : PySem.W.nsIn K mainGlobals "enumerate" = some none)
    (z_int : PySem.W.nsIn K mainGlobals "int" = some none)
    (z_isinstance : PySem.W.nsIn K mainGlobals "isinstance" = some none)
    (z_len : PySem.W.nsIn K mainGlobals "len" = some none)
    (z_list : PySem.W.nsIn K mainGlobals "list" = some none)
    (z_range : PySem.W.nsIn K mainGlobals "range" = some none)
    (z_set : PySem.W.nsIn K mainGlobals "set" = some none)
    (z_sorted : PySem.W.nsIn K mainGlobals "sorted" = some none)
    (z_str : PySem.W.nsIn K mainGlobals "str" = some none)
    (z_tuple : PySem.W.nsIn K mainGlobals "tuple" = some none)
    (z_zip : PySem.W.nsIn K mainGlobals "zip" = some none)
    {fc0 : Addr} {tc0_0 tc0_1 tc0_2 : Tok} {nc0 : Nat} {sc0 : Array (Option Value)}
    (x_ROW_WORDS : PySem.W.nsIn K mainGlobals "ROW_WORDS" = some (some (.ref fc0))) (y_ROW_WORDS : K.lookup fc0 = some ⟨.type "tuple", none, .seq #[.str "record" tc0_0, .str "variant" tc0_1, .str "row" tc0_2] nc0, sc0⟩)
    : ∃ T : Tp K mg, T.a_law = fa ∧ ∀ (s : Shared) (v : Value), BindsTo s T.d_law ⟨[v], []⟩ [("_law_script", v)] := by
  have e := hfa.symm.trans (PySem.W.mg_of X G a33)
  cases e
  have F0 := fun_mk (st := s_term_parts) l0 c0 k0
  have b0 := F0.binds (ps := ["term"]) fun _ _ _ _ _ _ us hl => match us, hl with | [_], _ => rfl
  have F1 := fd_pos (st := s_rebuilt) l1 c1 k1 t1
  have b1 : Binds K _ ["term", "parts", "tail"] [] := binds_all (FunD.binds1 (ps := ["term", "parts", "tail"]) F1 3 1 (by decide) rfl fun _ _ _ _ _ _ _ us its hu hi => match us, its, hu, hi with | [_, _, _], [_], _, _ => ⟨_, rfl, rfl⟩)
  have bd1 : ∃ dus, Vals [.non] dus ∧ Binds K _ ["term", "parts", "tail"] dus := FunD.binds1 (ps := ["term", "parts", "tail"]) F1 2 0 (by decide) rfl fun _ _ _ _ _ _ _ us its hu hi => match us, its, hu, hi with | [_, _], [_], _, _ => ⟨_, rfl, rfl⟩
  have F2 := fun_mk (st := s_gather_letters) l2 c2 k2
  have b2 := F2.binds (ps := ["term", "found"]) fun _ _ _ _ _ _ us hl => match us, hl with | [_, _], _ => rfl
  have F3 := fun_mk (st := s_letters_in) l3 c3 k3
  have b3 := F3.binds (ps := ["term"]) fun _ _ _ _ _ _ us hl => match us, hl with | [_], _ => rfl
  have F4 := fun_mk (st := s_row_letters_in) l4 c4 k4
  have b4 := F4.binds (ps := ["term"]) fun _ _ _ _ _ _ us hl => match us, hl with | [_], _ => rfl
  have F5 := fun_mk (st := s_gather_beside) l5 c5 k5
  have b5 := F5.binds (ps := ["term", "found"]) fun _ _ _ _ _ _ us hl => match us, hl with | [_, _], _ => rfl
  have F6 := fun_mk (st := s_lacked_labels) l6 c6 k6
  have b6 := F6.binds (ps := ["term", "lacks"]) fun _ _ _ _ _ _ us hl => match us, hl with | [_, _], _ => rfl
  have F7 := fun_mk (st := s_renumbered) l7 c7 k7
  have b7 := F7.binds (ps := ["term", "ranks"]) fun _ _ _ _ _ _ us hl => match us, hl with | [_, _], _ => rfl
  have F8 := fd_pos (st := s_scheme_of) l8 c8 k8 t8
  have b8 : Binds K _ ["term", "lacks"] [] := binds_all (FunD.binds1 (ps := ["term", "lacks"]) F8 2 1 (by decide) rfl fun _ _ _ _ _ _ _ us its hu hi => match us, its, hu, hi with | [_, _], [_], _, _ => ⟨_, rfl, rfl⟩)
  have bd8 : ∃ dus, Vals [.non] dus ∧ Binds K _ ["term", "lacks"] dus := FunD.binds1 (ps := ["term", "lacks"]) F8 1 0 (by decide) rfl fun _ _ _ _ _ _ _ us its hu hi => match us, its, hu, hi with | [_], [_], _, _ => ⟨_, rfl, rfl⟩
  have F9 := fun_mk (st := s_stirred) l9 c9 k9
  have b9 := F9.binds (ps := ["_law_number", "_law_turn"]) fun _ _ _ _ _ _ us hl => match us, hl with | [_, _], _ => rfl
  have F10 := fun_mk (st := s_take) l10 c10 k10
  have b10 := F10.binds (ps := ["_law_hand_here", "_law_many"]) fun _ _ _ _ _ _ us hl => match us, hl with | [_, _], _ => rfl
  have F11 := fun_mk (st := s_shuffled) l11 c11 k11
  have b11 := F11.binds (ps := ["_law_hand_here", "_law_things"]) fun _ _ _ _ _ _ us hl => match us, hl with | [_, _], _ => rfl
  have F12 := fun_mk (st := s_tonce) l12 c12 k12
  have b12 := F12.binds (ps := ["_law_things"]) fun _ _ _ _ _ _ us hl => match us, hl with | [_], _ => rfl
  have F13 := fun_mk (st := s_tparts) l13 c13 k13
  have b13 := F13.binds (ps := ["_law_term"]) fun _ _ _ _ _ _ us hl => match us, hl with | [_], _ => rfl
  have F14 := fun_mk (st := s_tseen) l14 c14 k14
  have b14 := F14.binds (ps := ["_law_term"]) fun _ _ _ _ _ _ us hl => match us, hl with | [_], _ => rfl
  have F15 := fun_mk (st := s_whole) l15 c15 k15
  have b15 := F15.binds (ps := ["_law_thing"]) fun _ _ _ _ _ _ us hl => match us, hl with | [_], _ => rfl
  have F16 := fun_mk (st := s_same) l16 c16 k16
  have b16 := F16.binds (ps := ["_law_left", "_law_right"]) fun _ _ _ _ _ _ us hl => match us, hl with | [_, _], _ => rfl
  have F17 := fun_mk (st := s_hand) l17 c17 k17
  have b17 := F17.binds (ps := ["_law_script"]) fun _ _ _ _ _ _ us hl => match us, hl with | [_], _ => rfl
  have F18 := fun_mk (st := s_some) l18 c18 k18
  have b18 := F18.binds (ps := ["_law_hand_here", "_law_things"]) fun _ _ _ _ _ _ us hl => match us, hl with | [_, _], _ => rfl
  have F19 := fun_mk (st := s_world) l19 c19 k19
  have b19 := F19.binds (ps := ["_law_hand_here", "_law_letters", "_law_rows", "_law_words"]) fun _ _ _ _ _ _ us hl => match us, hl with | [_, _, _, _], _ => rfl
  have F20 := fun_mk (st := s_tmay) l20 c20 k20
  have b20 := F20.binds (ps := ["_law_world_here"]) fun _ _ _ _ _ _ us hl => match us, hl with | [_], _ => rfl
  have F21 := fun_mk (st := s_tletter) l21 c21 k21
  have b21 := F21.binds (ps := ["_law_world_here"]) fun _ _ _ _ _ _ us hl => match us, hl with | [_], _ => rfl
  have F22 := fun_mk (st := s_tatom) l22 c22 k22
  have b22 := F22.binds (ps := ["_law_world_here"]) fun _ _ _ _ _ _ us hl => match us, hl with | [_], _ => rfl
  have F23 := fun_mk (st := s_ttail) l23 c23 k23
  have b23 := F23.binds (ps := ["_law_world_here"]) fun _ _ _ _ _ _ us hl => match us, hl with | [_], _ => rfl
  have F24 := fun_mk (st := s_trow) l24 c24 k24
  have b24 := F24.binds (ps := ["_law_world_here", "_law_word", "_law_deep"]) fun _ _ _ _ _ _ us hl => match us, hl with | [_, _, _], _ => rfl
  have F25 := fun_mk (st := s_tdrawn) l25 c25 k25
  have b25 := F25.binds (ps := ["_law_world_here", "_law_deep"]) fun _ _ _ _ _ _ us hl => match us, hl with | [_, _], _ => rfl
  have F26 := fun_mk (st := s_tbeside) l26 c26 k26
  have b26 := F26.binds (ps := ["_law_term", "_law_row"]) fun _ _ _ _ _ _ us hl => match us, hl with | [_, _], _ => rfl
  have F27 := fun_mk (st := s_trebuilt) l27 c27 k27
  have b27 := F27.binds (ps := ["_law_term", "_law_parts", "_law_tail"]) fun _ _ _ _ _ _ us hl => match us, hl with | [_, _, _], _ => rfl
  have F28 := fun_mk (st := s_tranked) l28 c28 k28
  have b28 := F28.binds (ps := ["_law_term", "_law_ranks"]) fun _ _ _ _ _ _ us hl => match us, hl with | [_, _], _ => rfl
  have F29 := fun_mk (st := s_tscheme) l29 c29 k29
  have b29 := F29.binds (ps := ["_law_term", "_law_lacks"]) fun _ _ _ _ _ _ us hl => match us, hl with | [_, _], _ => rfl
  have F30 := fun_mk (st := s_tmoved) l30 c30 k30
  have b30 := F30.binds (ps := ["_law_term", "_law_letters", "_law_rows"]) fun _ _ _ _ _ _ us hl => match us, hl with | [_, _, _], _ => rfl
  have F31 := fun_mk (st := s_numbering) l31 c31 k31
  have b31 := F31.binds (ps := ["_law_hand_here", "_law_world_here"]) fun _ _ _ _ _ _ us hl => match us, hl with | [_, _], _ => rfl
  have F32 := fun_mk (st := s_asked_of) l32 c32 k32
  have b32 := F32.binds (ps := ["_law_term", "_law_shown", "_law_numbers", "_law_due"]) fun _ _ _ _ _ _ us hl => match us, hl with | [_, _, _, _], _ => rfl
  have F33 := fun_mk (st := s_law) l33 c33 k33
  have b33 := F33.binds (ps := ["_law_script"]) fun _ _ _ _ _ _ us hl => match us, hl with | [_], _ => rfl
  have cROW_WORDS : TopT K fc0 [.str "record", .str "variant", .str "row"] := ⟨_, _, _, [.str "record", .str "variant", .str "row"], y_ROW_WORDS, rfl, rfl, (by show 3 ≤ sizeLine; decide), .cons ⟨tc0_0, rfl⟩ (.cons ⟨tc0_1, rfl⟩ (.cons ⟨tc0_2, rfl⟩ (.nil))), rfl, fun G => .cons (.str _) (.cons (.str _) (.cons (.str _) (.nil)))⟩
  exact ⟨⟨_, _, F0, PySem.W.mg_of X G a0, b0,
    _, _, F1, PySem.W.mg_of X G a1, b1, bd1,
    _, _, F2, PySem.W.mg_of X G a2, b2,
    _, _, F3, PySem.W.mg_of X G a3, b3,
    _, _, F4, PySem.W.mg_of X G a4, b4,
    _, _, F5, PySem.W.mg_of X G a5, b5,
    _, _, F6, PySem.W.mg_of X G a6, b6,
    _, _, F7, PySem.W.mg_of X G a7, b7,
    _, _, F8, PySem.W.mg_of X G a8, b8, bd8,
    _, _, F9, PySem.W.mg_of X G a9, b9,
    _, _, F10, PySem.W.mg_of X G a10, b10,
    _, _, F11, PySem.W.mg_of X G a11, b11,
    _, _, F12, PySem.W.mg_of X G a12, b12,
    _, _, F13, PySem.W.mg_of X G a13, b13,
    _, _, F14, PySem.W.mg_of X G a14, b14,
    _, _, F15, PySem.W.mg_of X G a15, b15,
    _, _, F16, PySem.W.mg_of X G a16, b16,
    _, _, F17, PySem.W.mg_of X G a17, b17,
    _, _, F18, PySem.W.mg_of X G a18, b18,
    _, _, F19, PySem.W.mg_of X G a19, b19,
    _, _, F20, PySem.W.mg_of X G a20, b20,
    _, _, F21, PySem.W.mg_of X G a21, b21,
    _, _, F22, PySem.W.mg_of X G a22, b22,
    _, _, F23, PySem.W.mg_of X G a23, b23,
    _, _, F24, PySem.W.mg_of X G a24, b24,
    _, _, F25, PySem.W.mg_of X G a25, b25,
    _, _, F26, PySem.W.mg_of X G a26, b26,
    _, _, F27, PySem.W.mg_of X G a27, b27,
    _, _, F28, PySem.W.mg_of X G a28, b28,
    _, _, F29, PySem.W.mg_of X G a29, b29,
    _, _, F30, PySem.W.mg_of X G a30, b30,
    _, _, F31, PySem.W.mg_of X G a31, b31,
    _, _, F32, PySem.W.mg_of X G a32, b32,
    _, _, F33, PySem.W.mg_of X G a33, b33,
    PySem.W.mg_none_of X G z_abs,
    PySem.W.mg_none_of X G z_all,
    PySem.W.mg_none_of X G z_bool,
    PySem.W.mg_none_of X G z_enumerate,
    PySem.W.mg_none_of X G z_int,
    PySem.W.mg_none_of X G z_isinstance,
    PySem.W.mg_none_of X G z_len,
    PySem.W.mg_none_of X G z_list,
    PySem.W.mg_none_of X G z_range,
    PySem.W.mg_none_of X G z_set,
    PySem.W.mg_none_of X G z_sorted,
    PySem.W.mg_none_of X G z_str,
    PySem.W.mg_none_of X G z_tuple,
    PySem.W.mg_none_of X G z_zip,
    _, PySem.W.mg_of X G x_ROW_WORDS, cROW_WORDS⟩, rfl, fun s v => .of_eq rfl⟩
theorem all_mk {P : Program} {w : World} {K : PySem.W.Frag} {h : Heap} {mg : Str → Option Value} {fa : Addr} (X : K.In h) (G : h.Ns mainGlobals mg) (hfa : mg "law" = some (.ref fa))
    {f0 : Addr} {od0 an0 : Option Addr} {sl0 : Array (Option Value)} {oc0 kV0 dc0 pm0 cd0 ct0 : Value}
    (a0 : PySem.W.nsIn K mainGlobals "term_parts" = some (some (.ref f0))) (l0 : K.lookup f0 = some ⟨oc0, od0, .func (PySem.W.fnOf "term_parts" "term_parts" (defArgs s_term_parts) (defBody s_term_parts) (defScope s_term_parts) .none kV0 dc0 pm0 an0 cd0 ct0), sl0⟩) (c0 : PySem.W.codeIn K cd0 "term_parts" = true) (k0 : PySem.W.keepIn K (.ref f0) = true)
    {f1 : Addr} {od1 an1 : Option Addr} {sl1 : Array (Option Value)} {oc1 kV1 dc1 pm1 cd1 ct1 : Value}
    {T1 : Addr} {nT1 : Nat} {slT1 : Array (Option Value)}    (a1 : PySem.W.nsIn K mainGlobals "rebuilt" = some (some (.ref f1))) (l1 : K.lookup f1 = some ⟨oc1, od1, .func (PySem.W.fnOf "rebuilt" "rebuilt" (defArgs s_rebuilt) (defBody s_rebuilt) (defScope s_rebuilt) (.ref T1) kV1 dc1 pm1 an1 cd1 ct1), sl1⟩) (c1 : PySem.W.codeIn K cd1 "rebuilt" = true) (k1 : PySem.W.keepIn K (.ref f1) = true) (t1 : K.lookup T1 = some ⟨.type "tuple", none, .seq #[.none] nT1, slT1⟩)
    {f2 : Addr} {od2 an2 : Option Addr} {sl2 : Array (Option Value)} {oc2 kV2 dc2 pm2 cd2 ct2 : Value}
    (a2 : PySem.W.nsIn K mainGlobals "gather_letters" = some (some (.ref f2))) (l2 : K.lookup f2 = some ⟨oc2, od2, .func (PySem.W.fnOf "gather_letters" "gather_letters" (defArgs s_gather_letters) (defBody s_gather_letters) (defScope s_gather_letters) .none kV2 dc2 pm2 an2 cd2 ct2), sl2⟩) (c2 : PySem.W.codeIn K cd2 "gather_letters" = true) (k2 : PySem.W.keepIn K (.ref f2) = true)
    {f3 : Addr} {od3 an3 : Option Addr} {sl3 : Array (Option Value)} {oc3 kV3 dc3 pm3 cd3 ct3 : Value}
    (a3 : PySem.W.nsIn K mainGlobals "letters_in" = some (some (.ref f3))) (l3 : K.lookup f3 = some ⟨oc3, od3, .func (PySem.W.fnOf "letters_in" "letters_in" (defArgs s_letters_in) (defBody s_letters_in) (defScope s_letters_in) .none kV3 dc3 pm3 an3 cd3 ct3), sl3⟩) (c3 : PySem.W.codeIn K cd3 "letters_in" = true) (k3 : PySem.W.keepIn K (.ref f3) = true)
    {f4 : Addr} {od4 an4 : Option Addr} {sl4 : Array (Option Value)} {oc4 kV4 dc4 pm4 cd4 ct4 : Value}
    (a4 : PySem.W.nsIn K mainGlobals "row_letters_in" = some (some (.ref f4))) (l4 : K.lookup f4 = some ⟨oc4, od4, .func (PySem.W.fnOf "row_letters_in" "row_letters_in" (defArgs s_row_letters_in) (defBody s_row_letters_in) (defScope s_row_letters_in) .none kV4 dc4 pm4 an4 cd4 ct4), sl4⟩) (c4 : PySem.W.codeIn K cd4 "row_letters_in" = true) (k4 : PySem.W.keepIn K (.ref f4) = true)
    {f5 : Addr} {od5 an5 : Option Addr} {sl5 : Array (Option Value)} {oc5 kV5 dc5 pm5 cd5 ct5 : Value}
    (a5 : PySem.W.nsIn K mainGlobals "gather_beside" = some (some (.ref f5))) (l5 : K.lookup f5 = some ⟨oc5, od5, .func (PySem.W.fnOf "gather_beside" "gather_beside" (defArgs s_gather_beside) (defBody s_gather_beside) (defScope s_gather_beside) .none kV5 dc5 pm5 an5 cd5 ct5), sl5⟩) (c5 : PySem.W.codeIn K cd5 "gather_beside" = true) (k5 : PySem.W.keepIn K (.ref f5) = true)
    {f6 : Addr} {od6 an6 : Option Addr} {sl6 : Array (Option Value)} {oc6 kV6 dc6 pm6 cd6 ct6 : Value}
    (a6 : PySem.W.nsIn K mainGlobals "lacked_labels" = some (some (.ref f6))) (l6 : K.lookup f6 = some ⟨oc6, od6, .func (PySem.W.fnOf "lacked_labels" "lacked_labels" (defArgs s_lacked_labels) (defBody s_lacked_labels) (defScope s_lacked_labels) .none kV6 dc6 pm6 an6 cd6 ct6), sl6⟩) (c6 : PySem.W.codeIn K cd6 "lacked_labels" = true) (k6 : PySem.W.keepIn K (.ref f6) = true)
    {f7 : Addr} {od7 an7 : Option Addr} {sl7 : Array (Option Value)} {oc7 kV7 dc7 pm7 cd7 ct7 : Value}
    (a7 : PySem.W.nsIn K mainGlobals "renumbered" = some (some (.ref f7))) (l7 : K.lookup f7 = some ⟨oc7, od7, .func (PySem.W.fnOf "renumbered" "renumbered" (defArgs s_renumbered) (defBody s_renumbered) (defScope s_renumbered) .none kV7 dc7 pm7 an7 cd7 ct7), sl7⟩) (c7 : PySem.W.codeIn K cd7 "renumbered" = true) (k7 : PySem.W.keepIn K (.ref f7) = true)
    {f8 : Addr} {od8 an8 : Option Addr} {sl8 : Array (Option Value)} {oc8 kV8 dc8 pm8 cd8 ct8 : Value}
    {T8 : Addr} {nT8 : Nat} {slT8 : Array (Option Value)}    (a8 : PySem.W.nsIn K mainGlobals "scheme_of" = some (some (.ref f8))) (l8 : K.lookup f8 = some ⟨oc8, od8, .func (PySem.W.fnOf "scheme_of" "scheme_of" (defArgs s_scheme_of) (defBody s_scheme_of) (defScope s_scheme_of) (.ref T8) kV8 dc8 pm8 an8 cd8 ct8), sl8⟩) (c8 : PySem.W.codeIn K cd8 "scheme_of" = true) (k8 : PySem.W.keepIn K (.ref f8) = true) (t8 : K.lookup T8 = some ⟨.type "tuple", none, .seq #[.none] nT8, slT8⟩)
    {f9 : Addr} {od9 an9 : Option Addr} {sl9 : Array (Option Value)} {oc9 kV9 dc9 pm9 cd9 ct9 : Value}
    (a9 : PySem.W.nsIn K mainGlobals "_law_stirred" = some (some (.ref f9))) (l9 : K.lookup f9 = some ⟨oc9, od9, .func (PySem.W.fnOf "_law_stirred" "_law_stirred" (defArgs s_stirred) (defBody s_stirred) (defScope s_stirred) .none kV9 dc9 pm9 an9 cd9 ct9), sl9⟩) (c9 : PySem.W.codeIn K cd9 "_law_stirred" = true) (k9 : PySem.W.keepIn K (.ref f9) = true)
    {f10 : Addr} {od10 an10 : Option Addr} {sl10 : Array (Option Value)} {oc10 kV10 dc10 pm10 cd10 ct10 : Value}
    (a10 : PySem.W.nsIn K mainGlobals "_law_take" = some (some (.ref f10))) (l10 : K.lookup f10 = some ⟨oc10, od10, .func (PySem.W.fnOf "_law_take" "_law_take" (defArgs s_take) (defBody s_take) (defScope s_take) .none kV10 dc10 pm10 an10 cd10 ct10), sl10⟩) (c10 : PySem.W.codeIn K cd10 "_law_take" = true) (k10 : PySem.W.keepIn K (.ref f10) = true)
    {f11 : Addr} {od11 an11 : Option Addr} {sl11 : Array (Option Value)} {oc11 kV11 dc11 pm11 cd11 ct11 : Value}
    (a11 : PySem.W.nsIn K mainGlobals "_law_shuffled" = some (some (.ref f11))) (l11 : K.lookup f11 = some ⟨oc11, od11, .func (PySem.W.fnOf "_law_shuffled" "_law_shuffled" (defArgs s_shuffled) (defBody s_shuffled) (defScope s_shuffled) .none kV11 dc11 pm11 an11 cd11 ct11), sl11⟩) (c11 : PySem.W.codeIn K cd11 "_law_shuffled" = true) (k11 : PySem.W.keepIn K (.ref f11) = true)
    {f12 : Addr} {od12 an12 : Option Addr} {sl12 : Array (Option Value)} {oc12 kV12 dc12 pm12 cd12 ct12 : Value}
    (a12 : PySem.W.nsIn K mainGlobals "_law_tonce" = some (some (.ref f12))) (l12 : K.lookup f12 = some ⟨oc12, od12, .func (PySem.W.fnOf "_law_tonce" "_law_tonce" (defArgs s_tonce) (defBody s_tonce) (defScope s_tonce) .none kV12 dc12 pm12 an12 cd12 ct12), sl12⟩) (c12 : PySem.W.codeIn K cd12 "_law_tonce" = true) (k12 : PySem.W.keepIn K (.ref f12) = true)
    {f13 : Addr} {od13 an13 : Option Addr} {sl13 : Array (Option Value)} {oc13 kV13 dc13 pm13 cd13 ct13 : Value}
    (a13 : PySem.W.nsIn K mainGlobals "_law_tparts" = some (some (.ref f13))) (l13 : K.lookup f13 = some ⟨oc13, od13, .func (PySem.W.fnOf "_law_tparts" "_law_tparts" (defArgs s_tparts) (defBody s_tparts) (defScope s_tparts) .none kV13 dc13 pm13 an13 cd13 ct13), sl13⟩) (c13 : PySem.W.codeIn K cd13 "_law_tparts" = true) (k13 : PySem.W.keepIn K (.ref f13) = true)
    {f14 : Addr} {od14 an14 : Option Addr} {sl14 : Array (Option Value)} {oc14 kV14 dc14 pm14 cd14 ct14 : Value}
    (a14 : PySem.W.nsIn K mainGlobals "_law_tseen" = some (some (.ref f14))) (l14 : K.lookup f14 = some ⟨oc14, od14, .func (PySem.W.fnOf "_law_tseen" "_law_tseen" (defArgs s_tseen) (defBody s_tseen) (defScope s_tseen) .none kV14 dc14 pm14 an14 cd14 ct14), sl14⟩) (c14 : PySem.W.codeIn K cd14 "_law_tseen" = true) (k14 : PySem.W.keepIn K (.ref f14) = true)
    {f15 : Addr} {od15 an15 : Option Addr} {sl15 : Array (Option Value)} {oc15 kV15 dc15 pm15 cd15 ct15 : Value}
    (a15 : PySem.W.nsIn K mainGlobals "_law_whole" = some (some (.ref f15))) (l15 : K.lookup f15 = some ⟨oc15, od15, .func (PySem.W.fnOf "_law_whole" "_law_whole" (defArgs s_whole) (defBody s_whole) (defScope s_whole) .none kV15 dc15 pm15 an15 cd15 ct15), sl15⟩) (c15 : PySem.W.codeIn K cd15 "_law_whole" = true) (k15 : PySem.W.keepIn K (.ref f15) = true)
    {f16 : Addr} {od16 an16 : Option Addr} {sl16 : Array (Option Value)} {oc16 kV16 dc16 pm16 cd16 ct16 : Value}
    (a16 : PySem.W.nsIn K mainGlobals "_law_same" = some (some (.ref f16))) (l16 : K.lookup f16 = some ⟨oc16, od16, .func (PySem.W.fnOf "_law_same" "_law_same" (defArgs s_same) (defBody s_same) (defScope s_same) .none kV16 dc16 pm16 an16 cd16 ct16), sl16⟩) (c16 : PySem.W.codeIn K cd16 "_law_same" = true) (k16 : PySem.W.keepIn K (.ref f16) = true)
    {f17 : Addr} {od17 an17 : Option Addr} {sl17 : Array (Option Value)} {oc17 kV17 dc17 pm17 cd17 ct17 : Value}
    (a17 : PySem.W.nsIn K mainGlobals "_law_hand" = some (some (.ref f17))) (l17 : K.lookup f17 = some ⟨oc17, od17, .func (PySem.W.fnOf "_law_hand" "_law_hand" (defArgs s_hand) (defBody s_hand) (defScope s_hand) .none kV17 dc17 pm17 an17 cd17 ct17), sl17⟩) (c17 : PySem.W.codeIn K cd17 "_law_hand" = true) (k17 : PySem.W.keepIn K (.ref f17) = true)
    {f18 : Addr} {od18 an18 : Option Addr} {sl18 : Array (Option Value)} {oc18 kV18 dc18 pm18 cd18 ct18 : Value}
    (a18 : PySem.W.nsIn K mainGlobals "_law_some" = some (some (.ref f18))) (l18 : K.lookup f18 = some ⟨oc18, od18, .func (PySem.W.fnOf "_law_some" "_law_some" (defArgs s_some) (defBody s_some) (defScope s_some) .none kV18 dc18 pm18 an18 cd18 ct18), sl18⟩) (c18 : PySem.W.codeIn K cd18 "_law_some" = true) (k18 : PySem.W.keepIn K (.ref f18) = true)
    {f19 : Addr} {od19 an19 : Option Addr} {sl19 : Array (Option Value)} {oc19 kV19 dc19 pm19 cd19 ct19 : Value}
    (a19 : PySem.W.nsIn K mainGlobals "_law_world" = some (some (.ref f19))) (l19 : K.lookup f19 = some ⟨oc19, od19, .func (PySem.W.fnOf "_law_world" "_law_world" (defArgs s_world) (defBody s_world) (defScope s_world) .none kV19 dc19 pm19 an19 cd19 ct19), sl19⟩) (c19 : PySem.W.codeIn K cd19 "_law_world" = true) (k19 : PySem.W.keepIn K (.ref f19) = true)
    {f20 : Addr} {od20 an20 : Option Addr} {sl20 : Array (Option Value)} {oc20 kV20 dc20 pm20 cd20 ct20 : Value}
    (a20 : PySem.W.nsIn K mainGlobals "_law_tmay" = some (some (.ref f20))) (l20 : K.lookup f20 = some ⟨oc20, od20, .func (PySem.W.fnOf "_law_tmay" "_law_tmay" (defArgs s_tmay) (defBody s_tmay) (defScope s_tmay) .none kV20 dc20 pm20 an20 cd20 ct20), sl20⟩) (c20 : PySem.W.codeIn K cd20 "_law_tmay" = true) (k20 : PySem.W.keepIn K (.ref f20) = true)
    {f21 : Addr} {od21 an21 : Option Addr} {sl21 : Array (Option Value)} {oc21 kV21 dc21 pm21 cd21 ct21 : Value}
    (a21 : PySem.W.nsIn K mainGlobals "_law_tletter" = some (some (.ref f21))) (l21 : K.lookup f21 = some ⟨oc21, od21, .func (PySem.W.fnOf "_law_tletter" "_law_tletter" (defArgs s_tletter) (defBody s_tletter) (defScope s_tletter) .none kV21 dc21 pm21 an21 cd21 ct21), sl21⟩) (c21 : PySem.W.codeIn K cd21 "_law_tletter" = true) (k21 : PySem.W.keepIn K (.ref f21) = true)
    {f22 : Addr} {od22 an22 : Option Addr} {sl22 : Array (Option Value)} {oc22 kV22 dc22 pm22 cd22 ct22 : Value}
    (a22 : PySem.W.nsIn K mainGlobals "_law_tatom" = some (some (.ref f22))) (l22 : K.lookup f22 = some ⟨oc22, od22, .func (PySem.W.fnOf "_law_tatom" "_law_tatom" (defArgs s_tatom) (defBody s_tatom) (defScope s_tatom) .none kV22 dc22 pm22 an22 cd22 ct22), sl22⟩) (c22 : PySem.W.codeIn K cd22 "_law_tatom" = true) (k22 : PySem.W.keepIn K (.ref f22) = true)
    {f23 : Addr} {od23 an23 : Option Addr} {sl23 : Array (Option Value)} {oc23 kV23 dc23 pm23 cd23 ct23 : Value}
    (a23 : PySem.W.nsIn K mainGlobals "_law_ttail" = some (some (.ref f23))) (l23 : K.lookup f23 = some ⟨oc23, od23, .func (PySem.W.fnOf "_law_ttail" "_law_ttail" (defArgs s_ttail) (defBody s_ttail) (defScope s_ttail) .none kV23 dc23 pm23 an23 cd23 ct23), sl23⟩) (c23 : PySem.W.codeIn K cd23 "_law_ttail" = true) (k23 : PySem.W.keepIn K (.ref f23) = true)
    {f24 : Addr} {od24 an24 : Option Addr} {sl24 : Array (Option Value)} {oc24 kV24 dc24 pm24 cd24 ct24 : Value}
    (a24 : PySem.W.nsIn K mainGlobals "_law_trow" = some (some (.ref f24))) (l24 : K.lookup f24 = some ⟨oc24, od24, .func (PySem.W.fnOf "_law_trow" "_law_trow" (defArgs s_trow) (defBody s_trow) (defScope s_trow) .none kV24 dc24 pm24 an24 cd24 ct24), sl24⟩) (c24 : PySem.W.codeIn K cd24 "_law_trow" = true) (k24 : PySem.W.keepIn K (.ref f24) = true)
    {f25 : Addr} {od25 an25 : Option Addr} {sl25 : Array (Option Value)} {oc25 kV25 dc25 pm25 cd25 ct25 : Value}
    (a25 : PySem.W.nsIn K mainGlobals "_law_tdrawn" = some (some (.ref f25))) (l25 : K.lookup f25 = some ⟨oc25, od25, .func (PySem.W.fnOf "_law_tdrawn" "_law_tdrawn" (defArgs s_tdrawn) (defBody s_tdrawn) (defScope s_tdrawn) .none kV25 dc25 pm25 an25 cd25 ct25), sl25⟩) (c25 : PySem.W.codeIn K cd25 "_law_tdrawn" = true) (k25 : PySem.W.keepIn K (.ref f25) = true)
    {f26 : Addr} {od26 an26 : Option Addr} {sl26 : Array (Option Value)} {oc26 kV26 dc26 pm26 cd26 ct26 : Value}
    (a26 : PySem.W.nsIn K mainGlobals "_law_tbeside" = some (some (.ref f26))) (l26 : K.lookup f26 = some ⟨oc26, od26, .func (PySem.W.fnOf "_law_tbeside" "_law_tbeside" (defArgs s_tbeside) (defBody s_tbeside) (defScope s_tbeside) .none kV26 dc26 pm26 an26 cd26 ct26), sl26⟩) (c26 : PySem.W.codeIn K cd26 "_law_tbeside" = true) (k26 : PySem.W.keepIn K (.ref f26) = true)
    {f27 : Addr} {od27 an27 : Option Addr} {sl27 : Array (Option Value)} {oc27 kV27 dc27 pm27 cd27 ct27 : Value}
    (a27 : PySem.W.nsIn K mainGlobals "_law_trebuilt" = some (some (.ref f27))) (l27 : K.lookup f27 = some ⟨oc27, od27, .func (PySem.W.fnOf "_law_trebuilt" "_law_trebuilt" (defArgs s_trebuilt) (defBody s_trebuilt) (defScope s_trebuilt) .none kV27 dc27 pm27 an27 cd27 ct27), sl27⟩) (c27 : PySem.W.codeIn K cd27 "_law_trebuilt" = true) (k27 : PySem.W.keepIn K (.ref f27) = true)
    {f28 : Addr} {od28 an28 : Option Addr} {sl28 : Array (Option Value)} {oc28 kV28 dc28 pm28 cd28 ct28 : Value}
    (a28 : PySem.W.nsIn K mainGlobals "_law_tranked" = some (some (.ref f28))) (l28 : K.lookup f28 = some ⟨oc28, od28, .func (PySem.W.fnOf "_law_tranked" "_law_tranked" (defArgs s_tranked) (defBody s_tranked) (defScope s_tranked) .none kV28 dc28 pm28 an28 cd28 ct28), sl28⟩) (c28 : PySem.W.codeIn K cd28 "_law_tranked" = true) (k28 : PySem.W.keepIn K (.ref f28) = true)
    {f29 : Addr} {od29 an29 : Option Addr} {sl29 : Array (Option Value)} {oc29 kV29 dc29 pm29 cd29 ct29 : Value}
    (a29 : PySem.W.nsIn K mainGlobals "_law_tscheme" = some (some (.ref f29))) (l29 : K.lookup f29 = some ⟨oc29, od29, .func (PySem.W.fnOf "_law_tscheme" "_law_tscheme" (defArgs s_tscheme) (defBody s_tscheme) (defScope s_tscheme) .none kV29 dc29 pm29 an29 cd29 ct29), sl29⟩) (c29 : PySem.W.codeIn K cd29 "_law_tscheme" = true) (k29 : PySem.W.keepIn K (.ref f29) = true)
    {f30 : Addr} {od30 an30 : Option Addr} {sl30 : Array (Option Value)} {oc30 kV30 dc30 pm30 cd30 ct30 : Value}
    (a30 : PySem.W.nsIn K mainGlobals "_law_tmoved" = some (some (.ref f30))) (l30 : K.lookup f30 = some ⟨oc30, od30, .func (PySem.W.fnOf "_law_tmoved" "_law_tmoved" (defArgs s_tmoved) (defBody s_tmoved) (defScope s_tmoved) .none kV30 dc30 pm30 an30 cd30 ct30), sl30⟩) (c30 : PySem.W.codeIn K cd30 "_law_tmoved" = true) (k30 : PySem.W.keepIn K (.ref f30) = true)
    {f31 : Addr} {od31 an31 : Option Addr} {sl31 : Array (Option Value)} {oc31 kV31 dc31 pm31 cd31 ct31 : Value}
    (a31 : PySem.W.nsIn K mainGlobals "_law_numbering" = some (some (.ref f31))) (l31 : K.lookup f31 = some ⟨oc31, od31, .func (PySem.W.fnOf "_law_numbering" "_law_numbering" (defArgs s_numbering) (defBody s_numbering) (defScope s_numbering) .none kV31 dc31 pm31 an31 cd31 ct31), sl31⟩) (c31 : PySem.W.codeIn K cd31 "_law_numbering" = true) (k31 : PySem.W.keepIn K (.ref f31) = true)
    {f32 : Addr} {od32 an32 : Option Addr} {sl32 : Array (Option Value)} {oc32 kV32 dc32 pm32 cd32 ct32 : Value}
    (a32 : PySem.W.nsIn K mainGlobals "_law_asked_of" = some (some (.ref f32))) (l32 : K.lookup f32 = some ⟨oc32, od32, .func (PySem.W.fnOf "_law_asked_of" "_law_asked_of" (defArgs s_asked_of) (defBody s_asked_of) (defScope s_asked_of) .none kV32 dc32 pm32 an32 cd32 ct32), sl32⟩) (c32 : PySem.W.codeIn K cd32 "_law_asked_of" = true) (k32 : PySem.W.keepIn K (.ref f32) = true)
    {f33 : Addr} {od33 an33 : Option Addr} {sl33 : Array (Option Value)} {oc33 kV33 dc33 pm33 cd33 ct33 : Value}
    (a33 : PySem.W.nsIn K mainGlobals "law" = some (some (.ref f33))) (l33 : K.lookup f33 = some ⟨oc33, od33, .func (PySem.W.fnOf "law" "law" (defArgs s_law) (defBody s_law) (defScope s_law) .none kV33 dc33 pm33 an33 cd33 ct33), sl33⟩) (c33 : PySem.W.codeIn K cd33 "law" = true) (k33 : PySem.W.keepIn K (.ref f33) = true)
    (z_abs : PySem.W.nsIn K mainGlobals "abs" = some none)
    (z_all : PySem.W.nsIn K mainGlobals "all" = some none)
    (z_bool : PySem.W.nsIn K mainGlobals "bool" = some none)
    (z_enumerate : PySem.W.nsIn K mainGlobals "enumerate" = some none)
    (z_int : PySem.W.nsIn K mainGlobals "int" = some none)
    (z_isinstance : PySem.W.nsIn K mainGlobals "isinstance" = some none)
    (z_len : PySem.W.nsIn K mainGlobals "len" = some none)
    (z_list : PySem.W.nsIn K mainGlobals "list" = some none)
    (z_range : PySem.W.nsIn K mainGlobals "range" = some none)
    (z_set : PySem.W.nsIn K mainGlobals "set" = some none)
    (z_sorted : PySem.W.nsIn K mainGlobals "sorted" = some none)
    (z_str : PySem.W.nsIn K mainGlobals "str" = some none)
    (z_tuple : PySem.W.nsIn K mainGlobals "tuple" = some none)
    (z_zip : PySem.W.nsIn K mainGlobals "zip" = some none)
    {fc0 : Addr} {tc0_0 tc0_1 tc0_2 : Tok} {nc0 : Nat} {sc0 : Array (Option Value)}
    (x_ROW_WORDS : PySem.W.nsIn K mainGlobals "ROW_WORDS" = some (some (.ref fc0))) (y_ROW_WORDS : K.lookup fc0 = some ⟨.type "tuple", none, .seq #[.str "record" tc0_0, .str "variant" tc0_1, .str "row" tc0_2] nc0, sc0⟩)
    : ∃ fd : FuncData, (∀ (s : Shared) (v : Value), BindsTo s fd ⟨[v], []⟩ [("_law_script", v)]) ∧ ∀ base : Heap, K.In base → base.Ns mainGlobals mg → FnOk P w K mg base CX0 67 fa fd ["_law_script"] (spLaw3 K) := by
  obtain ⟨T, e, hb⟩ := tp_mk X G hfa a0 l0 c0 k0 a1 l1 c1 k1 t1 a2 l2 c2 k2 a3 l3 c3 k3 a4 l4 c4 k4 a5 l5 c5 k5 a6 l6 c6 k6 a7 l7 c7 k7 a8 l8 c8 k8 t8 a9 l9 c9 k9 a10 l10 c10 k10 a11 l11 c11 k11 a12 l12 c12 k12 a13 l13 c13 k13 a14 l14 c14 k14 a15 l15 c15 k15 a16 l16 c16 k16 a17 l17 c17 k17 a18 l18 c18 k18 a19 l19 c19 k19 a20 l20 c20 k20 a21 l21 c21 k21 a22 l22 c22 k22 a23 l23 c23 k23 a24 l24 c24 k24 a25 l25 c25 k25 a26 l26 c26 k26 a27 l27 c27 k27 a28 l28 c28 k28 a29 l29 c29 k29 a30 l30 c30 k30 a31 l31 c31 k31 a32 l32 c32 k32 a33 l33 c33 k33 z_abs z_all z_bool z_enumerate z_int z_isinstance z_len z_list z_range z_set z_sorted z_str z_tuple z_zip x_ROW_WORDS y_ROW_WORDS
  subst e
  exact ⟨T.d_law, hb, fun base _ _ => ok_law T law13⟩
end
end EA
open PySem PySem.W PyProof.Rows
set_option maxRecDepth 100000 in
set_option maxHeartbeats 0 in
theorem PySem.Challenge.cw_eacharm_k13_one_form_of_a_scheme_holds : PySem.Challenge.rw_eacharm_k13_one_form_of_a_scheme.Holds := by
  w_on; o_law; k_head; (case hw => w_witness2)
  k_fill
  refine L2.walk_of (l := PySem.Challenge.rw_eacharm_k13_one_form_of_a_scheme) (n := 63) (k := 67) (x := "_law_script") (CX := fun _ => L2.CX0) (sp := fun w => EA.spLaw3 _) rfl (by decide) rfl ⟨rfl, by decide, by decide⟩ (fun w h Y => PySem.W.kIn_of Y) ?F (fun _ _ a ns hl _ hS => ⟨a, ns, rfl, hS, hl, fun _ => rfl⟩) (fun _ _ _ _ _ h => h)
  case F =>
    intro w mg fa h KX G hmg
    refine' EA.all_mk KX G hmg ?a0 ?l0 ?c0 ?k0 ?a1 ?l1 ?c1 ?k1 ?t1 ?a2 ?l2 ?c2 ?k2 ?a3 ?l3 ?c3 ?k3 ?a4 ?l4 ?c4 ?k4 ?a5 ?l5 ?c5 ?k5 ?a6 ?l6 ?c6 ?k6 ?a7 ?l7 ?c7 ?k7 ?a8 ?l8 ?c8 ?k8 ?t8 ?a9 ?l9 ?c9 ?k9 ?a10 ?l10 ?c10 ?k10 ?a11 ?l11 ?c11 ?k11 ?a12 ?l12 ?c12 ?k12 ?a13 ?l13 ?c13 ?k13 ?a14 ?l14 ?c14 ?k14 ?a15 ?l15 ?c15 ?k15 ?a16 ?l16 ?c16 ?k16 ?a17 ?l17 ?c17 ?k17 ?a18 ?l18 ?c18 ?k18 ?a19 ?l19 ?c19 ?k19 ?a20 ?l20 ?c20 ?k20 ?a21 ?l21 ?c21 ?k21 ?a22 ?l22 ?c22 ?k22 ?a23 ?l23 ?c23 ?k23 ?a24 ?l24 ?c24 ?k24 ?a25 ?l25 ?c25 ?k25 ?a26 ?l26 ?c26 ?k26 ?a27 ?l27 ?c27 ?k27 ?a28 ?l28 ?c28 ?k28 ?a29 ?l29 ?c29 ?k29 ?a30 ?l30 ?c30 ?k30 ?a31 ?l31 ?c31 ?k31 ?a32 ?l32 ?c32 ?k32 ?a33 ?l33 ?c33 ?k33 ?z_abs ?z_all ?z_bool ?z_enumerate ?z_int ?z_isinstance ?z_len ?z_list ?z_range ?z_set ?z_sorted ?z_str ?z_tuple ?z_zip ?x_ROW_WORDS ?y_ROW_WORDS
    (case a0 => k_is)
    (case l0 => k_is)
    (case c0 => k_is)
    (case k0 => k_is)
    (case a1 => k_is)
    (case l1 => k_is)
    (case c1 => k_is)
    (case k1 => k_is)
    (case t1 => k_is)
    (case a2 => k_is)
    (case l2 => k_is)
    (case c2 => k_is)
    (case k2 => k_is)
    (case a3 => k_is)
    (case l3 => k_is)
    (case c3 => k_is)
    (case k3 => k_is)
    (case a4 => k_is)
    (case l4 => k_is)
    (case c4 => k_is)
    (case k4 => k_is)
    (case a5 => k_is)
    (case l5 => k_is)
    (case c5 => k_is)
    (case k5 => k_is)
    (case a6 => k_is)
    (case l6 => k_is)
    (case c6 => k_is)
    (case k6 => k_is)
    (case a7 => k_is)
    (case l7 => k_is)
    (case c7 => k_is)
    (case k7 => k_is)
    (case a8 => k_is)
    (case l8 => k_is)
    (case c8 => k_is)
    (case k8 => k_is)
    (case t8 => k_is)
    (case a9 => k_is)
    (case l9 => k_is)
    (case c9 => k_is)
    (case k9 => k_is)
    (case a10 => k_is)
    (case l10 => k_is)
    (case c10 => k_is)
    (case k10 => k_is)
    (case a11 => k_is)
    (case l11 => k_is)
    (case c11 => k_is)
    (case k11 => k_is)
    (case a12 => k_is)
    (case l12 => k_is)
    (case c12 => k_is)
    (case k12 => k_is)
    (case a13 => k_is)
    (case l13 => k_is)
    (case c13 => k_is)
    (case k13 => k_is)
    (case a14 => k_is)
    (case l14 => k_is)
    (case c14 => k_is)
    (case k14 => k_is)
    (case a15 => k_is)
    (case l15 => k_is)
    (case c15 => k_is)
    (case k15 => k_is)
    (case a16 => k_is)
    (case l16 => k_is)
    (case c16 => k_is)
    (case k16 => k_is)
    (case a17 => k_is)
    (case l17 => k_is)
    (case c17 => k_is)
    (case k17 => k_is)
    (case a18 => k_is)
    (case l18 => k_is)
    (case c18 => k_is)
    (case k18 => k_is)
    (case a19 => k_is)
    (case l19 => k_is)
    (case c19 => k_is)
    (case k19 => k_is)
    (case a20 => k_is)
    (case l20 => k_is)
    (case c20 => k_is)
    (case k20 => k_is)
    (case a21 => k_is)
    (case l21 => k_is)
    (case c21 => k_is)
    (case k21 => k_is)
    (case a22 => k_is)
    (case l22 => k_is)
    (case c22 => k_is)
    (case k22 => k_is)
    (case a23 => k_is)
    (case l23 => k_is)
    (case c23 => k_is)
    (case k23 => k_is)
    (case a24 => k_is)
    (case l24 => k_is)
    (case c24 => k_is)
    (case k24 => k_is)
    (case a25 => k_is)
    (case l25 => k_is)
    (case c25 => k_is)
    (case k25 => k_is)
    (case a26 => k_is)
    (case l26 => k_is)
    (case c26 => k_is)
    (case k26 => k_is)
    (case a27 => k_is)
    (case l27 => k_is)
    (case c27 => k_is)
    (case k27 => k_is)
    (case a28 => k_is)
    (case l28 => k_is)
    (case c28 => k_is)
    (case k28 => k_is)
    (case a29 => k_is)
    (case l29 => k_is)
    (case c29 => k_is)
    (case k29 => k_is)
    (case a30 => k_is)
    (case l30 => k_is)
    (case c30 => k_is)
    (case k30 => k_is)
    (case a31 => k_is)
    (case l31 => k_is)
    (case c31 => k_is)
    (case k31 => k_is)
    (case a32 => k_is)
    (case l32 => k_is)
    (case c32 => k_is)
    (case k32 => k_is)
    (case a33 => k_is)
    (case l33 => k_is)
    (case c33 => k_is)
    (case k33 => k_is)
    (case z_abs => k_is)
    (case z_all => k_is)
    (case z_bool => k_is)
    (case z_enumerate => k_is)
    (case z_int => k_is)
    (case z_isinstance => k_is)
    (case z_len => k_is)
    (case z_list => k_is)
    (case z_range => k_is)
    (case z_set => k_is)
    (case z_sorted => k_is)
    (case z_str => k_is)
    (case z_tuple => k_is)
    (case z_zip => k_is)
    (case x_ROW_WORDS => k_is)
    (case y_ROW_WORDS => k_is)
