import PyProof.Rows.All
import HandS.ForMost
import HandS.IsInst
import HandS.Flow
import HandS.More
import HandS.TupAny
import HandS.Lambda
import KE.DataEq
import KE.DataCmp
import KE.DataAny
import KE.DataMinMax
import KE.SortData
import HandS.SortRule
import HandS.Wide
import HandS.Strs
import HandS.Set
import HandS.SetFor
import HandS.Text
import HandS.Rev
import HandS.SetBool
import HandS.Deep
import HandS.Dict
import KE.KDictPairs
import Wide.All
import OpenK.AllK
import Wide.FinOn
import PyProof.ZipIter
import KE.KDictZip
import HandS.Zip0
import PyProof.ListNew
import HandS.ListItems
import PyProof.ListStr
import HandS.TupMul
import PyProof.TupleOfGen
import HandS.Defaults
import HandS.Finally
import HandS.Iter
import HandS.DictComp
import HandS.Conv
import HandS.SetKeys
import KE.GoesEnum
import KE.KTurns
import KE.SortKeyHeap
import HandS.EndTab
import HandS.GenList
import PyProof.ReprRoads
import PySem.Challenge.RW_eacharm_k01_settings_of_a_condition
set_option Elab.async false
set_option linter.all false
set_option maxRecDepth 100000
set_option maxHeartbeats 8000000
namespace EA
open PySem PySem.Spec PyProof.Rows L2
/-! ### tuples that are known to have no dict of their own -/
/-- a tuple of the heap, or of the kept part, without a dict -/
def PlT (K : PySem.W.Frag) (G : Hp) (a : Addr) (xs : List V) : Prop :=
  (∃ o : Obj, G a = some (.frz o (.tup xs)) ∧ o.dict = none) ∨
    ∃ (o : Obj) (its : Array Value) (n : Nat), K.lookup a = some o ∧ o.cls = .type "tuple" ∧ o.data = .seq its n ∧ its.size ≤ sizeLine ∧ Vals xs its.toList ∧ o.dict = none
theorem PlT.sq {K : PySem.W.Frag} {G : Hp} {a : Addr} {xs : List V} (h : PlT K G a xs) : SqT K G a xs := by
  rcases h with ⟨o, h, _⟩ | ⟨o, its, n, h1, h2, h3, h4, h5, _⟩
  · exact .inl (.inr ⟨o, h⟩)
  · exact .inr ⟨o, its, n, h1, h2, h3, h4, h5⟩
theorem PlT.up {K : PySem.W.Frag} {G G' : Hp} {a : Addr} {xs : List V} (e : ∀ b o, G b = some o → G' b = some o) (h : PlT K G a xs) : PlT K G' a xs := by
  rcases h with ⟨o, h, d⟩ | h
  · exact .inl ⟨o, e _ _ h, d⟩
  · exact .inr h
/-- a new tuple -/
abbrev NewT (H : Hp) (xs : List V) (Q : VK) : Prop := ∀ (p : Addr) (o : Obj), o.dict = none → H p = none → Q (.ref p) (upd H p (.frz o (.tup xs)))
section
variable {X : Cx}
theorem laidT {pins : List (Addr × Obj)} {σ : L2.St} {H : Hp} {s : Shared} {xs : List V} {its : List Value} (I : Inv X pins σ H s) (hz : xs.length ≤ sizeLine) (r : Vals xs its) :
    Inv X pins σ (upd H s.heap.objs.size (.frz { cls := .type "tuple", data := .seq its.toArray } (.tup xs))) { s with heap := s.heap.push { cls := .type "tuple", data := .seq its.toArray } } :=
  I.laid (t' := s.toks) (fun b o e => Heap.get?_push_of_some _ e) (Nat.le_refl _) ⟨Heap.get?_push_size _ rfl, hz, its, r, IsTup.new _ _⟩
variable {es : List Expr} {t : TA} {pos : Pos}
def tTupP (t : TA) : TE := fun σ H Q => t σ H fun xs H1 => xs.length ≤ sizeLine ∧ NewT H1 xs Q
theorem pe_tupP {x1} (h : PA X es t) : PE X (.Tuple es x1 pos) (tTupP t) := by
  refine ⟨fun pins s σ H Q I hq => ?_⟩
  refine wpAny_Tuple_spliced (thn (h.run pos pins s σ H _ I hq) fun us s1 ⟨xs, H1, I1, r, z, q⟩ => ⟨by rw [← r.length]; exact z, ?_⟩)
  have hf : H1 s1.heap.objs.size = none := I1.hok.fresh (Nat.le_refl _)
  exact ⟨.ref s1.heap.objs.size, _, laidT I1 z r, rfl, q _ _ rfl hf⟩
/-- t + u -/
def rCatP (K : PySem.W.Frag) : R2 := fun x y H Q => ∃ a b xs ys, x = .ref a ∧ y = .ref b ∧ SqT K H a xs ∧ SqT K H b ys ∧ xs.length + ys.length ≤ sizeLine ∧
  (xs = [] → Q (.ref b) H) ∧ (xs ≠ [] → ys = [] → Q (.ref a) H) ∧ (xs ≠ [] → ys ≠ [] → NewT H (xs ++ ys) Q)
theorem op_catP : OpR X (binaryOp .Add) (rCatP X.K) := by
  intro pins s σ H x y v u Q I rx ry h
  obtain ⟨a, b, xs, ys, rfl, rfl, ha, hb, hz, q0, q1, q2⟩ := h
  cases rx
  cases ry
  obtain ⟨its, r1, p1, _⟩ := I.tuple ha
  obtain ⟨its2, r2, p2, _⟩ := I.tuple hb
  by_cases hx : xs = []
  · subst hx
    cases r1
    exact cat_tup0 p1 p2 ⟨.ref b, H, I, rfl, q0 rfl⟩
  · refine HT.cat_tup p1 p2 (fun z => hx (r1.nil_iff.mp z)) (fun z => ⟨.ref a, H, I, rfl, q1 hx (r2.nil_iff.mp z)⟩) (fun z => ?_) (by rw [← r1.length, ← r2.length]; exact hz)
    exact ⟨.ref s.heap.objs.size, _, laidT I (by rw [List.length_append]; exact hz) (r1.append r2), rfl, q2 hx (fun w => z (r2.nil_iff.mpr w)) _ _ rfl (I.hok.fresh (Nat.le_refl _))⟩
/-- t[lo:hi] -/
def rSlP (K : PySem.W.Frag) : V → Option Int → Option Int → Hp → VK → Prop := fun x lo hi H Q => ∃ a xs, x = .ref a ∧ SqT K H a xs ∧
  (HT.sIx xs.length 0 lo = 0 ∧ HT.sIx xs.length xs.length hi = xs.length → Q (.ref a) H) ∧ (¬ (HT.sIx xs.length 0 lo = 0 ∧ HT.sIx xs.length xs.length hi = xs.length) → NewT H (cutV xs lo hi) Q)
theorem sl_tupP : SlR X (rSlP X.K) := by
  intro pins s σ H x v vl vu lo hi sl Q I rx hs pl pu h
  obtain ⟨a, xs, rfl, hx, q1, q2⟩ := h
  cases rx
  obtain ⟨its, r, ht, hz⟩ := I.tuple hx
  have hlen : its.toArray.size = xs.length := by rw [List.size_toArray]; exact r.length.symm
  refine ⟨"tuple", _, PyProof.Rows.slot_tuple_getitem.lookup, ht.typeIs, ?_⟩
  by_cases hw : HT.sIx xs.length 0 lo = 0 ∧ HT.sIx xs.length xs.length hi = xs.length
  · exact getItem_tuple_whole ht hs pl pu (by rw [hlen]; exact hw) ⟨.ref a, H, I, rfl, q1 hw⟩
  · refine HT.getItem_tuple_cut ht hs pl pu (by rw [hlen]; exact hw) ?_ (by rw [hlen]; exact hz)
    rw [hlen]
    exact ⟨.ref s.heap.objs.size, _, laidT I (Nat.le_trans (cutV_length xs lo hi) hz) ((r.drop (HT.sIx xs.length 0 lo)).take (HT.sIx xs.length xs.length hi - HT.sIx xs.length 0 lo)), rfl, q2 hw _ _ rfl (I.hok.fresh (Nat.le_refl _))⟩
/-- tuple(xs) -/
def rTupP (K : PySem.W.Frag) : List V → Hp → VK → Prop := fun xs H Q => ∃ p ys, xs = [.ref p] ∧ ((SqL K H p ys ∧ NewT H ys Q) ∨ SqT K H p ys ∧ Q (.ref p) H)
theorem call_tupP : CallR X (.type "tuple") (rTupP X.K) := by
  intro pins s σ H xs us Q I r h
  obtain ⟨p, ys, rfl, h⟩ := h
  obtain ⟨u, rfl, rx⟩ := vals1 r
  cases rx
  rcases h with ⟨hq, q⟩ | ⟨hq, q⟩
  · obtain ⟨its, r', pl, hz⟩ := I.list hq
    have hlen := r'.length
    refine call_tuple_list pl.isList (fun h' kp => ?_) (by simp only [List.size_toArray] <;> omega)
    have I1 : Inv X pins σ H { s with heap := h' } := I.kept (t' := s.toks) kp
    exact ⟨.ref h'.objs.size, _, laidT I1 hz r', rfl, q _ _ rfl (I1.hok.fresh (Nat.le_refl _))⟩
  · obtain ⟨its, r', pl, hz⟩ := I.tuple hq
    exact call_tuple_same pl ⟨.ref p, H, I, rfl, q⟩
end
end EA
namespace EA
open PySem PySem.Spec PyProof.Rows L2
/-! ### data, in the part of the heap that stays as it is -/
mutual
inductive Da (K : PySem.W.Frag) (G : Hp) : V → PyData → Prop
  | non : Da K G .non .none
  | bl (b : Bool) : Da K G (.bl b) (.bool b)
  | int (i : Int) : Da K G (.int i) (.int i)
  | str (x : Str) : Da K G (.str x) (.str x)
  | lst {a : Addr} {xs : List V} {ds : List PyData} : G a = some (.lst xs) → DaA K G xs ds → Da K G (.ref a) (.list ds)
  | tup {a : Addr} {xs : List V} {ds : List PyData} : PlT K G a xs → DaA K G xs ds → Da K G (.ref a) (.tuple ds)
inductive DaA (K : PySem.W.Frag) (G : Hp) : List V → List PyData → Prop
  | nil : DaA K G [] []
  | cons {v : V} {vs : List V} {d : PyData} {ds : List PyData} : Da K G v d → DaA K G vs ds → DaA K G (v :: vs) (d :: ds)
end
theorem sqT_up {K : PySem.W.Frag} {H H' : Hp} {a : Addr} {xs : List V} (e : Same H H') (h : SqT K H a xs) : SqT K H' a xs := by
  rcases h with (h | ⟨o, h⟩) | h
  · exact .inl (.inl (e _ _ h))
  · exact .inl (.inr ⟨o, e _ _ h⟩)
  · exact .inr h
section
variable {G G' H : Hp} {K : PySem.W.Frag}
mutual
theorem Da.up (s : Same G G') : ∀ {d : PyData} {v : V}, Da K G v d → Da K G' v d
  | .none, _, .non => .non
  | .bool _, _, .bl b => .bl b
  | .int _, _, .int i => .int i
  | .str _, _, .str x => .str x
  | .list _, _, .lst e h => .lst (s _ _ e) (DaA.up s h)
  | .tuple _, _, .tup e h => .tup (e.up s) (DaA.up s h)
theorem DaA.up (s : Same G G') : ∀ {ds : List PyData} {vs : List V}, DaA K G vs ds → DaA K G' vs ds
  | [], _, .nil => .nil
  | _ :: _, _, .cons h t => .cons (Da.up s h) (DaA.up s t)
end
mutual
theorem Da.dp : ∀ {d : PyData} {v : V}, Da K G v d → Dp K G v d
  | .none, _, .non => .non
  | .bool _, _, .bl b => .bl b
  | .int _, _, .int i => .int i
  | .str _, _, .str x => .str x
  | .list _, _, .lst e h => .lst (SqL.of e) (DaA.dp h)
  | .tuple _, _, .tup e h => .tup e.sq (DaA.dp h)
theorem DaA.dp : ∀ {ds : List PyData} {vs : List V}, DaA K G vs ds → DpAll K G vs ds
  | [], _, .nil => .nil
  | _ :: _, _, .cons h t => .cons (Da.dp h) (DaA.dp t)
end
theorem DaA.len : ∀ {vs : List V} {ds : List PyData}, DaA K G vs ds → vs.length = ds.length
  | _, _, .nil => rfl
  | _, _, .cons _ t => by rw [List.length_cons, List.length_cons, DaA.len t]
theorem DaA.get : ∀ {vs : List V} {ds : List PyData} {i : Nat} {d : PyData}, DaA K G vs ds → ds[i]? = some d → ∃ v, vs[i]? = some v ∧ Da K G v d
  | _, _, _, _, .nil, e => by simp at e
  | _, _, 0, _, .cons h _, e => by simp at e; subst e; exact ⟨_, rfl, h⟩
  | _, _, i + 1, d, .cons _ t, e => by
    obtain ⟨v, h1, h2⟩ := DaA.get (i := i) (d := d) t (by simpa using e)
    exact ⟨v, by simpa using h1, h2⟩
theorem DaA.app : ∀ {vs ws : List V} {ds es : List PyData}, DaA K G vs ds → DaA K G ws es → DaA K G (vs ++ ws) (ds ++ es)
  | _, _, _, _, .nil, h => h
  | _, _, _, _, .cons h t, h2 => .cons h (DaA.app t h2)
theorem DaA.take : ∀ {vs : List V} {ds : List PyData} (n : Nat), DaA K G vs ds → DaA K G (vs.take n) (ds.take n)
  | _, _, 0, _ => .nil
  | _, _, _ + 1, .nil => .nil
  | _, _, n + 1, .cons h t => .cons h (DaA.take n t)
theorem DaA.drop : ∀ {vs : List V} {ds : List PyData} (n : Nat), DaA K G vs ds → DaA K G (vs.drop n) (ds.drop n)
  | _, _, 0, h => h
  | _, _, _ + 1, .nil => .nil
  | _, _, n + 1, .cons _ t => DaA.drop n t
theorem DaA.erase : ∀ {vs : List V} {ds : List PyData} (n : Nat), DaA K G vs ds → DaA K G (vs.eraseIdx n) (ds.eraseIdx n)
  | _, _, _, .nil => .nil
  | _, _, 0, .cons _ t => t
  | _, _, n + 1, .cons h t => .cons h (DaA.erase n t)
theorem DaA.set {v : V} {d : PyData} (h : Da K G v d) : ∀ {vs : List V} {ds : List PyData} (n : Nat), DaA K G vs ds → DaA K G (vs.set n v) (ds.set n d)
  | _, _, _, .nil => .nil
  | _, _, 0, .cons _ t => .cons h t
  | _, _, n + 1, .cons k t => .cons k (DaA.set h n t)
theorem DaA.ints : ∀ (bs : List Int), DaA K G (bs.map V.int) (bs.map PyData.int)
  | [] => .nil
  | b :: r => .cons (.int b) (DaA.ints r)
theorem DaA.strs : ∀ (bs : List Str), DaA K G (bs.map V.str) (bs.map PyData.str)
  | [] => .nil
  | b :: r => .cons (.str b) (DaA.strs r)
theorem DaA.ints_inv : ∀ {bs : List Int} {vs : List V}, DaA K G vs (bs.map PyData.int) → vs = bs.map V.int
  | [], _, .nil => rfl
  | _ :: _, _, .cons (.int _) t => by rw [List.map_cons, DaA.ints_inv t]
theorem DaA.strs_inv : ∀ {bs : List Str} {vs : List V}, DaA K G vs (bs.map PyData.str) → vs = bs.map V.str
  | [], _, .nil => rfl
  | _ :: _, _, .cons (.str _) t => by rw [List.map_cons, DaA.strs_inv t]
theorem Da.list_inv {v : V} {ds : List PyData} (h : Da K G v (.list ds)) : ∃ a xs, v = .ref a ∧ G a = some (.lst xs) ∧ DaA K G xs ds := by
  cases h with
  | lst e t => exact ⟨_, _, rfl, e, t⟩
theorem Da.tup_inv {v : V} {ds : List PyData} (h : Da K G v (.tuple ds)) : ∃ a xs, v = .ref a ∧ SqT K G a xs ∧ DaA K G xs ds := by
  cases h with
  | tup e t => exact ⟨_, _, rfl, e.sq, t⟩
theorem Da.int_inv {v : V} {i : Int} (h : Da K G v (.int i)) : v = .int i := by cases h; rfl
theorem Da.bool_inv {v : V} {i : Bool} (h : Da K G v (.bool i)) : v = .bl i := by cases h; rfl
theorem Da.str_inv {v : V} {i : Str} (h : Da K G v (.str i)) : v = .str i := by cases h; rfl
end
/-! ### worlds, values, stores -/
/-- the part that stays, the heap, the changeable objects' addresses -/
structure Wd where
  G : Hp
  H : Hp
  ι : List Addr
/-- a value: data, a changeable object of the store, the script, a type -/
inductive W3 where
  | d (x : PyData)
  | r (i : Nat)
  | sc (xs : List Int)
  | ty (n : String)
/-- a changeable object -/
inductive MO where
  | lst (xs : List PyData)
  | dic (kvs : List (Key × PyData))
  | gone
  | rcd (kvs : List (Str × W3))
  | nls (ws : List W3)
  | ndc (kvs : List (Key × W3))
  | ldic (kvs : List (Key × PyData))
  | tab (P : Addr) (q : Str)
  | ins (n : Str) (kvs : List (Str × W3))
/-- the objects that it speaks of stand ahead of place n -/
def MO.inn (n : Nat) : MO → Prop
  | .nls ws => ∀ j, W3.r j ∈ ws → j < n
  | .ndc kvs => ∀ k j, (k, W3.r j) ∈ kvs → j < n
  | .ins _ kvs => ∀ s j, (s, W3.r j) ∈ kvs → j < n
  | _ => True
/-- what a store came to, seen from what it was: it may be cut there -/
def cutRel (S0 S : List MO) : Prop := ∀ (i : Nat) (o : MO), i < S0.length → S[i]? = some o → o.inn S0.length ∨ S0[i]? = some o
noncomputable instance instCutRel (S0 S : List MO) : Decidable (cutRel S0 S) := Classical.propDecidable _
inductive DaK (K : PySem.W.Frag) (G : Hp) : List (Key × V) → List (Key × PyData) → Prop
  | nil : DaK K G [] []
  | cons {k : Key} {v : V} {d : PyData} {vs ds} : Da K G v d → DaK K G vs ds → DaK K G ((k, v) :: vs) ((k, d) :: ds)
theorem DaK.up {K : PySem.W.Frag} {G G' : Hp} (s : Same G G') {vs : List (Key × V)} {ds : List (Key × PyData)} (h : DaK K G vs ds) : DaK K G' vs ds := by
  induction h with
  | nil => exact .nil
  | cons h _ ih => exact .cons (h.up s) ih
def RW (K : PySem.W.Frag) (A : Wd) (v : V) : W3 → Prop
  | .d x => Da K A.G v x
  | .r i => ∃ a, A.ι[i]? = some a ∧ v = .ref a
  | .sc xs => ∃ a, v = .ref a ∧ SqL K A.G a (xs.map V.int)
  | .ty n => v = .ty n
/-- the entries of a dict whose keys are texts: values, also other objects of the store -/
inductive RcA (K : PySem.W.Frag) (A : Wd) : List (Key × V) → List (Str × W3) → Prop
  | nil : RcA K A [] []
  | cons {s : Str} {v : V} {w : W3} {ks : List (Key × V)} {kvs : List (Str × W3)} : RW K A v w → RcA K A ks kvs → RcA K A ((.inr s, v) :: ks) ((s, w) :: kvs)
inductive RWs (K : PySem.W.Frag) (A : Wd) : List V → List W3 → Prop
  | nil : RWs K A [] []
  | cons {v : V} {w : W3} {vs : List V} {ws : List W3} : RW K A v w → RWs K A vs ws → RWs K A (v :: vs) (w :: ws)
/-- the entries of a dict: values, also other objects of the store -/
inductive NdA (K : PySem.W.Frag) (A : Wd) : List (Key × V) → List (Key × W3) → Prop
  | nil : NdA K A [] []
  | cons {k : Key} {v : V} {w : W3} {ks : List (Key × V)} {kvs : List (Key × W3)} : RW K A v w → NdA K A ks kvs → NdA K A ((k, v) :: ks) ((k, w) :: kvs)
/-- the fields of an instance: values, also other objects of the store -/
inductive FsA (K : PySem.W.Frag) (A : Wd) : List (Str × V) → List (Str × W3) → Prop
  | nil : FsA K A [] []
  | cons {s : Str} {v : V} {w : W3} {ks : List (Str × V)} {kvs : List (Str × W3)} : RW K A v w → FsA K A ks kvs → FsA K A ((s, v) :: ks) ((s, w) :: kvs)
/-- the class of that name -/
def clsAt (K : PySem.W.Frag) (n : Str) (C : Addr) : Prop := PySem.W.nsIn K mainGlobals n = some (some (.ref C))
def OR (K : PySem.W.Frag) (A : Wd) (a : Addr) : MO → Prop
  | .lst xs => A.G a = none ∧ ∃ vs, A.H a = some (.lst vs) ∧ DaA K A.G vs xs
  | .dic kvs => A.G a = none ∧ ∃ ks, A.H a = some (.dK ks) ∧ DaK K A.G ks kvs
  | .gone => A.H a ≠ none ∧ ∀ b q, A.H a ≠ some (LamX.CodeO b q)
  | .rcd kvs => A.G a = none ∧ (∃ i, A.ι[i]? = some a ∧ ∀ s j, (s, W3.r j) ∈ kvs → j < i) ∧ ∃ ks, A.H a = some (.dK ks) ∧ RcA K A ks kvs
  | .ldic kvs => A.G a = none ∧ ∃ od ks, A.H a = some (.frz od (.dK ks)) ∧ DaK K A.G ks kvs
  | .nls ws => A.G a = none ∧ ∃ vs, A.H a = some (.lst vs) ∧ RWs K A vs ws
  | .ndc kvs => A.G a = none ∧ ∃ ks, A.H a = some (.dK ks) ∧ NdA K A ks kvs
  | .tab P q => a = P ∧ A.G a = none ∧ LamX.TabS A.H a q
  | .ins n kvs => A.G a = none ∧ ∃ C dx ks, clsAt K n C ∧ A.H a = some (.ins C dx ks) ∧ FsA K A ks kvs
structure Rl (K : PySem.W.Frag) (A : Wd) (S : List MO) : Prop where
  gh : Same A.G A.H
  nd : A.ι.Nodup
  len : A.ι.length = S.length
  ob : ∀ (i : Nat) (o : MO) (a : Addr), S[i]? = some o → A.ι[i]? = some a → OR K A a o
abbrev Sl := List (Option W3)
structure SR3 (K : PySem.W.Frag) (A : Wd) (σ : L2.St) (sl : Sl) : Prop where
  len : σ.length = sl.length
  at_ : ∀ (i : Nat) (w : W3), sl[i]? = some (some w) → ∃ v, σ[i]? = some (some v) ∧ RW K A v w
/-- no object that is locked -/
def nfz : Option HO → Bool
  | some (.frz _ _) => false
  | some (.ext _) => false
  | some (.tbl _) => false
  | _ => true
/-- from one world to a later one -/
structure Nx (A B : Wd) : Prop where
  gg : Same A.G B.G
  hh : ∀ b o, b ∉ A.ι → A.H b = some o → B.H b = some o
  nw : ∀ b, b ∉ A.ι → A.G b = none → A.H b ≠ none → B.G b = none
  dm : ∀ b, A.H b ≠ none → B.H b ≠ none
  pre : A.ι <+: B.ι
  fr : ∀ x ∈ B.ι, x ∈ A.ι ∨ A.H x = none
  lk : ∀ b od ks, A.H b = some (.frz od (.dK ks)) → B.H b = some (.frz od (.dK ks))
section
variable {K : PySem.W.Frag} {A B C : Wd} {S S' : List MO} {σ : L2.St} {sl : Sl} {v : V} {w : W3}
theorem Nx.refl (A : Wd) : Nx A A := ⟨Same.refl _, fun _ _ _ h => h, fun _ _ h _ => h, fun _ h => h, List.prefix_rfl, fun _ h => .inl h, fun _ _ _ h => h⟩
theorem Nx.trans (a : Nx A B) (b : Nx B C) : Nx A C where
  gg := a.gg.trans b.gg
  hh := fun x o hx e => b.hh x o (fun z => (a.fr x z).elim hx fun n => by rw [n] at e; cases e) (a.hh x o hx e)
  nw := fun x hx g h => b.nw x (fun z => (a.fr x z).elim hx h) (a.nw x hx g h) (a.dm x h)
  dm := fun x h => b.dm x (a.dm x h)
  pre := a.pre.trans b.pre
  fr := fun x hx => (b.fr x hx).elim (fun z => a.fr x z) fun n => .inr (by
    cases e : A.H x with
    | none => rfl
    | some u => exact absurd n (a.dm x (by rw [e]; exact fun z => nomatch z)))
  lk := fun x od ks h => b.lk x od ks (a.lk x od ks h)
theorem ix_pre {α : Type} {l m : List α} (p : l <+: m) {i : Nat} {a : α} (h : l[i]? = some a) : m[i]? = some a := by
  obtain ⟨t, rfl⟩ := p
  rw [List.getElem?_append_left (List.getElem?_eq_some_iff.mp h).1]
  exact h
theorem RW.mono (n : Nx A B) (h : RW K A v w) : RW K B v w := by
  cases w with
  | d x => exact Da.up n.gg h
  | r i => obtain ⟨a, h1, h2⟩ := h; exact ⟨a, ix_pre n.pre h1, h2⟩
  | sc xs => obtain ⟨a, h1, h2⟩ := h; exact ⟨a, h1, n.gg.seq h2⟩
  | ty n => exact h
/-- what a value needs: the frozen part and the store's places -/
structure Nv (A B : Wd) : Prop where
  gg : Same A.G B.G
  pre : A.ι <+: B.ι
/-- what an iterator needs: also that what is locked stays locked -/
structure Nw (A B : Wd) : Prop extends Nv A B where
  lk : ∀ b od ks, A.H b = some (.frz od (.dK ks)) → B.H b = some (.frz od (.dK ks))
instance : Coe (Nw A B) (Nv A B) := ⟨fun n => n.toNv⟩
theorem Nw.trans (a : Nw A B) (b : Nw B C) : Nw A C := ⟨⟨a.gg.trans b.gg, a.pre.trans b.pre⟩, fun x od ks h => b.lk x od ks (a.lk x od ks h)⟩
theorem Nx.toW (n : Nx A B) : Nw A B := ⟨⟨n.gg, n.pre⟩, n.lk⟩
theorem RW.monov (n : Nv A B) (h : RW K A v w) : RW K B v w := by
  cases w with
  | d x => exact Da.up n.gg h
  | r i => obtain ⟨a, h1, h2⟩ := h; exact ⟨a, ix_pre n.pre h1, h2⟩
  | sc xs => obtain ⟨a, h1, h2⟩ := h; exact ⟨a, h1, n.gg.seq h2⟩
  | ty n => exact h
theorem SR3.mono (n : Nx A B) (h : SR3 K A σ sl) : SR3 K B σ sl := ⟨h.len, fun i w e => by
  obtain ⟨v, h1, h2⟩ := h.at_ i w e
  exact ⟨v, h1, h2.mono n⟩⟩
theorem SR3.set (h : SR3 K A σ sl) (i : Nat) (r : RW K A v w) : SR3 K A (σ.set i (some v)) (sl.set i (some w)) := by
  refine ⟨by rw [List.length_set, List.length_set, h.len], fun j u e => ?_⟩
  by_cases hj : i = j
  · subst hj
    have hi : i < sl.length := by have := (List.getElem?_eq_some_iff.mp e).1; rwa [List.length_set] at this
    rw [List.getElem?_set_self hi] at e
    cases e
    exact ⟨v, List.getElem?_set_self (by rw [h.len]; exact hi), r⟩
  · rw [List.getElem?_set_ne hj] at e ⊢
    exact h.at_ j u e
/-- any live object's address is taken -/
theorem Rl.taken (R : Rl K A S) {a : Addr} (h : a ∈ A.ι) : A.H a ≠ none := by
  obtain ⟨i, hi, e⟩ := List.getElem_of_mem h
  have e2 : A.ι[i]? = some a := by rw [List.getElem?_eq_getElem hi, e]
  have hs : i < S.length := by rw [← R.len]; exact hi
  have o := R.ob i S[i] a (List.getElem?_eq_getElem hs) e2
  cases q : S[i] with
  | lst xs => rw [q] at o; obtain ⟨_, vs, h, _⟩ := o; rw [h]; exact fun z => nomatch z
  | dic xs => rw [q] at o; obtain ⟨_, vs, h, _⟩ := o; rw [h]; exact fun z => nomatch z
  | rcd xs => rw [q] at o; obtain ⟨_, _, vs, h, _⟩ := o; rw [h]; exact fun z => nomatch z
  | nls xs => rw [q] at o; obtain ⟨_, vs, h, _⟩ := o; rw [h]; exact fun z => nomatch z
  | ldic xs => rw [q] at o; obtain ⟨_, _, vs, h, _⟩ := o; rw [h]; exact fun z => nomatch z
  | ndc xs => rw [q] at o; obtain ⟨_, vs, h, _⟩ := o; rw [h]; exact fun z => nomatch z
  | tab P x => rw [q] at o; obtain ⟨_, _, ps, h, _⟩ := o; rw [h]; exact fun z => nomatch z
  | ins C xs => rw [q] at o; obtain ⟨_, _, _, vs, _, h, _⟩ := o; rw [h]; exact fun z => nomatch z
  | gone => rw [q] at o; exact o.1
theorem Rl.new (R : Rl K A S) {p : Addr} (n : A.H p = none) : p ∉ A.ι := fun z => R.taken z n
theorem RcA.monov (n : Nv A B) {ks : List (Key × V)} {kvs : List (Str × W3)} (h : RcA K A ks kvs) : RcA K B ks kvs := by
  induction h with
  | nil => exact .nil
  | cons h _ ih => exact .cons (h.monov n) ih
theorem RWs.monov (n : Nv A B) {vs : List V} {ws : List W3} (h : RWs K A vs ws) : RWs K B vs ws := by
  induction h with
  | nil => exact .nil
  | cons h _ ih => exact .cons (h.monov n) ih
theorem NdA.monov (n : Nv A B) {ks : List (Key × V)} {kvs : List (Key × W3)} (h : NdA K A ks kvs) : NdA K B ks kvs := by
  induction h with
  | nil => exact .nil
  | cons h _ ih => exact .cons (h.monov n) ih
theorem FsA.monov (n : Nv A B) {ks : List (Str × V)} {kvs : List (Str × W3)} (h : FsA K A ks kvs) : FsA K B ks kvs := by
  induction h with
  | nil => exact .nil
  | cons h _ ih => exact .cons (h.monov n) ih
theorem FsA.lt {ks : List (Str × V)} {kvs : List (Str × W3)} (h : FsA K A ks kvs) : ∀ k j, (k, W3.r j) ∈ kvs → j < A.ι.length := by
  induction h with
  | nil => exact fun k j z => nomatch z
  | cons hw _ ih =>
    intro k j z
    rcases List.mem_cons.mp z with z | z
    · cases z
      obtain ⟨a, ha, _⟩ := hw
      exact (List.getElem?_eq_some_iff.mp ha).1
    · exact ih k j z
theorem RWs.lt {vs : List V} {ws : List W3} (h : RWs K A vs ws) : ∀ j, W3.r j ∈ ws → j < A.ι.length := by
  induction h with
  | nil => exact fun j z => nomatch z
  | cons hw _ ih =>
    intro j z
    rcases List.mem_cons.mp z with z | z
    · subst z
      obtain ⟨a, ha, _⟩ := hw
      exact (List.getElem?_eq_some_iff.mp ha).1
    · exact ih j z
theorem NdA.lt {ks : List (Key × V)} {kvs : List (Key × W3)} (h : NdA K A ks kvs) : ∀ k j, (k, W3.r j) ∈ kvs → j < A.ι.length := by
  induction h with
  | nil => exact fun k j z => nomatch z
  | cons hw _ ih =>
    intro k j z
    rcases List.mem_cons.mp z with z | z
    · cases z
      obtain ⟨a, ha, _⟩ := hw
      exact (List.getElem?_eq_some_iff.mp ha).1
    · exact ih k j z
theorem OR.inn {a : Addr} {o : MO} (h : OR K A a o) : o.inn A.ι.length := by
  cases o with
  | nls ws => obtain ⟨_, vs, _, h⟩ := h; exact h.lt
  | ndc ws => obtain ⟨_, vs, _, h⟩ := h; exact h.lt
  | ins C ws => obtain ⟨_, _, dx, vs, _, _, h⟩ := h; exact h.lt
  | _ => trivial
/-- what a world's store was is in order; so what it came to may be cut -/
theorem Rl.cut_ok {S0 : List MO} (R : Rl K A S0) (h : cutRel S0 S) {i : Nat} {o : MO} (hi : i < A.ι.length) (e : S[i]? = some o) : o.inn A.ι.length := by
  have ea : A.ι[i]? = some A.ι[i] := List.getElem?_eq_getElem hi
  rcases h i o (by rw [← R.len]; exact hi) e with h | h
  · rw [R.len]; exact h
  · exact (R.ob i o A.ι[i] h ea).inn
theorem OR.keep {a : Addr} {o : MO} (h : OR K A a o) (gg : Same A.G B.G) (hg : A.G a = none → B.G a = none) (hh : ∀ u, A.H a = some u → B.H a = some u) (hx : ∀ b q, A.H b = some (LamX.CodeO b q) → B.H b = some (LamX.CodeO b q)) (pre : A.ι <+: B.ι := by exact List.prefix_rfl) : OR K B a o := by
  cases o with
  | tab P q =>
    obtain ⟨e, g, ps, h1, h2, h3⟩ := h
    refine ⟨e, hg g, ps, hh _ h1, h2, fun pos cv hc => ?_⟩
    obtain ⟨c, e1, e2⟩ := h3 pos cv hc
    exact ⟨c, e1, hx _ _ e2⟩
  | rcd kvs =>
    obtain ⟨g, ⟨i, h1, h2⟩, ks, h3, h4⟩ := h
    exact ⟨hg g, ⟨i, ix_pre pre h1, h2⟩, ks, hh _ h3, h4.monov ⟨gg, pre⟩⟩
  | nls xs => obtain ⟨g, vs, h1, h2⟩ := h; exact ⟨hg g, vs, hh _ h1, h2.monov ⟨gg, pre⟩⟩
  | ldic xs => obtain ⟨g, od, vs, h1, h2⟩ := h; exact ⟨hg g, od, vs, hh _ h1, h2.up gg⟩
  | ndc xs => obtain ⟨g, vs, h1, h2⟩ := h; exact ⟨hg g, vs, hh _ h1, h2.monov ⟨gg, pre⟩⟩
  | ins n xs => obtain ⟨g, C, dx, vs, h0, h1, h2⟩ := h; exact ⟨hg g, C, dx, vs, h0, hh _ h1, h2.monov ⟨gg, pre⟩⟩
  | lst xs => obtain ⟨g, vs, h1, h2⟩ := h; exact ⟨hg g, vs, hh _ h1, h2.up gg⟩
  | dic xs => obtain ⟨g, vs, h1, h2⟩ := h; exact ⟨hg g, vs, hh _ h1, h2.up gg⟩
  | gone =>
    show B.H a ≠ none ∧ ∀ b q, B.H a ≠ some (LamX.CodeO b q)
    cases e : A.H a with
    | none => exact absurd e h.1
    | some u => rw [hh u e]; exact ⟨(fun z => nomatch z), fun b q => by rw [← e]; exact h.2 b q⟩
theorem upd_none {H : Hp} {p b : Addr} {o : HO} (h : upd H p o b = none) : H b = none := by
  by_cases e : b = p
  · subst e; rw [upd_same] at h; cases h
  · rw [upd_ne e] at h; exact h
/-- a new object that is data -/
theorem Nx.dat (R : Rl K A S) {p : Addr} {o : HO} (n : A.H p = none) : Nx A ⟨upd A.G p o, upd A.H p o, A.ι⟩ ∧ Rl K ⟨upd A.G p o, upd A.H p o, A.ι⟩ S := by
  have gp : A.G p = none := R.gh.free n
  refine ⟨⟨fun b u e => ?_, fun b u hb e => ?_, fun b hb g h => ?_, fun b h z => h (upd_none z), List.prefix_rfl, fun _ h => .inl h, fun b od ks e => by
    show upd A.H p o b = _
    rw [upd_ne (ne_of_none e n)]; exact e⟩, ⟨fun b u e => ?_, R.nd, R.len, fun i o a e1 e2 => ?_⟩⟩
  · show upd A.G p o b = _
    rw [upd_ne (ne_of_none e gp)]; exact e
  · show upd A.H p o b = _
    rw [upd_ne (ne_of_none e n)]; exact e
  · show upd A.G p o b = _
    rw [upd_ne (fun e => h (by rw [e]; exact n))]; exact g
  · by_cases z : b = p
    · subst z
      show upd A.H b o b = _
      have e' : upd A.G b o b = some u := e
      rw [upd_same] at e' ⊢; exact e'
    · show upd A.H p o b = _
      have e' : upd A.G p o b = some u := e
      rw [upd_ne z] at e' ⊢; exact R.gh b u e'
  · have ne : a ≠ p := fun z => R.new n (by rw [← z]; exact List.mem_of_getElem? e2)
    refine (R.ob i o a e1 e2).keep (fun b u e => ?_) (fun g => ?_) (fun u h => ?_) fun b φ h => by
      show upd A.H p _ b = _
      rw [upd_ne (ne_of_none h n)]; exact h
    · show upd A.G p _ b = _
      rw [upd_ne (ne_of_none e gp)]; exact e
    · show upd A.G p _ a = _
      rw [upd_ne ne]; exact g
    · show upd A.H p _ a = _
      rw [upd_ne ne]; exact h
/-- a new object that nobody speaks of -/
theorem Nx.junk (R : Rl K A S) {p : Addr} {o : HO} (n : A.H p = none) : Nx A ⟨A.G, upd A.H p o, A.ι⟩ ∧ Rl K ⟨A.G, upd A.H p o, A.ι⟩ S := by
  have gp : A.G p = none := R.gh.free n
  refine ⟨⟨Same.refl _, fun b u hb e => ?_, fun b hb g h => g, fun b h z => h (upd_none z), List.prefix_rfl, fun _ h => .inl h, fun b od ks e => by
    show upd A.H p o b = _
    rw [upd_ne (ne_of_none e n)]; exact e⟩, ⟨fun b u e => ?_, R.nd, R.len, fun i o a e1 e2 => ?_⟩⟩
  · show upd A.H p o b = _
    rw [upd_ne (ne_of_none e n)]; exact e
  · show upd A.H p o b = _
    rw [upd_ne (ne_of_none e gp)]; exact R.gh b u e
  · have ne : a ≠ p := fun z => R.new n (by rw [← z]; exact List.mem_of_getElem? e2)
    refine (R.ob i o a e1 e2).keep (Same.refl _) (fun g => g) (fun u h => ?_) fun b φ h => by
      show upd A.H p _ b = _
      rw [upd_ne (ne_of_none h n)]; exact h
    show upd A.H p _ a = _
    rw [upd_ne ne]; exact h
theorem get_snoc {α : Type} {l : List α} {x a : α} {i : Nat} (h : (l ++ [x])[i]? = some a) : l[i]? = some a ∨ (i = l.length ∧ a = x) := by
  by_cases hi : i < l.length
  · rw [List.getElem?_append_left hi] at h; exact .inl h
  · rw [List.getElem?_append_right (by omega)] at h
    by_cases e : i = l.length
    · subst e
      rw [Nat.sub_self] at h
      exact .inr ⟨rfl, (Option.some.inj h).symm⟩
    · have z : i - l.length ≠ 0 := by omega
      obtain ⟨k, hk⟩ := Nat.exists_eq_succ_of_ne_zero z
      rw [hk] at h
      simp at h
/-- an object that was made since becomes a changeable object of the store -/
theorem Nx.own0g (N : Nx A B) (R : Rl K B S) {p : Addr} {o : MO} (n : A.H p = none) (hp : p ∉ B.ι) (ok : OR K ⟨B.G, B.H, B.ι ++ [p]⟩ p o) : Nx A ⟨B.G, B.H, B.ι ++ [p]⟩ ∧ Rl K ⟨B.G, B.H, B.ι ++ [p]⟩ (S ++ [o]) := by
  refine ⟨⟨N.gg, N.hh, N.nw, N.dm, N.pre.trans (List.prefix_append _ _), fun x hx => ?_, N.lk⟩, ⟨R.gh, ?_, ?_, fun i o' a e1 e2 => ?_⟩⟩
  · rcases List.mem_append.mp hx with hx | hx
    · exact N.fr x hx
    · rw [List.mem_singleton.mp hx]; exact .inr n
  · refine List.nodup_append.mpr ⟨R.nd, by simp, fun a ha b hb e => hp ?_⟩
    rw [List.mem_singleton.mp hb] at e
    rw [← e]; exact ha
  · show (B.ι ++ [p]).length = _
    rw [List.length_append, List.length_append, R.len]; rfl
  · have keep : ∀ {a : Addr} {o : MO}, OR K B a o → OR K ⟨B.G, B.H, B.ι ++ [p]⟩ a o := fun {a o} h => h.keep (Same.refl _) (fun g => g) (fun u h => h) (fun _ _ h => h) (List.prefix_append _ _)
    rcases get_snoc e1 with h1 | ⟨h1, rfl⟩
    · rcases get_snoc e2 with h2 | ⟨h2, _⟩
      · exact keep (R.ob i o' a h1 h2)
      · have := (List.getElem?_eq_some_iff.mp h1).1
        rw [R.len] at h2; omega
    · rcases get_snoc e2 with h2 | ⟨_, rfl⟩
      · have := (List.getElem?_eq_some_iff.mp h2).1
        rw [R.len] at this; omega
      · exact ok
/-- the same, of an object that speaks of no other -/
theorem Nx.own0 (N : Nx A B) (R : Rl K B S) {p : Addr} {o : MO} (n : A.H p = none) (hp : p ∉ B.ι) (ok : OR K B p o) : Nx A ⟨B.G, B.H, B.ι ++ [p]⟩ ∧ Rl K ⟨B.G, B.H, B.ι ++ [p]⟩ (S ++ [o]) :=
  Nx.own0g N R n hp (ok.keep (Same.refl _) (fun g => g) (fun u h => h) (fun _ _ h => h) (List.prefix_append _ _))
theorem RW.last {p : Addr} {S : List MO} (h : B.ι.length = S.length) : RW K ⟨B.G, B.H, B.ι ++ [p]⟩ (.ref p) (.r S.length) := ⟨p, by
  show (B.ι ++ [p])[S.length]? = _
  rw [← h, List.getElem?_append_right (Nat.le_refl _), Nat.sub_self]; rfl, rfl⟩
/-- an object that was made since becomes data -/
theorem Nx.fix (N : Nx A B) (R : Rl K B S) {p : Addr} {o : HO} (n : A.H p = none) (hp : p ∉ B.ι) (g : B.G p = none) (h : B.H p = some o) : Nx A ⟨upd B.G p o, B.H, B.ι⟩ ∧ Rl K ⟨upd B.G p o, B.H, B.ι⟩ S := by
  have gg : Same B.G (upd B.G p o) := fun b u e => by rw [upd_ne (ne_of_none e g)]; exact e
  refine ⟨⟨N.gg.trans gg, N.hh, fun b hb g' h' => ?_, N.dm, N.pre, N.fr, N.lk⟩, ⟨fun b u e => ?_, R.nd, R.len, fun i o' a e1 e2 => ?_⟩⟩
  · show upd B.G p o b = _
    rw [upd_ne (fun z => h' (by rw [z]; exact n))]; exact N.nw b hb g' h'
  · by_cases z : b = p
    · subst z
      have e' : upd B.G b o b = some u := e
      rw [upd_same] at e'
      cases e'
      exact h
    · have e' : upd B.G p o b = some u := e
      rw [upd_ne z] at e'; exact R.gh b u e'
  · refine (R.ob i o' a e1 e2).keep gg (fun g2 => ?_) (fun u h2 => h2) (fun _ _ h => h)
    show upd B.G p _ a = _
    rw [upd_ne (fun z => hp (by rw [← z]; exact List.mem_of_getElem? e2))]; exact g2
theorem nodup_at {α : Type} {l : List α} (nd : l.Nodup) {i j : Nat} {a : α} (h1 : l[i]? = some a) (h2 : l[j]? = some a) : i = j := by
  obtain ⟨hi, e1⟩ := List.getElem?_eq_some_iff.mp h1
  obtain ⟨hj, e2⟩ := List.getElem?_eq_some_iff.mp h2
  have pw := List.pairwise_iff_getElem.mp nd
  rcases Nat.lt_trichotomy i j with h | h | h
  · exact absurd (e1.trans e2.symm) (pw i j hi hj h)
  · exact h
  · exact absurd (e2.trans e1.symm) (pw j i hj hi h)
/-- a changeable object is changed -/
theorem Nx.wr (R : Rl K A S) {i : Nat} {a : Addr} {u : HO} {o : MO} (ha : A.ι[i]? = some a) (g : A.G a = none) (ok : OR K ⟨A.G, upd A.H a u, A.ι⟩ a o) (hz : nfz (A.H a) = true) : Nx A ⟨A.G, upd A.H a u, A.ι⟩ ∧ Rl K ⟨A.G, upd A.H a u, A.ι⟩ (S.set i o) := by
  have mem : a ∈ A.ι := List.mem_of_getElem? ha
  refine ⟨⟨Same.refl _, fun b u' hb e => ?_, fun b hb g h => g, fun b h z => h (upd_none z), List.prefix_rfl, fun _ h => .inl h, fun b od ks e => by
    show upd A.H a u b = _
    rw [upd_ne (fun z => by rw [z] at e; rw [e] at hz; cases hz)]; exact e⟩, ⟨fun b u' e => ?_, R.nd, by rw [List.length_set]; exact R.len, fun j o' b e1 e2 => ?_⟩⟩
  · show upd A.H a u b = _
    rw [upd_ne (fun z => hb (by rw [z]; exact mem))]; exact e
  · show upd A.H a u b = _
    rw [upd_ne (ne_of_none e g)]; exact R.gh b u' e
  · by_cases hj : i = j
    · subst hj
      have hi : i < S.length := by have := (List.getElem?_eq_some_iff.mp e1).1; rwa [List.length_set] at this
      rw [List.getElem?_set_self hi] at e1
      cases e1
      have e2' : A.ι[i]? = some b := e2
      rw [ha] at e2'
      cases e2'
      exact ok
    · rw [List.getElem?_set_ne hj] at e1
      have ne : b ≠ a := fun z => hj (nodup_at R.nd ha (by rw [← z]; exact e2))
      refine (R.ob j o' b e1 e2).keep (Same.refl _) (fun g => g) (fun u' h => ?_) fun b φ h => by
        show upd A.H a u b = _
        rw [upd_ne (fun z => by rw [z] at h; rw [h] at hz; cases hz)]; exact h
      show upd A.H a u b = _
      rw [upd_ne ne]; exact h
/-- a changeable list becomes data -/
theorem Nx.frz (R : Rl K A S) {i : Nat} {a : Addr} {u : HO} (ha : A.ι[i]? = some a) (g : A.G a = none) (h : A.H a = some u) (hc : ∀ b q, u ≠ LamX.CodeO b q) : Nx A ⟨upd A.G a u, A.H, A.ι⟩ ∧ Rl K ⟨upd A.G a u, A.H, A.ι⟩ (S.set i .gone) := by
  have mem : a ∈ A.ι := List.mem_of_getElem? ha
  have gg : Same A.G (upd A.G a u) := fun b v e => by rw [upd_ne (ne_of_none e g)]; exact e
  refine ⟨⟨gg, fun b u' hb e => e, fun b hb g' h' => ?_, fun b h => h, List.prefix_rfl, fun _ h => .inl h, fun _ _ _ h => h⟩, ⟨fun b u' e => ?_, R.nd, by rw [List.length_set]; exact R.len, fun j o' b e1 e2 => ?_⟩⟩
  · show upd A.G a u b = _
    rw [upd_ne (fun z => hb (by rw [z]; exact mem))]; exact g'
  · by_cases z : b = a
    · subst z
      have e' : upd A.G b u b = some u' := e
      rw [upd_same] at e'
      cases e'
      exact h
    · have e' : upd A.G a u b = some u' := e
      rw [upd_ne z] at e'; exact R.gh b u' e'
  · by_cases hj : i = j
    · subst hj
      have hi : i < S.length := by have := (List.getElem?_eq_some_iff.mp e1).1; rwa [List.length_set] at this
      rw [List.getElem?_set_self hi] at e1
      cases e1
      have e2' : A.ι[i]? = some b := e2
      rw [ha] at e2'
      cases e2'
      show A.H a ≠ none ∧ ∀ b q, A.H a ≠ some (LamX.CodeO b q)
      rw [h]; exact ⟨(fun z => nomatch z), fun b q z => hc b q (Option.some.inj z)⟩
    · rw [List.getElem?_set_ne hj] at e1
      have ne : b ≠ a := fun z => hj (nodup_at R.nd ha (by rw [← z]; exact e2))
      refine (R.ob j o' b e1 e2).keep gg (fun g2 => ?_) (fun u' h => h) (fun _ _ h => h)
      show upd A.G a u b = _
      rw [upd_ne ne]; exact g2
theorem rw_cut {v : V} {j : Nat} (pre : A.ι <+: B.ι) (hj : j < A.ι.length) (r : RW K B v (.r j)) : RW K ⟨B.G, B.H, A.ι⟩ v (.r j) := by
  obtain ⟨a, h1, h2⟩ := r
  refine ⟨a, ?_, h2⟩
  show A.ι[j]? = some a
  obtain ⟨t, ht⟩ := pre
  rw [← ht, List.getElem?_append_left hj] at h1
  exact h1
theorem RcA.cut (pre : A.ι <+: B.ι) {ks : List (Key × V)} {kvs : List (Str × W3)} (h : RcA K B ks kvs) : (∀ s j, (s, W3.r j) ∈ kvs → j < A.ι.length) → RcA K ⟨B.G, B.H, A.ι⟩ ks kvs := by
  induction h with
  | nil => exact fun _ => .nil
  | @cons s v w ks kvs hw _ ih =>
    intro hj
    refine .cons ?_ (ih fun s j h => hj s j (List.mem_cons_of_mem _ h))
    cases w with
    | r j => exact rw_cut pre (hj s j List.mem_cons_self) hw
    | d x => exact hw
    | sc x => exact hw
    | ty x => exact hw
theorem RWs.cut (pre : A.ι <+: B.ι) {vs : List V} {ws : List W3} (h : RWs K B vs ws) : (∀ j, W3.r j ∈ ws → j < A.ι.length) → RWs K ⟨B.G, B.H, A.ι⟩ vs ws := by
  induction h with
  | nil => exact fun _ => .nil
  | @cons v w vs ws hw _ ih =>
    intro hj
    refine .cons ?_ (ih fun j h => hj j (List.mem_cons_of_mem _ h))
    cases w with
    | r j => exact rw_cut pre (hj j List.mem_cons_self) hw
    | d x => exact hw
    | sc x => exact hw
    | ty x => exact hw
theorem NdA.cut (pre : A.ι <+: B.ι) {ks : List (Key × V)} {kvs : List (Key × W3)} (h : NdA K B ks kvs) : (∀ k j, (k, W3.r j) ∈ kvs → j < A.ι.length) → NdA K ⟨B.G, B.H, A.ι⟩ ks kvs := by
  induction h with
  | nil => exact fun _ => .nil
  | @cons k v w ks kvs hw _ ih =>
    intro hj
    refine .cons ?_ (ih fun k j h => hj k j (List.mem_cons_of_mem _ h))
    cases w with
    | r j => exact rw_cut pre (hj k j List.mem_cons_self) hw
    | d x => exact hw
    | sc x => exact hw
    | ty x => exact hw
theorem FsA.cut (pre : A.ι <+: B.ι) {ks : List (Str × V)} {kvs : List (Str × W3)} (h : FsA K B ks kvs) : (∀ k j, (k, W3.r j) ∈ kvs → j < A.ι.length) → FsA K ⟨B.G, B.H, A.ι⟩ ks kvs := by
  induction h with
  | nil => exact fun _ => .nil
  | @cons k v w ks kvs hw _ ih =>
    intro hj
    refine .cons ?_ (ih fun k j h => hj k j (List.mem_cons_of_mem _ h))
    cases w with
    | r j => exact rw_cut pre (hj k j List.mem_cons_self) hw
    | d x => exact hw
    | sc x => exact hw
    | ty x => exact hw
/-- it speaks of no other object -/
def MO.flat : MO → Bool
  | .rcd _ => false
  | .nls _ => false
  | .ndc _ => false
  | .ins _ _ => false
  | _ => true
/-- an object that speaks of no other, in a shorter list of places -/
theorem OR.flat {ι' : List Addr} {a : Addr} {o : MO} (hf : o.flat = true) (h : OR K B a o) : OR K ⟨B.G, B.H, ι'⟩ a o := by
  cases o with
  | rcd kvs => cases hf
  | nls kvs => cases hf
  | ndc kvs => cases hf
  | ins C kvs => cases hf
  | lst _ => exact h
  | dic _ => exact h
  | ldic _ => exact h
  | tab _ _ => exact h
  | gone => exact h
theorem OR.cut (pre : A.ι <+: B.ι) (nd : B.ι.Nodup) {i : Nat} {a : Addr} {o : MO} (ha : A.ι[i]? = some a) (hc : o.inn A.ι.length) (h : OR K B a o) : OR K ⟨B.G, B.H, A.ι⟩ a o := by
  cases o with
  | nls ws => obtain ⟨g, vs, h1, h2⟩ := h; exact ⟨g, vs, h1, h2.cut pre hc⟩
  | ndc ws => obtain ⟨g, vs, h1, h2⟩ := h; exact ⟨g, vs, h1, h2.cut pre hc⟩
  | ins n ws => obtain ⟨g, C, dx, vs, h0, h1, h2⟩ := h; exact ⟨g, C, dx, vs, h0, h1, h2.cut pre hc⟩
  | rcd kvs =>
    obtain ⟨g, ⟨j, h1, h2⟩, ks, h3, h4⟩ := h
    have e : j = i := nodup_at nd h1 (ix_pre pre ha)
    subst e
    have hl := (List.getElem?_eq_some_iff.mp ha).1
    exact ⟨g, ⟨j, ha, h2⟩, ks, h3, h4.cut pre fun s k hk => Nat.lt_trans (h2 s k hk) hl⟩
  | lst _ => exact h
  | dic _ => exact h
  | ldic _ => exact h
  | tab _ _ => exact h
  | gone => exact h
/-- the store of the caller, behind the call -/
theorem Nx.cut (N : Nx A B) (R : Rl K B S) (hc : ∀ (i : Nat) (o : MO), i < A.ι.length → S[i]? = some o → o.inn A.ι.length) : Nx A ⟨B.G, B.H, A.ι⟩ ∧ Rl K ⟨B.G, B.H, A.ι⟩ (S.take A.ι.length) := by
  have pl := N.pre.length_le
  refine ⟨⟨N.gg, N.hh, N.nw, N.dm, List.prefix_rfl, fun _ h => .inl h, N.lk⟩, ⟨R.gh, R.nd.sublist N.pre.sublist, ?_, fun i o a e1 e2 => ?_⟩⟩
  · show A.ι.length = _
    rw [List.length_take, ← R.len]; omega
  · have hi : i < A.ι.length := (List.getElem?_eq_some_iff.mp e2).1
    rw [List.getElem?_take_of_lt hi] at e1
    exact (R.ob i o a e1 (ix_pre N.pre e2)).cut N.pre R.nd e2 (hc i o hi e1)
end
end EA
namespace EA
open PySem PySem.Spec PyProof.Rows L2
/-! ### the functions that a text's parts are -/
abbrev FE := Sl → List MO → Option (W3 × List MO)
abbrev FT := Sl → List MO → Option (Bool × List MO)
abbrev FA := Sl → List MO → Option (List W3 × List MO)
/-- a new list -/
abbrev FN := Sl → List MO → Option (List PyData × List MO)
abbrev FO := Sl → List MO → Option (Option Int × List MO)
abbrev FG := W3 → Sl → List MO → Option (Sl × List MO)
inductive Out where
  | nx (sl : Sl) (S : List MO)
  | rt (w : W3) (S : List MO)
  | bk (sl : Sl) (S : List MO)
  | ct (sl : Sl) (S : List MO)
abbrev FS := Sl → List MO → Option Out
abbrev F3 := List W3 → List MO → Option (W3 × List MO)
/-- what a loop walks: the items, and what must stay true of the store -/
structure It3 where
  ws : List W3
  ok : List MO → Bool
abbrev FI := Sl → List MO → Option (It3 × List MO)
section
variable {K : PySem.W.Frag} {A B : Wd}
theorem RWs.mono (n : Nx A B) {vs : List V} {ws : List W3} (h : RWs K A vs ws) : RWs K B vs ws := by
  induction h with
  | nil => exact .nil
  | cons h _ ih => exact .cons (h.mono n) ih
theorem RWs.len {vs : List V} {ws : List W3} (h : RWs K A vs ws) : vs.length = ws.length := by
  induction h with
  | nil => rfl
  | cons h _ ih => rw [List.length_cons, List.length_cons, ih]
theorem RWs.app {vs vs' : List V} {ws ws' : List W3} (h : RWs K A vs ws) (h' : RWs K A vs' ws') : RWs K A (vs ++ vs') (ws ++ ws') := by
  induction h with
  | nil => exact h'
  | cons h _ ih => exact .cons h ih
theorem RWs.of : ∀ {vs : List V} {ds : List PyData}, DaA K A.G vs ds → RWs K A vs (ds.map .d)
  | _, _, .nil => .nil
  | _, _, .cons h t => .cons h (RWs.of t)
end
def teO (K : PySem.W.Frag) (f : FE) : TE := fun σ H Q => ∃ (A : Wd) (S : List MO) (sl : Sl) (w : W3) (S' : List MO), A.H = H ∧ Rl K A S ∧ SR3 K A σ sl ∧ f sl S = some (w, S') ∧ ∀ B v, Nx A B → Rl K B S' → RW K B v w → Q v B.H
def ttO (K : PySem.W.Frag) (f : FT) : TT := fun σ H Q => ∃ (A : Wd) (S : List MO) (sl : Sl) (w : Bool) (S' : List MO), A.H = H ∧ Rl K A S ∧ SR3 K A σ sl ∧ f sl S = some (w, S') ∧ ∀ B, Nx A B → Rl K B S' → Q w B.H
def taO (K : PySem.W.Frag) (f : FA) : TA := fun σ H Q => ∃ (A : Wd) (S : List MO) (sl : Sl) (w : List W3) (S' : List MO), A.H = H ∧ Rl K A S ∧ SR3 K A σ sl ∧ f sl S = some (w, S') ∧ ∀ B v, Nx A B → Rl K B S' → RWs K B v w → Q v B.H
def tnO (K : PySem.W.Frag) (f : FN) : TE := fun σ H Q => ∃ (A : Wd) (S : List MO) (sl : Sl) (w : List PyData) (S' : List MO), A.H = H ∧ Rl K A S ∧ SR3 K A σ sl ∧ f sl S = some (w, S') ∧
  ∀ B vs p, Nx A B → Rl K B S' → A.H p = none → p ∉ B.ι → B.G p = none → B.H p = some (.lst vs) → DaA K B.G vs w → Q (.ref p) B.H
def toO (K : PySem.W.Frag) (f : FO) : TO := fun σ H Q => ∃ (A : Wd) (S : List MO) (sl : Sl) (w : Option Int) (S' : List MO), A.H = H ∧ Rl K A S ∧ SR3 K A σ sl ∧ f sl S = some (w, S') ∧ ∀ B, Nx A B → Rl K B S' → Q w B.H
def tgO (K : PySem.W.Frag) (vs : List Nat) (f : FG) : TG := fun v σ H Q => ∃ (A : Wd) (S : List MO) (sl : Sl) (w : W3) (sl' : Sl) (S' : List MO), A.H = H ∧ Rl K A S ∧ SR3 K A σ sl ∧ RW K A v w ∧ f w sl S = some (sl', S') ∧
  ∀ B σ', Nx A B → Rl K B S' → SR3 K B σ' sl' → (σ'.length = σ.length ∧ ∀ j, j ∉ vs → σ'[j]? = σ[j]?) → Q σ' B.H
def EndsOk (K : PySem.W.Frag) (A : Wd) (D : Ends) : Out → Prop
  | .nx sl S => ∀ B σ', Nx A B → Rl K B S → SR3 K B σ' sl → D.nx σ' B.H
  | .rt w S => ∀ B v, Nx A B → Rl K B S → RW K B v w → D.rt v B.H
  | .bk sl S => ∀ B σ', Nx A B → Rl K B S → SR3 K B σ' sl → D.bk σ' B.H
  | .ct sl S => ∀ B σ', Nx A B → Rl K B S → SR3 K B σ' sl → D.ct σ' B.H
def tsO (K : PySem.W.Frag) (f : FS) : TS := fun D σ H => ∃ (A : Wd) (S : List MO) (sl : Sl) (o : Out), A.H = H ∧ Rl K A S ∧ SR3 K A σ sl ∧ f sl S = some o ∧ EndsOk K A D o
def ItR (K : PySem.W.Frag) (B : Wd) (J : It) (j : It3) : Prop := ∀ C S, Nw B C → Rl K C S → j.ok S = true → ∀ i,
  (∀ w, j.ws[i]? = some w → J.go i C.H ∧ ∀ v H', J.yld i C.H v H' → ∃ C', C'.H = H' ∧ Nx C C' ∧ Rl K C' S ∧ RW K C' v w) ∧ (j.ws.length ≤ i → J.stop i C.H)
def tiO (K : PySem.W.Frag) (f : FI) : TI := fun σ H R => ∃ (A : Wd) (S : List MO) (sl : Sl) (j : It3) (S' : List MO), A.H = H ∧ Rl K A S ∧ SR3 K A σ sl ∧ f sl S = some (j, S') ∧ ∀ B J, Nx A B → Rl K B S' → ItR K B J j → R J B.H
theorem EndsOk.mono {K : PySem.W.Frag} {A B : Wd} {D : Ends} (n : Nx A B) : ∀ {o : Out}, EndsOk K A D o → EndsOk K B D o
  | .nx _ _, h => fun C σ' m => h C σ' (n.trans m)
  | .rt _ _, h => fun C σ' m => h C σ' (n.trans m)
  | .bk _ _, h => fun C σ' m => h C σ' (n.trans m)
  | .ct _ _, h => fun C σ' m => h C σ' (n.trans m)
structure PE3 (K : PySem.W.Frag) (X : Cx) (e : Expr) (f : FE) : Prop where
  p : PE X e (teO K f)
structure PT3 (K : PySem.W.Frag) (X : Cx) (e : Expr) (f : FT) : Prop where
  p : PT X e (ttO K f)
structure PW3 (K : PySem.W.Frag) (X : Cx) (e : Expr) (f : FT) : Prop where
  p : PW X e (ttO K f)
structure PA3 (K : PySem.W.Frag) (X : Cx) (es : List Expr) (f : FA) : Prop where
  p : PA X es (taO K f)
  len : ∀ sl S ws S', f sl S = some (ws, S') → ws.length = es.length
structure PN3 (K : PySem.W.Frag) (X : Cx) (e : Expr) (f : FN) : Prop where
  p : PE X e (tnO K f)
structure PO3 (K : PySem.W.Frag) (X : Cx) (e : Option Expr) (f : FO) : Prop where
  p : PO X e (toO K f)
structure PG3 (K : PySem.W.Frag) (X : Cx) (e : Expr) (vs : List Nat) (f : FG) : Prop where
  p : PG X e (tgO K vs f)
structure PS3 (K : PySem.W.Frag) (X : Cx) (st : Stmt) (f : FS) : Prop where
  p : PS X st (tsO K f)
structure PSs3 (K : PySem.W.Frag) (X : Cx) (st : List Stmt) (f : FS) : Prop where
  p : PSs X st (tsO K f)
structure PI3 (K : PySem.W.Frag) (X : Cx) (tg it : Expr) (f : FI) : Prop where
  p : PI X tg it (tiO K f)
section
variable {K : PySem.W.Frag} {X : Cx} {e : Expr} {es : List Expr} {st : Stmt} {sts : List Stmt}
theorem pe_imp {t t' : TE} (h : PE X e t) (i : ∀ σ H Q, t' σ H Q → t σ H Q) : PE X e t' := ⟨fun pins s σ H Q I q => h.run pins s σ H Q I (i σ H Q q)⟩
theorem pt_imp {t t' : TT} (h : PT X e t) (i : ∀ σ H Q, t' σ H Q → t σ H Q) : PT X e t' := ⟨fun pins s σ H Q I q => h.run pins s σ H Q I (i σ H Q q)⟩
theorem pw_imp {t t' : TT} (h : PW X e t) (i : ∀ σ H Q, t' σ H Q → t σ H Q) : PW X e t' := ⟨fun wh pins s σ H Q I q => h.run wh pins s σ H Q I (i σ H Q q)⟩
theorem pa_imp {t t' : TA} (h : PA X es t) (i : ∀ σ H Q, t' σ H Q → t σ H Q) : PA X es t' := ⟨fun pos pins s σ H Q I q => h.run pos pins s σ H Q I (i σ H Q q)⟩
theorem ps_imp {t t' : TS} (h : PS X st t) (i : ∀ D σ H, t' D σ H → t D σ H) : PS X st t' := ⟨fun pins s σ H D I q => h.run pins s σ H D I (i D σ H q)⟩
theorem pss_imp {t t' : TS} (h : PSs X sts t) (i : ∀ D σ H, t' D σ H → t D σ H) : PSs X sts t' := ⟨fun pins s σ H D I q => h.run pins s σ H D I (i D σ H q)⟩
theorem pi_imp {tg : Expr} {t t' : TI} (h : PI X tg e t) (i : ∀ σ H Q, t' σ H Q → t σ H Q) : PI X tg e t' := ⟨fun pins s σ H Q I q => h.run pins s σ H Q I (i σ H Q q)⟩
end
/-! ### names, constants -/
def eVar (i : Nat) : FE := fun sl S => (sl[i]?.join).map fun w => (w, S)
def eD (x : PyData) : FE := fun _ S => some (.d x, S)
def eTy (n : String) : FE := fun _ S => some (.ty n, S)
/-- a list that is data from here on -/
def eFrz (f : FE) : FE := fun sl S => (f sl S).bind fun p => match p.1 with
  | .r i => match p.2[i]? with
    | some (.lst xs) => some (.d (.list xs), p.2.set i .gone)
    | _ => none
  | w => some (w, p.2)
section
variable {K : PySem.W.Frag} {X : Cx} {e : Expr} {es : List Expr} {pos : Pos}
/-- nothing is made -/
theorem te_c {f : FE} {v : V} {w : W3} (hf : ∀ sl S, f sl S = some (w, S)) (hr : ∀ A, RW K A v w) {σ : L2.St} {H : Hp} {Q : VK} (h : teO K f σ H Q) : tC v σ H Q := by
  obtain ⟨A, S, sl, w', S', rfl, R, s, e, q⟩ := h
  rw [hf] at e
  cases e
  exact q A v (Nx.refl A) R (hr A)
theorem e_var {i : Nat} {x : Str} (hN : X.N[i]? = some x) (hv : Vis X.env.scope x) (hd : (x == ("__debug__" : Str)) = false := by decide) (hcd : (x == ("__classdict__" : Str)) = false := by decide) : PE3 K X (.Name x pos) (eVar i) :=
  ⟨pe_imp (pe_var hN hv hd hcd) fun σ H Q h => by
    obtain ⟨A, S, sl, w, S', rfl, R, s, e, q⟩ := h
    unfold eVar at e
    cases h : sl[i]?.join with
    | none => rw [h] at e; cases e
    | some w2 =>
      rw [h] at e
      cases e
      have h2 : sl[i]? = some (some w) := by
        cases z : sl[i]? with
        | none => rw [z] at h; cases h
        | some z2 => rw [z] at h; exact congrArg some h
      obtain ⟨v, h3, h4⟩ := s.at_ i w h2
      exact ⟨v, h3, q A v (Nx.refl A) R h4⟩⟩
theorem e_int {i : Int} {j} : PE3 K X (.Constant (.int i) j pos) (eD (.int i)) := ⟨pe_imp pe_int fun σ H Q h => te_c (w := .d (.int i)) (fun _ _ => rfl) (fun A => Da.int i) h⟩
theorem e_bl {b : Bool} {j} : PE3 K X (.Constant (.bool b) j pos) (eD (.bool b)) := ⟨pe_imp pe_bl fun σ H Q h => te_c (w := .d (.bool b)) (fun _ _ => rfl) (fun A => Da.bl b) h⟩
theorem e_str {b : Str} {j} : PE3 K X (.Constant (.str b) j pos) (eD (.str b)) := ⟨pe_imp pe_str fun σ H Q h => te_c (w := .d (.str b)) (fun _ _ => rfl) (fun A => Da.str b) h⟩
theorem e_non {j} : PE3 K X (.Constant .none j pos) (eD .none) := ⟨pe_imp pe_non fun σ H Q h => te_c (w := .d .none) (fun _ _ => rfl) (fun A => Da.non) h⟩
theorem e_ty {x : Str} {n : String} (hg : Gl X x) (hm : X.mg x = none) (hv : bootBuiltins x = some (.type n)) (hn : x ≠ "__name__" := by decide) (hd : (x == ("__debug__" : Str)) = false := by decide) : PE3 K X (.Name x pos) (eTy n) :=
  ⟨pe_imp (pe_bltn (v := V.ty n) hg hm hv rfl hn hd) fun σ H Q h => te_c (w := .ty n) (fun _ _ => rfl) (fun A => (rfl : V.ty n = V.ty n)) h⟩
theorem e_frz {f : FE} (h : PE3 K X e f) : PE3 K X e (eFrz f) := ⟨pe_imp h.p fun σ H Q h => by
  obtain ⟨A, S, sl, w, S', rfl, R, s, e, q⟩ := h
  unfold eFrz at e
  obtain ⟨⟨w1, S1⟩, e1, e2⟩ := Option.bind_eq_some_iff.mp e
  refine ⟨A, S, sl, w1, S1, rfl, R, s, e1, fun B v n R' r => ?_⟩
  cases w1 with
  | d x => cases e2; exact q B v n R' r
  | sc x => cases e2; exact q B v n R' r
  | ty x => cases e2; exact q B v n R' r
  | r i =>
    dsimp only at e2
    cases o : S1[i]? with
    | none => rw [o] at e2; cases e2
    | some m =>
      rw [o] at e2
      cases m with
      | gone => cases e2
      | dic _ => cases e2
      | rcd _ => cases e2
      | nls _ => cases e2
      | ldic _ => cases e2
      | tab _ _ => cases e2
      | ins _ _ => cases e2
      | ndc _ => cases e2
      | lst xs =>
        cases e2
        obtain ⟨a, ha, rfl⟩ := r
        obtain ⟨g, vs, hh, hd⟩ := R'.ob i _ a o ha
        obtain ⟨N2, R2⟩ := Nx.frz R' ha g hh (fun _ _ z => by cases z)
        exact q ⟨upd B.G a (.lst vs), B.H, B.ι⟩ _ (n.trans N2) R2 (Da.lst upd_same (hd.up N2.gg))⟩
/-! ### argument lists, displays -/
def aNil : FA := fun _ S => some ([], S)
def aCons (e : FE) (r : FA) : FA := fun sl S => (e sl S).bind fun p => (r sl p.2).map fun q => (p.1 :: q.1, q.2)
theorem a_nil : PA3 K X [] aNil := ⟨pa_imp pa_nil fun σ H Q h => by
  obtain ⟨A, S, sl, w, S', rfl, R, s, e, q⟩ := h
  cases e
  exact q A [] (Nx.refl A) R .nil, fun sl S ws S' e => by cases e; rfl⟩
theorem a_cons {f : FE} {r : FA} (h : PE3 K X e f) (hr : PA3 K X es r) (hs : starEach (e :: es) X.env = (false, eval e X.env) :: starEach es X.env := by rfl) : PA3 K X (e :: es) (aCons f r) :=
  ⟨pa_imp (pa_cons h.p hr.p hs) fun σ H Q h => by
    obtain ⟨A, S, sl, w, S', rfl, R, s, e, q⟩ := h
    obtain ⟨⟨w1, S1⟩, e1, e2⟩ := Option.bind_eq_some_iff.mp e
    obtain ⟨⟨w2, S2⟩, e3, e4⟩ := Option.map_eq_some_iff.mp e2
    cases e4
    refine ⟨A, S, sl, w1, S1, rfl, R, s, e1, fun B v n R' r => ?_⟩
    exact ⟨B, S1, sl, w2, _, rfl, R', s.mono n, e3, fun C vs n2 R2 r2 => q C (v :: vs) (n.trans n2) R2 (.cons (r.mono n2) r2)⟩, fun sl S ws S' e => by
    obtain ⟨⟨w1, S1⟩, e1, e2⟩ := Option.bind_eq_some_iff.mp e
    obtain ⟨⟨w2, S2⟩, e3, e4⟩ := Option.map_eq_some_iff.mp e2
    cases e4
    rw [List.length_cons, List.length_cons, hr.len _ _ _ _ e3]⟩
/-- all are data -/
def dsOf : List W3 → Option (List PyData)
  | [] => some []
  | .d x :: r => (dsOf r).map (x :: ·)
  | _ :: _ => none
theorem dsOf_daa {A : Wd} : ∀ {ws : List W3} {vs : List V} {ds : List PyData}, RWs K A vs ws → dsOf ws = some ds → DaA K A.G vs ds
  | [], _, _, .nil, e => by cases e; exact .nil
  | .d x :: r, _, _, .cons h t, e => by
    obtain ⟨xs, e1, e2⟩ := Option.map_eq_some_iff.mp e
    cases e2
    exact .cons h (dsOf_daa t e1)
  | .r _ :: _, _, _, .cons h t, e => by cases e
  | .sc _ :: _, _, _, .cons h t, e => by cases e
  | .ty _ :: _, _, _, .cons h t, e => by cases e
def eTup (a : FA) : FE := fun sl S => (a sl S).bind fun p => (dsOf p.1).map fun ds => (.d (.tuple ds), p.2)
def nLst (a : FA) : FN := fun sl S => (a sl S).bind fun p => (dsOf p.1).map fun ds => (ds, p.2)
/-- a new list as data; as a changeable object -/
def eNd (n : FN) : FE := fun sl S => (n sl S).map fun p => (.d (.list p.1), p.2)
def eNo (n : FN) : FE := fun sl S => (n sl S).map fun p => (.r p.2.length, p.2 ++ [.lst p.1])
theorem e_tup {f : FA} {x1} (h : PA3 K X es f) (hn : es.length ≤ 1000 := by decide) : PE3 K X (.Tuple es x1 pos) (eTup f) := ⟨pe_imp (pe_tupP h.p) fun σ H Q h' => by
  obtain ⟨A, S, sl, w, S', rfl, R, s, e, q⟩ := h'
  obtain ⟨⟨w1, S1⟩, e1, e2⟩ := Option.bind_eq_some_iff.mp e
  obtain ⟨ds, e3, e4⟩ := Option.map_eq_some_iff.mp e2
  cases e4
  refine ⟨A, S, sl, w1, _, rfl, R, s, e1, fun B vs n R' r => ⟨?_, fun p o od hp => ?_⟩⟩
  · rw [r.len, h.len _ _ _ _ e1]; exact Nat.le_trans hn (by decide)
  · obtain ⟨n2, R2⟩ := Nx.dat (o := .frz o (.tup vs)) R' hp
    exact q ⟨upd B.G p (.frz o (.tup vs)), upd B.H p (.frz o (.tup vs)), B.ι⟩ _ (n.trans n2) R2 (Da.tup (.inl ⟨o, upd_same, od⟩) ((dsOf_daa r e3).up n2.gg))⟩
theorem n_lst {f : FA} (h : PA3 K X es f) (hn : es.length ≤ 1000 := by decide) : PN3 K X (.List es pos) (nLst f) := ⟨pe_imp (pe_lst h.p) fun σ H Q h' => by
  obtain ⟨A, S, sl, w, S', rfl, R, s, e, q⟩ := h'
  obtain ⟨⟨w1, S1⟩, e1, e2⟩ := Option.bind_eq_some_iff.mp e
  obtain ⟨ds, e3, e4⟩ := Option.map_eq_some_iff.mp e2
  cases e4
  refine ⟨A, S, sl, w1, _, rfl, R, s, e1, fun B vs n R' r => ⟨?_, fun p hp => ?_⟩⟩
  · rw [r.len, h.len _ _ _ _ e1]; exact Nat.le_trans hn (by decide)
  · obtain ⟨n2, R2⟩ := Nx.junk (o := .lst vs) R' hp
    refine q ⟨B.G, upd B.H p (.lst vs), B.ι⟩ vs p (n.trans n2) R2 ?_ (R'.new hp) (R'.gh.free hp) upd_same (dsOf_daa (A := B) r e3)
    cases z : A.H p with
    | none => rfl
    | some u => exact absurd hp (n.dm p (by rw [z]; exact fun k => nomatch k))⟩
theorem e_nd {f : FN} (h : PN3 K X e f) : PE3 K X e (eNd f) := ⟨pe_imp h.p fun σ H Q h' => by
  obtain ⟨A, S, sl, w, S', rfl, R, s, e, q⟩ := h'
  obtain ⟨⟨w1, S1⟩, e1, e2⟩ := Option.map_eq_some_iff.mp e
  cases e2
  refine ⟨A, S, sl, w1, _, rfl, R, s, e1, fun B vs p n R' np ni g hh hd => ?_⟩
  obtain ⟨n2, R2⟩ := Nx.fix n R' np ni g hh
  exact q ⟨upd B.G p (.lst vs), B.H, B.ι⟩ _ n2 R2 (Da.lst upd_same (hd.up (fun b u e => by
    show upd B.G p _ b = _
    rw [upd_ne (ne_of_none e g)]; exact e)))⟩
theorem e_no {f : FN} (h : PN3 K X e f) : PE3 K X e (eNo f) := ⟨pe_imp h.p fun σ H Q h' => by
  obtain ⟨A, S, sl, w, S', rfl, R, s, e, q⟩ := h'
  obtain ⟨⟨w1, S1⟩, e1, e2⟩ := Option.map_eq_some_iff.mp e
  cases e2
  refine ⟨A, S, sl, w1, _, rfl, R, s, e1, fun B vs p n R' np ni g hh hd => ?_⟩
  obtain ⟨n2, R2⟩ := Nx.own0 (o := .lst w1) n R' np ni ⟨g, vs, hh, hd⟩
  exact q ⟨B.G, B.H, B.ι ++ [p]⟩ _ n2 R2 (RW.last R'.len)⟩
end
/-! ### statements -/
def sNx : FS := fun sl S => some (.nx sl S)
def sBk : FS := fun sl S => some (.bk sl S)
def sCt : FS := fun sl S => some (.ct sl S)
def sSeq (f g : FS) : FS := fun sl S => (f sl S).bind fun o => match o with
  | .nx sl' S' => g sl' S'
  | o => some o
def sEx (f : FE) : FS := fun sl S => (f sl S).map fun p => .nx sl p.2
def sRt (f : FE) : FS := fun sl S => (f sl S).map fun p => .rt p.1 p.2
def sRtN : FS := fun sl S => some (.rt (.d .none) S)
def sIf (t : FT) (a b : FS) : FS := fun sl S => (t sl S).bind fun p => if p.1 = true then a sl p.2 else b sl p.2
def sSet (i : Nat) (f : FE) : FS := fun sl S => (f sl S).map fun p => .nx (sl.set i (some p.1)) p.2
def sAsg (f : FE) (g : FG) : FS := fun sl S => (f sl S).bind fun p => (g p.1 sl p.2).map fun q => .nx q.1 q.2
section
variable {K : PySem.W.Frag} {X : Cx} {e : Expr} {es : List Expr} {st : Stmt} {sts : List Stmt} {pos : Pos}
theorem b_nil : PSs3 K X [] sNx := ⟨pss_imp pss_nil fun D σ H h => by
  obtain ⟨A, S, sl, o, rfl, R, s, e, q⟩ := h
  cases e
  exact q A σ (Nx.refl A) R s⟩
theorem b_cons {f g : FS} (h : PS3 K X st f) (hr : PSs3 K X sts g) : PSs3 K X (st :: sts) (sSeq f g) := ⟨pss_imp (pss_cons h.p hr.p) fun D σ H h => by
  obtain ⟨A, S, sl, o, rfl, R, s, e, q⟩ := h
  obtain ⟨o1, e1, e2⟩ := Option.bind_eq_some_iff.mp e
  refine ⟨A, S, sl, o1, rfl, R, s, e1, ?_⟩
  cases o1 with
  | nx sl' S' => exact fun B σ' n R' s' => ⟨B, S', sl', o, rfl, R', s', e2, q.mono n⟩
  | rt w S' => cases e2; exact q
  | bk sl' S' => cases e2; exact q
  | ct sl' S' => cases e2; exact q⟩
theorem b_one {f : FS} (h : PS3 K X st f) : PSs3 K X [st] f := ⟨pss_one h.p⟩
theorem s_expr {f : FE} (h : PE3 K X e f) (hs : swapsWith e none pos.line X.env = pure false := by rfl) : PS3 K X (.Expr e pos) (sEx f) := ⟨ps_imp (ps_expr h.p hs) fun D σ H h => by
  obtain ⟨A, S, sl, o, rfl, R, s, e, q⟩ := h
  obtain ⟨⟨w1, S1⟩, e1, e2⟩ := Option.map_eq_some_iff.mp e
  cases e2
  exact ⟨A, S, sl, w1, S1, rfl, R, s, e1, fun B v n R' r => q B σ n R' (s.mono n)⟩⟩
theorem s_ret {f : FE} (h : PE3 K X e f) : PS3 K X (.Return (some e) pos) (sRt f) := ⟨ps_imp (ps_ret h.p) fun D σ H h => by
  obtain ⟨A, S, sl, o, rfl, R, s, e, q⟩ := h
  obtain ⟨⟨w1, S1⟩, e1, e2⟩ := Option.map_eq_some_iff.mp e
  cases e2
  exact ⟨A, S, sl, w1, S1, rfl, R, s, e1, fun B v n R' r => q B v n R' r⟩⟩
theorem s_if {t : FT} {f g : FS} {c : Expr} {a b : List Stmt} (hc : PT3 K X c t) (ha : PSs3 K X a f) (hb : PSs3 K X b g) : PS3 K X (.If c a b pos) (sIf t f g) := ⟨ps_imp (ps_if hc.p ha.p hb.p) fun D σ H h => by
  obtain ⟨A, S, sl, o, rfl, R, s, e, q⟩ := h
  obtain ⟨⟨w1, S1⟩, e1, e2⟩ := Option.bind_eq_some_iff.mp e
  refine ⟨A, S, sl, w1, S1, rfl, R, s, e1, fun B n R' => ?_⟩
  cases w1 with
  | true => exact ⟨B, S1, sl, o, rfl, R', s.mono n, e2, q.mono n⟩
  | false => exact ⟨B, S1, sl, o, rfl, R', s.mono n, e2, q.mono n⟩⟩
theorem s_set {i : Nat} {x : Str} {f : FE} {pos' : Pos} (hN : X.N.Nodup) (hi : X.N[i]? = some x) (hx : Loc X.env.scope x) (h : PE3 K X e f) (hs : swapsWith e (some (.Name x pos')) pos.line X.env = pure false := by rfl)
    (hf : X.fn x = true ∨ X.env.scope.names.lookup x = some .local := by first | exact .inl rfl | exact .inr rfl | assumption) : PS3 K X (.Assign [.Name x pos'] e pos) (sSet i f) := ⟨ps_imp (ps_set hN hi hx h.p hs hf) fun D σ H h => by
  obtain ⟨A, S, sl, o, rfl, R, s, e, q⟩ := h
  obtain ⟨⟨w1, S1⟩, e1, e2⟩ := Option.map_eq_some_iff.mp e
  cases e2
  exact ⟨A, S, sl, w1, S1, rfl, R, s, e1, fun B v n R' r => q B _ n R' ((s.mono n).set i r)⟩⟩
theorem s_asg {f : FE} {g : FG} {vs : List Nat} {tg : Expr} (h : PE3 K X e f) (hg : PG3 K X tg vs g) (hs : swapsWithSole [tg] e pos.line X.env = pure false := by rfl) (hw : swappedStores [tg] e X.env = pure none := by rfl) (h1 : (assignEach [tg] X.env).map (·.2) = [assign tg X.env] := by rfl) : PS3 K X (.Assign [tg] e pos) (sAsg f g) := ⟨ps_imp (ps_asg h.p hg.p hs hw h1) fun D σ H h => by
  obtain ⟨A, S, sl, o, rfl, R, s, e, q⟩ := h
  obtain ⟨⟨w1, S1⟩, e1, e2⟩ := Option.bind_eq_some_iff.mp e
  obtain ⟨⟨sl2, S2⟩, e3, e4⟩ := Option.map_eq_some_iff.mp e2
  cases e4
  refine ⟨A, S, sl, w1, S1, rfl, R, s, e1, fun B v n R' r => ?_⟩
  exact ⟨B, S1, sl, w1, sl2, S2, rfl, R', s.mono n, r, e3, fun C σ' n2 R2 s2 _ => q C σ' (n.trans n2) R2 s2⟩⟩
end
/-! ### targets -/
def gNm (i : Nat) : FG := fun w sl S => some (sl.set i (some w), S)
def gsNil : List PyData → Sl → List MO → Option (Sl × List MO) := fun xs sl S => match xs with
  | [] => some (sl, S)
  | _ => none
def gsCons (g : FG) (r : List PyData → Sl → List MO → Option (Sl × List MO)) : List PyData → Sl → List MO → Option (Sl × List MO) := fun xs sl S => match xs with
  | x :: xs => (g (.d x) sl S).bind fun p => r xs p.1 p.2
  | [] => none
def gTp (r : List PyData → Sl → List MO → Option (Sl × List MO)) : FG := fun w sl S => match w with
  | .d (.tuple xs) => r xs sl S
  | _ => none
section
variable {K : PySem.W.Frag} {X : Cx} {e : Expr} {es : List Expr} {pos : Pos}
theorem pg_imp {t t' : TG} (h : PG X e t) (i : ∀ v σ H Q, t' v σ H Q → t v σ H Q) : PG X e t' := ⟨fun pins s σ H v u Q I r q => h.run pins s σ H v u Q I r (i v σ H Q q)⟩
theorem g_name {i : Nat} {x : Str} (hN : X.N.Nodup) (hi : X.N[i]? = some x) (hx : Loc X.env.scope x) (hf : X.fn x = true ∨ X.env.scope.names.lookup x = some .local := by first | exact .inl rfl | exact .inr rfl | assumption) : PG3 K X (.Name x pos) [i] (gNm i) := ⟨pg_imp (pg_name hN hi hx hf) fun v σ H Q h => by
  obtain ⟨A, S, sl, w, sl', S', rfl, R, s, r, e, q⟩ := h
  cases e
  refine q A _ (Nx.refl A) R (s.set i r) ⟨List.length_set, fun j hj => ?_⟩
  rw [List.getElem?_set_ne (fun z => hj (by simp [z]))]⟩
end
end EA
namespace EA
open PySem PySem.Spec PyProof.Rows L2
/-! ### for -/
def fLoop (ok : List MO → Bool) (g : FG) (b : FS) : List W3 → Sl → List MO → Option Out
  | [], sl, S => if ok S = true then some (.nx sl S) else none
  | w :: ws, sl, S => if ok S = true then (g w sl S).bind fun p => (b p.1 p.2).bind fun o => match o with
      | .nx sl' S' => fLoop ok g b ws sl' S'
      | .ct sl' S' => fLoop ok g b ws sl' S'
      | .bk sl' S' => some (.nx sl' S')
      | .rt w S' => some (.rt w S') else none
def sFor (it : FI) (g : FG) (b : FS) : FS := fun sl S => (it sl S).bind fun p => fLoop p.1.ok g b p.1.ws sl p.2
theorem fLoop_ok {ok : List MO → Bool} {g : FG} {b : FS} {ws : List W3} {sl : Sl} {S : List MO} {o : Out} (h : fLoop ok g b ws sl S = some o) : ok S = true := by
  cases ws with
  | nil =>
    by_cases z : ok S = true
    · exact z
    · rw [fLoop, if_neg z] at h; cases h
  | cons w ws =>
    by_cases z : ok S = true
    · exact z
    · rw [fLoop, if_neg z] at h; cases h
section
variable {K : PySem.W.Frag} {X : Cx} {e : Expr} {es : List Expr} {st : Stmt} {sts : List Stmt} {pos : Pos}
theorem s_for {iter tg : Expr} {body : List Stmt} {it : FI} {vs : List Nat} {g : FG} {b : FS} (hp : PassesOwn (model X.prog X.w) X.A X.env X.xe) (hc : X.calm = true) (hi : PI3 K X tg iter it) (hg : PG3 K X tg vs g) (hb : PSs3 K X body b)
    (hs : ∀ x, foldedSetIterable iter X.env x = pure x := by intro _; rfl) : PS3 K X (.For tg iter body [] pos) (sFor it g b) := ⟨ps_imp (ps_for hp hc hi.p hg.p hb.p hs) fun D σ H h => by
  obtain ⟨A, S, sl, o, rfl, R, s, e, q⟩ := h
  obtain ⟨⟨j, S1⟩, e1, e2⟩ := Option.bind_eq_some_iff.mp e
  refine ⟨A, S, sl, j, S1, rfl, R, s, e1, fun B J n R' IR => ?_⟩
  refine ⟨fun i m σ H => m = j.ws.length - i ∧ i ≤ j.ws.length ∧ ∃ (C : Wd) (S : List MO) (sl : Sl) (o : Out), C.H = H ∧ Nx B C ∧ Rl K C S ∧ SR3 K C σ sl ∧ fLoop j.ok g b (j.ws.drop i) sl S = some o ∧ EndsOk K C D o,
    ⟨_, rfl, Nat.zero_le _, B, S1, sl, o, rfl, Nx.refl B, R', s.mono n, by rw [List.drop_zero]; exact e2, q.mono n⟩, ?_⟩
  rintro i m σ1 H1 ⟨rfl, hi, C, S2, sl2, o2, rfl, n2, R2, s2, e3, q2⟩
  have hok := fLoop_ok e3
  have ir := IR C S2 n2.toW R2 hok i
  by_cases hlt : i < j.ws.length
  · have hw : j.ws[i]? = some j.ws[i] := List.getElem?_eq_getElem hlt
    obtain ⟨go, step⟩ := ir.1 _ hw
    have hd : j.ws.drop i = j.ws[i] :: j.ws.drop (i + 1) := List.drop_eq_getElem_cons hlt
    rw [hd, fLoop, if_pos hok] at e3
    obtain ⟨⟨sl3, S3⟩, e4, e5⟩ := Option.bind_eq_some_iff.mp e3
    obtain ⟨o3, e6, e7⟩ := Option.bind_eq_some_iff.mp e5
    refine .inr ⟨go, fun σ' H' => ∃ (C : Wd) (S : List MO) (sl : Sl) (o : Out), C.H = H' ∧ Nx B C ∧ Rl K C S ∧ SR3 K C σ' sl ∧ fLoop j.ok g b (j.ws.drop (i + 1)) sl S = some o ∧ EndsOk K C D o, fun σ' H' w => ⟨j.ws.length - (i + 1), by omega, rfl, hlt, w⟩, fun v H' y => ?_⟩
    obtain ⟨C', rfl, n3, R3, r3⟩ := step v H' y
    refine ⟨C', S2, sl2, j.ws[i], sl3, S3, rfl, R3, s2.mono n3, r3, e4, fun E σ' n4 R4 s4 _ => ?_⟩
    have nE : Nx C E := n3.trans n4
    refine ⟨E, S3, sl3, o3, rfl, R4, s4, e6, ?_⟩
    cases o3 with
    | nx sl' S' => exact fun F σ2 n5 R5 s5 => ⟨F, S', sl', o2, rfl, n2.trans (nE.trans n5), R5, s5, e7, q2.mono (nE.trans n5)⟩
    | ct sl' S' => exact fun F σ2 n5 R5 s5 => ⟨F, S', sl', o2, rfl, n2.trans (nE.trans n5), R5, s5, e7, q2.mono (nE.trans n5)⟩
    | bk sl' S' => cases e7; exact fun F σ2 n5 R5 s5 => q2 F σ2 (nE.trans n5) R5 s5
    | rt w S' => cases e7; exact fun F v n5 R5 s5 => q2 F v (nE.trans n5) R5 s5
  · have hz : i = j.ws.length := by omega
    subst hz
    rw [List.drop_length, fLoop, if_pos hok] at e3
    cases e3
    exact .inl ⟨ir.2 (Nat.le_refl _), q2 C σ1 (Nx.refl C) R2 s2⟩⟩
/-! ### while -/
def wRun (t : FT) (b : FS) : Nat → Sl → List MO → Option Out
  | 0, _, _ => none
  | n + 1, sl, S => (t sl S).bind fun p => if p.1 = true then (b sl p.2).bind fun o => match o with
      | .nx sl' S' => wRun t b n sl' S'
      | .ct sl' S' => wRun t b n sl' S'
      | .bk sl' S' => some (.nx sl' S')
      | .rt w S' => some (.rt w S') else some (.nx sl p.2)
open Classical in
noncomputable def sWh (t : FT) (b : FS) : FS := fun sl S => if h : ∃ o, ∃ n, wRun t b n sl S = some o then some (Classical.choose h) else none
theorem wRun_up {t : FT} {b : FS} : ∀ {n : Nat} {sl : Sl} {S : List MO} {o : Out}, wRun t b n sl S = some o → ∀ m, n ≤ m → wRun t b m sl S = some o
  | 0, _, _, _, h, _, _ => by cases h
  | n + 1, sl, S, o, h, m, hm => by
    obtain ⟨m, rfl⟩ : ∃ k, m = k + 1 := ⟨m - 1, by omega⟩
    rw [wRun] at h ⊢
    obtain ⟨p, e1, e2⟩ := Option.bind_eq_some_iff.mp h
    rw [e1]
    show (if p.1 = true then _ else _) = _
    by_cases hp : p.1 = true
    · rw [if_pos hp] at e2 ⊢
      obtain ⟨o1, e3, e4⟩ := Option.bind_eq_some_iff.mp e2
      rw [e3]
      cases o1 with
      | nx sl' S' => exact wRun_up e4 m (by omega)
      | ct sl' S' => exact wRun_up e4 m (by omega)
      | bk sl' S' => exact e4
      | rt w S' => exact e4
    · rw [if_neg hp] at e2 ⊢
      exact e2
theorem sWh_of {t : FT} {b : FS} {n : Nat} {sl : Sl} {S : List MO} {o : Out} (h : wRun t b n sl S = some o) : sWh t b sl S = some o := by
  have ex : ∃ o, ∃ n, wRun t b n sl S = some o := ⟨o, n, h⟩
  unfold sWh
  rw [dif_pos ex]
  obtain ⟨m, hm⟩ := Classical.choose_spec ex
  have a := wRun_up h (n + m) (by omega)
  have b := wRun_up hm (n + m) (by omega)
  exact b.symm.trans a
theorem sWh_inv {t : FT} {b : FS} {sl : Sl} {S : List MO} {o : Out} (h : sWh t b sl S = some o) : ∃ n, wRun t b n sl S = some o := by
  unfold sWh at h
  by_cases ex : ∃ o, ∃ n, wRun t b n sl S = some o
  · rw [dif_pos ex] at h
    obtain ⟨m, hm⟩ := Classical.choose_spec ex
    exact ⟨m, hm.trans h⟩
  · rw [dif_neg ex] at h
    cases h
theorem s_while {c : Expr} {body : List Stmt} {t : FT} {b : FS} (hp : PassesOwn (model X.prog X.w) X.A X.env X.xe) (hc : PT3 K X c t) (hb : PSs3 K X body b) : PS3 K X (.While c body [] pos) (sWh t b) := ⟨ps_imp (ps_while hp hc.p hb.p) fun D σ H h => by
  obtain ⟨A, S, sl, o, rfl, R, s, e, q⟩ := h
  obtain ⟨n0, e0⟩ := sWh_inv e
  refine ⟨fun n σ H => ∃ (C : Wd) (S : List MO) (sl : Sl) (o : Out), C.H = H ∧ Rl K C S ∧ SR3 K C σ sl ∧ wRun t b n sl S = some o ∧ EndsOk K C D o, ⟨n0, A, S, sl, o, rfl, R, s, e0, q⟩, ?_⟩
  rintro n σ1 H1 ⟨C, S1, sl1, o1, rfl, R1, s1, e1, q1⟩
  cases n with
  | zero => cases e1
  | succ n =>
    rw [wRun] at e1
    obtain ⟨⟨b1, S2⟩, e2, e3⟩ := Option.bind_eq_some_iff.mp e1
    refine ⟨C, S1, sl1, b1, S2, rfl, R1, s1, e2, fun E n1 R2 => ?_⟩
    cases b1 with
    | false => cases e3; exact q1 E σ1 n1 R2 (s1.mono n1)
    | true =>
      obtain ⟨o2, e4, e5⟩ := Option.bind_eq_some_iff.mp e3
      refine ⟨fun σ' H' => ∃ (C : Wd) (S : List MO) (sl : Sl) (o : Out), C.H = H' ∧ Rl K C S ∧ SR3 K C σ' sl ∧ wRun t b n sl S = some o ∧ EndsOk K C D o, fun σ' H' w => ⟨n, Nat.lt_succ_self n, w⟩, E, S2, sl1, o2, rfl, R2, s1.mono n1, e4, ?_⟩
      cases o2 with
      | nx sl' S' => exact fun F σ2 n5 R5 s5 => ⟨F, S', sl', o1, rfl, R5, s5, e5, q1.mono (n1.trans n5)⟩
      | ct sl' S' => exact fun F σ2 n5 R5 s5 => ⟨F, S', sl', o1, rfl, R5, s5, e5, q1.mono (n1.trans n5)⟩
      | bk sl' S' => cases e5; exact fun F σ2 n5 R5 s5 => q1 F σ2 (n1.trans n5) R5 s5
      | rt w S' => cases e5; exact fun F v n5 R5 s5 => q1 F v (n1.trans n5) R5 s5⟩
end
/-! ### [e for x in xs if ..] -/
def wipe3 (sl : Sl) : List Nat → Sl
  | [] => sl
  | v :: vs => (wipe3 sl vs).set v none
def cLoop (ok : List MO → Bool) (g : FG) (t : FT) (e : FE) (sl : Sl) : List W3 → List MO → Option (List PyData × List MO)
  | [], S => if ok S = true then some ([], S) else none
  | w :: ws, S => if ok S = true then (g w sl S).bind fun p => (t p.1 p.2).bind fun b => if b.1 = true then (e p.1 b.2).bind fun y => match y.1 with
        | .d x => (cLoop ok g t e sl ws y.2).map fun z => (x :: z.1, z.2)
        | _ => none
      else cLoop ok g t e sl ws b.2
    else none
/-- own: the comprehension's names' slots -/
def nLc (own : List Nat) (it : FI) (g : FG) (t : FT) (e : FE) : FN := fun sl S => (it sl S).bind fun p => if p.1.ws.length ≤ 100000 then cLoop p.1.ok g t e (wipe3 sl own) p.1.ws p.2 else none
def tYes3 : FT := fun _ S => some (true, S)
theorem cLoop_ok {ok : List MO → Bool} {g : FG} {t : FT} {e : FE} {sl : Sl} {ws : List W3} {S : List MO} {o : List PyData × List MO} (h : cLoop ok g t e sl ws S = some o) : ok S = true := by
  cases ws with
  | nil =>
    by_cases z : ok S = true
    · exact z
    · rw [cLoop, if_neg z] at h; cases h
  | cons w ws =>
    by_cases z : ok S = true
    · exact z
    · rw [cLoop, if_neg z] at h; cases h
theorem SR3.weak {K : PySem.W.Frag} {A : Wd} {σ : L2.St} {sl : Sl} (h : SR3 K A σ sl) : ∀ vs : List Nat, SR3 K A (wipe σ vs) (wipe3 sl vs)
  | [] => h
  | v :: vs => by
    have ih := h.weak vs
    refine ⟨?_, fun j u e => ?_⟩
    · show ((wipe σ vs).set v none).length = ((wipe3 sl vs).set v none).length
      rw [List.length_set, List.length_set, ih.len]
    · have e' : ((wipe3 sl vs).set v none)[j]? = some (some u) := e
      show ∃ x, ((wipe σ vs).set v none)[j]? = some (some x) ∧ _
      by_cases hj : v = j
      · subst hj
        have hi : v < (wipe3 sl vs).length := by have := (List.getElem?_eq_some_iff.mp e').1; rwa [List.length_set] at this
        rw [List.getElem?_set_self hi] at e'
        cases e'
      · rw [List.getElem?_set_ne hj] at e' ⊢
        exact ih.at_ j u e'
theorem wipe_get {σ : L2.St} {j : Nat} : ∀ {vs : List Nat}, (wipe σ vs)[j]? = if j ∈ vs then (σ[j]?).map fun _ => none else σ[j]?
  | [] => by simp [wipe]
  | v :: vs => by
    show ((wipe σ vs).set v none)[j]? = _
    by_cases hj : v = j
    · subst hj
      rw [if_pos List.mem_cons_self]
      by_cases hi : v < σ.length
      · rw [List.getElem?_set_self (by rw [wipe_length]; exact hi), List.getElem?_eq_getElem hi]; rfl
      · rw [List.getElem?_eq_none (by rw [List.length_set, wipe_length]; omega), List.getElem?_eq_none (by omega)]; rfl
    · rw [List.getElem?_set_ne hj, wipe_get (vs := vs)]
      by_cases h : j ∈ vs
      · rw [if_pos h, if_pos (List.mem_cons_of_mem _ h)]
      · rw [if_neg h, if_neg fun z => (List.mem_cons.mp z).elim (fun z => hj z.symm) h]
theorem wipe_same {σ σ' : L2.St} {vs ws : List Nat} (hl : σ'.length = σ.length) (h : ∀ j, j ∉ ws → σ'[j]? = (wipe σ vs)[j]?) (hw : ∀ j ∈ ws, j ∈ vs) : wipe σ' vs = wipe σ vs := by
  apply List.ext_getElem?
  intro j
  rw [wipe_get, wipe_get]
  by_cases hj : j ∈ vs
  · rw [if_pos hj, if_pos hj]
    by_cases hi : j < σ.length
    · rw [List.getElem?_eq_getElem hi, List.getElem?_eq_getElem (by rw [hl]; exact hi)]; rfl
    · rw [List.getElem?_eq_none (by omega), List.getElem?_eq_none (by omega)]
  · rw [if_neg hj, if_neg hj, h j fun z => hj (hw j z), wipe_get, if_neg hj]
section
variable {K : PySem.W.Frag} {X : Cx} {e : Expr} {es : List Expr} {pos : Pos}
structure PTs3 (K : PySem.W.Frag) (X : Cx) (ifs : List Expr) (f : FT) : Prop where
  p : PTs X ifs (ttO K f)
theorem t_nil : PTs3 K X [] tYes3 := ⟨⟨fun pins s σ H Q I h => by
  obtain ⟨A, S, sl, w, S', rfl, R, s', e, q⟩ := h
  cases e
  exact (pts_nil (X := X)).run pins s σ _ Q I (q A (Nx.refl A) R)⟩⟩
theorem t_one {c : Expr} {f : FT} (h : PT3 K X c f) : PTs3 K X [c] f := ⟨pts_one h.p⟩
/-- the comprehension's reading, for a new list at D -/
theorem lc_go {it : FI} {g : FG} {t : FT} {f : FE} {vs ws : List Nat} (hw : ∀ j ∈ ws, j ∈ vs) {σ : L2.St} {H : Hp} {Q : VK} (h : tnO K (nLc vs it g t f) σ H Q) : tLc (tiO K it) (tgO K ws g) (ttO K t) (teO K f) vs σ H Q := by
  obtain ⟨A, S, sl, ys, S', rfl, R, s, e, q⟩ := h
  obtain ⟨⟨j, S1⟩, e1, e2⟩ := Option.bind_eq_some_iff.mp e
  refine ⟨A, S, sl, j, S1, rfl, R, s, e1, fun B J n R' IR D hD => ?_⟩
  have hz : j.ws.length ≤ 100000 := by
    by_cases z : j.ws.length ≤ 100000
    · exact z
    · rw [if_neg z] at e2; cases e2
  rw [if_pos hz] at e2
  have gD : B.G D = none := R'.gh.free hD
  have niD : D ∉ B.ι := R'.new hD
  have aD : A.H D = none := by
    cases z : A.H D with
    | none => rfl
    | some u => exact absurd hD (n.dm D (by rw [z]; exact fun k => nomatch k))
  obtain ⟨nj, Rj⟩ := Nx.junk (o := .lst []) R' hD
  refine ⟨fun i m H => m = j.ws.length - i ∧ i ≤ j.ws.length ∧ ∃ (C : Wd) (S : List MO) (acc : List V) (ds rest : List PyData), C.H = H ∧ Nx B C ∧ Rl K C S ∧ C.G D = none ∧ D ∉ C.ι ∧ C.H D = some (.lst acc) ∧ DaA K C.G acc ds ∧ acc.length ≤ i ∧
      cLoop j.ok g t f (wipe3 sl vs) (j.ws.drop i) S = some (rest, S') ∧ ds ++ rest = ys,
    ⟨_, rfl, Nat.zero_le _, ⟨B.G, upd B.H D (.lst []), B.ι⟩, S1, [], [], ys, rfl, nj, Rj, gD, niD, upd_same, .nil, Nat.le_refl _, by rw [List.drop_zero]; exact e2, rfl⟩, ?_⟩
  rintro i m H1 ⟨rfl, hi, C, S2, acc, ds, rest, rfl, n2, R2, gC, niC, hC, hd, hl, e3, ey⟩
  have hok := cLoop_ok e3
  have ir := IR C S2 n2.toW R2 hok i
  by_cases hlt : i < j.ws.length
  · have hwi : j.ws[i]? = some j.ws[i] := List.getElem?_eq_getElem hlt
    obtain ⟨go, step⟩ := ir.1 _ hwi
    have hdr : j.ws.drop i = j.ws[i] :: j.ws.drop (i + 1) := List.drop_eq_getElem_cons hlt
    rw [hdr, cLoop, if_pos hok] at e3
    obtain ⟨⟨sl3, S3⟩, e4, e5⟩ := Option.bind_eq_some_iff.mp e3
    obtain ⟨⟨b3, S4⟩, e6, e7⟩ := Option.bind_eq_some_iff.mp e5
    refine .inr ⟨go, fun H' => i + 1 ≤ j.ws.length ∧ ∃ (C : Wd) (S : List MO) (acc : List V) (ds rest : List PyData), C.H = H' ∧ Nx B C ∧ Rl K C S ∧ C.G D = none ∧ D ∉ C.ι ∧ C.H D = some (.lst acc) ∧ DaA K C.G acc ds ∧ acc.length ≤ i + 1 ∧
      cLoop j.ok g t f (wipe3 sl vs) (j.ws.drop (i + 1)) S = some (rest, S') ∧ ds ++ rest = ys, fun H' w => ⟨j.ws.length - (i + 1), by omega, rfl, w⟩, fun v H' y => ?_⟩
    obtain ⟨C', rfl, n3, R3, r3⟩ := step v H' y
    -- the list is still there
    have keep : ∀ {E : Wd}, Nx C E → E.G D = none ∧ D ∉ E.ι ∧ E.H D = some (.lst acc) ∧ DaA K E.G acc ds := fun {E} nE =>
      ⟨nE.nw D niC gC (by rw [hC]; exact fun z => nomatch z), fun z => (nE.fr D z).elim niC (fun k => nomatch hC.symm.trans k), nE.hh D _ niC hC, hd.up nE.gg⟩
    refine ⟨C', S2, wipe3 sl vs, j.ws[i], sl3, S3, rfl, R3, ((s.mono n).mono (n2.trans n3)).weak vs, r3, e4, fun E σ' n4 R4 s4 k4 => ⟨?_, ?_⟩⟩
    · exact wipe_same (by rw [k4.1, wipe_length]) k4.2 hw
    · refine ⟨E, S3, sl3, b3, S4, rfl, R4, s4, e6, fun F n5 R5 => ?_⟩
      have nF : Nx C F := (n3.trans n4).trans n5
      cases b3 with
      | false =>
        obtain ⟨g1, g2, g3, g4⟩ := keep nF
        exact ⟨hlt, F, S4, acc, ds, rest, rfl, n2.trans nF, R5, g1, g2, g3, g4, by omega, e7, ey⟩
      | true =>
        obtain ⟨⟨y1, S5⟩, e8, e9⟩ := Option.bind_eq_some_iff.mp e7
        refine ⟨F, S4, sl3, y1, S5, rfl, R5, s4.mono n5, e8, fun L u n6 R6 r6 => ?_⟩
        cases y1 with
        | r _ => cases e9
        | sc _ => cases e9
        | ty _ => cases e9
        | d x =>
          obtain ⟨⟨r2, S6⟩, e10, e11⟩ := Option.map_eq_some_iff.mp e9
          cases e11
          obtain ⟨g1, g2, g3, g4⟩ := keep (nF.trans n6)
          refine ⟨acc, g3, Nat.lt_of_le_of_lt (Nat.le_trans hl (Nat.le_trans hi hz)) (by decide), hlt, ⟨L.G, upd L.H D (.lst (acc ++ [u])), L.ι⟩, S5, acc ++ [u], ds ++ [x], r2, rfl, ?_, ?_, g1, g2, upd_same, g4.app (.cons r6 .nil), by rw [List.length_append]; exact Nat.succ_le_succ hl, e10, ?_⟩
          · have nL : Nx B L := n2.trans (nF.trans n6)
            exact ⟨nL.gg, fun b o hb hh => by
              show upd L.H D _ b = _
              rw [upd_ne (fun z => by rw [z, hD] at hh; cases hh)]; exact nL.hh b o hb hh, nL.nw, fun b hb z => nL.dm b hb (upd_none z), nL.pre, nL.fr, fun b od ks e => by
              show upd L.H D _ b = _
              rw [upd_ne (fun z => by rw [z, hD] at e; cases e)]; exact nL.lk b od ks e⟩
          · refine ⟨fun b o hb => ?_, R6.nd, R6.len, fun i o a e1 e2 => (R6.ob i o a e1 e2).keep (Same.refl _) (fun g => g) (fun u hu => ?_) fun b φ h => by
              show upd L.H D _ b = _
              rw [upd_ne (fun z => by rw [z, g3] at h; cases h)]; exact h⟩
            · show upd L.H D _ b = _
              rw [upd_ne (ne_of_none hb g1)]; exact R6.gh b o hb
            · show upd L.H D _ a = _
              rw [upd_ne (fun z => g2 (by rw [← z]; exact List.mem_of_getElem? e2))]; exact hu
          · rw [List.append_assoc]; exact ey
  · have hz2 : i = j.ws.length := by omega
    subst hz2
    rw [List.drop_length, cLoop, if_pos hok] at e3
    cases e3
    rw [List.append_nil] at ey
    subst ey
    exact .inl ⟨ir.2 (Nat.le_refl _), q C acc D (n.trans n2) R2 aD niC gC hC hd⟩
end
end EA
namespace EA
open PySem PySem.Spec PyProof.Rows L2
/-! ### what a value is, as data -/
def view (S : List MO) : W3 → Option PyData
  | .d x => some x
  | .r i => match S[i]? with
    | some (.lst xs) => some (.list xs)
    | _ => none
  | .sc xs => some (.list (xs.map .int))
  | .ty _ => none
section
variable {K : PySem.W.Frag} {A : Wd} {S : List MO} {v : V} {w : W3} {x : PyData}
mutual
theorem Dp.ofDa {H : Hp} (s : Same A.G H) : ∀ {d : PyData} {v : V}, Da K A.G v d → Dp K H v d
  | .none, _, .non => .non
  | .bool _, _, .bl b => .bl b
  | .int _, _, .int i => .int i
  | .str _, _, .str x => .str x
  | .list _, _, .lst e h => .lst (SqL.of (s _ _ e)) (DpAll.ofDa s h)
  | .tuple _, _, .tup e h => .tup (sqT_up s e.sq) (DpAll.ofDa s h)
theorem DpAll.ofDa {H : Hp} (s : Same A.G H) : ∀ {ds : List PyData} {vs : List V}, DaA K A.G vs ds → DpAll K H vs ds
  | [], _, .nil => .nil
  | _ :: _, _, .cons h t => .cons (Dp.ofDa s h) (DpAll.ofDa s t)
end
theorem DpAll.ints {H : Hp} : ∀ bs : List Int, DpAll K H (bs.map V.int) (bs.map PyData.int)
  | [] => .nil
  | b :: r => .cons (.int b) (DpAll.ints r)
mutual
theorem dp_plain {H : Hp} : ∀ {d : PyData} {v : V}, Dp K H v d → d.plain = true
  | .none, _, .non => rfl
  | .bool _, _, .bl b => rfl
  | .int _, _, .int i => rfl
  | .str _, _, .str x => rfl
  | .list _, _, .lst e h => dpAll_plain h
  | .tuple _, _, .tup e h => dpAll_plain h
theorem dpAll_plain {H : Hp} : ∀ {ds : List PyData} {vs : List V}, DpAll K H vs ds → PyData.plainAll ds = true
  | [], _, .nil => rfl
  | d :: ds, _, .cons h t => by
    show (d.plain && PyData.plainAll ds) = true
    rw [dp_plain h, dpAll_plain t]; rfl
end
/-- a list, as it lies -/
theorem view_list (R : Rl K A S) (r : RW K A v w) {xs : List PyData} (e : view S w = some (.list xs)) : ∃ a vs, v = .ref a ∧ SqL K A.H a vs ∧ DpAll K A.H vs xs ∧ DaA K A.G vs xs := by
  cases w with
  | d y =>
    cases e
    obtain ⟨a, vs, rfl, h1, h2⟩ := Da.list_inv r
    exact ⟨a, vs, rfl, SqL.of (R.gh _ _ h1), DpAll.ofDa R.gh h2, h2⟩
  | r i =>
    obtain ⟨a, ha, rfl⟩ := r
    unfold view at e
    dsimp only at e
    cases o : S[i]? with
    | none => rw [o] at e; cases e
    | some m =>
      rw [o] at e
      cases m with
      | gone => cases e
      | dic _ => cases e
      | rcd _ => cases e
      | nls _ => cases e
      | ldic _ => cases e
      | tab _ _ => cases e
      | ins _ _ => cases e
      | ndc _ => cases e
      | lst ys =>
        cases e
        obtain ⟨g, vs, h1, h2⟩ := R.ob i _ a o ha
        exact ⟨a, vs, rfl, SqL.of h1, DpAll.ofDa R.gh h2, h2⟩
  | sc ys =>
    cases e
    obtain ⟨a, rfl, h⟩ := r
    exact ⟨a, _, rfl, R.gh.seq h, DpAll.ints ys, DaA.ints ys⟩
  | ty n => cases e
/-- a list whose object is its own -/
def viewL (S : List MO) : W3 → Option (List PyData)
  | .d (.list xs) => some xs
  | .r i => match S[i]? with
    | some (.lst xs) => some xs
    | _ => none
  | _ => none
theorem viewL_at (R : Rl K A S) (r : RW K A v w) {xs : List PyData} (e : viewL S w = some xs) : ∃ a vs, v = .ref a ∧ A.H a = some (.lst vs) ∧ DaA K A.G vs xs := by
  cases w with
  | d y =>
    cases y with
    | list ys =>
      cases e
      obtain ⟨a, vs, rfl, h1, h2⟩ := Da.list_inv r
      exact ⟨a, vs, rfl, R.gh _ _ h1, h2⟩
    | _ => cases e
  | r i =>
    obtain ⟨a, ha, rfl⟩ := r
    unfold viewL at e
    dsimp only at e
    cases o : S[i]? with
    | none => rw [o] at e; cases e
    | some m =>
      rw [o] at e
      cases m with
      | gone => cases e
      | dic _ => cases e
      | rcd _ => cases e
      | nls _ => cases e
      | ldic _ => cases e
      | tab _ _ => cases e
      | ins _ _ => cases e
      | ndc _ => cases e
      | lst ys =>
        cases e
        obtain ⟨g, vs, h1, h2⟩ := R.ob i _ a o ha
        exact ⟨a, vs, rfl, h1, h2⟩
  | sc ys => cases e
  | ty n => cases e
theorem view_dp (R : Rl K A S) (r : RW K A v w) (e : view S w = some x) : Dp K A.H v x := by
  cases w with
  | d y => cases e; exact Dp.ofDa R.gh r
  | r i =>
    have e0 := e
    unfold view at e
    dsimp only at e
    cases o : S[i]? with
    | none => rw [o] at e; cases e
    | some m =>
      rw [o] at e
      cases m with
      | gone => cases e
      | dic _ => cases e
      | rcd _ => cases e
      | nls _ => cases e
      | ldic _ => cases e
      | tab _ _ => cases e
      | ins _ _ => cases e
      | ndc _ => cases e
      | lst ys =>
        cases e
        obtain ⟨a, vs, rfl, h1, h2, _⟩ := view_list (K := K) R r e0
        exact .lst h1 h2
  | sc ys =>
    cases e
    obtain ⟨a, vs, rfl, h1, h2, _⟩ := view_list (K := K) (w := .sc ys) R r rfl
    exact .lst h1 h2
  | ty n => cases e
/-- a tuple, as it lies -/
theorem view_tup (R : Rl K A S) (r : RW K A v w) {xs : List PyData} (e : view S w = some (.tuple xs)) : ∃ a vs, v = .ref a ∧ SqT K A.H a vs ∧ DaA K A.G vs xs := by
  cases w with
  | d y =>
    cases e
    obtain ⟨a, vs, rfl, h1, h2⟩ := Da.tup_inv r
    exact ⟨a, vs, rfl, sqT_up R.gh h1, h2⟩
  | r i =>
    unfold view at e
    dsimp only at e
    cases o : S[i]? with
    | none => rw [o] at e; cases e
    | some m => rw [o] at e; cases m <;> cases e
  | sc ys => cases e
  | ty n => cases e
end
/-! ### comparisons -/
abbrev GB := PyData → PyData → Option Bool
def rB (K : PySem.W.Frag) (g : GB) : R2 := fun x y H Q => ∃ a b c, Dp K H x a ∧ Dp K H y b ∧ g a b = some c ∧ Q (.bl c) H
def gEq : GB := fun a b => if a.depth ≤ 40 ∨ b.depth ≤ 40 then some (PyData.eqv a b) else none
def gNe : GB := fun a b => if a.depth ≤ 40 ∨ b.depth ≤ 40 then some (!PyData.eqv a b) else none
def cmpOk (a b : PyData) : Bool := W.alike a b && (match a with | .none => false | _ => true) && (decide (a.depth ≤ 40) || decide (b.depth ≤ 40))
def gLt : GB := fun a b => if cmpOk a b = true then some (W.dataLt a b) else none
def gGt : GB := fun a b => if cmpOk a b = true then some (W.dataLt b a) else none
def gLe : GB := fun a b => if cmpOk a b = true then some (!W.dataLt b a) else none
def gGe : GB := fun a b => if cmpOk a b = true then some (!W.dataLt a b) else none
def isB : PyData → PyData → Bool
  | .none, .none => true
  | .bool a, .bool b => a == b
  | _, _ => false
def plainB : PyData → Bool
  | .none => true
  | .bool _ => true
  | _ => false
def gIs : GB := fun a b => if plainB b = true then some (isB a b) else none
def gIsN : GB := fun a b => if plainB b = true then some (!isB a b) else none
def gIn : GB := fun a b => match b with
  | .list xs => if PyData.depthAll xs ≤ 40 ∨ a.depth ≤ 40 then some (xs.any fun y => PyData.eqv y a) else none
  | .tuple xs => if PyData.depthAll xs ≤ 40 ∨ a.depth ≤ 40 then some (xs.any fun y => PyData.eqv y a) else none
  | .str j => match a with
    | .str i => some (!(Builtin.Str.occurrences j i 0 j.length 1).isEmpty)
    | _ => none
  | _ => none
def gNin : GB := fun a b => (gIn a b).map not
section
variable {X : Cx} {K : PySem.W.Frag}
theorem min_le40 {a b u c : Nat} (h : a ≤ 40 ∨ b ≤ 40) (hu : u + 64 < c) : u + min a b < c := by omega
theorem min_le41 {a b u c : Nat} (h : a ≤ 40 ∨ b ≤ 40) (hu : u + 64 < c) : u + 1 + min a b < c := by omega
theorem op_gEq (hu : X.A.units + 64 < cLine) : OpR X (compareOp .Eq) (rB X.K gEq) := by
  intro pins s σ H x y v u Q I rx ry h
  obtain ⟨a, b, c, ha, hb, e, q⟩ := h
  obtain ⟨as, ra⟩ := Dp.reads I a x v ha rx
  obtain ⟨bs, rb⟩ := Dp.reads I b y u hb ry
  unfold gEq at e
  by_cases z : a.depth ≤ 40 ∨ b.depth ≤ 40
  · rw [if_pos z] at e
    cases e
    exact SeqAt.eq_plain ra rb (dp_plain ha) (dp_plain hb) (min_le40 z hu) ⟨.bl _, H, I, rfl, q⟩
  · rw [if_neg z] at e; cases e
theorem op_gNe (hu : X.A.units + 64 < cLine) : OpR X (compareOp .NotEq) (rB X.K gNe) := by
  intro pins s σ H x y v u Q I rx ry h
  obtain ⟨a, b, c, ha, hb, e, q⟩ := h
  obtain ⟨as, ra⟩ := Dp.reads I a x v ha rx
  obtain ⟨bs, rb⟩ := Dp.reads I b y u hb ry
  unfold gNe at e
  by_cases z : a.depth ≤ 40 ∨ b.depth ≤ 40
  · rw [if_pos z] at e
    cases e
    exact SeqAt.ne_plain ra rb (dp_plain ha) (dp_plain hb) (min_le40 z hu) ⟨.bl _, H, I, rfl, q⟩
  · rw [if_neg z] at e; cases e
theorem cmpOk_of {a b : PyData} (h : cmpOk a b = true) : W.alike a b = true ∧ a ≠ .none ∧ (a.depth ≤ 40 ∨ b.depth ≤ 40) := by
  unfold cmpOk at h
  obtain ⟨h, h3⟩ := Bool.and_eq_true_iff.mp h
  obtain ⟨h1, h2⟩ := Bool.and_eq_true_iff.mp h
  refine ⟨h1, fun z => ?_, ?_⟩
  · subst z; cases h2
  · rcases Bool.or_eq_true_iff.mp h3 with k | k
    · exact .inl (of_decide_eq_true k)
    · exact .inr (of_decide_eq_true k)
theorem op_gLt (hu : X.A.units + 64 < cLine) : OpR X (compareOp .Lt) (rB X.K gLt) := by
  intro pins s σ H x y v u Q I rx ry h
  obtain ⟨a, b, c, ha, hb, e, q⟩ := h
  obtain ⟨as, ra⟩ := Dp.reads I a x v ha rx
  obtain ⟨bs, rb⟩ := Dp.reads I b y u hb ry
  unfold gLt at e
  by_cases z : cmpOk a b = true
  · rw [if_pos z] at e
    cases e
    obtain ⟨h1, h2, h3⟩ := cmpOk_of z
    exact W.lt_data ra rb h1 h2 (min_le40 h3 hu) ⟨.bl _, H, I, rfl, q⟩
  · rw [if_neg z] at e; cases e
theorem op_gGt (hu : X.A.units + 64 < cLine) : OpR X (compareOp .Gt) (rB X.K gGt) := by
  intro pins s σ H x y v u Q I rx ry h
  obtain ⟨a, b, c, ha, hb, e, q⟩ := h
  obtain ⟨as, ra⟩ := Dp.reads I a x v ha rx
  obtain ⟨bs, rb⟩ := Dp.reads I b y u hb ry
  unfold gGt at e
  by_cases z : cmpOk a b = true
  · rw [if_pos z] at e
    cases e
    obtain ⟨h1, h2, h3⟩ := cmpOk_of z
    exact W.gt_data ra rb h1 h2 (min_le40 h3 hu) ⟨.bl _, H, I, rfl, q⟩
  · rw [if_neg z] at e; cases e
theorem is_iff {H : Hp} {x y : V} {v u : Value} {a b : PyData} (ha : Dp K H x a) (hb : Dp K H y b) (rx : RelV x v) (ry : RelV y u) (p : plainB b = true) : plainIs v u = true ∧ (v == u) = isB a b := by
  cases hb with
  | non =>
    cases ry
    cases ha with
    | non => cases rx; exact ⟨rfl, rfl⟩
    | bl _ => cases rx; exact ⟨rfl, rfl⟩
    | int _ => obtain ⟨t, rfl⟩ := rx; exact ⟨rfl, rfl⟩
    | str _ => obtain ⟨t, rfl⟩ := rx; exact ⟨rfl, rfl⟩
    | lst _ _ => cases rx; exact ⟨rfl, rfl⟩
    | tup _ _ => cases rx; exact ⟨rfl, rfl⟩
  | bl b =>
    cases ry
    cases ha with
    | non => cases rx; exact ⟨rfl, rfl⟩
    | bl c => cases rx; refine ⟨rfl, ?_⟩; cases b <;> cases c <;> rfl
    | int _ => obtain ⟨t, rfl⟩ := rx; exact ⟨rfl, rfl⟩
    | str _ => obtain ⟨t, rfl⟩ := rx; exact ⟨rfl, rfl⟩
    | lst _ _ => cases rx; exact ⟨rfl, rfl⟩
    | tup _ _ => cases rx; exact ⟨rfl, rfl⟩
  | _ => exact absurd (show false = true from p) Bool.false_ne_true
theorem op_gIs : OpR X (compareOp .Is) (rB X.K gIs) := by
  intro pins s σ H x y v u Q I rx ry h
  obtain ⟨a, b, c, ha, hb, e, q⟩ := h
  unfold gIs at e
  by_cases z : plainB b = true
  · rw [if_pos z] at e
    cases e
    obtain ⟨e1, e2⟩ := is_iff ha hb rx ry z
    exact wpAny_is_plain e1 (fin_bl I q e2.symm)
  · rw [if_neg z] at e; cases e
theorem op_gIsN : OpR X (compareOp .IsNot) (rB X.K gIsN) := by
  intro pins s σ H x y v u Q I rx ry h
  obtain ⟨a, b, c, ha, hb, e, q⟩ := h
  unfold gIsN at e
  by_cases z : plainB b = true
  · rw [if_pos z] at e
    cases e
    obtain ⟨e1, e2⟩ := is_iff ha hb rx ry z
    exact wpAny_isNot_plain e1 (fin_bl I q (by rw [e2]))
  · rw [if_neg z] at e; cases e
theorem op_gIn (hu : X.A.units + 64 < cLine) : OpR X (compareOp .In) (rB X.K gIn) := by
  intro pins s σ H x y v u Q I rx ry h
  obtain ⟨a, b, c, ha, hb, e, q⟩ := h
  obtain ⟨as, ra⟩ := Dp.reads I a x v ha rx
  obtain ⟨bs, rb⟩ := Dp.reads I b y u hb ry
  have pb := dp_plain hb
  cases b with
  | list xs =>
    unfold gIn at e
    dsimp only at e
    by_cases z : PyData.depthAll xs ≤ 40 ∨ a.depth ≤ 40
    · rw [if_pos z] at e
      cases e
      exact SeqAt.in_list_data rb ra pb (dp_plain ha) (min_le41 z hu) ⟨.bl _, H, I, rfl, q⟩
    · rw [if_neg z] at e; cases e
  | tuple xs =>
    unfold gIn at e
    dsimp only at e
    by_cases z : PyData.depthAll xs ≤ 40 ∨ a.depth ≤ 40
    · rw [if_pos z] at e
      cases e
      exact SeqAt.in_tuple_data rb ra pb (dp_plain ha) (min_le41 z hu) ⟨.bl _, H, I, rfl, q⟩
    · rw [if_neg z] at e; cases e
  | str j =>
    cases a with
    | str i =>
      cases e
      cases ha
      cases hb
      exact op_in_str pins s σ H _ _ v u Q I rx ry ⟨i, j, rfl, rfl, q⟩
    | _ => cases e
  | _ => cases e
theorem op_gNin (hu : X.A.units + 64 < cLine) : OpR X (compareOp .NotIn) (rB X.K gNin) := by
  intro pins s σ H x y v u Q I rx ry h
  obtain ⟨a, b, c, ha, hb, e, q⟩ := h
  obtain ⟨as, ra⟩ := Dp.reads I a x v ha rx
  obtain ⟨bs, rb⟩ := Dp.reads I b y u hb ry
  have pb := dp_plain hb
  obtain ⟨c', e0, rfl⟩ := Option.map_eq_some_iff.mp (show (gIn a b).map not = some c from e)
  clear e
  have fin : ∀ d : Bool, some d = some c' → Q (.bl (!d)) H := fun d h => by rw [Option.some.inj h]; exact q
  cases b with
  | list xs =>
    have e1 : (if PyData.depthAll xs ≤ 40 ∨ a.depth ≤ 40 then some (xs.any fun y => PyData.eqv y a) else none) = some c' := e0
    by_cases z : PyData.depthAll xs ≤ 40 ∨ a.depth ≤ 40
    · rw [if_pos z] at e1
      exact SeqAt.notIn_list_data rb ra pb (dp_plain ha) (min_le41 z hu) ⟨.bl _, H, I, rfl, fin _ e1⟩
    · rw [if_neg z] at e1; cases e1
  | tuple xs =>
    have e1 : (if PyData.depthAll xs ≤ 40 ∨ a.depth ≤ 40 then some (xs.any fun y => PyData.eqv y a) else none) = some c' := e0
    by_cases z : PyData.depthAll xs ≤ 40 ∨ a.depth ≤ 40
    · rw [if_pos z] at e1
      exact SeqAt.notIn_tuple_data rb ra pb (dp_plain ha) (min_le41 z hu) ⟨.bl _, H, I, rfl, fin _ e1⟩
    · rw [if_neg z] at e1; cases e1
  | str j =>
    cases a with
    | str i =>
      cases ha
      cases hb
      exact op_notIn_str pins s σ H _ _ v u Q I rx ry ⟨i, j, rfl, rfl, fin _ e0⟩
    | _ => cases e0
  | _ => cases e0
end
def eCmp (g : GB) (a b : FE) : FE := fun sl S => (a sl S).bind fun p => (b sl p.2).bind fun q => (view q.2 p.1).bind fun x => (view q.2 q.1).bind fun y => (g x y).map fun c => (.d (.bool c), q.2)
def tCmp (g : GB) (a b : FE) : FT := fun sl S => (a sl S).bind fun p => (b sl p.2).bind fun q => (view q.2 p.1).bind fun x => (view q.2 q.1).bind fun y => (g x y).map fun c => (c, q.2)
section
variable {K : PySem.W.Frag} {X : Cx} {a b : Expr} {fa fb : FE} {pos : Pos}
theorem e_cmp {op : CmpOp} {g : GB} (hK : X.K = K) (ho : OpR X (compareOp op) (rB X.K g)) (ha : PE3 K X a fa) (hb : PE3 K X b fb) (hm : behindInMarks op b = false) : PE3 K X (.Compare a [op] [b] pos) (eCmp g fa fb) := ⟨pe_imp (pe_cmpR ho ha.p hb.p hm) fun σ H Q h => by
  subst hK
  obtain ⟨A, S, sl, w, S', rfl, R, s, e, q⟩ := h
  obtain ⟨⟨w1, S1⟩, e1, e⟩ := Option.bind_eq_some_iff.mp e
  obtain ⟨⟨w2, S2⟩, e2, e⟩ := Option.bind_eq_some_iff.mp e
  obtain ⟨x, e3, e⟩ := Option.bind_eq_some_iff.mp e
  obtain ⟨y, e4, e⟩ := Option.bind_eq_some_iff.mp e
  obtain ⟨c, e5, e⟩ := Option.map_eq_some_iff.mp e
  cases e
  refine ⟨A, S, sl, w1, S1, rfl, R, s, e1, fun B v n R1 r1 => ⟨B, S1, sl, w2, S2, rfl, R1, s.mono n, e2, fun C u n2 R2 r2 => ?_⟩⟩
  exact ⟨x, y, c, view_dp R2 (r1.mono n2) e3, view_dp R2 r2 e4, e5, q C _ (n.trans n2) R2 (Da.bl c)⟩⟩
theorem t_cmp {op : CmpOp} {g : GB} (hK : X.K = K) (ho : OpR X (compareOp op) (rB X.K g)) (ha : PE3 K X a fa) (hb : PE3 K X b fb) (hm : behindInMarks op b = false) : PT3 K X (.Compare a [op] [b] pos) (tCmp g fa fb) := ⟨pt_imp (pt_cmpR ho ha.p hb.p hm) fun σ H Q h => by
  subst hK
  obtain ⟨A, S, sl, w, S', rfl, R, s, e, q⟩ := h
  obtain ⟨⟨w1, S1⟩, e1, e⟩ := Option.bind_eq_some_iff.mp e
  obtain ⟨⟨w2, S2⟩, e2, e⟩ := Option.bind_eq_some_iff.mp e
  obtain ⟨x, e3, e⟩ := Option.bind_eq_some_iff.mp e
  obtain ⟨y, e4, e⟩ := Option.bind_eq_some_iff.mp e
  obtain ⟨c, e5, e⟩ := Option.map_eq_some_iff.mp e
  cases e
  refine ⟨A, S, sl, w1, S1, rfl, R, s, e1, fun B v n R1 r1 => ⟨B, S1, sl, w2, S2, rfl, R1, s.mono n, e2, fun C u n2 R2 r2 => ?_⟩⟩
  exact ⟨x, y, _, view_dp R2 (r1.mono n2) e3, view_dp R2 r2 e4, e5, _, rfl, q C (n.trans n2) R2⟩⟩
/-! ### truth, and, or, not, if -/
def truD : PyData → Option Bool
  | .none => some false
  | .bool b => some b
  | .int i => some (i != 0)
  | .str x => if x.length ≤ 100000 then some ((x.length : Int) != 0) else none
  | .list xs => some (!xs.isEmpty)
  | .tuple xs => some (!xs.isEmpty)
  | .dict _ => none
def truW (S : List MO) (w : W3) : Option Bool := match w with
  | .r i => match S[i]? with
    | some (.dic ks) => some (!ks.isEmpty)
    | some (.lst xs) => some (!xs.isEmpty)
    | _ => none
  | w => (view S w).bind truD
theorem isEmpty_len {α β : Type} {xs : List α} {ys : List β} (h : xs.length = ys.length) : xs.isEmpty = ys.isEmpty := by
  cases xs with
  | nil =>
    cases ys with
    | nil => rfl
    | cons _ _ => simp at h
  | cons _ _ =>
    cases ys with
    | nil => simp at h
    | cons _ _ => rfl
theorem dpAll_len {H : Hp} : ∀ {vs : List V} {ds : List PyData}, DpAll K H vs ds → vs.length = ds.length
  | _, _, .nil => rfl
  | _, _, .cons _ t => by rw [List.length_cons, List.length_cons, dpAll_len t]
theorem DaK.len {G : Hp} {vs : List (Key × V)} {ds : List (Key × PyData)} (h : DaK K G vs ds) : vs.length = ds.length := by
  induction h with
  | nil => rfl
  | cons _ _ ih => rw [List.length_cons, List.length_cons, ih]
theorem tru_dp {H : Hp} {v : V} {x : PyData} {b : Bool} (h : Dp K H v x) (e : truD x = some b) : TruV K v H b := by
  cases h with
  | non => cases e; rfl
  | bl _ => cases e; rfl
  | int _ => cases e; rfl
  | str y =>
    unfold truD at e
    dsimp only at e
    by_cases z : y.length ≤ 100000
    · rw [if_pos z] at e; cases e; exact ⟨Nat.le_trans z (by decide), rfl⟩
    · rw [if_neg z] at e; cases e
  | lst h1 h2 => cases e; exact .inl ⟨_, h1, by rw [isEmpty_len (dpAll_len h2)]⟩
  | tup h1 h2 => cases e; exact .inr (.inl ⟨_, h1, by rw [isEmpty_len (dpAll_len h2)]⟩)
theorem tru_ok3 {A : Wd} {S : List MO} {v : V} {w : W3} {b : Bool} (R : Rl K A S) (r : RW K A v w) (e : truW S w = some b) : TruV K v A.H b := by
  cases w with
  | r i =>
    unfold truW at e
    obtain ⟨a, ha, rfl⟩ := r
    dsimp only at e
    cases o : S[i]? with
    | none => rw [o] at e; cases e
    | some m =>
      rw [o] at e
      cases m with
      | gone => cases e
      | rcd _ => cases e
      | nls _ => cases e
      | ldic _ => cases e
      | tab _ _ => cases e
      | ins _ _ => cases e
      | ndc _ => cases e
      | lst xs => cases e; obtain ⟨_, vs, h1, h2⟩ := R.ob i _ a o ha; exact .inl ⟨vs, SqL.of h1, by rw [isEmpty_len h2.len]⟩
      | dic ks => cases e; obtain ⟨_, vs, h1, h2⟩ := R.ob i _ a o ha; exact .inr (.inr ⟨vs, h1, by rw [isEmpty_len h2.len]⟩)
  | d y =>
    obtain ⟨x, e1, e2⟩ := Option.bind_eq_some_iff.mp (show (view S (.d y)).bind truD = some b from e)
    exact tru_dp (view_dp R r e1) e2
  | sc y =>
    obtain ⟨x, e1, e2⟩ := Option.bind_eq_some_iff.mp (show (view S (.sc y)).bind truD = some b from e)
    exact tru_dp (view_dp R r e1) e2
  | ty y => cases e
def tTr (f : FE) : FT := fun sl S => (f sl S).bind fun p => (truW p.2 p.1).map fun b => (b, p.2)
theorem t_tr (hK : X.K = K) (h : PE3 K X a fa) (he : ∀ whole, isTrue a X.env whole = (do let v ← whole; standAt a.pos; holding [v] (truthy v))) : PT3 K X a (tTr fa) := ⟨pt_imp (pt_truth h.p he) fun σ H Q h => by
  subst hK
  obtain ⟨A, S, sl, w, S', rfl, R, s, e, q⟩ := h
  obtain ⟨⟨w1, S1⟩, e1, e⟩ := Option.bind_eq_some_iff.mp e
  obtain ⟨c, e2, e⟩ := Option.map_eq_some_iff.mp e
  cases e
  exact ⟨A, S, sl, w1, S1, rfl, R, s, e1, fun B v n R1 r1 => ⟨_, tru_ok3 R1 r1 e2, q B n R1⟩⟩⟩
def eNot (f : FE) : FE := fun sl S => (f sl S).bind fun p => (truW p.2 p.1).map fun b => (.d (.bool (!b)), p.2)
theorem e_not (hK : X.K = K) (h : PE3 K X a fa) : PE3 K X (.UnaryOp .Not a pos) (eNot fa) := ⟨pe_imp (pe_notT h.p) fun σ H Q h => by
  subst hK
  obtain ⟨A, S, sl, w, S', rfl, R, s, e, q⟩ := h
  obtain ⟨⟨w1, S1⟩, e1, e⟩ := Option.bind_eq_some_iff.mp e
  obtain ⟨c, e2, e⟩ := Option.map_eq_some_iff.mp e
  cases e
  exact ⟨A, S, sl, w1, S1, rfl, R, s, e1, fun B v n R1 r1 => ⟨c, tru_ok3 R1 r1 e2, q B _ n R1 (Da.bl _)⟩⟩⟩
def tNt (f : FT) : FT := fun sl S => (f sl S).map fun p => (!p.1, p.2)
theorem t_not {f : FT} (h : PT3 K X a f) : PT3 K X (.UnaryOp .Not a pos) (tNt f) := ⟨pt_imp (pt_not h.p) fun σ H Q h => by
  obtain ⟨A, S, sl, w, S', rfl, R, s, e, q⟩ := h
  obtain ⟨⟨w1, S1⟩, e1, e⟩ := Option.map_eq_some_iff.mp e
  cases e
  exact ⟨A, S, sl, w1, S1, rfl, R, s, e1, fun B n R1 => q B n R1⟩⟩
def tAn (f g : FT) : FT := fun sl S => (f sl S).bind fun p => if p.1 = true then g sl p.2 else some (false, p.2)
def tOr3 (f g : FT) : FT := fun sl S => (f sl S).bind fun p => if p.1 = true then some (true, p.2) else g sl p.2
variable {rest : List Expr}
theorem w_and1 {f : FT} (h : PT3 K X a f) : PW3 K X (.BoolOp .And [a] pos) f := ⟨pw_and1 h.p⟩
theorem w_or1 {f : FT} (h : PT3 K X a f) : PW3 K X (.BoolOp .Or [a] pos) f := ⟨pw_or1 h.p⟩
theorem w_and {f g : FT} (h : PT3 K X a f) (hb : PW3 K X (.BoolOp .And (b :: rest) pos) g) : PW3 K X (.BoolOp .And (a :: b :: rest) pos) (tAn f g) := ⟨pw_imp (pw_and h.p hb.p) fun σ H Q h => by
  obtain ⟨A, S, sl, w, S', rfl, R, s, e, q⟩ := h
  obtain ⟨⟨w1, S1⟩, e1, e⟩ := Option.bind_eq_some_iff.mp e
  refine ⟨A, S, sl, w1, S1, rfl, R, s, e1, fun B n R1 => ?_⟩
  cases w1 with
  | true => exact ⟨B, S1, sl, w, S', rfl, R1, s.mono n, e, fun C n2 R2 => q C (n.trans n2) R2⟩
  | false => cases e; exact q B n R1⟩
theorem w_or {f g : FT} (h : PT3 K X a f) (hb : PW3 K X (.BoolOp .Or (b :: rest) pos) g) : PW3 K X (.BoolOp .Or (a :: b :: rest) pos) (tOr3 f g) := ⟨pw_imp (pw_or h.p hb.p) fun σ H Q h => by
  obtain ⟨A, S, sl, w, S', rfl, R, s, e, q⟩ := h
  obtain ⟨⟨w1, S1⟩, e1, e⟩ := Option.bind_eq_some_iff.mp e
  refine ⟨A, S, sl, w1, S1, rfl, R, s, e1, fun B n R1 => ?_⟩
  cases w1 with
  | false => exact ⟨B, S1, sl, w, S', rfl, R1, s.mono n, e, fun C n2 R2 => q C (n.trans n2) R2⟩
  | true => cases e; exact q B n R1⟩
theorem t_w {f : FT} (h : PW3 K X a f) : PT3 K X a f := ⟨h.p.pt⟩
/-- and, or of truths -/
def eAn (f g : FE) : FE := fun sl S => (f sl S).bind fun p => match p.1 with
  | .d (.bool true) => g sl p.2
  | .d (.bool false) => some (.d (.bool false), p.2)
  | _ => none
def eOr (f g : FE) : FE := fun sl S => (f sl S).bind fun p => match p.1 with
  | .d (.bool false) => g sl p.2
  | .d (.bool true) => some (.d (.bool true), p.2)
  | _ => none
theorem e_one {op : BoolOp} (h : PE3 K X a fa) : PE3 K X (.BoolOp op [a] pos) fa := ⟨pe_one h.p⟩
theorem e_and (h : PE3 K X a fa) (hb : PE3 K X (.BoolOp .And (b :: rest) pos) fb) : PE3 K X (.BoolOp .And (a :: b :: rest) pos) (eAn fa fb) := ⟨pe_imp (pe_and h.p hb.p) fun σ H Q h => by
  obtain ⟨A, S, sl, w, S', rfl, R, s, e, q⟩ := h
  obtain ⟨⟨w1, S1⟩, e1, e⟩ := Option.bind_eq_some_iff.mp e
  refine ⟨A, S, sl, w1, S1, rfl, R, s, e1, fun B v n R1 r1 => ?_⟩
  cases w1 with
  | d x =>
    cases x with
    | bool c =>
      have rv := Da.bool_inv r1
      refine ⟨c, rv, ?_⟩
      cases c with
      | true => exact ⟨B, S1, sl, w, S', rfl, R1, s.mono n, e, fun C v n2 R2 => q C v (n.trans n2) R2⟩
      | false => cases e; exact q B _ n R1 (Da.bl false)
    | _ => cases e
  | _ => cases e⟩
def eIf (t : FT) (f g : FE) : FE := fun sl S => (t sl S).bind fun p => if p.1 = true then f sl p.2 else g sl p.2
theorem e_if {c : Expr} {t : FT} (hc : PT3 K X c t) (ha : PE3 K X a fa) (hb : PE3 K X b fb) : PE3 K X (.IfExp c a b pos) (eIf t fa fb) := ⟨pe_imp (pe_ifExp hc.p ha.p hb.p) fun σ H Q h => by
  obtain ⟨A, S, sl, w, S', rfl, R, s, e, q⟩ := h
  obtain ⟨⟨w1, S1⟩, e1, e⟩ := Option.bind_eq_some_iff.mp e
  refine ⟨A, S, sl, w1, S1, rfl, R, s, e1, fun B n R1 => ?_⟩
  cases w1 with
  | true => exact ⟨B, S1, sl, w, S', rfl, R1, s.mono n, e, fun C v n2 R2 => q C v (n.trans n2) R2⟩
  | false => exact ⟨B, S1, sl, w, S', rfl, R1, s.mono n, e, fun C v n2 R2 => q C v (n.trans n2) R2⟩⟩
end
end EA
namespace EA
open PySem PySem.Spec PyProof.Rows L2
/-! ### data in a part of the heap: G holds the data, H all; what is changed stays out of G -/
mutual
inductive Dat (G : Hp) : V → PyData → Prop
  | non : Dat G .non .none
  | bl (b : Bool) : Dat G (.bl b) (.bool b)
  | int (i : Int) : Dat G (.int i) (.int i)
  | str (x : Str) : Dat G (.str x) (.str x)
  | lst {a : Addr} {xs : List V} {ds : List PyData} : G a = some (.lst xs) → DatA G xs ds → Dat G (.ref a) (.list ds)
  | tup {a : Addr} {xs : List V} {ds : List PyData} : G a = some (.tup xs) → DatA G xs ds → Dat G (.ref a) (.tuple ds)
inductive DatA (G : Hp) : List V → List PyData → Prop
  | nil : DatA G [] []
  | cons {v : V} {vs : List V} {d : PyData} {ds : List PyData} : Dat G v d → DatA G vs ds → DatA G (v :: vs) (d :: ds)
end
section
variable {G G' H : Hp} {K : PySem.W.Frag}
mutual
theorem Dat.up (s : Same G G') : ∀ {d : PyData} {v : V}, Dat G v d → Dat G' v d
  | .none, _, .non => .non
  | .bool _, _, .bl b => .bl b
  | .int _, _, .int i => .int i
  | .str _, _, .str x => .str x
  | .list _, _, .lst e h => .lst (s _ _ e) (DatA.up s h)
  | .tuple _, _, .tup e h => .tup (s _ _ e) (DatA.up s h)
theorem DatA.up (s : Same G G') : ∀ {ds : List PyData} {vs : List V}, DatA G vs ds → DatA G' vs ds
  | [], _, .nil => .nil
  | _ :: _, _, .cons h t => .cons (Dat.up s h) (DatA.up s t)
end
mutual
theorem Dat.dp : ∀ {d : PyData} {v : V}, Dat G v d → Dp K G v d
  | .none, _, .non => .non
  | .bool _, _, .bl b => .bl b
  | .int _, _, .int i => .int i
  | .str _, _, .str x => .str x
  | .list _, _, .lst e h => .lst (SqL.of e) (DatA.dp h)
  | .tuple _, _, .tup e h => .tup (SqT.of e) (DatA.dp h)
theorem DatA.dp : ∀ {ds : List PyData} {vs : List V}, DatA G vs ds → DpAll K G vs ds
  | [], _, .nil => .nil
  | _ :: _, _, .cons h t => .cons (Dat.dp h) (DatA.dp t)
end
theorem DatA.len : ∀ {vs : List V} {ds : List PyData}, DatA G vs ds → vs.length = ds.length
  | _, _, .nil => rfl
  | _, _, .cons _ t => by rw [List.length_cons, List.length_cons, DatA.len t]
theorem DatA.get : ∀ {vs : List V} {ds : List PyData} {i : Nat} {d : PyData}, DatA G vs ds → ds[i]? = some d → ∃ v, vs[i]? = some v ∧ Dat G v d
  | _, _, _, _, .nil, e => by simp at e
  | _, _, 0, _, .cons h _, e => by simp at e; subst e; exact ⟨_, rfl, h⟩
  | _, _, i + 1, d, .cons _ t, e => by
    obtain ⟨v, h1, h2⟩ := DatA.get (i := i) (d := d) t (by simpa using e)
    exact ⟨v, by simpa using h1, h2⟩
theorem DatA.app : ∀ {vs ws : List V} {ds es : List PyData}, DatA G vs ds → DatA G ws es → DatA G (vs ++ ws) (ds ++ es)
  | _, _, _, _, .nil, h => h
  | _, _, _, _, .cons h t, h2 => .cons h (DatA.app t h2)
theorem DatA.take : ∀ {vs : List V} {ds : List PyData} (n : Nat), DatA G vs ds → DatA G (vs.take n) (ds.take n)
  | _, _, 0, _ => .nil
  | _, _, _ + 1, .nil => .nil
  | _, _, n + 1, .cons h t => .cons h (DatA.take n t)
theorem DatA.drop : ∀ {vs : List V} {ds : List PyData} (n : Nat), DatA G vs ds → DatA G (vs.drop n) (ds.drop n)
  | _, _, 0, h => h
  | _, _, _ + 1, .nil => .nil
  | _, _, n + 1, .cons _ t => DatA.drop n t
theorem DatA.erase : ∀ {vs : List V} {ds : List PyData} (n : Nat), DatA G vs ds → DatA G (vs.eraseIdx n) (ds.eraseIdx n)
  | _, _, _, .nil => .nil
  | _, _, 0, .cons _ t => t
  | _, _, n + 1, .cons h t => .cons h (DatA.erase n t)
theorem DatA.ints_inv : ∀ {bs : List Int} {vs : List V}, DatA G vs (bs.map PyData.int) → vs = bs.map V.int
  | [], _, .nil => rfl
  | _ :: _, _, .cons (.int _) t => by rw [List.map_cons, DatA.ints_inv t]
theorem DatA.strs_inv : ∀ {bs : List Str} {vs : List V}, DatA G vs (bs.map PyData.str) → vs = bs.map V.str
  | [], _, .nil => rfl
  | _ :: _, _, .cons (.str _) t => by rw [List.map_cons, DatA.strs_inv t]
end
/-! ### from one state to a later one: only objects of M and new ones are changed -/
structure Ex (M : List Addr) (G H G' H' : Hp) : Prop where
  gg : Same G G'
  gh : Same G' H'
  hh : ∀ b o, b ∉ M → H b = some o → H' b = some o
  nw : ∀ b, G b = none → H b ≠ none → G' b = none
  dm : ∀ b, H b ≠ none → H' b ≠ none
section
variable {M M' : List Addr} {G H G1 H1 G2 H2 : Hp} {p : Addr} {o : HO}
theorem Same.none {H H' : Hp} (s : Same H H') {p : Addr} (h : H' p = none) : H p = none := s.free h
theorem Ex.refl (s : Same G H) : Ex M G H G H := ⟨Same.refl _, s, fun _ _ _ h => h, fun _ h _ => h, fun _ h => h⟩
theorem Ex.step (a : Ex M G H G1 H1) (b : Ex M' G1 H1 G2 H2) (m : ∀ x ∈ M', x ∈ M ∨ H x = none) : Ex M G H G2 H2 where
  gg := a.gg.trans b.gg
  gh := b.gh
  hh := fun x o hx e => b.hh x o (fun z => (m x z).elim hx fun n => by rw [n] at e; cases e) (a.hh x o hx e)
  nw := fun x g h => b.nw x (a.nw x g h) (a.dm x h)
  dm := fun x h => b.dm x (a.dm x h)
theorem Ex.trans (a : Ex M G H G1 H1) (b : Ex M G1 H1 G2 H2) : Ex M G H G2 H2 := a.step b fun _ h => .inl h
theorem Ex.pure (a : Ex M G H G1 H1) (b : Ex [] G1 H1 G2 H2) : Ex M G H G2 H2 := a.step b fun _ h => nomatch h
theorem Ex.mono (a : Ex M G H G1 H1) (m : ∀ x ∈ M, x ∈ M' ∨ H x = none) : Ex M' G H G1 H1 :=
  ⟨a.gg, a.gh, fun x o hx e => a.hh x o (fun z => (m x z).elim hx fun n => by rw [n] at e; cases e) e, a.nw, a.dm⟩
/-- a new object that is not data -/
theorem Ex.new (a : Ex M G H G1 H1) (n : H1 p = none) : Ex M G H G1 (upd H1 p o) where
  gg := a.gg
  gh := fun b u e => by rw [upd_ne (ne_of_none (a.gh b u e) n)]; exact a.gh b u e
  hh := fun b u hb e => by rw [upd_ne (ne_of_none (a.hh b u hb e) n)]; exact a.hh b u hb e
  nw := a.nw
  dm := fun b h => by
    have q := a.dm b h
    by_cases e : b = p
    · subst e; exact absurd n q
    · rw [upd_ne e]; exact q
theorem Ex.free (a : Ex M G H G1 H1) {q : Addr} (h : H1 q = none) : H q = none := by
  cases e : H q with
  | none => rfl
  | some u => exact absurd h (a.dm q (by rw [e]; exact fun z => nomatch z))
theorem Ex.at_ (a : Ex M G H G1 H1) {q : Addr} {u : HO} (h : H q = some u) (m : q ∉ M) : H1 q = some u := a.hh q u m h
end
/-! ### a pure def: from data to data -/
/-! ### rules of our own -/
theorem line_lt {n : Nat} (h : n ≤ 100000) : n < sizeLine := Nat.lt_of_le_of_lt h (by decide)
theorem line_le {n : Nat} (h : n ≤ 100000) : n ≤ sizeLine := Nat.le_of_lt (line_lt h)
/-! ### steps -/
/-! ### items -/
theorem ixN_of {n : Nat} {k : Int} (h0 : 0 ≤ k) (h1 : k < n) : ixN n k = some k.toNat := by
  unfold ixN
  rw [if_pos h0, if_pos h1]
theorem atI_of {α : Type} {xs : List α} {k : Int} {v : α} (h0 : 0 ≤ k) (e : xs[k.toNat]? = some v) : atI xs k = some v := by
  have z : k = ((k.toNat : Nat) : Int) := by omega
  rw [z]
  exact atI_nat e
/-! ### the rules with the written part by name (a comprehension's block has it too) -/
section
variable {X : Cx} {K : PySem.W.Frag}
def rLen (K : PySem.W.Frag) : List V → Hp → VK → Prop := fun xs H Q => ∃ x n, xs = [x] ∧ LenV K x H n ∧ Q (.int (n : Nat)) H
theorem call_lenK (hK : X.K = K) : CallR X (.builtin "len") (rLen K) := by subst hK; exact call_len
def rListOf (K : PySem.W.Frag) : List V → Hp → VK → Prop := fun xs H Q => ∃ p ys, xs = [.ref p] ∧ (SqL K H p ys ∨ SqT K H p ys) ∧ ∀ l, H l = none → Q (.ref l) (upd H l (.lst ys))
theorem call_list_ofK (hK : X.K = K) : CallR X (.type "list") (rListOf K) := by subst hK; exact call_list_of
end
theorem perm_erase {d : PyData} : ∀ {rem : List PyData} {k : Nat}, rem[k]? = some d → (d :: rem.eraseIdx k).Perm rem
  | [], _, h => by simp at h
  | x :: r, 0, h => by
    have e : x = d := Option.some.inj h
    subst e
    exact List.Perm.refl _
  | x :: r, k + 1, h => by
    have ih := perm_erase (rem := r) (k := k) (by simpa using h)
    show (d :: x :: r.eraseIdx k).Perm (x :: r)
    exact (List.Perm.swap x d _).trans (ih.cons x)
theorem perm_turn {d : PyData} {acc rem ds : List PyData} {k : Nat} (h : rem[k]? = some d) (p : (acc ++ rem).Perm ds) : ((acc ++ [d]) ++ rem.eraseIdx k).Perm ds := by
  refine List.Perm.trans ?_ p
  rw [List.append_assoc]
  exact (perm_erase h).append_left acc
theorem popL {H : Hp} {p : Addr} {xs : List V} {k : Int} {v : V} {Q : VK} (h : H p = some (.lst xs)) (h0 : 0 ≤ k) (h1 : k < xs.length) (e : xs[k.toNat]? = some v) (hz : xs.length ≤ 100000) (q : Q v (upd H p (.lst (xs.eraseIdx k.toNat)))) : rPopAt (.ref p) [.int k] H Q :=
  ⟨p, xs, k, k.toNat, v, rfl, rfl, h, by omega, by omega, (ixN_seq (ixN_of h0 h1)).1, e, q⟩
theorem fn_none {P : Program} {w : World} {K : PySem.W.Frag} {mg : Str → Option Value} {base : Heap} {k : Nat} {f : Addr} {fd : FuncData} {ps : List Str} {sp : Sp} (no : ∀ vs H Q E, ¬ sp vs H Q E) : FnOk P w K mg base CX0 k f fd ps sp :=
  ⟨fun vs H Q E h => absurd h (no vs H Q E), fun A outer s H args us vs Q E _ _ _ _ h => absurd h (no vs H Q E)⟩
/-! ### isinstance of data -/
def tyN : PyData → String
  | .none => "NoneType"
  | .bool _ => "bool"
  | .int _ => "int"
  | .str _ => "str"
  | .list _ => "list"
  | .tuple _ => "tuple"
  | .dict _ => "dict"
/-! ### == of data -/
/-! ### in, of texts -/
/-! ### what a loop walks, by a count -/
end EA
namespace EA
open PySem PySem.Spec PyProof.Rows L2
theorem perm_short {α : Type} : ∀ {l m : List α}, l.length < 2 → m.Perm l → m = l
  | [], _, _, p => List.Perm.eq_nil p
  | [v], _, _, p => List.perm_singleton.mp p
  | _ :: _ :: _, _, h, _ => absurd h (by simp)
theorem sort_short {α : Type} (le : α → α → Bool) : ∀ {l : List α}, ¬ 2 ≤ l.length → l.mergeSort le = l
  | [], _ => by rw [List.mergeSort]
  | [v], _ => by rw [List.mergeSort]
  | _ :: _ :: _, h => absurd (by simp) h
theorem swo_no : SrtO.Swo (fun _ _ : Value => false) := ⟨fun _ _ _ => rfl, fun _ _ _ _ _ => rfl⟩
end EA
namespace EA
open PySem PySem.Spec PyProof.Rows L2
section
variable {K : PySem.W.Frag} {A : Wd} {S : List MO}
theorem tup_of (R : Rl K A S) {ds : List PyData} {vs : List V} (hd : DaA K A.G vs ds) {Q : VK} (q : ∀ B v, Nx A B → Rl K B S → Da K B.G v (.tuple ds) → Q v B.H) (p : Addr) (o : Obj) (od : o.dict = none) (hp : A.H p = none) : Q (.ref p) (upd A.H p (.frz o (.tup vs))) := by
  obtain ⟨n2, R2⟩ := Nx.dat (o := .frz o (.tup vs)) R hp
  exact q ⟨upd A.G p (.frz o (.tup vs)), upd A.H p (.frz o (.tup vs)), A.ι⟩ _ n2 R2 (Da.tup (.inl ⟨o, upd_same, od⟩) (hd.up n2.gg))
theorem lst_of (R : Rl K A S) {ds : List PyData} {vs : List V} (hd : DaA K A.G vs ds) {Q : VK} (q : ∀ B v, Nx A B → Rl K B S → Da K B.G v (.list ds) → Q v B.H) (p : Addr) (hp : A.H p = none) : Q (.ref p) (upd A.H p (.lst vs)) := by
  obtain ⟨n2, R2⟩ := Nx.dat (o := .lst vs) R hp
  exact q ⟨upd A.G p (.lst vs), upd A.H p (.lst vs), A.ι⟩ _ n2 R2 (Da.lst upd_same (hd.up n2.gg))
theorem new_of (R : Rl K A S) {ds : List PyData} {vs : List V} (hd : DaA K A.G vs ds) {Q : VK} (q : ∀ B vs p, Nx A B → Rl K B S → A.H p = none → p ∉ B.ι → B.G p = none → B.H p = some (.lst vs) → DaA K B.G vs ds → Q (.ref p) B.H) (p : Addr) (hp : A.H p = none) : Q (.ref p) (upd A.H p (.lst vs)) := by
  obtain ⟨n2, R2⟩ := Nx.junk (o := .lst vs) R hp
  exact q ⟨A.G, upd A.H p (.lst vs), A.ι⟩ vs p n2 R2 hp (R.new hp) (R.gh.free hp) upd_same hd
end
/-! ### two-place operations -/
abbrev GO := List MO → W3 → W3 → Option PyData
def OpOk (K : PySem.W.Frag) (r : R2) (g : GO) : Prop := ∀ (A : Wd) (S : List MO) (x y : W3) (vx vy : V) (d : PyData) (Q : VK), Rl K A S → RW K A vx x → RW K A vy y → g S x y = some d → (∀ B v, Nx A B → Rl K B S → Da K B.G v d → Q v B.H) → r vx vy A.H Q
def eOp (g : GO) (a b : FE) : FE := fun sl S => (a sl S).bind fun p => (b sl p.2).bind fun q => (g q.2 p.1 q.1).map fun d => (.d d, q.2)
theorem eop_imp {K : PySem.W.Frag} {r : R2} {g : GO} (ok : OpOk K r g) {fa fb : FE} {σ : L2.St} {H : Hp} {Q : VK} (h : teO K (eOp g fa fb) σ H Q) : tOp r (teO K fa) (teO K fb) σ H Q := by
  obtain ⟨A, S, sl, w, S', rfl, R, s, e, q⟩ := h
  obtain ⟨⟨w1, S1⟩, e1, e⟩ := Option.bind_eq_some_iff.mp e
  obtain ⟨⟨w2, S2⟩, e2, e⟩ := Option.bind_eq_some_iff.mp e
  obtain ⟨d, e3, e⟩ := Option.map_eq_some_iff.mp e
  cases e
  refine ⟨A, S, sl, w1, S1, rfl, R, s, e1, fun B v n R1 r1 => ⟨B, S1, sl, w2, _, rfl, R1, s.mono n, e2, fun C u n2 R2 r2 => ?_⟩⟩
  exact ok C _ w1 w2 v u d Q R2 (r1.mono n2) r2 e3 fun D v n3 R3 r3 => q D v ((n.trans n2).trans n3) R3 r3
section
variable {K : PySem.W.Frag} {X : Cx} {a b : Expr} {fa fb : FE} {pos : Pos}
theorem e_op {op : Operator} {r : R2} {g : GO} (ho : OpR X (binaryOp op) r) (ok : OpOk K r g) (ha : PE3 K X a fa) (hb : PE3 K X b fb) : PE3 K X (.BinOp a op b pos) (eOp g fa fb) := ⟨pe_imp (pe_op ho ha.p hb.p) fun _ _ _ h => eop_imp ok h⟩
theorem e_ix {r : R2} {g : GO} (ho : IxR X r) (ok : OpOk K r g) (ha : PE3 K X a fa) (hb : PE3 K X b fb) (hs : PlainIx b) : PE3 K X (.Subscript a b pos) (eOp g fa fb) := ⟨pe_imp (pe_ix ho ha.p hb.p hs) fun _ _ _ h => eop_imp ok h⟩
end
/-- ints -/
def gI (C : Int → Int → Bool) (f : Int → Int → Int) : GO := fun _ x y => match x, y with
  | .d (.int i), .d (.int j) => if C i j = true then some (.int (f i j)) else none
  | _, _ => none
def gSub : GO := gI (fun _ _ => true) fun i j => i - j
def CMul3 (i j : Int) : Prop := CMul i j ∨ CMulW i j
theorem op_mul3 {X : Cx} : OpR X (binaryOp .Mult) (rI CMul3 fun i j => .int (i * j)) := opI fun _ _ _ _ _ _ _ hc q => mul_int q (hc.elim CMul.ok CMulW.ok)
def gMul : GO := gI (fun i j => (decide (-(2 ^ 64) < i ∧ i < 2 ^ 64) || decide (-(2 ^ 64) < j ∧ j < 2 ^ 64)) || decide (i.natAbs.log2 + j.natAbs.log2 < 1000000)) fun i j => i * j
def gFdiv : GO := gI (fun _ j => decide (0 < j ∧ j < 1073741824)) fun i j => i / j
def gMod : GO := gI (fun _ j => decide (0 < j)) fun i j => i % j
def gPow : GO := gI (fun i j => decide (0 ≤ j ∧ j ≤ 1000000 ∧ i.natAbs < 2 ^ 64)) fun i j => i ^ j.toNat
def gShl : GO := gI (fun i j => decide (0 ≤ j ∧ j ≤ 1000000 ∧ i.natAbs < 2 ^ 64)) fun i j => i * 2 ^ j.toNat
section
variable {K : PySem.W.Frag} {X : Cx}
theorem okI {C : Int → Int → Bool} {f : Int → Int → Int} {P : Int → Int → Prop} (h : ∀ i j, C i j = true → P i j) : OpOk K (rI P fun i j => .int (f i j)) (gI C f) := by
  intro A S x y vx vy d Q R rx ry e q
  unfold gI at e
  split at e
  · rename_i i j
    by_cases z : C i j = true
    · rw [if_pos z] at e
      cases e
      cases Da.int_inv rx
      cases Da.int_inv ry
      exact ⟨i, j, rfl, rfl, h i j z, q A _ (Nx.refl A) R (Da.int _)⟩
    · rw [if_neg z] at e; cases e
  · cases e
theorem okI0 {f : Int → Int → Int} : OpOk K (rI0 fun i j => .int (f i j)) (gI (fun _ _ => true) f) := by
  intro A S x y vx vy d Q R rx ry e q
  obtain ⟨i, j, e1, e2, _, h⟩ := okI (K := K) (C := fun _ _ => true) (f := f) (P := fun _ _ => True) (fun _ _ _ => trivial) A S x y vx vy d Q R rx ry e q
  exact ⟨i, j, e1, e2, h⟩
theorem ok_sub : OpOk K (rI0 fun i j => .int (i - j)) gSub := okI0
theorem ok_mul : OpOk K (rI CMul3 fun i j => .int (i * j)) gMul := okI fun i j h => by
  rcases Bool.or_eq_true_iff.mp h with h | h
  · rcases Bool.or_eq_true_iff.mp h with h | h
    · exact .inl (.inl (of_decide_eq_true h))
    · exact .inl (.inr (of_decide_eq_true h))
  · exact .inr (of_decide_eq_true (p := i.natAbs.log2 + j.natAbs.log2 < 1000000) h)
theorem ok_fdiv : OpOk K (rI CDiv fun i j => .int (i / j)) gFdiv := okI fun i j h => (of_decide_eq_true (p := 0 < j ∧ j < 1073741824) h)
theorem ok_mod : OpOk K (rI (fun _ j => 0 < j) fun i j => .int (i % j)) gMod := okI fun i j h => (of_decide_eq_true h :)
theorem ok_pow : OpOk K (rI CPow fun i j => .int (i ^ j.toNat)) gPow := okI fun i j h => (of_decide_eq_true (p := 0 ≤ j ∧ j ≤ 1000000 ∧ i.natAbs < 2 ^ 64) h)
theorem ok_shl : OpOk K (rI CPow fun i j => .int (i * 2 ^ j.toNat)) gShl := okI fun i j h => (of_decide_eq_true (p := 0 ≤ j ∧ j ≤ 1000000 ∧ i.natAbs < 2 ^ 64) h)
/-- + of ints, texts, lists, tuples -/
def rAd (K : PySem.W.Frag) : R2 := fun x y H Q => (∃ i j, x = .int i ∧ y = .int j ∧ Q (.int (i + j)) H) ∨ (∃ i j, x = .str i ∧ y = .str j ∧ i.length + j.length ≤ sizeLine ∧ Q (.str (i ++ j)) H) ∨ rCat x y H Q ∨ rCatP K x y H Q
theorem op_ad (hK : X.K = K) : OpR X (binaryOp .Add) (rAd K) := by subst hK; exact OpR.or op_add (OpR.or op_add_str (OpR.or op_cat op_catP))
def gAddD : PyData → PyData → Option PyData
  | .int i, .int j => some (.int (i + j))
  | .str i, .str j => if i.length + j.length ≤ 100000 then some (.str (i ++ j)) else none
  | .tuple i, .tuple j => if i.length + j.length ≤ 100000 then some (.tuple (i ++ j)) else none
  | _, _ => none
def gCatL (S : List MO) (x y : W3) : Option (List PyData) := (viewL S x).bind fun xs => (viewL S y).bind fun ys => if xs.length + ys.length ≤ 100000 then some (xs ++ ys) else none
def gAdd : GO := fun S x y => match x, y with
  | .d a, .d b => (gAddD a b).or ((gCatL S x y).map .list)
  | _, _ => (gCatL S x y).map .list
theorem lineD {n : Nat} (h : n ≤ 100000) : n ≤ sizeLine := Nat.le_trans h (by decide)
theorem catL_ok {A : Wd} {S : List MO} {x y : W3} {vx vy : V} {ds : List PyData} (R : Rl K A S) (rx : RW K A vx x) (ry : RW K A vy y) (e : gCatL S x y = some ds) :
    ∃ l b xs zs, vx = .ref l ∧ vy = .ref b ∧ A.H l = some (.lst xs) ∧ A.H b = some (.lst zs) ∧ xs.length + zs.length ≤ sizeLine ∧ DaA K A.G (xs ++ zs) ds := by
  obtain ⟨xs, e1, e⟩ := Option.bind_eq_some_iff.mp e
  obtain ⟨ys, e2, e⟩ := Option.bind_eq_some_iff.mp e
  by_cases z : xs.length + ys.length ≤ 100000
  · rw [if_pos z] at e
    cases e
    obtain ⟨l, us, rfl, h1, d1⟩ := viewL_at R rx e1
    obtain ⟨b, ws, rfl, h2, d2⟩ := viewL_at R ry e2
    exact ⟨l, b, us, ws, rfl, rfl, h1, h2, by rw [d1.len, d2.len]; exact lineD z, d1.app d2⟩
  · rw [if_neg z] at e; cases e
theorem ok_add : OpOk K (rAd K) gAdd := by
  intro A S x y vx vy d Q R rx ry e q
  have lists : (gCatL S x y).map PyData.list = some d → rAd K vx vy A.H Q := fun e => by
    obtain ⟨ds, e1, e2⟩ := Option.map_eq_some_iff.mp e
    subst e2
    obtain ⟨l, b, xs, zs, rfl, rfl, h1, h2, hz, hd⟩ := catL_ok R rx ry e1
    exact .inr (.inr (.inl ⟨l, b, xs, zs, rfl, rfl, h1, h2, hz, lst_of R hd q⟩))
  unfold gAdd at e
  split at e
  · rename_i a b
    cases z : gAddD a b with
    | none => rw [z] at e; exact lists e
    | some c =>
      rw [z] at e
      cases e
      unfold gAddD at z
      split at z
      · cases z
        cases Da.int_inv rx
        cases Da.int_inv ry
        exact .inl ⟨_, _, rfl, rfl, q A _ (Nx.refl A) R (Da.int _)⟩
      · rename_i i j
        by_cases h : i.length + j.length ≤ 100000
        · rw [if_pos h] at z
          cases z
          cases Da.str_inv rx
          cases Da.str_inv ry
          exact .inr (.inl ⟨_, _, rfl, rfl, lineD h, q A _ (Nx.refl A) R (Da.str _)⟩)
        · rw [if_neg h] at z; cases z
      · rename_i i j
        by_cases h : i.length + j.length ≤ 100000
        · rw [if_pos h] at z
          cases z
          obtain ⟨a1, xs, rfl, h1, d1⟩ := Da.tup_inv rx
          obtain ⟨a2, ys, rfl, h2, d2⟩ := Da.tup_inv ry
          refine .inr (.inr (.inr ⟨a1, a2, xs, ys, rfl, rfl, sqT_up R.gh h1, sqT_up R.gh h2, by rw [d1.len, d2.len]; exact lineD h, fun z => ?_, fun _ z => ?_, fun _ _ => tup_of R (d1.app d2) q⟩))
          · subst z
            cases d1
            exact q A _ (Nx.refl A) R ry
          · subst z
            cases d2
            refine q A _ (Nx.refl A) R ?_
            rw [List.append_nil]; exact rx
        · rw [if_neg h] at z; cases z
      · cases z
  · exact lists e
/-- list + list, a new list -/
def nOp (g : List MO → W3 → W3 → Option (List PyData)) (a b : FE) : FN := fun sl S => (a sl S).bind fun p => (b sl p.2).bind fun q => (g q.2 p.1 q.1).map fun d => (d, q.2)
variable {a b : Expr} {fa fb : FE} {pos : Pos}
theorem fresh_back {A B : Wd} (n : Nx A B) {p : Addr} (h : B.H p = none) : A.H p = none := by
  cases z : A.H p with
  | none => rfl
  | some u => exact absurd h (n.dm p (by rw [z]; exact fun k => nomatch k))
/-! ### items -/
def gIx : GO := fun S x y => match y with
  | .d (.int k) => match view S x with
    | some (.list xs) => atI xs k
    | some (.tuple xs) => atI xs k
    | some (.str z) => if z.length ≤ 100000 then (atI z.cps.toList k).map fun c => .str ⟨#[c]⟩ else none
    | _ => none
  | _ => none
theorem atI_daa {G : Hp} {vs : List V} {ds : List PyData} {k : Int} {d : PyData} (h : DaA K G vs ds) (e : atI ds k = some d) : ∃ v, atI vs k = some v ∧ Da K G v d := by
  unfold atI at e ⊢
  rw [h.len]
  obtain ⟨j, e1, e2⟩ := Option.bind_eq_some_iff.mp e
  rw [e1]
  exact h.get e2
theorem ok_ix : OpOk K (rIx K) gIx := by
  intro A S x y vx vy d Q R rx ry e q
  unfold gIx at e
  split at e
  · rename_i k
    cases Da.int_inv ry
    split at e
    · rename_i xs hx
      obtain ⟨a, vs, rfl, h1, _, hd⟩ := view_list R rx hx
      obtain ⟨v, h3, h4⟩ := atI_daa hd e
      exact .inl ⟨a, vs, k, v, rfl, rfl, h1, h3, q A _ (Nx.refl A) R h4⟩
    · rename_i xs hx
      obtain ⟨a, vs, rfl, h1, hd⟩ := view_tup R rx hx
      obtain ⟨v, h3, h4⟩ := atI_daa hd e
      exact .inr (.inl ⟨a, vs, k, v, rfl, rfl, h1, h3, q A _ (Nx.refl A) R h4⟩)
    · rename_i z hz
      by_cases h : z.length ≤ 100000
      · rw [if_pos h] at e
        obtain ⟨c, e1, e2⟩ := Option.map_eq_some_iff.mp e
        subst e2
        have dz := view_dp R rx hz
        cases dz
        exact .inr (.inr ⟨z, k, c, rfl, rfl, lineD h, e1, q A _ (Nx.refl A) R (Da.str _)⟩)
      · rw [if_neg h] at e; cases e
    · cases e
  · cases e
theorem ix_sq (hK : X.K = K) : IxR X (rIx K) := by subst hK; exact ix_seq
/-! ### slices -/
def oNone : FO := fun _ S => some (none, S)
def oSome (f : FE) : FO := fun sl S => (f sl S).bind fun p => match p.1 with
  | .d (.int i) => some (some i, p.2)
  | _ => none
theorem o_none : PO3 K X none oNone := ⟨⟨fun pins s σ H Q I h => by
  obtain ⟨A, S, sl, w, S', rfl, R, s', e, q⟩ := h
  cases e
  exact (po_none (X := X)).run pins s σ _ Q I (q A (Nx.refl A) R)⟩⟩
theorem o_some (h : PE3 K X a fa) : PO3 K X (some a) (oSome fa) := ⟨⟨fun pins s σ H Q I hh => by
  refine (po_some h.p).run pins s σ _ Q I ?_
  obtain ⟨A, S, sl, w, S', rfl, R, s', e, q⟩ := hh
  obtain ⟨⟨w1, S1⟩, e1, e⟩ := Option.bind_eq_some_iff.mp e
  dsimp only at e
  refine ⟨A, S, sl, w1, S1, rfl, R, s', e1, fun B v n R1 r1 => ?_⟩
  split at e
  · cases e
    exact ⟨_, Da.int_inv r1, q B n R1⟩
  · cases e⟩⟩
def cutD {α : Type} (xs : List α) (lo hi : Option Int) : List α := (xs.drop (HT.sIx xs.length 0 lo)).take (HT.sIx xs.length xs.length hi - HT.sIx xs.length 0 lo)
theorem cut_daa {G : Hp} {vs : List V} {ds : List PyData} (h : DaA K G vs ds) (lo hi : Option Int) : DaA K G (cutV vs lo hi) (cutD ds lo hi) := by
  unfold cutV cutD
  rw [h.len]
  exact (h.drop _).take _
/-- texts, tuples, lists -/
def rSl3 (K : PySem.W.Frag) : V → Option Int → Option Int → Hp → VK → Prop := fun x lo hi H Q => rSlL K x lo hi H Q ∨ rSlP K x lo hi H Q ∨ rSlS x lo hi H Q
theorem sl_3 (hK : X.K = K) : SlR X (rSl3 K) := by subst hK; exact SlR.or sl_list (SlR.or sl_tupP sl_str)
def eSl (a : FE) (l h : FO) : FE := fun sl S => (a sl S).bind fun p => (l sl p.2).bind fun q => (h sl q.2).bind fun u => match view u.2 p.1 with
  | some (.list xs) => some (.d (.list (cutD xs q.1 u.1)), u.2)
  | some (.tuple xs) => some (.d (.tuple (cutD xs q.1 u.1)), u.2)
  | some (.str z) => if z.length ≤ 100000 then some (.d (.str (cutS z q.1 u.1)), u.2) else none
  | _ => none
def nSl (a : FE) (l h : FO) : FN := fun sl S => (a sl S).bind fun p => (l sl p.2).bind fun q => (h sl q.2).bind fun u => match view u.2 p.1 with
  | some (.list xs) => some (cutD xs q.1 u.1, u.2)
  | _ => none
end
end EA
namespace EA
open PySem PySem.Spec PyProof.Rows L2
/-! ### sets over any kind of keys -/
section
variable {P : Program} {w : World} {Kt : Type} [DecidableEq Kt]
/-- no key twice -/
def Apart (knd : PySem.KeyKind P w Kt) (l : List (Int × Value)) : Prop := l.Pairwise fun e f => ∀ k, knd.is k e.2 = true → knd.is k f.2 = true → False
theorem Apart.perm {knd : PySem.KeyKind P w Kt} {l m : List (Int × Value)} (h : Apart knd l) (p : m.Perm l) : Apart knd m :=
  (p.pairwise_iff (fun {x y} g k a b => g k b a)).mpr h
/-- what a set's entries and table keep -/
structure GS (knd : PySem.KeyKind P w Kt) (es : Array (Int × Value)) (t : SetTable) (S : Kt → Bool) : Prop where
  el : ElemsOf knd es.toList
  ap : Apart knd es.toList
  mem : ∀ k, S k = true ↔ ∃ e ∈ es.toList, knd.is k e.2 = true
  bd : es.size < scanBound
  fit : t.fits es.size = true
  ris : Ris t.place.toList
  led : w.params.followText "set-order" = true ∨ t.led = true
def SetG (knd : PySem.KeyKind P w Kt) (h : Heap) (a : Addr) (S : Kt → Bool) (n : Nat) : Prop :=
  ∃ o es ep t, h.get? a = some o ∧ o.ExactSet ∧ o.data = .set es ep t ∧ GS knd es t S ∧ es.size = n
theorem SetG.at {knd : PySem.KeyKind P w Kt} {h h' : Heap} {a : Addr} {S : Kt → Bool} {n : Nat} (R : SetG knd h a S n) (k : ∀ o, h.get? a = some o → h'.get? a = some o) : SetG knd h' a S n := by
  obtain ⟨o, es, ep, t, ho, r⟩ := R
  exact ⟨o, es, ep, t, k o ho, r⟩
theorem SetG.congr {knd : PySem.KeyKind P w Kt} {h : Heap} {a : Addr} {S S' : Kt → Bool} {n : Nat} (R : SetG knd h a S n) (e : ∀ k, S' k = S k) : SetG knd h a S' n := by
  have q : S' = S := funext e
  rw [q]; exact R
variable {knd : PySem.KeyKind P w Kt} {A : Around} {E : Value → Shared → Prop} {s : Shared} {a : Addr} {S : Kt → Bool} {n : Nat}
theorem set_stored {h : Heap} {o : Obj} {es es' : Array (Int × Value)} {ep : Nat} {t t' : SetTable} (ho : h.get? a = some o) (hd : o.data = .set es ep t) :
    (h.update a (Obj.putSet es' t')).get? a = some { o with data := .set es' (ep + 1) t' } := by
  have q := Heap.get?_update_self (Obj.putSet es' t') ho (by rw [putSet_of es' t' hd]; rfl)
  rw [putSet_of es' t' hd] at q
  exact q
/-- entries put down, and laid out anew where the table is too full -/
theorem set_put {g : Bool → Sem Unit} (hg : ∀ (b : Bool) (s₁ : Shared) (Q' : Unit → Shared → Prop), Q' () s₁ → wpAny (model P w) A (g b) Q' E s₁)
    {o : Obj} {es es1 : Array (Int × Value)} {ep : Nat} {t t2 : SetTable} (ho : s.heap.get? a = some o) (hex : o.ExactSet) (hd : o.data = .set es ep t) (G : GS knd es1 t2 S)
    {was : Bool} {R : Option Bool → Shared → Prop} (hR : ∀ h', Heap.SameBut a s.heap h' → SetG knd h' a S es1.size → R (some true) { s with heap := h' }) :
    wpAny (model P w) A (do
        storeSet a es1 t2
        if (!was && t2.tooFull) = true then do
            g (relayAll t2 es1 (SetTable.grown es1.size)).2.2
            storeSet a (relayAll t2 es1 (SetTable.grown es1.size)).1 (relayAll t2 es1 (SetTable.grown es1.size)).2.1
            pure (some true)
          else pure (some true)) R E s := by
  refine wpAny_bind (wpAny_storeSet_of ho hd ?_ (fits_of_scanBound G.bd))
  have ho1 := set_stored (es' := es1) (t' := t2) ho hd
  have sb1 := Heap.SameBut.update s.heap a (Obj.putSet es1 t2)
  by_cases full : (!was && t2.tooFull) = true
  · rw [if_pos full]
    have pm := relayAll_perm t2 es1 (SetTable.grown es1.size)
    have f3 := relayAll_fits t2 es1 (SetTable.grown es1.size)
    have r3 := relayAll_ris t2 es1 (SetTable.grown es1.size)
    have l3 := relayAll_led t2 es1 (SetTable.grown es1.size)
    have z3 : (relayAll t2 es1 (SetTable.grown es1.size)).1.size = es1.size := by rw [← Array.length_toList, pm.length_eq, Array.length_toList]
    refine wpAny_bind (hg _ _ _ ?_)
    refine wpAny_bind (wpAny_storeSet_of ho1 rfl ?_ (fits_of_scanBound (by rw [z3]; exact G.bd)))
    have ho2 := set_stored (es' := (relayAll t2 es1 (SetTable.grown es1.size)).1) (t' := (relayAll t2 es1 (SetTable.grown es1.size)).2.1) ho1 rfl
    refine wpAny_pure (hR _ (sb1.trans (Heap.SameBut.update _ a _)) ⟨_, _, _, _, ho2, hex, rfl, ⟨G.el.perm pm, G.ap.perm pm, fun k => (G.mem k).trans ?_, by rw [z3]; exact G.bd, f3, r3, G.led.imp id fun z => by rw [l3]; exact z⟩, z3⟩)
    exact ⟨fun ⟨e, he, q⟩ => ⟨e, pm.mem_iff.mpr he, q⟩, fun ⟨e, he, q⟩ => ⟨e, pm.mem_iff.mp he, q⟩⟩
  · rw [if_neg full]
    exact wpAny_pure (hR _ sb1 ⟨_, es1, _, t2, ho1, hex, rfl, G, rfl⟩)
theorem setG_add {k : Kt} {x : Value} {Q : Bool → Shared → Prop} (hkey : knd.is k x = true) (hsc : x.scannable = true) (R : SetG knd s.heap a S n) (room : n + 1 < scanBound)
    (hQ : ∀ h' m, Heap.SameBut a s.heap h' → m ≤ n + 1 → SetG knd h' a (fun j => S j || decide (j = k)) m → Q (!S k) { s with heap := h' }) :
    wpAny (model P w) A (setAddHashed a x (knd.hash k)) Q E s := by
  obtain ⟨o, es, ep, t, ho, hex, hd, G, hn⟩ := R
  unfold setAddHashed setAddHashedIn
  refine wpAny_holding (wpAny_bind (wpAny_setState_of ho hd G.fit ?_))
  dsimp only
  rw [byScan_of hsc G.bd G.el]
  simp only [↓reduceIte]
  unfold setAddByScan
  refine wpAny_bind ?_
  refine wpAny_bind (wpAny_rule ?_)
  refine wpAny_bind (wpAny_setScan_of hkey ho hd G.fit G.el ?_)
  cases met : List.findIdx? (fun e => knd.is k e.2) es.toList with
  | some j =>
    dsimp only
    obtain ⟨hj, pj, _⟩ := List.findIdx?_eq_some_iff_getElem.mp met
    have yes : S k = true := (G.mem k).mpr ⟨es.toList[j], List.getElem_mem hj, pj⟩
    refine wpAny_pure (wpAny_pure ?_)
    have q := hQ s.heap n (Heap.SameBut.refl a s.heap) (Nat.le_succ n) (SetG.congr ⟨o, es, ep, t, ho, hex, hd, G, hn⟩ fun i => by
      by_cases e : i = k
      · rw [e, yes]; rfl
      · rw [decide_eq_false e, Bool.or_false])
    rw [yes] at q
    exact q
  | none =>
    dsimp only
    have none_is : ∀ e ∈ es.toList, knd.is k e.2 = false := fun e he => by simpa using List.findIdx?_eq_none_iff.mp met e he
    have no : S k = false := by
      cases q : S k with
      | false => rfl
      | true =>
        obtain ⟨e, he, h⟩ := (G.mem k).mp q
        rw [none_is e he] at h
        exact absurd h Bool.false_ne_true
    have gw : ∀ (b : Bool) {s₁ : Shared} {Q' : Unit → Shared → Prop}, Q' () s₁ → wpAny (model P w) A (match b with | true => rule "set.scan.the-table-gave-way" | false => pure ()) Q' E s₁ :=
      fun b s₁ Q' q => by cases b <;> first | exact wpAny_pure q | exact wpAny_rule q
    have pm := layNew_perm t es (knd.hash k) x
    have f1 := layNew_fits t es (knd.hash k) x
    have r1 := layNew_ris t es (knd.hash k) x G.ris
    have l1 := layNew_led t es (knd.hash k) x
    generalize layNew t es (knd.hash k) x = Z at pm f1 r1 l1 ⊢
    obtain ⟨es1, t1, was, gave⟩ := Z
    dsimp only at pm f1 r1 l1 ⊢
    rw [Array.toList_push] at pm
    have sz : es1.size = n + 1 := by rw [← Array.length_toList, pm.length_eq, List.length_append, Array.length_toList, hn]; rfl
    have G1 : GS knd es1 t1 (fun j => S j || decide (j = k)) := by
      refine ⟨(G.el.push hkey hsc).perm pm, Apart.perm ?_ pm, mem_push_iff hkey G.mem pm, by rw [sz]; exact room, f1, r1, G.led.imp id fun z => by rw [l1]; exact z⟩
      refine List.pairwise_append.mpr ⟨G.ap, List.pairwise_singleton _ _, fun e he f hf i h1 h2 => ?_⟩
      have ef : f = (knd.hash k, x) := by simpa using hf
      subst ef
      have ik : i = k := knd.inj x i k h2 hkey
      subst ik
      rw [none_is e he] at h1
      exact absurd h1 Bool.false_ne_true
    have fin : ∀ h', Heap.SameBut a s.heap h' → SetG knd h' a (fun j => S j || decide (j = k)) es1.size → Q true { s with heap := h' } := fun h' sb r => by
      have q := hQ h' es1.size sb (Nat.le_of_eq sz) r
      rw [no] at q
      exact q
    refine wpAny_bind (gw _ ?_)
    split
    · refine wpAny_bind ?_
      rw [hashByValue_scannable 8 hsc]
      refine wpAny_pure ?_
      refine set_put (knd := knd) (S := fun j => S j || decide (j = k)) ?_ ho hex hd ?_ ?_
      · intro b s₁ Q' q; cases b <;> first | exact wpAny_pure q | exact wpAny_rule q
      · split
        · exact G1
        · exact ⟨G1.el, G1.ap, G1.mem, G1.bd, SetTable.fits_plain_off f1, G1.ris, G1.led⟩
      · intro h' sb r; dsimp only; exact wpAny_pure (fin h' sb r)
    · refine wpAny_bind (wpAny_pure ?_)
      simp only [↓reduceIte]
      refine set_put (knd := knd) (S := fun j => S j || decide (j = k)) ?_ ho hex hd G1 ?_
      · intro b s₁ Q' q; cases b <;> first | exact wpAny_pure q | exact wpAny_rule q
      · intro h' sb r; dsimp only; exact wpAny_pure (fin h' sb r)
end
end EA
namespace EA
open PySem PySem.Spec PyProof.Rows L2
abbrev newS (w : World) : Obj := { cls := .type "set", dict := none, data := .set #[] 0 (.fresh 0 0 (!w.params.followText "set-order")) }
section
variable {P : Program} {w : World} {Kt : Type} [DecidableEq Kt] {knd : PySem.KeyKind P w Kt}
theorem setG_new {h : Heap} {a : Addr} (ho : h.get? a = some (newS w)) : SetG knd h a (fun _ => false) 0 :=
  ⟨_, #[], 0, _, ho, ⟨rfl, rfl, rfl⟩, rfl, ⟨fun e he => (by simp at he), List.Pairwise.nil, fun k => by simp, by decide, by rfl, List.Pairwise.nil, by
    show _ ∨ (!w.params.followText "set-order") = true
    cases w.params.followText "set-order"
    · exact .inr rfl
    · exact .inl rfl⟩, rfl⟩
/-- the keys of a set's items, in any order -/
theorem keys_out {es : Array (Int × Value)} {t : SetTable} {S : Kt → Bool} {vs : List Value} (g : GS knd es t S) (pm : vs.Perm (es.toList.map (·.2))) :
    ∃ ks : List Kt, W.EachIs (fun v k => knd.is k v = true) vs ks ∧ ks.Nodup ∧ ∀ k, k ∈ ks ↔ S k = true := by
  have ap : vs.Pairwise fun u v => ∀ k, knd.is k u = true → knd.is k v = true → False :=
    (pm.pairwise_iff (fun {x y} g k a b => g k b a)).mpr (List.pairwise_map.mpr g.ap)
  have ex : ∀ v ∈ vs, ∃ k, knd.is k v = true := fun v hv => by
    obtain ⟨e, he, rfl⟩ := List.mem_map.mp (pm.mem_iff.mp hv)
    obtain ⟨⟨k, hk, _⟩, _⟩ := g.el e he
    exact ⟨k, hk⟩
  have mem : ∀ k, S k = true ↔ ∃ v ∈ vs, knd.is k v = true := fun k => (g.mem k).trans
    ⟨fun ⟨e, he, q⟩ => ⟨e.2, pm.mem_iff.mpr (List.mem_map.mpr ⟨e, he, rfl⟩), q⟩, fun ⟨v, hv, q⟩ => by
      obtain ⟨e, he, rfl⟩ := List.mem_map.mp (pm.mem_iff.mp hv)
      exact ⟨e, he, q⟩⟩
  clear pm
  suffices h : ∃ ks : List Kt, W.EachIs (fun v k => knd.is k v = true) vs ks ∧ ks.Nodup ∧ ∀ k, k ∈ ks ↔ ∃ v ∈ vs, knd.is k v = true by
    obtain ⟨ks, h1, h2, h3⟩ := h
    exact ⟨ks, h1, h2, fun k => (h3 k).trans (mem k).symm⟩
  clear mem
  induction vs with
  | nil => exact ⟨[], .nil, List.nodup_nil, fun k => ⟨fun h => (nomatch h), fun ⟨_, h, _⟩ => (nomatch h)⟩⟩
  | cons v vs ih =>
    obtain ⟨a1, a2⟩ := List.pairwise_cons.mp ap
    obtain ⟨ks, h1, h2, h3⟩ := ih a2 fun u hu => ex u (List.mem_cons_of_mem _ hu)
    obtain ⟨k, hk⟩ := ex v List.mem_cons_self
    refine ⟨k :: ks, .cons hk h1, List.nodup_cons.mpr ⟨fun m => ?_, h2⟩, fun j => ?_⟩
    · obtain ⟨u, hu, q⟩ := (h3 k).mp m
      exact a1 u hu k hk q
    · rw [List.mem_cons, h3]
      constructor
      · rintro (rfl | ⟨u, hu, q⟩)
        · exact ⟨v, List.mem_cons_self, hk⟩
        · exact ⟨u, List.mem_cons_of_mem _ hu, q⟩
      · rintro ⟨u, hu, q⟩
        rcases List.mem_cons.mp hu with rfl | hu
        · exact .inl (knd.inj _ _ _ q hk)
        · exact .inr ⟨u, hu, q⟩
variable {A : Around} {E : Value → Shared → Prop} {s : Shared}
/-- the walk that puts each item in -/
theorem set_fill {I : Addr} {fp wr : List Addr} {G : Array GenState → Array GenState → Prop} {n : Nat} {Pv : Nat → Value → Prop} {St : Nat → Shared → Prop} {R : Result → Shared → Prop}
    (W : WalksS P w A.in1 I fp wr G n Pv St) (D : Addr) (hD : D ∉ fp) (ks : List Kt) (hn : n = ks.length) (hb : ks.length + 1 < scanBound) (hval : ∀ i v, Pv i v → ∃ k, ks[i]? = some k ∧ knd.is k v = true ∧ v.scannable = true) :
    ∀ (left i : Nat) (s : Shared), n - i = left → i ≤ n → St i s → (∃ c, c ≤ i ∧ SetG knd s.heap D (fun j => decide (j ∈ ks.take i)) c) →
      (∀ s' c, Moved (D :: wr) G s s' → c ≤ n → SetG knd s'.heap D (fun j => decide (j ∈ ks)) c → R (.ok (.ret .none)) s') →
      codeAny (model P w) A (.builtin "set.update.loop" ⟨[.ref D, .ref I], []⟩) R s := by
  have notin : D ∉ wr := fun h => hD (W.sub _ h)
  have more : ∀ b ∈ wr, b ∈ D :: wr := fun b hb => List.mem_cons_of_mem _ hb
  intro left
  induction left with
  | zero =>
    intro i s e hi st ⟨c, hc, g⟩ hR
    have ein : i = n := by omega
    subst ein
    refine codeAny_builtin F.entry_set_update_loop ?_
    rw [Around.under_plainId F.plain_set_update_loop _]
    show wpAny _ A.in1 (pyNext (.ref I) >>= _) _ _ s
    refine wpAny_bind (W.done s _ _ st fun s' mv => ?_)
    show wpAny _ A.in1 (ret Value.none) _ _ s'
    rw [List.take_of_length_le (Nat.le_of_eq hn.symm)] at g
    exact wpAny_pure (hR s' c (mv.mono more) hc (g.at fun o e => mv.heap D o notin e))
  | succ left ih =>
    intro i s e hi st ⟨c, hc, g⟩ hR
    have lt : i < n := by omega
    refine codeAny_builtin F.entry_set_update_loop ?_
    rw [Around.under_plainId F.plain_set_update_loop _]
    show wpAny _ A.in1 (pyNext (.ref I) >>= _) _ _ s
    refine wpAny_bind (W.item i s _ _ lt st fun v s' hv st' mv => ?_)
    obtain ⟨z, hz, isz, sc⟩ := hval i v hv
    have g' : SetG knd s'.heap D (fun j => decide (j ∈ ks.take i)) c := g.at fun o e => mv.heap D o notin e
    show wpAny _ A.in1 (holding [v] (setAdd D v) >>= _) _ _ s'
    refine wpAny_bind (wpAny_holding ?_)
    unfold setAdd
    refine wpAny_holding ?_
    refine wpAny_bind (knd.pyHash isz ?_)
    refine setG_add (s := { s' with toks := s'.toks + 1 }) isz sc g' (by omega) fun h' m sb hm g2 => ?_
    have g3 : SetG knd h' D (fun j => decide (j ∈ ks.take (i + 1))) m := g2.congr fun j => by
      rw [List.take_add_one, hz]
      simp [List.mem_append]
    refine wpAny_pure ⟨plainId_quiet F.plain_set_update_loop _, ih (i + 1) _ (by omega) lt (W.frame _ s' _ _ st' (Nat.le_succ _) fun b hb o e => ?_) ⟨m, by omega, g3⟩ fun s'' c2 mv2 hc2 g4 => ?_⟩
    · rw [sb.2 b (fun h : b = D => hD (by rw [← h]; exact hb))]; exact e
    · refine hR s'' c2 (Moved.trans W.gtrans ((mv.mono more).then_heap (Nat.le_succ _) fun b o hb e => ?_) mv2) hc2 g4
      rw [sb.2 b (fun h : b = D => hb (by rw [h]; exact List.mem_cons_self))]; exact e
/-- set(x), x a list -/
theorem call_set_list {l : Addr} {items : Array Value} (ks : List Kt) {Q : Value → Shared → Prop} (hh : A.handled = none) (hl : s.heap.IsList l items) (hn : items.size = ks.length) (hit : ∀ (i : Nat) v, items[i]? = some v → ∃ k, ks[i]? = some k ∧ knd.is k v = true ∧ v.scannable = true) (hb : ks.length + 1 < scanBound)
    (h : ∀ (h' : Heap) (tk c : Nat), SetG knd h' s.heap.objs.size (fun j => decide (j ∈ ks)) c → c ≤ ks.length → (∀ b o, s.heap.get? b = some o → h'.get? b = some o) → Q (.ref s.heap.objs.size) { s with heap := h', toks := tk }) :
    wpAny (model P w) A (call (.type "set") [.ref l]) Q E s := by
  obtain ⟨c, tl, hmro⟩ := F.called_set.mro
  have hmade := F.called_set.made
  have hsub := F.called_set.sub
  refine wpAny_call (codeAny_of_tree ?_)
  show wpAny _ _ (callAny (.type "set") _) _ _ _
  refine wpAny_pure ⟨Code.quiet_builtin _ (by decide +kernel), codeAny_builtin F.entry_type_call ?_⟩
  rw [Around.under_plain (weight_type_call_type "set" [.ref l] []) rfl]
  have h1 := F.called_set.notType
  have h2 := F.called_set.canCreate
  have hct := F.typeCall_set_1 (.ref l)
  repeat (any_goals (first | assumption | wp_step))
  refine codeAny_mono (code_set_led1 (.ref l) (E := E) (Q₁ := fun obj s₁ => obj = .ref s.heap.objs.size ∧ s₁ = { s with heap := s.heap.push (newS w) }) ⟨rfl, rfl⟩) fun r s₁ hr => ?_
  cases r with
  | error e => exact hr
  | ok fl =>
    cases fl with
    | ret obj =>
      obtain ⟨rfl, rfl⟩ := hr
      have hS : (s.heap.push (newS w)).get? s.heap.objs.size = some (newS w) := Heap.get?_push_size _ rfl
      have hT : Shared.TypeIs { s with heap := s.heap.push (newS w) } (.ref s.heap.objs.size) "set" := ⟨_, hS, rfl⟩
      have hli := F.called_set.init.lookup
      have hbi := F.called_set.init.bind (.ref s.heap.objs.size)
      repeat (any_goals (first | assumption | wp_step))
      refine codeAny_mono (codeAny_call_builtin (R := wants (fun r s₂ => r = .none ∧ ∃ h' tk c, s₂ = { s with heap := h', toks := tk } ∧ SetG knd h' s.heap.objs.size (fun j => decide (j ∈ ks)) c ∧ c ≤ ks.length ∧
          (∀ b o, s.heap.get? b = some o → h'.get? b = some o)) E) F.called_set.init.plain F.entry_set_init (check_set_init_1 hT ?_)) fun r₂ s₂ hr₂ => ?_
      · obtain ⟨ol, hol, hcl, nl, hdl⟩ := hl
        obtain ⟨ocls, odict, odata, oslots⟩ := ol
        simp only at hcl hdl
        subst hcl; subst hdl
        have hol' : (s.heap.push (newS w)).get? l = some { cls := .type "list", dict := odict, data := .seq items nl, slots := oslots } := Heap.get?_push_of_some _ hol
        have hsls := F.sub_list_set
        have hslf := F.sub_list_frozenset
        have hne : (Value.type "list" == Value.type "dict") = false := by decide
        have hl1 : (s.heap.push (newS w)).IsList l items := ⟨_, hol', rfl, nl, rfl⟩
        unfold Builtin.«set.__init__» noKeywords Builtin.Frozenset.updateFrom
        generalize hPI : pyIter = PI
        wp_walk
        subst hPI
        refine wpAny_pyIter_list hl1 ?_
        refine wpAny_bind (wpAny_runValue ?_)
        have lS : l < s.heap.objs.size := Heap.lt_size hol
        have hh3 : A.in1.in1.in1.handled = none := by simp [hh]
        have zI : (s.heap.push (newS w)).objs.size = s.heap.objs.size + 1 := Heap.size_push ..
        have neI : l ≠ (s.heap.push (newS w)).objs.size := by rw [zI]; exact Nat.ne_of_lt (Nat.lt_succ_of_lt lS)
        have notin : s.heap.objs.size ∉ [(s.heap.push (newS w)).objs.size, l] := by
          rw [zI]
          simp only [List.mem_cons, List.not_mem_nil, or_false, not_or]
          exact ⟨Nat.ne_of_lt (Nat.lt_succ_self _), Nat.ne_of_gt lS⟩
        refine set_fill ((Walks.list hh3 _ l neI items).toS) s.heap.objs.size notin ks hn hb hit (items.size - 0) 0 _ rfl (Nat.zero_le _)
          ⟨⟨_, Heap.get?_push_size _ rfl, rfl, rfl⟩, (hl1.push _)⟩ ⟨0, Nat.le_refl 0, SetG.congr (setG_new (Heap.get?_push_of_some _ hS)) fun k => (by simp)⟩ fun s' c' mv hc' g => ?_
        obtain ⟨h', g2, d', tk', os'⟩ := s'
        have eg : g2 = s.gens := mv.gens
        have ed : d' = s.drawn := mv.drawn
        have eo : os' = s.os := mv.os
        subst eg; subst ed; subst eo
        show wpAny _ _ _ _ _ _
        refine wpAny_pure ?_
        show wpAny _ _ (ret Value.none) _ _ _
        rw [hn] at hc'
        refine wpAny_pure ⟨rfl, h', tk', c', rfl, g, hc', fun b o e => ?_⟩
        have b0 : b < s.heap.objs.size := Heap.lt_size e
        refine mv.heap b o ?_ (Heap.get?_push_of_some _ (Heap.get?_push_of_some _ e))
        rw [zI]
        simp only [List.mem_cons, List.not_mem_nil, or_false, not_or]
        exact ⟨Nat.ne_of_lt b0, Nat.ne_of_lt (Nat.lt_succ_of_lt b0)⟩
      · cases r₂ with
        | error e => exact hr₂
        | ok fl₂ =>
          cases fl₂ with
          | ret r =>
            obtain ⟨rfl, h', tk, c', rfl, g, hc', k'⟩ := hr₂
            repeat (any_goals (first | assumption | wp_step))
            exact h _ _ _ g hc' k'
          | _ => exact hr₂.elim
    | _ => exact hr.elim
/-- set(x), x a tuple -/
theorem call_set_tuple {l : Addr} {items : Array Value} (ks : List Kt) {Q : Value → Shared → Prop} (hh : A.handled = none) (hl : s.heap.IsTuple l items) (hn : items.size = ks.length) (hit : ∀ (i : Nat) v, items[i]? = some v → ∃ k, ks[i]? = some k ∧ knd.is k v = true ∧ v.scannable = true) (hb : ks.length + 1 < scanBound)
    (h : ∀ (h' : Heap) (tk c : Nat), SetG knd h' s.heap.objs.size (fun j => decide (j ∈ ks)) c → c ≤ ks.length → (∀ b o, s.heap.get? b = some o → h'.get? b = some o) → Q (.ref s.heap.objs.size) { s with heap := h', toks := tk }) :
    wpAny (model P w) A (call (.type "set") [.ref l]) Q E s := by
  obtain ⟨c, tl, hmro⟩ := F.called_set.mro
  have hmade := F.called_set.made
  have hsub := F.called_set.sub
  refine wpAny_call (codeAny_of_tree ?_)
  show wpAny _ _ (callAny (.type "set") _) _ _ _
  refine wpAny_pure ⟨Code.quiet_builtin _ (by decide +kernel), codeAny_builtin F.entry_type_call ?_⟩
  rw [Around.under_plain (weight_type_call_type "set" [.ref l] []) rfl]
  have h1 := F.called_set.notType
  have h2 := F.called_set.canCreate
  have hct := F.typeCall_set_1 (.ref l)
  repeat (any_goals (first | assumption | wp_step))
  refine codeAny_mono (code_set_led1 (.ref l) (E := E) (Q₁ := fun obj s₁ => obj = .ref s.heap.objs.size ∧ s₁ = { s with heap := s.heap.push (newS w) }) ⟨rfl, rfl⟩) fun r s₁ hr => ?_
  cases r with
  | error e => exact hr
  | ok fl =>
    cases fl with
    | ret obj =>
      obtain ⟨rfl, rfl⟩ := hr
      have hS : (s.heap.push (newS w)).get? s.heap.objs.size = some (newS w) := Heap.get?_push_size _ rfl
      have hT : Shared.TypeIs { s with heap := s.heap.push (newS w) } (.ref s.heap.objs.size) "set" := ⟨_, hS, rfl⟩
      have hli := F.called_set.init.lookup
      have hbi := F.called_set.init.bind (.ref s.heap.objs.size)
      repeat (any_goals (first | assumption | wp_step))
      refine codeAny_mono (codeAny_call_builtin (R := wants (fun r s₂ => r = .none ∧ ∃ h' tk c, s₂ = { s with heap := h', toks := tk } ∧ SetG knd h' s.heap.objs.size (fun j => decide (j ∈ ks)) c ∧ c ≤ ks.length ∧
          (∀ b o, s.heap.get? b = some o → h'.get? b = some o)) E) F.called_set.init.plain F.entry_set_init (check_set_init_1 hT ?_)) fun r₂ s₂ hr₂ => ?_
      · obtain ⟨ol, hol, hcl, nl, hdl⟩ := hl
        obtain ⟨ocls, odict, odata, oslots⟩ := ol
        simp only at hcl hdl
        subst hcl; subst hdl
        have hol' : (s.heap.push (newS w)).get? l = some { cls := .type "tuple", dict := odict, data := .seq items nl, slots := oslots } := Heap.get?_push_of_some _ hol
        have hsls := F.sub_tuple_set
        have hslf := F.sub_tuple_frozenset
        have hne : (Value.type "tuple" == Value.type "dict") = false := by decide
        have hl1 : (s.heap.push (newS w)).IsTuple l items := ⟨_, hol', rfl, nl, rfl⟩
        unfold Builtin.«set.__init__» noKeywords Builtin.Frozenset.updateFrom
        generalize hPI : pyIter = PI
        wp_walk
        subst hPI
        refine wpAny_pyIter_tuple hl1 ?_
        refine wpAny_bind (wpAny_runValue ?_)
        have lS : l < s.heap.objs.size := Heap.lt_size hol
        have hh3 : A.in1.in1.in1.handled = none := by simp [hh]
        have zI : (s.heap.push (newS w)).objs.size = s.heap.objs.size + 1 := Heap.size_push ..
        have neI : l ≠ (s.heap.push (newS w)).objs.size := by rw [zI]; exact Nat.ne_of_lt (Nat.lt_succ_of_lt lS)
        have notin : s.heap.objs.size ∉ [(s.heap.push (newS w)).objs.size, l] := by
          rw [zI]
          simp only [List.mem_cons, List.not_mem_nil, or_false, not_or]
          exact ⟨Nat.ne_of_lt (Nat.lt_succ_self _), Nat.ne_of_gt lS⟩
        refine set_fill ((Walks.tuple hh3 _ l neI items).toS) s.heap.objs.size notin ks hn hb hit (items.size - 0) 0 _ rfl (Nat.zero_le _)
          ⟨⟨_, Heap.get?_push_size _ rfl, rfl, rfl⟩, (hl1.push _)⟩ ⟨0, Nat.le_refl 0, SetG.congr (setG_new (Heap.get?_push_of_some _ hS)) fun k => (by simp)⟩ fun s' c' mv hc' g => ?_
        obtain ⟨h', g2, d', tk', os'⟩ := s'
        have eg : g2 = s.gens := mv.gens
        have ed : d' = s.drawn := mv.drawn
        have eo : os' = s.os := mv.os
        subst eg; subst ed; subst eo
        show wpAny _ _ _ _ _ _
        refine wpAny_pure ?_
        show wpAny _ _ (ret Value.none) _ _ _
        rw [hn] at hc'
        refine wpAny_pure ⟨rfl, h', tk', c', rfl, g, hc', fun b o e => ?_⟩
        have b0 : b < s.heap.objs.size := Heap.lt_size e
        refine mv.heap b o ?_ (Heap.get?_push_of_some _ (Heap.get?_push_of_some _ e))
        rw [zI]
        simp only [List.mem_cons, List.not_mem_nil, or_false, not_or]
        exact ⟨Nat.ne_of_lt b0, Nat.ne_of_lt (Nat.lt_succ_of_lt b0)⟩
      · cases r₂ with
        | error e => exact hr₂
        | ok fl₂ =>
          cases fl₂ with
          | ret r =>
            obtain ⟨rfl, h', tk, c', rfl, g, hc', k'⟩ := hr₂
            repeat (any_goals (first | assumption | wp_step))
            exact h _ _ _ g hc' k'
          | _ => exact hr₂.elim
    | _ => exact hr.elim
/-- sorted(x), x a set -/
theorem sorted_setG {enc : Kt → PyData} {a : Addr} {S : Kt → Bool} {n : Nat} {Q : Value → Shared → Prop} (R : SetG knd s.heap a S n) (hh : A.handled = none) (hu : A.units + 64 < cLine) (hn : n ≤ 100000)
    (hread : ∀ (h : Heap) k v, knd.is k v = true → Reads h v (enc k) []) (hal : ∀ j k, W.alike (enc j) (enc k) = true) (hne : ∀ k, enc k ≠ .none ∧ ∀ xs, enc k ≠ .tuple xs) (hdp : ∀ k, (enc k).depth ≤ 40)
    (hQ : ∀ s' p (out : List Value) (c : Nat) (ks : List Kt), (∀ b o, s.heap.get? b = some o → s'.heap.get? b = some o) → s'.gens = s.gens → s'.os = s.os → s.heap.objs.size ≤ p →
      s'.heap.get? p = some (seqObj "list" out.toArray c) → ks.Nodup → (∀ k, k ∈ ks ↔ S k = true) → ks.length = n → W.EachIs (fun v k => knd.is k v = true) out (ks.mergeSort (W.dataLe false enc)) → Q (.ref p) s') :
    wpAny (model P w) A (call (.builtin "sorted") [.ref a]) Q E s := by
  obtain ⟨o, es, ep, t, ho, hex, hd, g, sz⟩ := R
  refine Calls.call_function_entry kind_sorted plain_sorted entry_sorted (args_sorted1 _) ?_
  unfold Builtin.«sorted»
  refine wpAny_bind (m := checkCount "sorted" 1 1 _) (wpAny_pure ?_)
  refine wpAny_bind (collect_set (A := A.in1) hh ⟨o, ho, hex.1, hd⟩ g.fit g.bd g.ris g.led fun s1 vs k1 hz g1 o1 pm => ?_)
  have lv : vs.length = n := by rw [pm.length_eq, List.length_map, Array.length_toList]; exact sz
  obtain ⟨ks, ek, nd, mk⟩ := keys_out g pm
  have lk : ks.length = n := by rw [← ek.length]; exact lv
  refine wpAny_bind (wpAny_newList ?_ (by rw [lv]; exact line_le hn))
  have hoL : (s1.heap.push (seqObj "list" vs.toArray 0)).get? s1.heap.objs.size = some (seqObj "list" vs.toArray 0) := Heap.get?_push_size _ rfl
  refine wpAny_bind (wpAny_holding (W.list_sort_data (R := fun v k => knd.is k v = true) (enc := enc) (bs := ks) hoL ek (ek.mono fun v k h => ⟨[], hread _ k v h, by simp⟩) (W.AllAlike.of hal) (W.Sortable.others hne) (by rw [lk]; exact line_le hn) (fun k _ => ?_) fun out lo eo => ?_))
  · exact Nat.lt_of_le_of_lt (Nat.add_le_add (Nat.le_refl (A.units + 1 + 1)) (hdp k)) (Nat.lt_of_le_of_lt (Nat.le_trans (Nat.le_of_eq (by rw [Nat.add_assoc, Nat.add_assoc])) (Nat.add_le_add_left (by decide) _)) hu)
  obtain ⟨c, hc⟩ := sortedHeap_at (vs := vs) (out := out.toArray) hoL
  refine wpAny_pure ⟨_, rfl, hQ _ s1.heap.objs.size out c ks (fun b u e => ?_) g1 o1 hz hc nd mk lk eo⟩
  have q := k1 b u e
  have lt := Heap.lt_size q
  show (sortedHeap (s1.heap.push (seqObj "list" vs.toArray 0)) s1.heap.objs.size vs out.toArray).get? b = some u
  rw [sortedHeap_old (Nat.ne_of_lt lt) (by rw [size_push']; exact Nat.lt_succ_of_lt lt)]
  exact Heap.get?_push_of_some _ q
end
end EA
namespace EA
open PySem PySem.Spec PyProof.Rows L2
/-! ### texts in order -/
def slt (a b : Str) : Prop := a.cps.toList < b.cps.toList
instance (a b : Str) : Decidable (slt a b) := inferInstanceAs (Decidable (a.cps.toList < b.cps.toList))
theorem str_ext {a b : Str} (h : a.cps.toList = b.cps.toList) : a = b := by
  cases a; cases b
  simp only [Str.mk.injEq]
  exact Array.ext' h
theorem slt_irrefl (a : Str) : ¬ slt a a := List.lt_irrefl _
theorem slt_trans {a b c : Str} (h : slt a b) (k : slt b c) : slt a c := List.lt_trans h k
theorem slt_tri {a b : Str} (h : ¬ slt a b) (k : ¬ slt b a) : a = b := str_ext (List.le_antisymm (List.not_lt.mp k) (List.not_lt.mp h))
theorem slt_asymm {a b : Str} (h : slt a b) : ¬ slt b a := fun k => slt_irrefl _ (slt_trans h k)
theorem slt_ne {a b : Str} (h : slt a b) : a ≠ b := fun e => slt_irrefl b (by rw [e] at h; exact h)
/-! ### conditions -/
inductive C where
  | b (v : Bool)
  | nd (s : Str) (on off : C)
  deriving DecidableEq
def C.enc : C → PyData
  | .b v => .bool v
  | .nd s x y => .tuple [.str s, x.enc, y.enc]
def C.ev (f : Str → Bool) : C → Bool
  | .b v => v
  | .nd s x y => if f s then x.ev f else y.ev f
def C.formed (s : Str) (x y : C) : C := if x = y then x else .nd s x y
def C.side : C → Str → Bool → C
  | .b v, _, _ => .b v
  | .nd t x y, s, o => if t = s then (if o then x else y) else .nd t x y
def C.vars : C → List Str
  | .b _ => []
  | .nd s x y => s :: (x.vars ++ y.vars)
/-- of the one form, over these switches in this order -/
inductive OC : List Str → C → Prop where
  | leaf {ns : List Str} (v : Bool) : OC ns (.b v)
  | node {x : Str} {xs : List Str} {a b : C} : OC xs a → OC xs b → a ≠ b → OC (x :: xs) (.nd x a b)
  | skip {x : Str} {xs : List Str} {c : C} : OC xs c → OC (x :: xs) c
theorem C.ev_formed (f : Str → Bool) (s : Str) (x y : C) : (C.formed s x y).ev f = if f s then x.ev f else y.ev f := by
  unfold C.formed
  split
  · rename_i e
    subst e
    split <;> rfl
  · rfl
theorem OC.formed {x : Str} {xs : List Str} {a b : C} (ha : OC xs a) (hb : OC xs b) : OC (x :: xs) (C.formed x a b) := by
  unfold C.formed
  split
  · exact .skip ha
  · rename_i e
    exact .node ha hb e
theorem C.ev_side (f : Str → Bool) (s : Str) (c : C) : c.ev f = if f s then (c.side s true).ev f else (c.side s false).ev f := by
  cases c with
  | b v => simp [C.side]
  | nd t x y =>
    unfold C.side
    by_cases e : t = s
    · subst e
      simp [C.ev]
    · simp [e]
theorem OC.app {ns : List Str} {c : C} (h : OC ns c) : ∀ pre : List Str, OC (pre ++ ns) c
  | [] => h
  | x :: r => .skip (OC.app h r)
theorem OC.bool_of {c : C} (h : OC [] c) : ∃ v, c = .b v := by
  cases h with
  | leaf v => exact ⟨v, rfl⟩
/-- where the first switch stands -/
theorem OC.split {ns : List Str} {s : Str} {x y : C} (h : OC ns (.nd s x y)) : ∃ pre ys, ns = pre ++ s :: ys ∧ OC ys x ∧ OC ys y ∧ x ≠ y := by
  generalize e : C.nd s x y = c at h
  induction h with
  | leaf v => cases e
  | node ha hb ne _ _ => cases e; exact ⟨[], _, rfl, ha, hb, ne⟩
  | @skip z xs c h ih =>
    obtain ⟨pre, ys, e1, r⟩ := ih e
    exact ⟨z :: pre, ys, by rw [e1]; rfl, r⟩
theorem OC.drop1 {x : Str} {xs : List Str} {s : Str} {a b : C} (h : OC (x :: xs) (.nd s a b)) (n : s ≠ x) : OC xs (.nd s a b) := by
  cases h with
  | node _ _ _ => exact absurd rfl n
  | skip h => exact h
theorem OC.dropn {s : Str} {a b : C} : ∀ {pre ys : List Str}, OC (pre ++ ys) (.nd s a b) → s ∉ pre → OC ys (.nd s a b)
  | [], _, h, _ => h
  | x :: r, ys, h, n => OC.dropn (pre := r) (h.drop1 fun e => n (by rw [e]; exact List.mem_cons_self)) fun m => n (List.mem_cons_of_mem _ m)
theorem OC.vars {ns : List Str} {c : C} (h : OC ns c) : ∀ s ∈ c.vars, s ∈ ns := by
  induction h with
  | leaf v => intro s hs; cases hs
  | @node x xs a b _ _ _ ha hb =>
    intro s hs
    rcases List.mem_cons.mp hs with e | hs
    · rw [e]; exact List.mem_cons_self
    · rcases List.mem_append.mp hs with hs | hs
      · exact List.mem_cons_of_mem _ (ha s hs)
      · exact List.mem_cons_of_mem _ (hb s hs)
  | skip _ ih => exact fun s hs => List.mem_cons_of_mem _ (ih s hs)
theorem C.ev_congr {f g : Str → Bool} : ∀ (c : C), (∀ s ∈ c.vars, f s = g s) → c.ev f = c.ev g
  | .b _, _ => rfl
  | .nd s x y, h => by
    show (if f s then x.ev f else y.ev f) = (if g s then x.ev g else y.ev g)
    rw [h s List.mem_cons_self, C.ev_congr x fun t ht => h t (List.mem_cons_of_mem _ (List.mem_append_left _ ht)), C.ev_congr y fun t ht => h t (List.mem_cons_of_mem _ (List.mem_append_right _ ht))]
def fset (f : Str → Bool) (s : Str) (o : Bool) : Str → Bool := fun t => if t = s then o else f t
theorem C.ev_fset {f : Str → Bool} {s : Str} {o : Bool} {c : C} (h : s ∉ c.vars) : c.ev (fset f s o) = c.ev f :=
  C.ev_congr c fun t ht => by
    unfold fset
    rw [if_neg fun e => h (by rw [← e]; exact ht)]
theorem OC.ev_fset {ns : List Str} {f : Str → Bool} {s : Str} {o : Bool} {c : C} (h : OC ns c) (n : s ∉ ns) : c.ev (fset f s o) = c.ev f := C.ev_fset fun m => n (h.vars s m)
/-- one set of settings, one form -/
theorem OC.uniq : ∀ {ns : List Str}, ns.Nodup → ∀ {c d : C}, OC ns c → OC ns d → (∀ f, c.ev f = d.ev f) → c = d
  | [], _, c, d, hc, hd, h => by
    obtain ⟨v, rfl⟩ := hc.bool_of
    obtain ⟨w, rfl⟩ := hd.bool_of
    exact congrArg C.b (h fun _ => true)
  | x :: xs, nd, c, d, hc, hd, h => by
    obtain ⟨nx, nd'⟩ := List.nodup_cons.mp nd
    have cof : ∀ {c : C}, OC (x :: xs) c → ∃ p q, OC xs p ∧ OC xs q ∧ (∀ f, c.ev f = if f x then p.ev f else q.ev f) ∧ c = C.formed x p q := fun {c} hc => by
      cases hc with
      | leaf v => exact ⟨.b v, .b v, .leaf v, .leaf v, fun f => by simp [C.ev], by simp [C.formed]⟩
      | @node _ _ a b ha hb ne => exact ⟨a, b, ha, hb, fun f => rfl, by simp [C.formed, ne]⟩
      | skip h => exact ⟨c, c, h, h, fun f => by simp, by simp [C.formed]⟩
    obtain ⟨p, q, hp, hq, e1, r1⟩ := cof hc
    obtain ⟨p', q', hp', hq', e2, r2⟩ := cof hd
    have ep : p = p' := OC.uniq nd' hp hp' fun f => by
      have z := h (fset f x true)
      rw [e1, e2] at z
      simp only [fset, if_true] at z
      have z1 := hp.ev_fset (f := f) (o := true) nx
      have z2 := hp'.ev_fset (f := f) (o := true) nx
      rw [← z1, ← z2]
      exact z
    have eq : q = q' := OC.uniq nd' hq hq' fun f => by
      have z := h (fset f x false)
      rw [e1, e2] at z
      simp only [fset, if_true, Bool.false_eq_true, if_false] at z
      have z1 := hq.ev_fset (f := f) (o := false) nx
      have z2 := hq'.ev_fset (f := f) (o := false) nx
      rw [← z1, ← z2]
      exact z
    rw [r1, r2, ep, eq]
/-- sorted names -/
structure NS (ns : List Str) : Prop where
  srt : ns.Pairwise slt
  ok : ∀ n ∈ ns, PyData.strOk n = true ∧ n.length ≤ 100
  few : ns.length ≤ 12
theorem pw_nodup {ns : List Str} (h : ns.Pairwise slt) : ns.Nodup := h.imp fun h => slt_ne h
theorem NS.nd {ns : List Str} (h : NS ns) : ns.Nodup := pw_nodup h.srt
theorem NS.suf {pre ns : List Str} (h : NS (pre ++ ns)) : NS ns :=
  ⟨(List.pairwise_append.mp h.srt).2.1, fun n m => h.ok n (List.mem_append_right _ m), by have := h.few; rw [List.length_append] at this; omega⟩
/-- the sides at the least first switch -/
theorem OC.sides {pre ys : List Str} {y : Str} (hn : NS (pre ++ y :: ys)) {c : C} (hc : OC (pre ++ y :: ys) c) (hm : ∀ s x z, c = .nd s x z → ¬ slt s y) : ∀ o, OC ys (c.side y o) := by
  intro o
  cases c with
  | b v => exact .leaf v
  | nd s x z =>
    have h1 := hm s x z rfl
    have srt := List.pairwise_append.mp hn.srt
    have npre : s ∉ pre := fun m => h1 (srt.2.2 s m y List.mem_cons_self)
    have h2 := hc.dropn npre
    show OC ys (if s = y then (if o then x else z) else .nd s x z)
    by_cases e : s = y
    · subst e
      rw [if_pos rfl]
      have nys : s ∉ ys := fun m => slt_irrefl s ((List.pairwise_cons.mp srt.2.1).1 s m)
      cases h2 with
      | node ha hb _ =>
        cases o with
        | true => exact ha
        | false => exact hb
      | skip h =>
        obtain ⟨p, q, e, _⟩ := h.split
        exact absurd (by rw [e]; simp) nys
    · rw [if_neg e]
      exact h2.drop1 e
/-! ### what the data must be for == -/
theorem C.depth_le {ns : List Str} {c : C} (h : OC ns c) : c.enc.depth ≤ ns.length := by
  induction h with
  | leaf v => exact Nat.zero_le _
  | @node x xs a b _ _ _ ha hb =>
    show max (PyData.depth (.str x)) (max a.enc.depth (max b.enc.depth 0)) + 1 ≤ _
    have : PyData.depth (.str x) = 0 := rfl
    rw [List.length_cons]
    omega
  | skip _ ih => rw [List.length_cons]; omega
theorem C.eqv_iff : ∀ c d : C, PyData.eqv c.enc d.enc = decide (c = d)
  | .b v, .b w => by
    show (v == w) = _
    cases v <;> cases w <;> rfl
  | .b v, .nd _ _ _ => rfl
  | .nd _ _ _, .b v => rfl
  | .nd s x y, .nd t z w => by
    show ((s == t) && (PyData.eqv x.enc z.enc && (PyData.eqv y.enc w.enc && true))) = _
    rw [C.eqv_iff x z, C.eqv_iff y w]
    by_cases e1 : s = t
    · by_cases e2 : x = z
      · by_cases e3 : y = w
        · simp [e1, e2, e3]
        · simp [e1, e2, e3]
      · simp [e1, e2]
    · simp [e1]
/-! ### keys of a dict, sorted texts -/
/-- strictly sorted lists with the same members are one -/
theorem sorted_uniq : ∀ {xs ys : List Str}, xs.Pairwise slt → ys.Pairwise slt → (∀ s, s ∈ xs ↔ s ∈ ys) → xs = ys
  | [], [], _, _, _ => rfl
  | [], y :: r, _, _, h => absurd ((h y).mpr List.mem_cons_self) (fun z => nomatch z)
  | x :: r, [], _, _, h => absurd ((h x).mp List.mem_cons_self) (fun z => nomatch z)
  | x :: r, y :: q, hx, hy, h => by
    obtain ⟨x1, x2⟩ := List.pairwise_cons.mp hx
    obtain ⟨y1, y2⟩ := List.pairwise_cons.mp hy
    have e : x = y := by
      rcases List.mem_cons.mp ((h x).mp List.mem_cons_self) with e | m
      · exact e
      · rcases List.mem_cons.mp ((h y).mpr List.mem_cons_self) with e | m2
        · exact e.symm
        · exact absurd (slt_trans (y1 x m) (x1 y m2)) (slt_irrefl _)
    subst e
    rw [sorted_uniq x2 y2 fun s => ⟨fun m => ?_, fun m => ?_⟩]
    · rcases List.mem_cons.mp ((h s).mp (List.mem_cons_of_mem _ m)) with e | m2
      · rw [e] at m; exact absurd (x1 x m) (slt_irrefl _)
      · exact m2
    · rcases List.mem_cons.mp ((h s).mpr (List.mem_cons_of_mem _ m)) with e | m2
      · rw [e] at m; exact absurd (y1 x m) (slt_irrefl _)
      · exact m2
def C.size : C → Nat
  | .b _ => 1
  | .nd _ x y => x.size + y.size + 1
theorem C.size_pos : ∀ c : C, 0 < c.size
  | .b _ => Nat.zero_lt_one
  | .nd _ _ _ => Nat.succ_pos _
end EA
namespace EA
open PySem PySem.Spec PyProof.Rows L2
def SetGO {P : Program} {w : World} {Kt : Type} [DecidableEq Kt] (knd : PySem.KeyKind P w Kt) (a : Addr) (S : Kt → Bool) (n : Nat) : HO := .ext fun h => SetG knd h a S n
section
variable {X : Cx} {Kt : Type} [DecidableEq Kt] {knd : PySem.KeyKind X.prog X.w Kt}
theorem setGO_new {H : Hp} {h : Heap} {a : Addr} {S : Kt → Bool} {n : Nat} (R : SetG knd h a S n) : ObjOk X.prog X.w H h a (SetGO knd a S n) := by
  have ⟨o, _, _, _, ho, _⟩ := R
  exact ⟨R, ⟨o, ho⟩, fun h1 h2 p k => SetG.at p k⟩
theorem setGO_get {pins : List (Addr × Obj)} {σ : L2.St} {H : Hp} {s : Shared} {a : Addr} {S : Kt → Bool} {n : Nat} (I : Inv X pins σ H s) (ha : H a = some (SetGO knd a S n)) : SetG knd s.heap a S n := (I.hok a _ ha).1
end
/-! ### texts -/
def rSetOfS (K : PySem.W.Frag) (P : Program) (w : World) : List V → Hp → VK → Prop := fun xs H Q => ∃ (p : Addr) (ks : List Str), xs = [.ref p] ∧ (SqL K H p (ks.map V.str) ∨ SqT K H p (ks.map V.str)) ∧ ks.length ≤ 2000 ∧
  ∀ D n, H D = none → n ≤ ks.length → Q (.ref D) (upd H D (SetGO (PySem.strKind P w) D (fun k => decide (k ∈ ks)) n))
def rSortedSetS (P : Program) (w : World) : List V → Hp → VK → Prop := fun xs H Q => ∃ (a : Addr) (S : Str → Bool) (n : Nat), xs = [.ref a] ∧ H a = some (SetGO (PySem.strKind P w) a S n) ∧ n ≤ 2000 ∧
  ∀ (ss : List Str) p, ss.Pairwise slt → (∀ k, k ∈ ss ↔ S k = true) → ss.length = n → H p = none → Q (.ref p) (upd H p (.lst (ss.map V.str)))
theorem strs_keys {P : Program} {w : World} {ks : List Str} {its : List Value} (r : Vals (ks.map V.str) its) : ∀ (i : Nat) v, its.toArray[i]? = some v → ∃ k, ks[i]? = some k ∧ (PySem.strKind P w).is k v = true ∧ v.scannable = true := by
  intro i v hv
  have hv' : its[i]? = some v := by simpa using hv
  have hl := r.length
  rw [List.length_map] at hl
  have hi : i < ks.length := by rw [hl]; exact (List.getElem?_eq_some_iff.mp hv').1
  obtain ⟨u, hu, ru⟩ := r.get (i := i) (x := .str ks[i]) (by rw [List.getElem?_map, List.getElem?_eq_getElem hi]; rfl)
  rw [hv'] at hu
  cases hu
  obtain ⟨t, rfl⟩ := ru
  exact ⟨ks[i], List.getElem?_eq_getElem hi, strKind_is _ _ _ _, rfl⟩
theorem scan_small {n : Nat} (h : n ≤ 2000) : n + 1 < scanBound := Nat.lt_of_le_of_lt (Nat.succ_le_succ h) (by decide)
section
variable {X : Cx}
theorem cr_setOfS (hc : X.calm = true) : CallR X (.type "set") (rSetOfS X.K X.prog X.w) := by
  intro pins s σ H vs us Q I r h
  obtain ⟨p, ks, rfl, hq, hk, q⟩ := h
  obtain ⟨u, rfl, ru⟩ := vals1 r
  obtain rfl : u = Value.ref p := ru
  have fin : ∀ (h' : Heap) (tk c : Nat), SetG (PySem.strKind X.prog X.w) h' s.heap.objs.size (fun j => decide (j ∈ ks)) c → c ≤ ks.length → (∀ b o, s.heap.get? b = some o → h'.get? b = some o) → EP X pins σ Q (.ref s.heap.objs.size) { s with heap := h', toks := tk } :=
    fun h' tk c g hc' k => ⟨.ref s.heap.objs.size, upd H s.heap.objs.size (SetGO (PySem.strKind X.prog X.w) s.heap.objs.size (fun j => decide (j ∈ ks)) c), I.laid (t' := tk) k (Nat.le_refl _) (setGO_new g), rfl, q _ c (I.hok.fresh (Nat.le_refl _)) hc'⟩
  rcases hq with hq | hq
  · obtain ⟨its, rv, pl, hz⟩ := I.list hq
    exact call_set_list (knd := PySem.strKind X.prog X.w) ks (I.ok.hd hc) pl.isList (by rw [List.size_toArray, ← rv.length, List.length_map]) (strs_keys rv) (scan_small hk) fin
  · obtain ⟨its, rv, pl, hz⟩ := I.tuple hq
    exact call_set_tuple (knd := PySem.strKind X.prog X.w) ks (I.ok.hd hc) pl (by rw [List.size_toArray, ← rv.length, List.length_map]) (strs_keys rv) (scan_small hk) fin
theorem each_strs {P : Program} {w : World} : ∀ {out : List Value} {ks : List Str}, W.EachIs (fun v k => (PySem.strKind P w).is k v = true) out ks → Vals (ks.map V.str) out
  | _, _, .nil => .nil
  | _, _, .cons h t => by
    obtain ⟨u, rfl⟩ := Value.isStrOf_shape h
    exact .cons ⟨u, rfl⟩ (each_strs t)
theorem strs_strict {ks : List Str} (nd : ks.Nodup) : (ks.mergeSort (W.dataLe false PyData.str)).Pairwise slt ∧ ∀ k, k ∈ ks.mergeSort (W.dataLe false PyData.str) ↔ k ∈ ks := by
  have T := W.sortLe_total (PyProof.Rows.listOrd itemOrd) false (fun b : Str => W.keyToks (.str b))
  have pw := List.pairwise_mergeSort (le := W.dataLe false PyData.str) (fun a b c => T.trans a b c) (fun a b => by
    rcases T.total a b with h | h
    · rw [show W.dataLe false PyData.str a b = true from h]; rfl
    · rw [show W.dataLe false PyData.str b a = true from h]; exact Bool.or_true _) ks
  have pm := List.mergeSort_perm ks (W.dataLe false PyData.str)
  refine ⟨?_, fun k => pm.mem_iff⟩
  have nd2 : (ks.mergeSort (W.dataLe false PyData.str)).Nodup := pm.nodup_iff.mpr nd
  refine List.Pairwise.imp₂ (fun a b h ne => ?_) pw nd2
  have e : W.dataLe false PyData.str = fun a b => decide (a.cps.toList ≤ b.cps.toList) := W.dataLe_str (fun b => b)
  rw [e] at h
  have h := of_decide_eq_true h
  exact Classical.byContradiction fun n => ne (str_ext (List.le_antisymm h (List.not_lt.mp n)))
theorem cr_sortedSetS (hc : X.calm = true) (hu : X.A.units + 64 < cLine) : CallR X (.builtin "sorted") (rSortedSetS X.prog X.w) := by
  intro pins s σ H vs us Q I r h
  obtain ⟨a, S, n, rfl, ha, hn, q⟩ := h
  have R := setGO_get I ha
  rw [Vals.ref1 r]
  refine sorted_setG (enc := PyData.str) R (I.ok.hd hc) hu (by omega) (fun h k v e => ?_) (fun j k => rfl) (fun k => ⟨(fun z => by cases z), (fun xs z => by cases z)⟩) (fun k => Nat.zero_le _) fun s' p out c ks k g o hp hg nd mem hl eo => ?_
  · obtain ⟨t, rfl⟩ := Value.isStrOf_shape e
    exact Reads.str k t
  obtain ⟨st, mm⟩ := strs_strict nd
  have rv := each_strs eo
  generalize he : ks.mergeSort (W.dataLe false PyData.str) = ss at *
  have hls : ss.length = n := by rw [← he, List.length_mergeSort]; exact hl
  have hlen : (ss.map V.str).length ≤ sizeLine := by rw [List.length_map, hls]; exact line_le (by omega)
  have hf : H p = none := I.hok.fresh hp
  have J : Inv X pins σ (upd H p (.lst (ss.map V.str))) { s with heap := s'.heap, gens := s'.gens, drawn := s'.drawn, toks := s'.toks } :=
    I.call (ch := []) (Un.laid k hp hf) (I.hok.laid k hp ⟨hlen, out, c, rv, hg⟩) (by rw [g]; exact I.bare) (fun _ z => nomatch z)
  have e : s' = { s with heap := s'.heap, gens := s'.gens, drawn := s'.drawn, toks := s'.toks } := by
    cases s'
    cases s
    cases o
    rfl
  rw [e]
  exact ⟨.ref p, _, J, rfl, q ss p st (fun k => (mm k).trans (mem k)) hls hf⟩
end
end EA
namespace EA
open PySem PySem.Spec PyProof.Rows L2
/-! ### whole numbers -/
def rSetOfI (K : PySem.W.Frag) (P : Program) (w : World) : List V → Hp → VK → Prop := fun xs H Q => ∃ (p : Addr) (ks : List Int), xs = [.ref p] ∧ (SqL K H p (ks.map V.int) ∨ SqT K H p (ks.map V.int)) ∧ ks.length ≤ 2000 ∧
  ∀ D n, H D = none → n ≤ ks.length → Q (.ref D) (upd H D (SetGO (PySem.intKind P w) D (fun k => decide (k ∈ ks)) n))
def rSortedSetI (P : Program) (w : World) : List V → Hp → VK → Prop := fun xs H Q => ∃ (a : Addr) (S : Int → Bool) (n : Nat), xs = [.ref a] ∧ H a = some (SetGO (PySem.intKind P w) a S n) ∧ n ≤ 2000 ∧
  ∀ (ss : List Int) p, ss.Pairwise (· < ·) → (∀ k, k ∈ ss ↔ S k = true) → ss.length = n → H p = none → Q (.ref p) (upd H p (.lst (ss.map V.int)))
theorem ints_keys {P : Program} {w : World} {ks : List Int} {its : List Value} (r : Vals (ks.map V.int) its) : ∀ (i : Nat) v, its.toArray[i]? = some v → ∃ k, ks[i]? = some k ∧ (PySem.intKind P w).is k v = true ∧ v.scannable = true := by
  intro i v hv
  have hv' : its[i]? = some v := by simpa using hv
  have hl := r.length
  rw [List.length_map] at hl
  have hi : i < ks.length := by rw [hl]; exact (List.getElem?_eq_some_iff.mp hv').1
  obtain ⟨u, hu, ru⟩ := r.get (i := i) (x := .int ks[i]) (by rw [List.getElem?_map, List.getElem?_eq_getElem hi]; rfl)
  rw [hv'] at hu
  cases hu
  obtain ⟨t, rfl⟩ := ru
  exact ⟨ks[i], List.getElem?_eq_getElem hi, intKind_is _ _ _ _, rfl⟩
theorem int_shape {P : Program} {w : World} {k : Int} {v : Value} (h : (PySem.intKind P w).is k v = true) : ∃ t, v = .int k t := Value.isInt_shape h
section
variable {X : Cx}
theorem cr_setOfI (hc : X.calm = true) : CallR X (.type "set") (rSetOfI X.K X.prog X.w) := by
  intro pins s σ H vs us Q I r h
  obtain ⟨p, ks, rfl, hq, hk, q⟩ := h
  obtain ⟨u, rfl, ru⟩ := vals1 r
  obtain rfl : u = Value.ref p := ru
  have fin : ∀ (h' : Heap) (tk c : Nat), SetG (PySem.intKind X.prog X.w) h' s.heap.objs.size (fun j => decide (j ∈ ks)) c → c ≤ ks.length → (∀ b o, s.heap.get? b = some o → h'.get? b = some o) → EP X pins σ Q (.ref s.heap.objs.size) { s with heap := h', toks := tk } :=
    fun h' tk c g hc' k => ⟨.ref s.heap.objs.size, upd H s.heap.objs.size (SetGO (PySem.intKind X.prog X.w) s.heap.objs.size (fun j => decide (j ∈ ks)) c), I.laid (t' := tk) k (Nat.le_refl _) (setGO_new g), rfl, q _ c (I.hok.fresh (Nat.le_refl _)) hc'⟩
  rcases hq with hq | hq
  · obtain ⟨its, rv, pl, hz⟩ := I.list hq
    exact call_set_list (knd := PySem.intKind X.prog X.w) ks (I.ok.hd hc) pl.isList (by rw [List.size_toArray, ← rv.length, List.length_map]) (ints_keys rv) (scan_small hk) fin
  · obtain ⟨its, rv, pl, hz⟩ := I.tuple hq
    exact call_set_tuple (knd := PySem.intKind X.prog X.w) ks (I.ok.hd hc) pl (by rw [List.size_toArray, ← rv.length, List.length_map]) (ints_keys rv) (scan_small hk) fin
theorem each_ints {P : Program} {w : World} : ∀ {out : List Value} {ks : List Int}, W.EachIs (fun v k => (PySem.intKind P w).is k v = true) out ks → Vals (ks.map V.int) out
  | _, _, .nil => .nil
  | _, _, .cons h t => by
    obtain ⟨u, rfl⟩ := int_shape h
    exact .cons ⟨u, rfl⟩ (each_ints t)
theorem ints_strict {ks : List Int} (nd : ks.Nodup) : (ks.mergeSort (W.dataLe false PyData.int)).Pairwise (· < ·) ∧ ∀ k, k ∈ ks.mergeSort (W.dataLe false PyData.int) ↔ k ∈ ks := by
  have T := W.sortLe_total (PyProof.Rows.listOrd itemOrd) false (fun b : Int => W.keyToks (.int b))
  have pw := List.pairwise_mergeSort (le := W.dataLe false PyData.int) (fun a b c => T.trans a b c) (fun a b => by
    rcases T.total a b with h | h
    · rw [show W.dataLe false PyData.int a b = true from h]; rfl
    · rw [show W.dataLe false PyData.int b a = true from h]; exact Bool.or_true _) ks
  have pm := List.mergeSort_perm ks (W.dataLe false PyData.int)
  refine ⟨?_, fun k => pm.mem_iff⟩
  have nd2 : (ks.mergeSort (W.dataLe false PyData.int)).Nodup := pm.nodup_iff.mpr nd
  refine List.Pairwise.imp₂ (fun a b h ne => ?_) pw nd2
  have e : W.dataLe false PyData.int = fun a b => decide (a ≤ b) := W.dataLe_int (fun b => b)
  rw [e] at h
  have h := of_decide_eq_true h
  omega
theorem cr_sortedSetI (hc : X.calm = true) (hu : X.A.units + 64 < cLine) : CallR X (.builtin "sorted") (rSortedSetI X.prog X.w) := by
  intro pins s σ H vs us Q I r h
  obtain ⟨a, S, n, rfl, ha, hn, q⟩ := h
  have R := setGO_get I ha
  rw [Vals.ref1 r]
  refine sorted_setG (enc := PyData.int) R (I.ok.hd hc) hu (by omega) (fun h k v e => ?_) (fun j k => rfl) (fun k => ⟨(fun z => by cases z), (fun xs z => by cases z)⟩) (fun k => Nat.zero_le _) fun s' p out c ks k g o hp hg nd mem hl eo => ?_
  · obtain ⟨t, rfl⟩ := int_shape e
    exact Reads.int k t
  obtain ⟨st, mm⟩ := ints_strict nd
  have rv := each_ints eo
  generalize he : ks.mergeSort (W.dataLe false PyData.int) = ss at *
  have hls : ss.length = n := by rw [← he, List.length_mergeSort]; exact hl
  have hlen : (ss.map V.int).length ≤ sizeLine := by rw [List.length_map, hls]; exact line_le (by omega)
  have hf : H p = none := I.hok.fresh hp
  have J : Inv X pins σ (upd H p (.lst (ss.map V.int))) { s with heap := s'.heap, gens := s'.gens, drawn := s'.drawn, toks := s'.toks } :=
    I.call (ch := []) (Un.laid k hp hf) (I.hok.laid k hp ⟨hlen, out, c, rv, hg⟩) (by rw [g]; exact I.bare) (fun _ z => nomatch z)
  have e : s' = { s with heap := s'.heap, gens := s'.gens, drawn := s'.drawn, toks := s'.toks } := by
    cases s'
    cases s
    cases o
    rfl
  rw [e]
  exact ⟨.ref p, _, J, rfl, q ss p st (fun k => (mm k).trans (mem k)) hls hf⟩
/-! ### any, all of a list of truths -/
end
end EA
namespace EA
open PySem PySem.Spec PyProof.Rows L2
/-! ### the settings by their numbers -/
def asg : List Str → Nat → Str → Bool
  | [], _, _ => false
  | x :: xs, k, s => if s = x then decide (k / 2 ^ xs.length % 2 = 1) else asg xs k s
theorem div_mod_add {a m k q : Nat} (h : q < a) : (2 ^ a * m + k) / 2 ^ q % 2 = k / 2 ^ q % 2 := by
  have e : 2 ^ a = 2 ^ q * (2 * 2 ^ (a - q - 1)) := by
    rw [← Nat.pow_succ', ← Nat.pow_add]
    congr 1
    omega
  rw [e, Nat.mul_assoc, Nat.add_comm, Nat.add_mul_div_left _ _ (Nat.two_pow_pos q), Nat.mul_assoc, Nat.add_mul_mod_self_left]
theorem asg_add (m : Nat) : ∀ (xs : List Str) (a k : Nat) (s : Str), xs.length ≤ a → asg xs (2 ^ a * m + k) s = asg xs k s
  | [], _, _, _, _ => rfl
  | x :: xs, a, k, s, h => by
    rw [List.length_cons] at h
    show (if s = x then _ else _) = if s = x then _ else _
    rw [div_mod_add (by omega), asg_add m xs a k s (by omega)]
/-- the number of a setting -/
def idx : List Str → (Str → Bool) → Nat
  | [], _ => 0
  | x :: xs, f => (if f x then 2 ^ xs.length else 0) + idx xs f
theorem idx_lt : ∀ (ns : List Str) (f : Str → Bool), idx ns f < 2 ^ ns.length
  | [], _ => Nat.zero_lt_one
  | x :: xs, f => by
    have ih := idx_lt xs f
    show (if f x then 2 ^ xs.length else 0) + idx xs f < _
    rw [List.length_cons, Nat.pow_succ]
    split <;> omega
theorem asg_idx : ∀ {ns : List Str} {f : Str → Bool}, ns.Nodup → ∀ s ∈ ns, asg ns (idx ns f) s = f s
  | [], _, _, s, h => nomatch h
  | x :: xs, f, nd, s, h => by
    obtain ⟨nx, nd'⟩ := List.nodup_cons.mp nd
    have ih := idx_lt xs f
    have p := Nat.two_pow_pos xs.length
    show (if s = x then decide (((if f x then 2 ^ xs.length else 0) + idx xs f) / 2 ^ xs.length % 2 = 1) else asg xs ((if f x then 2 ^ xs.length else 0) + idx xs f) s) = f s
    by_cases e : s = x
    · rw [if_pos e, e]
      cases hf : f x with
      | true =>
        simp only [if_true]
        rw [Nat.add_div_left _ p, Nat.div_eq_of_lt ih]
        rfl
      | false =>
        simp only [Bool.false_eq_true, if_false, Nat.zero_add]
        rw [Nat.div_eq_of_lt ih]
        rfl
    · rw [if_neg e]
      have hs : s ∈ xs := (List.mem_cons.mp h).resolve_left e
      have ihs := asg_idx (f := f) nd' s hs
      split
      · have z := asg_add 1 xs xs.length (idx xs f) s (Nat.le_refl _)
        rw [Nat.mul_one] at z
        rw [z]
        exact ihs
      · rw [Nat.zero_add]
        exact ihs
/-- the truth row of a condition -/
structure Rep (ns : List Str) (c : C) (row : List Bool) : Prop where
  oc : OC ns c
  len : row.length = 2 ^ ns.length
  at_ : ∀ k, k < 2 ^ ns.length → row[k]? = some (c.ev (asg ns k))
theorem ev_idx {ns : List Str} {c : C} (h : OC ns c) (nd : ns.Nodup) (f : Str → Bool) : c.ev f = c.ev (asg ns (idx ns f)) :=
  C.ev_congr c fun s hs => (asg_idx nd s (h.vars s hs)).symm
theorem Rep.all {ns : List Str} {c : C} {row : List Bool} (h : Rep ns c row) (nd : ns.Nodup) {d : C} (hd : OC ns d) (e : ∀ k, k < 2 ^ ns.length → c.ev (asg ns k) = d.ev (asg ns k)) : c = d :=
  OC.uniq nd h.oc hd fun f => by rw [ev_idx h.oc nd, ev_idx hd nd]; exact e _ (idx_lt ns f)
theorem Rep.uniq {ns : List Str} {c d : C} {row : List Bool} (nd : ns.Nodup) (h : Rep ns c row) (k : Rep ns d row) : c = d :=
  h.all nd k.oc fun i hi => Option.some.inj ((h.at_ i hi).symm.trans (k.at_ i hi))
/-- a switch and the rows of both sides -/
theorem Rep.form {x : Str} {xs : List Str} {a b : C} {r1 r2 : List Bool} (ha : Rep xs a r1) (hb : Rep xs b r2) (nx : x ∉ xs) : Rep (x :: xs) (C.formed x b a) (r1 ++ r2) := by
  have p := Nat.two_pow_pos xs.length
  refine ⟨OC.formed hb.oc ha.oc, by rw [List.length_append, ha.len, hb.len, List.length_cons, Nat.pow_succ]; omega, fun k hk => ?_⟩
  rw [List.length_cons, Nat.pow_succ] at hk
  rw [C.ev_formed]
  have ax : ∀ k s, asg (x :: xs) k s = if s = x then decide (k / 2 ^ xs.length % 2 = 1) else asg xs k s := fun k s => rfl
  have cut : ∀ (c : C), OC xs c → ∀ k, c.ev (asg (x :: xs) k) = c.ev (asg xs k) := fun c hc k => C.ev_congr c fun s hs => by
    rw [ax, if_neg fun e => nx (by rw [← e]; exact hc.vars s hs)]
  rw [cut _ ha.oc, cut _ hb.oc, ax, if_pos rfl]
  by_cases h : k < 2 ^ xs.length
  · rw [List.getElem?_append_left (by rw [ha.len]; exact h), ha.at_ k h, Nat.div_eq_of_lt h]
    rfl
  · have hk2 : k - 2 ^ xs.length < 2 ^ xs.length := by omega
    rw [List.getElem?_append_right (by rw [ha.len]; omega), ha.len, hb.at_ _ hk2]
    have e1 : k = 2 ^ xs.length * 1 + (k - 2 ^ xs.length) := by omega
    have e2 : k / 2 ^ xs.length = 1 := by
      rw [e1, Nat.add_comm, Nat.add_mul_div_left _ _ p, Nat.div_eq_of_lt hk2]
    rw [e2]
    simp only [Nat.mod_eq_of_lt (show 1 < 2 by decide), decide_true, if_true]
    congr 1
    refine C.ev_congr b fun s hs => ?_
    conv => rhs; rw [e1]
    rw [asg_add 1 xs xs.length _ s (Nat.le_refl _)]
/-! ### a setting with one switch turned -/
end EA
namespace EA
open PySem PySem.Spec PyProof.Rows L2
/-! ### all settings -/
abbrev strsD (l : List Str) : PyData := .list (l.map PyData.str)
end EA
namespace EA
open PySem PySem.Spec PyProof.Rows L2
theorem perm_map_inv {α β : Type} {f : α → β} : ∀ {l k : List β}, l.Perm k → ∀ {m : List α}, k = m.map f → ∃ m' : List α, l = m'.map f ∧ m'.Perm m := by
  intro l k h
  induction h with
  | nil =>
    intro m e
    have z : m = [] := List.map_eq_nil_iff.mp e.symm
    subst z
    exact ⟨[], rfl, List.Perm.refl _⟩
  | cons x _ ih =>
    intro m e
    cases m with
    | nil => cases e
    | cons y r =>
      rw [List.map_cons, List.cons.injEq] at e
      obtain ⟨m', e1, p⟩ := ih e.2
      exact ⟨y :: m', by rw [List.map_cons, ← e1, e.1], p.cons y⟩
  | swap x y l =>
    intro m e
    match m, e with
    | a :: b :: r, e =>
      rw [List.map_cons, List.map_cons, List.cons.injEq, List.cons.injEq] at e
      exact ⟨b :: a :: r, by rw [List.map_cons, List.map_cons, e.1, e.2.1, e.2.2], List.Perm.swap a b r⟩
  | trans _ _ ih1 ih2 =>
    intro m e
    obtain ⟨m1, e1, p1⟩ := ih2 e
    obtain ⟨m2, e2, p2⟩ := ih1 e1
    exact ⟨m2, e2, p2.trans p1⟩
/-! ### drawn names -/
abbrev cl (s : Str) : List Nat := s.cps.toList
def Tag (k : Nat) (s : Str) : Prop := cl s = [109, 49 + k] ∨ cl s = [101, 49 + k] ∨ ∃ (c : Nat) (mid : List Nat), cl s = c :: (mid ++ [48 + k]) ∧ 65 ≤ c ∧ c ≤ 90 ∧ (∀ x ∈ mid, 97 ≤ x ∧ x ≤ 122) ∧ mid.length ≤ 7
theorem Tag.inj {i j : Nat} {s : Str} (h : Tag i s) (k : Tag j s) : i = j := by
  have last : ∀ {c : Nat} {mid mid' : List Nat} {c' x y : Nat}, c :: (mid ++ [x]) = c' :: (mid' ++ [y]) → x = y := fun {c mid mid' c' x y} e => by
    have e2 : mid ++ [x] = mid' ++ [y] := (List.cons.inj e).2
    have := congrArg List.getLast? e2
    simpa using this
  rcases h with h | h | ⟨c, mid, h, c1, c2, _, _⟩ <;> rcases k with k | k | ⟨c', mid', k, d1, d2, _, _⟩ <;> rw [h] at k
  · simp at k; omega
  · simp at k
  · have := (List.cons.inj k).1; omega
  · simp at k
  · simp at k; omega
  · have := (List.cons.inj k).1; omega
  · have := (List.cons.inj k).1; omega
  · have := (List.cons.inj k).1; omega
  · have := last k; omega
theorem Tag.ok {k : Nat} {s : Str} (h : Tag k s) (hk : k ≤ 8) : PyData.strOk s = true ∧ s.length ≤ 100 := by
  have len : s.length = (cl s).length := by
    show s.cps.size = s.cps.toList.length
    rw [Array.length_toList]
  have al : PyData.strOk s = (cl s).all fun x => decide (x < 0x110000) := by
    show s.cps.all (· < 0x110000) = _
    rw [Array.all_toList]
  rw [al, len, List.all_eq_true]
  rcases h with h | h | ⟨c, mid, h, c1, c2, m1, m2⟩ <;> rw [h]
  · refine ⟨fun x hx => ?_, by simp⟩
    have : x = 109 ∨ x = 49 + k := by simpa using hx
    exact decide_eq_true (by omega)
  · refine ⟨fun x hx => ?_, by simp⟩
    have : x = 101 ∨ x = 49 + k := by simpa using hx
    exact decide_eq_true (by omega)
  · refine ⟨fun x hx => ?_, by simp; omega⟩
    rcases List.mem_cons.mp hx with e | hx
    · exact decide_eq_true (by omega)
    · rcases List.mem_append.mp hx with hx | hx
      · have := m1 x hx
        exact decide_eq_true (by omega)
      · have : x = 48 + k := by simpa using hx
        exact decide_eq_true (by omega)
theorem cl_Q9 : cl (Str.ofString "Q9") = [81, 57] := by decide +kernel
theorem Tag.q9 {k : Nat} (hk : k ≤ 7) : ¬ Tag k (Str.ofString "Q9") := by
  intro h
  rcases h with h | h | ⟨c, mid, h, c1, c2, _, _⟩ <;> rw [cl_Q9] at h
  · simp at h
  · simp at h
  · have e : [57] = mid ++ [48 + k] := (List.cons.inj h).2
    have := congrArg List.getLast? e
    have z : 57 = 48 + k := by simpa using this
    omega
theorem cl_append (a b : Str) : cl (a ++ b) = cl a ++ cl b := by
  show (a.cps ++ b.cps).toList = _
  rw [Array.toList_append]
theorem digit : ∀ k : Nat, k < 10 → cl (Str.ofString (toString (k : Int))) = [48 + k] := by
  intro k h
  match k, h with
  | 0, _ => decide +kernel
  | 1, _ => decide +kernel
  | 2, _ => decide +kernel
  | 3, _ => decide +kernel
  | 4, _ => decide +kernel
  | 5, _ => decide +kernel
  | 6, _ => decide +kernel
  | 7, _ => decide +kernel
  | 8, _ => decide +kernel
  | 9, _ => decide +kernel
theorem low_at : ∀ r : Nat, r < 26 → (cl (Str.ofString "abcdefghijklmnopqrstuvwxyz"))[r]? = some (97 + r) := by decide +kernel
theorem up_at : ∀ r : Nat, r < 26 → (cl (Str.ofString "ABCDEFGHIJKLMNOPQRSTUVWXYZ"))[r]? = some (65 + r) := by decide +kernel
theorem joinL_nil : ∀ ps : List (List Nat), TL.joinL [] ps = ps.flatten
  | [] => rfl
  | [p] => by simp [TL.joinL]
  | p :: q :: r => by
    show p ++ ([] ++ TL.joinL [] (q :: r)) = _
    rw [joinL_nil (q :: r)]
    rfl
theorem cl_join {e : Str} (h : cl e = []) (ps : List Str) : cl (Txt.join e ps) = (ps.map cl).flatten := by
  rw [TL.join_eq]
  have z := TL.tl_join e ps
  rw [show TL.tl e = [] from h, joinL_nil] at z
  exact z
theorem flat_one : ∀ (ps : List Str) (ms : List Nat), ps.map cl = ms.map (fun x => [x]) → (ps.map cl).flatten = ms := by
  intro ps ms h
  rw [h]
  induction ms generalizing ps with
  | nil => rfl
  | cons x r ih =>
    cases ps with
    | nil => cases h
    | cons p q =>
      rw [List.map_cons, List.map_cons, List.cons.injEq] at h
      rw [List.map_cons, List.flatten_cons, ih q h.2]
      rfl
theorem sum_one : ∀ ms : List Nat, ((ms.map fun x => (⟨#[x]⟩ : Str)).map (·.length)).sum = ms.length
  | [] => rfl
  | x :: r => by
    rw [List.map_cons, List.map_cons, List.sum_cons, sum_one r, List.length_cons]
    have : (⟨#[x]⟩ : Str).length = 1 := rfl
    omega
theorem tag_nodup : ∀ {ss : List Str} (o : Nat), (∀ j s, ss[j]? = some s → Tag (j + o) s) → ss.Nodup
  | [], _, _ => .nil
  | x :: r, o, h => by
    refine List.nodup_cons.mpr ⟨fun m => ?_, tag_nodup (o + 1) fun j s e => ?_⟩
    · obtain ⟨j, hj⟩ := List.getElem?_of_mem m
      have a := h 0 x rfl
      have b := h (j + 1) x (by simpa using hj)
      have := a.inj b
      omega
    · have b := h (j + 1) s (by simpa using e)
      rw [show j + (o + 1) = j + 1 + o by omega]
      exact b
end EA
namespace EA
open PySem PySem.Spec PyProof.Rows L2
section
variable {K : PySem.W.Frag} {X : Cx} {a b : Expr} {fa fb : FE} {pos p2 : Pos} {es : List Expr}
theorem e_sl {lo hi : Option Expr} {l h : FO} (hK : X.K = K) (ha : PE3 K X a fa) (hl : PO3 K X lo l) (hh : PO3 K X hi h) : PE3 K X (.Subscript a (.Slice lo hi none p2) pos) (eSl fa l h) := ⟨pe_imp (pe_slice (sl_3 hK) ha.p hl.p hh.p) fun σ H Q h => by
  obtain ⟨A, S, sl, w, S', rfl, R, s, e, q⟩ := h
  obtain ⟨⟨w1, S1⟩, e1, e⟩ := Option.bind_eq_some_iff.mp e
  obtain ⟨⟨w2, S2⟩, e2, e⟩ := Option.bind_eq_some_iff.mp e
  obtain ⟨⟨w3, S3⟩, e3, e⟩ := Option.bind_eq_some_iff.mp e
  dsimp only at e
  refine ⟨A, S, sl, w1, S1, rfl, R, s, e1, fun B v n R1 r1 => ⟨B, S1, sl, w2, S2, rfl, R1, s.mono n, e2, fun C n2 R2 => ⟨C, S2, sl, w3, S3, rfl, R2, (s.mono n).mono n2, e3, fun D n3 R3 => ?_⟩⟩⟩
  have n' := (n.trans n2).trans n3
  have r3 := (r1.mono n2).mono n3
  split at e
  · rename_i xs hx
    cases e
    obtain ⟨a, vs, rfl, h1, _, hd⟩ := view_list R3 r3 hx
    exact .inl ⟨a, vs, rfl, h1, lst_of R3 (cut_daa hd _ _) fun B v m R r => q B v (n'.trans m) R r⟩
  · rename_i xs hx
    cases e
    obtain ⟨a, vs, rfl, h1, hd⟩ := view_tup R3 r3 hx
    refine .inr (.inl ⟨a, vs, rfl, h1, fun hw => ?_, fun _ => tup_of R3 (cut_daa hd _ _) fun B v m R r => q B v (n'.trans m) R r⟩)
    have ec : cutD xs w2 w3 = xs := by
      unfold cutD
      rw [← hd.len, hw.1, hw.2, List.drop_zero, Nat.sub_zero, hd.len, List.take_length]
    rw [ec] at q
    cases w1 with
    | d y => cases hx; exact q D _ n' R3 r3
    | r i =>
      unfold view at hx
      dsimp only at hx
      cases o : S'[i]? with
      | none => rw [o] at hx; cases hx
      | some m => rw [o] at hx; cases m <;> cases hx
    | sc _ => cases hx
    | ty _ => cases hx
  · rename_i z hz
    by_cases h : z.length ≤ 100000
    · rw [if_pos h] at e
      cases e
      have dz := view_dp R3 r3 hz
      cases dz
      exact .inr (.inr ⟨z, rfl, lineD h, q D _ n' R3 (Da.str _)⟩)
    · rw [if_neg h] at e; cases e
  · cases e⟩
/-! ### calls of known things -/
abbrev GC := List MO → List W3 → Option PyData
def CkOk (K : PySem.W.Frag) (r : List V → Hp → VK → Prop) (g : GC) : Prop := ∀ (A : Wd) (S : List MO) (ws : List W3) (vs : List V) (d : PyData) (Q : VK), Rl K A S → RWs K A vs ws → g S ws = some d → (∀ B v, Nx A B → Rl K B S → Da K B.G v d → Q v B.H) → r vs A.H Q
def NkOk (K : PySem.W.Frag) (r : List V → Hp → VK → Prop) (g : List MO → List W3 → Option (List PyData)) : Prop := ∀ (A : Wd) (S : List MO) (ws : List W3) (vs : List V) (d : List PyData) (Q : VK), Rl K A S → RWs K A vs ws → g S ws = some d →
  (∀ B vs p, Nx A B → Rl K B S → A.H p = none → p ∉ B.ι → B.G p = none → B.H p = some (.lst vs) → DaA K B.G vs d → Q (.ref p) B.H) → r vs A.H Q
def eB (g : GC) (a : FA) : FE := fun sl S => (a sl S).bind fun p => (g p.2 p.1).map fun d => (.d d, p.2)
def nB (g : List MO → List W3 → Option (List PyData)) (a : FA) : FN := fun sl S => (a sl S).bind fun p => (g p.2 p.1).map fun d => (d, p.2)
theorem eb_imp {r : List V → Hp → VK → Prop} {g : GC} (ok : CkOk K r g) {f : FA} {σ : L2.St} {H : Hp} {Q : VK} (h : teO K (eB g f) σ H Q) : taO K f σ H fun vs H1 => r vs H1 Q := by
  obtain ⟨A, S, sl, w, S', rfl, R, s, e, q⟩ := h
  obtain ⟨⟨w1, S1⟩, e1, e⟩ := Option.bind_eq_some_iff.mp e
  obtain ⟨d, e2, e⟩ := Option.map_eq_some_iff.mp e
  cases e
  exact ⟨A, S, sl, w1, _, rfl, R, s, e1, fun B vs n R1 r1 => ok B _ w1 vs d Q R1 r1 e2 fun C v m R r => q C v (n.trans m) R r⟩
theorem nb_imp {r : List V → Hp → VK → Prop} {g : List MO → List W3 → Option (List PyData)} (ok : NkOk K r g) {f : FA} {σ : L2.St} {H : Hp} {Q : VK} (h : tnO K (nB g f) σ H Q) : taO K f σ H fun vs H1 => r vs H1 Q := by
  obtain ⟨A, S, sl, w, S', rfl, R, s, e, q⟩ := h
  obtain ⟨⟨w1, S1⟩, e1, e⟩ := Option.bind_eq_some_iff.mp e
  obtain ⟨d, e2, e⟩ := Option.map_eq_some_iff.mp e
  cases e
  exact ⟨A, S, sl, w1, _, rfl, R, s, e1, fun B vs n R1 r1 => ok B _ w1 vs _ Q R1 r1 e2 fun C us p m R np ni g hh hd => q C us p (n.trans m) R (fresh_back n np) ni g hh hd⟩
variable {r : List V → Hp → VK → Prop} {x : Str} {e : Expr} {f : FA} {bid : String} {T : String} {pp : Pos}
theorem e_cB {g : GC} (hc : CallR X (.builtin bid) r) (ok : CkOk K r g) (hg : Gl X x) (hm : X.mg x = none) (hv : bootBuiltins x = some (.builtin bid)) (ha : PA3 K X (e :: es) f) (hn : x ≠ "__name__" := by decide) (hdb : (x == ("__debug__" : Str)) = false := by decide)
    (he : starEach (e :: es) X.env = (false, eval e X.env) :: starEach es X.env := by rfl) (hpl : (backTo pos (starEach es X.env)).any (·.1) = false := by rfl) : PE3 K X (.Call (.Name x pp) (e :: es) [] pos) (eB g f) := ⟨pe_imp (pe_callB hc hg hm hv ha.p hn hdb he hpl) fun _ _ _ h => eb_imp ok h⟩
theorem e_cT {g : GC} (hc : CallR X (.type T) r) (ok : CkOk K r g) (hg : Gl X x) (hm : X.mg x = none) (hv : bootBuiltins x = some (.type T)) (ha : PA3 K X (e :: es) f) (hn : x ≠ "__name__" := by decide) (hdb : (x == ("__debug__" : Str)) = false := by decide)
    (he : starEach (e :: es) X.env = (false, eval e X.env) :: starEach es X.env := by rfl) (hpl : (backTo pos (starEach es X.env)).any (·.1) = false := by rfl) : PE3 K X (.Call (.Name x pp) (e :: es) [] pos) (eB g f) := ⟨pe_imp (pe_callTy hc hg hm hv ha.p hn hdb he hpl) fun _ _ _ h => eb_imp ok h⟩
theorem n_cB {g : List MO → List W3 → Option (List PyData)} (hc : CallR X (.builtin bid) r) (ok : NkOk K r g) (hg : Gl X x) (hm : X.mg x = none) (hv : bootBuiltins x = some (.builtin bid)) (ha : PA3 K X (e :: es) f) (hn : x ≠ "__name__" := by decide) (hdb : (x == ("__debug__" : Str)) = false := by decide)
    (he : starEach (e :: es) X.env = (false, eval e X.env) :: starEach es X.env := by rfl) (hpl : (backTo pos (starEach es X.env)).any (·.1) = false := by rfl) : PN3 K X (.Call (.Name x pp) (e :: es) [] pos) (nB g f) := ⟨pe_imp (pe_callB hc hg hm hv ha.p hn hdb he hpl) fun _ _ _ h => nb_imp ok h⟩
theorem n_cT {g : List MO → List W3 → Option (List PyData)} (hc : CallR X (.type T) r) (ok : NkOk K r g) (hg : Gl X x) (hm : X.mg x = none) (hv : bootBuiltins x = some (.type T)) (ha : PA3 K X (e :: es) f) (hn : x ≠ "__name__" := by decide) (hdb : (x == ("__debug__" : Str)) = false := by decide)
    (he : starEach (e :: es) X.env = (false, eval e X.env) :: starEach es X.env := by rfl) (hpl : (backTo pos (starEach es X.env)).any (·.1) = false := by rfl) : PN3 K X (.Call (.Name x pp) (e :: es) [] pos) (nB g f) := ⟨pe_imp (pe_callTy hc hg hm hv ha.p hn hdb he hpl) fun _ _ _ h => nb_imp ok h⟩
def g1 (g : PyData → Option PyData) : GC := fun S ws => match ws with
  | [w] => (view S w).bind g
  | _ => none
theorem ck1 {r : List V → Hp → VK → Prop} {g : PyData → Option PyData} (h : ∀ (A : Wd) (S : List MO) (v : V) (x d : PyData) (Q : VK), Rl K A S → Dp K A.H v x → g x = some d → (∀ B v, Nx A B → Rl K B S → Da K B.G v d → Q v B.H) → r [v] A.H Q) : CkOk K r (g1 g) := by
  intro A S ws vs d Q R rs e q
  unfold g1 at e
  split at e
  · obtain ⟨x, e1, e2⟩ := Option.bind_eq_some_iff.mp e
    cases rs with
    | cons rv rr =>
      cases rr
      exact h A S _ x d Q R (view_dp R rv e1) e2 q
  · cases e
/-- len, also of a dict -/
def gLen : GC := fun S ws => match ws with
  | [w] => match view S w with
    | some (.list xs) => some (.int (xs.length : Nat))
    | some (.tuple xs) => some (.int (xs.length : Nat))
    | some (.str x) => if x.length ≤ 100000 then some (.int (x.length : Nat)) else none
    | _ => none
  | _ => none
theorem ck_len : CkOk K (rLen K) gLen := by
  intro A S ws vs d Q R rs e q
  unfold gLen at e
  split at e
  · rename_i w
    cases rs with
    | cons rv rr =>
      cases rr
      split at e
      · rename_i xs hx
        cases e
        obtain ⟨a, us, rfl, h1, _, hd⟩ := view_list R rv hx
        exact ⟨_, us.length, rfl, .inl ⟨us, h1, rfl⟩, by rw [hd.len]; exact q A _ (Nx.refl A) R (Da.int _)⟩
      · rename_i xs hx
        cases e
        obtain ⟨a, us, rfl, h1, hd⟩ := view_tup R rv hx
        exact ⟨_, us.length, rfl, .inr ⟨us, h1, rfl⟩, by rw [hd.len]; exact q A _ (Nx.refl A) R (Da.int _)⟩
      · rename_i y hy
        by_cases h : y.length ≤ 100000
        · rw [if_pos h] at e
          cases e
          have dz := view_dp R rv hy
          cases dz
          exact ⟨_, y.length, rfl, ⟨lineD h, rfl⟩, q A _ (Nx.refl A) R (Da.int _)⟩
        · rw [if_neg h] at e; cases e
      · cases e
  · cases e
def intD : PyData → Option PyData
  | .int i => some (.int i)
  | .bool b => some (.int (if b then 1 else 0))
  | _ => none
def rInt1 : List V → Hp → VK → Prop := fun xs H Q => (∃ i, xs = [.int i] ∧ Q (.int i) H) ∨ ∃ k, xs = [.bl k] ∧ Q (.int (if k then 1 else 0)) H
theorem ck_int : CkOk K rInt1 (g1 intD) := ck1 fun A S v x d Q R h e q => by
  cases h with
  | int i => cases e; exact .inl ⟨i, rfl, q A _ (Nx.refl A) R (Da.int _)⟩
  | bl b => cases e; exact .inr ⟨b, rfl, q A _ (Nx.refl A) R (Da.int _)⟩
  | _ => cases e
def absD : PyData → Option PyData
  | .int i => some (.int (if i < 0 then -i else i))
  | _ => none
def rAbs : List V → Hp → VK → Prop := fun xs H Q => ∃ i, xs = [.int i] ∧ Q (.int (if i < 0 then -i else i)) H
theorem ck_abs : CkOk K rAbs (g1 absD) := ck1 fun A S v x d Q R h e q => by
  cases h with
  | int i => cases e; exact ⟨i, rfl, q A _ (Nx.refl A) R (Da.int _)⟩
  | _ => cases e
def strD : PyData → Option PyData
  | .int i => if i.natAbs.log2 < 1920 then some (.str (toString i)) else none
  | _ => none
def rStrI : List V → Hp → VK → Prop := fun xs H Q => ∃ i, xs = [.int i] ∧ i.natAbs.log2 < 1920 ∧ Q (.str (toString i)) H
theorem ck_str : CkOk K rStrI (g1 strD) := ck1 fun A S v x d Q R h e q => by
  cases h with
  | int i =>
    unfold strD at e
    dsimp only at e
    by_cases z : i.natAbs.log2 < 1920
    · rw [if_pos z] at e; cases e; exact ⟨i, rfl, z, q A _ (Nx.refl A) R (Da.str _)⟩
    · rw [if_neg z] at e; cases e
  | _ => cases e
/-- isinstance(x, T), T a builtin type -/
def gIsi : GC := fun S ws => match ws with
  | [w, .ty c] => (view S w).bind fun x => (kitB (tyN x) c).map .bool
  | _ => none
theorem tyX_dp {H : Hp} {v : V} {d : PyData} (h : Dp K H v d) : TyX K H v (.type (tyN d)) := by
  cases h with
  | non => exact .base .non
  | bl b => exact .base (.bl b)
  | int i => exact .base (.int i)
  | str x => exact .base (.str x)
  | lst h _ =>
    rcases h with (h | ⟨o, h⟩) | ⟨o, its, n, h, c, _⟩
    · exact .base (.lst h)
    · exact .base (.frz h)
    · exact .kList h c
  | tup h _ =>
    rcases h with (h | ⟨o, h⟩) | ⟨o, its, n, h, c, _⟩
    · exact .base (.tup h)
    · exact .fTuple h
    · exact .kTuple h c
theorem ck_isi : CkOk K (rIsi K) gIsi := by
  intro A S ws vs d Q R rs e q
  unfold gIsi at e
  split at e
  · rename_i w c
    cases rs with
    | cons rv rr =>
      cases rr with
      | cons rc rr =>
        cases rr
        obtain ⟨x, e1, e2⟩ := Option.bind_eq_some_iff.mp e
        obtain ⟨b, e3, e4⟩ := Option.map_eq_some_iff.mp e2
        subst e4
        obtain rfl := (rc : _ = V.ty c)
        exact ⟨_, .ty c, .type (tyN x), .type c, b, rfl, .ty c, tyX_dp (view_dp R rv e1), kit_ty e3, q A _ (Nx.refl A) R (Da.bl _)⟩
  · cases e
/-- tuple(xs), list(xs) -/
def gTupOf : GC := fun S ws => match ws with
  | [w] => match view S w with
    | some (.list xs) => some (.tuple xs)
    | some (.tuple xs) => some (.tuple xs)
    | _ => none
  | _ => none
theorem ck_tupOf : CkOk K (rTupP K) gTupOf := by
  intro A S ws vs d Q R rs e q
  unfold gTupOf at e
  split at e
  · rename_i w
    cases rs with
    | cons rv rr =>
      cases rr
      split at e
      · rename_i xs hx
        cases e
        obtain ⟨a, us, rfl, h1, _, hd⟩ := view_list R rv hx
        exact ⟨a, us, rfl, .inl ⟨h1, tup_of R hd q⟩⟩
      · rename_i xs hx
        cases e
        obtain ⟨a, us, rfl, h1, hd⟩ := view_tup R rv hx
        refine ⟨a, us, rfl, .inr ⟨h1, ?_⟩⟩
        cases w with
        | d y => cases hx; exact q A _ (Nx.refl A) R rv
        | r i =>
          unfold view at hx
          dsimp only at hx
          cases o : S[i]? with
          | none => rw [o] at hx; cases hx
          | some m => rw [o] at hx; cases m <;> cases hx
        | sc _ => cases hx
        | ty _ => cases hx
      · cases e
  · cases e
def gSeq (S : List MO) (ws : List W3) : Option (List PyData) := match ws with
  | [w] => match view S w with
    | some (.list xs) => some xs
    | some (.tuple xs) => some xs
    | _ => none
  | _ => none
theorem nk_list : NkOk K (rListOf K) gSeq := by
  intro A S ws vs d Q R rs e q
  unfold gSeq at e
  split at e
  · rename_i w
    cases rs with
    | cons rv rr =>
      cases rr
      split at e
      · rename_i xs hx
        cases e
        obtain ⟨a, us, rfl, h1, _, hd⟩ := view_list R rv hx
        exact ⟨a, us, rfl, .inl h1, new_of R hd q⟩
      · rename_i xs hx
        cases e
        obtain ⟨a, us, rfl, h1, hd⟩ := view_tup R rv hx
        exact ⟨a, us, rfl, .inr h1, new_of R hd q⟩
      · cases e
  · cases e
/-- sorted(xs) of a list -/
def rSortD (K : PySem.W.Frag) : List V → Hp → VK → Prop := fun vs H Q => ∃ (G : Hp) (a : Addr) (xs : List V) (ds : List PyData), vs = [V.ref a] ∧ SqL K H a xs ∧ Same G H ∧ DaA K G xs ds ∧ W.AllAlike ds ∧ (2 ≤ ds.length → W.Sortable ds) ∧ (∀ d ∈ ds, d.depth ≤ 40) ∧
  ∀ ys p, DaA K G ys (ds.mergeSort (W.dataLe false id)) → H p = none → Q (.ref p) (upd H p (.lst ys))
theorem each_daa {G : Hp} : ∀ {xs : List V} {us : List Value} {ds : List PyData}, Vals xs us → DaA K G xs ds → W.EachIs (fun v d => ∃ x : V, RelV x v ∧ Da K G x d) us ds
  | _, _, _, .nil, .nil => .nil
  | _, _, _, .cons r rs, .cons d hd => .cons ⟨_, r, d⟩ (each_daa rs hd)
theorem daa_each {G : Hp} : ∀ {us : List Value} {ds : List PyData}, W.EachIs (fun v d => ∃ x : V, RelV x v ∧ Da K G x d) us ds → ∃ xs, Vals xs us ∧ DaA K G xs ds
  | _, _, .nil => ⟨[], .nil, .nil⟩
  | _, _, .cons ⟨x, r, d⟩ h => by
    obtain ⟨xs, a, b⟩ := daa_each h
    exact ⟨x :: xs, .cons r a, .cons d b⟩
theorem cr_sortD (hu : X.A.units + 64 < cLine) : CallR X (.builtin "sorted") (rSortD X.K) := by
  intro pins s σ H vs us Q I r h
  obtain ⟨G, a, xs, ds, rfl, ha, sm, hx, hal, hk, hdp, q⟩ := h
  obtain ⟨its, rv, hl, hz⟩ := I.list ha
  obtain ⟨u, rfl, ru⟩ := vals1 r
  obtain rfl : u = Value.ref a := ru
  have hz' : its.length ≤ sizeLine := by rw [← rv.length]; exact hz
  have e0 := each_daa rv hx
  have fin : ∀ out : List Value, out.length = its.length → W.EachIs (fun v d => ∃ x : V, RelV x v ∧ Da X.K G x d) out (ds.mergeSort (W.dataLe false id)) →
      EP X pins σ Q (.ref (s.heap.objs.size + 1)) { s with heap := sortedAll s.heap its out.toArray } := by
    intro out ho eo
    obtain ⟨ys, rys, dys⟩ := daa_each eo
    obtain ⟨n, hn⟩ := sortedAll_at s.heap its out.toArray
    refine ⟨.ref (s.heap.objs.size + 1), upd H (s.heap.objs.size + 1) (.lst ys), I.laid (t' := s.toks) (fun b o e => sortedAll_old e) (Nat.le_succ _) ⟨?_, out, n, rys, hn⟩, rfl, q _ _ dys (I.hok.fresh (Nat.le_succ _))⟩
    rw [rys.length, ho]
    exact hz'
  by_cases h2 : 2 ≤ ds.length
  · refine W.sorted_data (s := s) (vs := its) (bs := ds) (enc := id) hl.isList e0 (e0.mono fun v d ⟨x, rx, dx⟩ => Dp.reads I d x v (Da.dp (dx.up sm)) rx) (by rw [List.map_id]; exact hal) (by rw [List.map_id]; exact hk h2) (by rw [← e0.length]; exact hz') (fun d hd => ?_) fun out ho eo => fin out (ho.trans e0.length.symm) eo
    exact Nat.lt_of_le_of_lt (Nat.add_le_add (Nat.le_refl (X.A.units + 2)) (hdp d hd)) (Nat.lt_of_le_of_lt (Nat.le_trans (Nat.le_of_eq (Nat.add_assoc _ 2 40)) (Nat.add_le_add_left (by decide) _)) hu)
  · have hl2 : its.length < 2 := by rw [e0.length]; omega
    refine SrtO.sorted_ord (s := s) (vs := its) swo_no hl.isList hz' (fun h => absurd h (by omega)) fun out h1 hb => ?_
    have eo : out = its := perm_short hl2 hb.perm
    have es : ds.mergeSort (W.dataLe false id) = ds := sort_short _ h2
    refine fin out (by rw [eo]) ?_
    rw [es, eo]
    exact e0
open Classical in
noncomputable def sortD (ds : List PyData) : Option (List PyData) := if W.AllAlike ds ∧ (2 ≤ ds.length → W.Sortable ds) ∧ (∀ d ∈ ds, d.depth ≤ 40) then some (ds.mergeSort (W.dataLe false id)) else none
noncomputable def gSorted (S : List MO) (ws : List W3) : Option (List PyData) := match ws with
  | [w] => match view S w with
    | some (.list xs) => sortD xs
    | _ => none
  | _ => none
theorem nk_sorted : NkOk K (rSortD K) gSorted := by
  intro A S ws vs d Q R rs e q
  unfold gSorted at e
  split at e
  · rename_i w
    cases rs with
    | cons rv rr =>
      cases rr
      split at e
      · rename_i xs hx
        obtain ⟨a, us, rfl, h1, _, hd⟩ := view_list R rv hx
        unfold sortD at e
        by_cases z : W.AllAlike xs ∧ (2 ≤ xs.length → W.Sortable xs) ∧ (∀ d ∈ xs, d.depth ≤ 40)
        · rw [if_pos z] at e
          cases e
          exact ⟨A.G, a, us, xs, rfl, h1, R.gh, hd, z.1, z.2.1, z.2.2, fun ys p hy hp => new_of R hy q p hp⟩
        · rw [if_neg z] at e; cases e
      · cases e
  · cases e
end
end EA
namespace EA
open PySem PySem.Spec PyProof.Rows L2
/-! ### defs -/
def sp3 (K : PySem.W.Frag) (f : F3) : Sp := fun vs H Q _ => ∃ (A : Wd) (S : List MO) (ws : List W3) (w : W3) (S' : List MO), A.H = H ∧ Rl K A S ∧ RWs K A vs ws ∧ f ws S = some (w, S') ∧ ∀ B v, Nx A B → Rl K B S' → RW K B v w → Q v B.H
def eCall (f : F3) (a : FA) : FE := fun sl S => (a sl S).bind fun p => f p.1 p.2
/-- with written defaults behind the arguments -/
def eCallD (f : F3) (a : FA) (ds : List PyData) : FE := fun sl S => (a sl S).bind fun p => f (p.1 ++ ds.map .d) p.2
/-- what a body's end comes to: own: a list made here is handed on as a changeable object; S0: the store at the entry -/
noncomputable def ret3 (own : Bool) (S0 : List MO) : Out → Option (W3 × List MO)
  | .nx _ S => if cutRel S0 S then some (.d .none, S.take S0.length) else none
  | .rt (.d x) S => if cutRel S0 S then some (.d x, S.take S0.length) else none
  | .rt (.r i) S => if i < S0.length then (if cutRel S0 S then some (.r i, S.take S0.length) else none) else match S[i]? with
    | some (.lst xs) => if cutRel S0 S then (if own = true then some (.r S0.length, S.take S0.length ++ [.lst xs]) else some (.d (.list xs), S.take S0.length)) else none
    | some (.dic ks) => if cutRel S0 S then (if own = true then some (.r S0.length, S.take S0.length ++ [.dic ks]) else none) else none
    | some (.rcd _) => if own = true then some (.r i, S) else none
    | some (.nls _) => if own = true then some (.r i, S) else none
    | some (.ndc _) => if own = true then some (.r i, S) else none
    | some (.ins _ _) => if own = true then some (.r i, S) else none
    | _ => none
  | _ => none
noncomputable def fdef (own : Bool) (np nl : Nat) (body : FS) : F3 := fun ws S => if ws.length = np then (body (ws.map some ++ List.replicate nl none) S).bind (ret3 own S) else none
/-- the store is kept whole -/
def retK : Out → Option (W3 × List MO)
  | .nx _ S => some (.d .none, S)
  | .rt w S => some (w, S)
  | _ => none
section
variable {K : PySem.W.Frag} {X : Cx} {a b e : Expr} {fa fb : FE} {pos p2 : Pos} {es : List Expr}
theorem e_call {k : Nat} {f : Addr} {fd : FuncData} {ps : List Str} {x : Str} {p : Pos} {f3 : F3} {fa : FA} (hK : X.K = K) (F : FnOk X.prog X.w X.K X.mg X.base CX0 k f fd ps (sp3 K f3)) (hr : Room k X.A) (hg : Gl X x) (hm : X.mg x = some (.ref f)) (hk : PySem.W.keepIn X.K (.ref f) = true) (hb : Binds X.K fd ps [])
    (ha : PA3 K X (e :: es) fa) (hdb : (x == ("__debug__" : Str)) = false := by decide) (he : starEach (e :: es) X.env = (false, eval e X.env) :: starEach es X.env := by rfl) (hpl : (backTo pos (starEach es X.env)).any (·.1) = false := by rfl) :
    PE3 K X (.Call (.Name x p) (e :: es) [] pos) (eCall f3 fa) := ⟨pe_imp (pe_call (dvs := []) F hr hg hm hk hb .nil pass0 ha.p hdb he hpl) fun σ H Q h => by
  obtain ⟨A, S, sl, w, S', rfl, R, s, e, q⟩ := h
  obtain ⟨⟨w1, S1⟩, e1, e⟩ := Option.bind_eq_some_iff.mp e
  refine ⟨A, S, sl, w1, S1, rfl, R, s, e1, fun B vs n R1 r1 => ⟨B, S1, w1, w, S', rfl, R1, by rw [List.append_nil]; exact r1, e, fun C v n2 R2 r2 => q C v (n.trans n2) R2 r2⟩⟩⟩
theorem sr3_start {A : Wd} {vs : List V} {ws : List W3} (h : RWs K A vs ws) (n : Nat) : SR3 K A (vs.map some ++ List.replicate n none) (ws.map some ++ List.replicate n none) := by
  refine ⟨by rw [List.length_append, List.length_append, List.length_map, List.length_map, h.len, List.length_replicate, List.length_replicate], fun i w e => ?_⟩
  by_cases hi : i < ws.length
  · rw [List.getElem?_append_left (by rw [List.length_map]; exact hi), List.getElem?_map] at e
    rw [List.getElem?_append_left (by rw [List.length_map, h.len]; exact hi), List.getElem?_map]
    clear hi
    induction h generalizing i with
    | nil => simp at e
    | @cons v w' vs ws hv t ih =>
      cases i with
      | zero => simp at e; subst e; exact ⟨v, rfl, hv⟩
      | succ i => exact ih i (by simpa using e)
  · rw [List.getElem?_append_right (by rw [List.length_map]; omega), List.getElem?_replicate] at e
    split at e <;> cases e
theorem ret_nx {own : Bool} {A : Wd} {S : List MO} (R : Rl K A S) {o : Out} {w : W3} {S' : List MO} (e : ret3 own S o = some (w, S')) {Q : VK} (q : ∀ B v, Nx A B → Rl K B S' → RW K B v w → Q v B.H) :
    EndsOk K A { nx := fun _ H' => Q .non H', rt := Q } o := by
  have len := R.len
  have cut : ∀ {B : Wd} {S1 : List MO}, cutRel S S1 → Nx A B → Rl K B S1 → Nx A ⟨B.G, B.H, A.ι⟩ ∧ Rl K ⟨B.G, B.H, A.ι⟩ (S1.take S.length) := fun {B S1} c n R1 => by
    have z := Nx.cut n R1 fun i o hi e => R.cut_ok c hi e
    rw [len] at z
    exact z
  cases o with
  | nx sl S1 =>
    by_cases c : cutRel S S1
    · have e' : (if cutRel S S1 then some (W3.d .none, S1.take S.length) else none) = some (w, S') := e
      rw [if_pos c] at e'
      cases e'
      intro B σ' n R1 _
      obtain ⟨n2, R2⟩ := cut c n R1
      exact q ⟨B.G, B.H, A.ι⟩ _ n2 R2 Da.non
    · have e' : (if cutRel S S1 then some (W3.d .none, S1.take S.length) else none) = some (w, S') := e
      rw [if_neg c] at e'; cases e'
  | bk _ _ => cases e
  | ct _ _ => cases e
  | rt u S1 =>
    intro B v n R1 r
    cases u with
    | ty _ => cases e
    | sc _ => cases e
    | d x =>
      by_cases c : cutRel S S1
      · have e' : (if cutRel S S1 then some (W3.d x, S1.take S.length) else none) = some (w, S') := e
        rw [if_pos c] at e'
        cases e'
        obtain ⟨n2, R2⟩ := cut c n R1
        exact q ⟨B.G, B.H, A.ι⟩ _ n2 R2 r
      · have e' : (if cutRel S S1 then some (W3.d x, S1.take S.length) else none) = some (w, S') := e
        rw [if_neg c] at e'; cases e'
    | r i =>
      have e : (if i < S.length then (if cutRel S S1 then some (W3.r i, S1.take S.length) else none) else match S1[i]? with
        | some (.lst xs) => if cutRel S S1 then (if own = true then some (W3.r S.length, S1.take S.length ++ [.lst xs]) else some (.d (.list xs), S1.take S.length)) else none
        | some (.dic ks) => if cutRel S S1 then (if own = true then some (W3.r S.length, S1.take S.length ++ [.dic ks]) else none) else none
        | some (.rcd _) => if own = true then some (W3.r i, S1) else none
        | some (.nls _) => if own = true then some (W3.r i, S1) else none
        | some (.ndc _) => if own = true then some (W3.r i, S1) else none
        | some (.ins _ _) => if own = true then some (W3.r i, S1) else none
        | _ => none) = some (w, S') := e
      by_cases hi : i < S.length
      · rw [if_pos hi] at e
        by_cases c : cutRel S S1
        · rw [if_pos c] at e
          cases e
          obtain ⟨n2, R2⟩ := cut c n R1
          exact q ⟨B.G, B.H, A.ι⟩ _ n2 R2 (rw_cut n.pre (by rw [len]; exact hi) r)
        · rw [if_neg c] at e; cases e
      · rw [if_neg hi] at e
        have r0 := r
        obtain ⟨p, hp, rfl⟩ := r
        have np : p ∉ A.ι := fun z => by
          obtain ⟨j, hj, ej⟩ := List.getElem_of_mem z
          have : A.ι[j]? = some p := by rw [List.getElem?_eq_getElem hj, ej]
          have := nodup_at R1.nd hp (ix_pre n.pre this)
          rw [len] at hj; omega
        have fp : A.H p = none := (n.fr p (List.mem_of_getElem? hp)).elim (fun z => absurd z np) id
        cases o : S1[i]? with
        | none => rw [o] at e; cases e
        | some m =>
          rw [o] at e
          have ob := R1.ob i m p o hp
          have owned : ∀ m', m'.flat = true → OR K B p m' → cutRel S S1 → w = .r S.length → S' = S1.take S.length ++ [m'] → Q (.ref p) B.H := fun m' hf ob c ew es => by
            subst ew es
            obtain ⟨n2, R2⟩ := cut c n R1
            obtain ⟨n3, R3⟩ := Nx.own0 (B := ⟨B.G, B.H, A.ι⟩) (o := m') n2 R2 fp np (ob.flat hf)
            have l2 : A.ι.length = (S1.take S.length).length := R2.len
            have r3 : RW K ⟨B.G, B.H, A.ι ++ [p]⟩ (.ref p) (.r (S1.take S.length).length) := RW.last (B := ⟨B.G, B.H, A.ι⟩) l2
            rw [← l2, len] at r3
            exact q ⟨B.G, B.H, A.ι ++ [p]⟩ _ n3 R3 r3
          have whole : (if own = true then some (W3.r i, S1) else none) = some (w, S') → Q (.ref p) B.H := fun e => by
            by_cases ho : own = true
            · rw [if_pos ho] at e
              cases e
              exact q B _ n R1 r0
            · rw [if_neg ho] at e; cases e
          cases m with
          | gone => cases e
          | ldic ks => cases e
          | tab _ _ => cases e
          | ins _ _ => exact whole e
          | rcd ks => exact whole e
          | nls ks => exact whole e
          | ndc ks => exact whole e
          | dic ks =>
            dsimp only at e
            by_cases c : cutRel S S1
            · rw [if_pos c] at e
              by_cases ho : own = true
              · rw [if_pos ho] at e
                cases e
                exact owned _ rfl ob c rfl rfl
              · rw [if_neg ho] at e; cases e
            · rw [if_neg c] at e; cases e
          | lst xs =>
            dsimp only at e
            by_cases c : cutRel S S1
            · rw [if_pos c] at e
              by_cases ho : own = true
              · rw [if_pos ho] at e
                cases e
                exact owned _ rfl ob c rfl rfl
              · rw [if_neg ho] at e
                cases e
                obtain ⟨n2, R2⟩ := cut c n R1
                obtain ⟨g, vs, hh, hd⟩ := ob
                obtain ⟨n3, R3⟩ := Nx.fix (B := ⟨B.G, B.H, A.ι⟩) n2 R2 fp np g hh
                exact q ⟨upd B.G p (.lst vs), B.H, A.ι⟩ _ n3 R3 (Da.lst upd_same (hd.up (fun b u e => by
                  show upd B.G p _ b = _
                  rw [upd_ne (ne_of_none e g)]; exact e)))
            · rw [if_neg c] at e; cases e
/-- THE RULE for a def -/
theorem fn3 {P : Program} {w : World} {mg : Str → Option Value} {base : Heap} {x qual : Str} {st : Stmt} {f : Addr} {fd : FuncData} {N ps : List Str} {k np nl : Nat} {own : Bool} {body : FS} (F : Fun K x qual st f fd) (S : FnScope N ps (defScope st)) (hnp : ps.length = np) (hnl : N.length = np + nl)
    (hb : ∀ (cdv : Value) (A : Around) (outer : List Env) (s : Shared) (H : Hp) (E : XK), Room k (A.deeper (envOfC qual (defScope st) s.heap.objs.size f cdv)) → PSs3 K (cxOf CX0 P w K mg base N qual (defScope st) f cdv A outer s H E).nox (defBody st) body) : FnOk P w K mg base CX0 (k + 1) f fd ps (sp3 K (fdef own np nl body)) := by
  have arity : ∀ {ws : List W3} {S0 : List MO} {r}, fdef own np nl body ws S0 = some r → ws.length = np ∧ (body (ws.map some ++ List.replicate nl none) S0).bind (ret3 own S0) = some r := fun {ws S0 r} e => by
    unfold fdef at e
    by_cases z : ws.length = np
    · rw [if_pos z] at e; exact ⟨z, e⟩
    · rw [if_neg z] at e; cases e
  refine F.ok S (fun vs H Q E h => ?_) fun cdv A outer s H vs Q E hr h => ?_
  · obtain ⟨A, S0, ws, w, S', _, _, r, e, _⟩ := h
    rw [r.len, (arity e).1, hnp]
  · obtain ⟨B, S0, ws, w, S', rfl, R, r, e, q⟩ := h
    obtain ⟨hl, e⟩ := arity e
    obtain ⟨o, e1, e2⟩ := Option.bind_eq_some_iff.mp e
    refine ⟨_, (hb cdv A outer s B.H E hr).p, B, S0, _, o, rfl, R, ?_, e1, ret_nx R e2 q⟩
    have z := sr3_start r nl
    have ez : N.length - vs.length = nl := by rw [r.len, hl]; omega
    unfold L2.start
    rw [ez]; exact z
/-! ### comprehensions -/
theorem n_lc {elt tg iter : Expr} {ifs : List Expr} {scope : Scope} {own : List (Str × Nat)} {vs ws : List Nat} {it : FI} {g : FG} {t : FT} {f : FE} (hc : X.calm = true) (hN : X.N.Nodup) (hi : PI3 K X tg iter it) (ok : BlkOk X.N X.env.scope scope own) (hv : own.map (·.2) = vs) (hw : ∀ j ∈ ws, j ∈ vs)
    (hg : ∀ (s : Shared) (H : Hp) (C : Addr) (cl : List (Str × Addr)) (fp : List Addr), PG3 K (X.blk s H scope (compEnvC scope cl C X.env) fp) tg ws g) (ht : ∀ (s : Shared) (H : Hp) (C : Addr) (cl : List (Str × Addr)) (fp : List Addr), PTs3 K (X.blk s H scope (compEnvC scope cl C X.env) fp) ifs t)
    (he : ∀ (s : Shared) (H : Hp) (C : Addr) (cl : List (Str × Addr)) (fp : List Addr), PE3 K (X.blk s H scope (compEnvC scope cl C X.env) fp) elt f) (hs : ∀ x, foldedSetIterable iter X.env x = pure x := by intro _; rfl) :
    PN3 K X (.ListComp elt [⟨tg, iter, ifs, 0⟩] scope pos) (nLc vs it g t f) := ⟨pe_imp (pe_lc hc hN hi.p ok (fun s H C cl fp => (hg s H C cl fp).p) (fun s H C cl fp => (ht s H C cl fp).p) (fun s H C cl fp => (he s H C cl fp).p) hs) fun _ _ _ h => by rw [hv]; exact lc_go hw h⟩
theorem nd_imp {f : FN} {σ : L2.St} {H : Hp} {Q : VK} (h : teO K (eNd f) σ H Q) : tnO K f σ H Q := by
  obtain ⟨A, S, sl, w, S', rfl, R, s, e, q⟩ := h
  obtain ⟨⟨w1, S1⟩, e1, e2⟩ := Option.map_eq_some_iff.mp e
  cases e2
  refine ⟨A, S, sl, w1, _, rfl, R, s, e1, fun B vs p n R' np ni g hh hd => ?_⟩
  obtain ⟨n2, R2⟩ := Nx.fix n R' np ni g hh
  exact q ⟨upd B.G p (.lst vs), B.H, B.ι⟩ _ n2 R2 (Da.lst upd_same (hd.up (fun b u e => by
    show upd B.G p _ b = _
    rw [upd_ne (ne_of_none e g)]; exact e)))
theorem no_imp {f : FN} {σ : L2.St} {H : Hp} {Q : VK} (h : teO K (eNo f) σ H Q) : tnO K f σ H Q := by
  obtain ⟨A, S, sl, w, S', rfl, R, s, e, q⟩ := h
  obtain ⟨⟨w1, S1⟩, e1, e2⟩ := Option.map_eq_some_iff.mp e
  cases e2
  refine ⟨A, S, sl, w1, _, rfl, R, s, e1, fun B vs p n R' np ni g hh hd => ?_⟩
  obtain ⟨n2, R2⟩ := Nx.own0 (o := .lst w1) n R' np ni ⟨g, vs, hh, hd⟩
  exact q ⟨B.G, B.H, B.ι ++ [p]⟩ _ n2 R2 (RW.last R'.len)
theorem set_imp {i : Nat} {f : FE} {D : Ends} {σ : L2.St} {H : Hp} (h : tsO K (sSet i f) D σ H) : teO K f σ H fun x H1 => D.nx (σ.set i (some x)) H1 := by
  obtain ⟨A, S, sl, o, rfl, R, s, e, q⟩ := h
  obtain ⟨⟨w1, S1⟩, e1, e2⟩ := Option.map_eq_some_iff.mp e
  cases e2
  exact ⟨A, S, sl, w1, S1, rfl, R, s, e1, fun B v n R' r => q B _ n R' ((s.mono n).set i r)⟩
/-- name = [..] on one line, the name a local: as data (eNd), as its own (eNo) -/
theorem s_setLc {i : Nat} {y : Str} {py spos : Pos} {elt tg iter : Expr} {ifs : List Expr} {scope : Scope} {own : List (Str × Nat)} {vs ws : List Nat} {it : FI} {g : FG} {t : FT} {f : FE} (w : FN → FE) (hwrap : w = eNd ∨ w = eNo) (hc : X.calm = true) (hN : X.N.Nodup) (hy : X.N[i]? = some y) (hyl : X.env.scope.names.lookup y = some .local)
    (hsw : swapsWith (.ListComp elt [⟨tg, iter, ifs, 0⟩] scope pos) (some (.Name y py)) spos.line X.env = pure true) (hi : PI3 K X tg iter it) (ok : BlkOk X.N X.env.scope scope own) (hv : own.map (·.2) = vs) (hw : ∀ j ∈ ws, j ∈ vs)
    (hg : ∀ (s : Shared) (H : Hp) (C : Addr) (cl : List (Str × Addr)) (fp : List Addr), PG3 K (X.blk s H scope (compEnvC scope cl C X.env) fp) tg ws g) (ht : ∀ (s : Shared) (H : Hp) (C : Addr) (cl : List (Str × Addr)) (fp : List Addr), PTs3 K (X.blk s H scope (compEnvC scope cl C X.env) fp) ifs t)
    (he : ∀ (s : Shared) (H : Hp) (C : Addr) (cl : List (Str × Addr)) (fp : List Addr), PE3 K (X.blk s H scope (compEnvC scope cl C X.env) fp) elt f) (hs : ∀ x, foldedSetIterable iter X.env x = pure x := by intro _; rfl) :
    PS3 K X (.Assign [.Name y py] (.ListComp elt [⟨tg, iter, ifs, 0⟩] scope pos) spos) (sSet i (w (nLc vs it g t f))) := ⟨ps_imp (ps_setLc hc hN hy hyl hsw hi.p ok (fun s H C cl fp => (hg s H C cl fp).p) (fun s H C cl fp => (ht s H C cl fp).p) (fun s H C cl fp => (he s H C cl fp).p) hs) fun D σ H h => by
  have h' := set_imp h
  have h2 : tnO K (nLc vs it g t f) σ H fun x H1 => D.nx (σ.set i (some x)) H1 := by
    rcases hwrap with rfl | rfl
    · exact nd_imp h'
    · exact no_imp h'
  have h3 := lc_go hw h2
  rw [← hv] at h3
  exact h3⟩
/-! ### what is walked -/
open Classical in
/-- the store still has the list that is walked -/
noncomputable def seqOk (w : W3) (x : PyData) : List MO → Bool := match w with
  | .d _ => fun _ => true
  | .sc _ => fun _ => true
  | w => fun S => decide (view S w = some x)
noncomputable def iSq (f : FE) : FI := fun sl S => (f sl S).bind fun p => match view p.2 p.1 with
  | some (.list xs) => some (⟨xs.map .d, seqOk p.1 (.list xs)⟩, p.2)
  | some (.tuple xs) => some (⟨xs.map .d, seqOk p.1 (.tuple xs)⟩, p.2)
  | _ => none
theorem seqOk_view {S S1 : List MO} {w : W3} {x : PyData} (h : seqOk w x S = true) (e : view S1 w = some x) : view S w = some x := by
  cases w with
  | d y => exact e
  | sc y => exact e
  | r i => simpa [seqOk] using h
  | ty y => cases e
end
end EA
namespace EA
open PySem PySem.Spec PyProof.Rows L2
/-! ### what is walked: lists, tuples, ranges, backwards -/
theorem pi_or {X : Cx} {tg e : Expr} {t u : TI} (h1 : PI X tg e t) (h2 : PI X tg e u) : PI X tg e (fun σ H R => t σ H R ∨ u σ H R) := ⟨fun pins s σ H R I h => h.elim (h1.run pins s σ H R I) (h2.run pins s σ H R I)⟩
section
variable {K : PySem.W.Frag} {X : Cx} {a b e tg : Expr} {fa fb : FE} {pos p2 pp : Pos} {es : List Expr}
theorem ws_get {xs : List PyData} {i : Nat} {w : W3} (h : (xs.map W3.d)[i]? = some w) : ∃ x, xs[i]? = some x ∧ w = .d x := by
  rw [List.getElem?_map] at h
  obtain ⟨x, h1, h2⟩ := Option.map_eq_some_iff.mp h
  exact ⟨x, h1, h2.symm⟩
theorem i_sq (hK : X.K = K) (h : PE3 K X e fa) : PI3 K X tg e (iSq fa) := ⟨pi_imp (pi_or (pi_list h.p) (pi_tup h.p)) fun σ H R h => by
  subst hK
  obtain ⟨A, S, sl, j, S', rfl, R0, s, e, q⟩ := h
  obtain ⟨⟨w1, S1⟩, e1, e⟩ := Option.bind_eq_some_iff.mp e
  dsimp only at e
  split at e
  · rename_i xs hx
    cases e
    refine .inl ⟨A, S, sl, w1, S', rfl, R0, s, e1, fun B v n R1 r1 => ?_⟩
    obtain ⟨a, vs, rfl, h1, _, hd⟩ := view_list R1 r1 hx
    refine ⟨a, rfl, ⟨vs, h1⟩, q B _ n R1 fun C S2 n2 R2 ok i => ?_⟩
    obtain ⟨a2, vs2, ea, h2, _, hd2⟩ := view_list R2 (r1.monov n2) (seqOk_view ok hx)
    cases ea
    refine ⟨fun w hw => ?_, fun hi => ⟨vs2, h2, by rw [hd2.len]; simpa using hi⟩⟩
    obtain ⟨x, hx2, rfl⟩ := ws_get hw
    obtain ⟨u, hu, du⟩ := hd2.get hx2
    refine ⟨⟨vs2, u, h2, hu⟩, fun v H' y => ?_⟩
    obtain ⟨rfl, y2⟩ := y
    have := y2 vs2 h2
    rw [hu] at this
    cases this
    exact ⟨C, rfl, Nx.refl C, R2, du⟩
  · rename_i xs hx
    cases e
    refine .inr ⟨A, S, sl, w1, S', rfl, R0, s, e1, fun B v n R1 r1 => ?_⟩
    obtain ⟨a, vs, rfl, h1, hd⟩ := view_tup R1 r1 hx
    refine ⟨a, rfl, ⟨vs, h1⟩, q B _ n R1 fun C S2 n2 R2 ok i => ?_⟩
    obtain ⟨a2, vs2, ea, h2, hd2⟩ := view_tup R2 (r1.monov n2) (seqOk_view ok hx)
    cases ea
    refine ⟨fun w hw => ?_, fun hi => ⟨vs2, h2, by rw [hd2.len]; simpa using hi⟩⟩
    obtain ⟨x, hx2, rfl⟩ := ws_get hw
    obtain ⟨u, hu, du⟩ := hd2.get hx2
    refine ⟨⟨vs2, u, h2, hu⟩, fun v H' y => ?_⟩
    obtain ⟨rfl, y2⟩ := y
    have := y2 vs2 h2
    rw [hu] at this
    cases this
    exact ⟨C, rfl, Nx.refl C, R2, du⟩
  · cases e⟩
def yes : List MO → Bool := fun _ => true
/-- the numbers lo, lo + 1, .. -/
def intsW (lo : Int) (n : Nat) : List W3 := (List.range n).map fun i => .d (.int (lo + (i : Nat)))
theorem intsW_get {lo : Int} {n i : Nat} {w : W3} (h : (intsW lo n)[i]? = some w) : i < n ∧ w = .d (.int (lo + (i : Nat))) := by
  unfold intsW at h
  rw [List.getElem?_map] at h
  obtain ⟨k, h1, h2⟩ := Option.map_eq_some_iff.mp h
  obtain ⟨h3, h4⟩ := List.getElem?_eq_some_iff.mp h1
  rw [List.getElem_range] at h4
  rw [List.length_range] at h3
  subst h4
  exact ⟨h3, h2.symm⟩
theorem itr_r {B : Wd} {lo : Int} {n : Nat} : ItR K B (Itr lo n) ⟨intsW lo n, yes⟩ := fun C S n1 R1 _ i => by
  refine ⟨fun w hw => ?_, fun hi => ?_⟩
  · obtain ⟨hi, rfl⟩ := intsW_get hw
    refine ⟨hi, fun v H' y => ?_⟩
    obtain ⟨rfl, rfl⟩ := y
    exact ⟨C, rfl, Nx.refl C, R1, Da.int _⟩
  · have z : (intsW lo n).length = n := by unfold intsW; rw [List.length_map, List.length_range]
    show n ≤ i
    have hi : (intsW lo n).length ≤ i := hi
    omega
def iR1 (f : FA) : FI := fun sl S => (f sl S).bind fun p => match p.1 with
  | [.d (.int j)] => if -(2 ^ 62) ≤ j ∧ j < 2 ^ 62 then some (⟨intsW 0 j.toNat, yes⟩, p.2) else none
  | _ => none
def iR2 (f : FA) : FI := fun sl S => (f sl S).bind fun p => match p.1 with
  | [.d (.int i), .d (.int j)] => if -(2 ^ 62) ≤ i ∧ i < 2 ^ 62 ∧ -(2 ^ 62) ≤ j ∧ j < 2 ^ 62 then some (⟨intsW i (j - i).toNat, yes⟩, p.2) else none
  | _ => none
theorem i_r1 {f : FA} (hg : Gl X "range") (hm : X.mg "range" = none) (ha : PA3 K X [a] f) (hs : starEach [a] X.env = [(false, eval a X.env)] := by rfl) : PI3 K X tg (.Call (.Name "range" pp) [a] [] pos) (iR1 f) := ⟨pi_imp (pi_range1 hg hm ha.p hs) fun σ H R h => by
  obtain ⟨A, S, sl, j, S', rfl, R0, s, e, q⟩ := h
  obtain ⟨⟨w1, S1⟩, e1, e⟩ := Option.bind_eq_some_iff.mp e
  dsimp only at e
  split at e
  · rename_i k
    by_cases z : -(2 ^ 62) ≤ k ∧ k < 2 ^ 62
    · rw [if_pos z] at e
      cases e
      refine ⟨A, S, sl, _, S', rfl, R0, s, e1, fun B vs n R1 rs => ?_⟩
      cases rs with
      | cons r rr =>
        cases rr
        cases Da.int_inv r
        exact ⟨k, rfl, z.1, z.2, q B _ n R1 itr_r⟩
    · rw [if_neg z] at e; cases e
  · cases e⟩
/-- reversed(x) of a list or a tuple that is data -/
def iRv (f : FE) : FI := fun sl S => (f sl S).bind fun p => match p.1 with
  | .d (.list xs) => some (⟨xs.reverse.map .d, yes⟩, p.2)
  | .d (.tuple xs) => some (⟨xs.reverse.map .d, yes⟩, p.2)
  | _ => none
theorem rev_get {vs : List V} {xs : List PyData} {G : Hp} (hd : DaA K G vs xs) {i : Nat} {w : W3} (h : (xs.reverse.map W3.d)[i]? = some w) : i < vs.length ∧ ∃ u x, vs[vs.length - 1 - i]? = some u ∧ Da K G u x ∧ w = .d x := by
  obtain ⟨x, hx, rfl⟩ := ws_get h
  have hi : i < xs.length := by have := (List.getElem?_eq_some_iff.mp hx).1; rwa [List.length_reverse] at this
  rw [List.getElem?_reverse hi] at hx
  obtain ⟨u, hu, du⟩ := hd.get hx
  rw [hd.len]
  exact ⟨hi, u, x, hu, du, rfl⟩
theorem i_rv (hK : X.K = K) (hg : Gl X "reversed") (hm : X.mg "reversed" = none) (h : PE3 K X e fa) (hs : starEach [e] X.env = (false, eval e X.env) :: starEach [] X.env := by rfl) : PI3 K X tg (.Call (.Name "reversed" pp) [e] [] pos) (iRv fa) := ⟨pi_imp (RT.pi_revA hg hm h.p hs) fun σ H R h => by
  subst hK
  obtain ⟨A, S, sl, j, S', rfl, R0, s, e, q⟩ := h
  obtain ⟨⟨w1, S1⟩, e1, e⟩ := Option.bind_eq_some_iff.mp e
  dsimp only at e
  split at e
  · rename_i xs
    cases e
    refine ⟨A, S, sl, _, S', rfl, R0, s, e1, fun B v n R1 r1 => ?_⟩
    obtain ⟨a, vs, rfl, h1, hd⟩ := Da.list_inv r1
    refine ⟨a, vs, rfl, .inl ⟨SqL.of (R1.gh _ _ h1), q B _ n R1 fun C S2 n2 R2 ok i => ?_⟩⟩
    have hH : C.H a = some (.lst vs) := R2.gh _ _ (n2.gg _ _ h1)
    refine ⟨fun w hw => ?_, fun hi => ?_⟩
    · obtain ⟨hi, u, x, hu, du, rfl⟩ := rev_get hd hw
      refine ⟨⟨hi, vs, u, SqL.of hH, hu⟩, fun v H' y => ?_⟩
      obtain ⟨rfl, y2⟩ := y
      have := y2 vs (SqL.of hH)
      rw [hu] at this
      cases this
      exact ⟨C, rfl, Nx.refl C, R2, du.up n2.gg⟩
    · show vs.length ≤ i
      rw [hd.len]; simpa using hi
  · rename_i xs
    cases e
    refine ⟨A, S, sl, _, S', rfl, R0, s, e1, fun B v n R1 r1 => ?_⟩
    obtain ⟨a, vs, rfl, h1, hd⟩ := Da.tup_inv r1
    refine ⟨a, vs, rfl, .inr ⟨sqT_up R1.gh h1, q B _ n R1 fun C S2 n2 R2 ok i => ?_⟩⟩
    have hH : SqT X.K C.H a vs := sqT_up R2.gh (sqT_up n2.gg h1)
    refine ⟨fun w hw => ?_, fun hi => ?_⟩
    · obtain ⟨hi, u, x, hu, du, rfl⟩ := rev_get hd hw
      refine ⟨⟨hi, vs, u, hH, hu⟩, fun v H' y => ?_⟩
      obtain ⟨rfl, y2⟩ := y
      have := y2 vs hH
      rw [hu] at this
      cases this
      exact ⟨C, rfl, Nx.refl C, R2, du.up n2.gg⟩
    · show vs.length ≤ i
      rw [hd.len]; simpa using hi
  · cases e⟩
/-! ### methods of lists -/
def listAt (S : List MO) : W3 → Option (List PyData)
  | .r i => match S[i]? with
    | some (.lst xs) => some xs
    | _ => none
  | _ => none
theorem listAt_of {A : Wd} {S : List MO} {v : V} {w : W3} {xs : List PyData} (R : Rl K A S) (r : RW K A v w) (e : listAt S w = some xs) : ∃ i a vs, w = .r i ∧ A.ι[i]? = some a ∧ S[i]? = some (.lst xs) ∧ v = .ref a ∧ A.G a = none ∧ A.H a = some (.lst vs) ∧ DaA K A.G vs xs := by
  cases w with
  | r i =>
    obtain ⟨a, ha, rfl⟩ := r
    unfold listAt at e
    dsimp only at e
    cases o : S[i]? with
    | none => rw [o] at e; cases e
    | some m =>
      rw [o] at e
      cases m with
      | lst ys =>
        cases e
        obtain ⟨g, vs, h1, h2⟩ := R.ob i _ a o ha
        exact ⟨i, a, vs, rfl, ha, o, rfl, g, h1, h2⟩
      | _ => cases e
  | _ => cases e
def setAt (S : List MO) (w : W3) (o : MO) : List MO := match w with
  | .r i => S.set i o
  | _ => S
/-- a method that may change its list: what it gives, the list behind it -/
abbrev GM := List PyData → List W3 → Option (PyData × List PyData)
def MkOk (K : PySem.W.Frag) (r : V → List V → Hp → VK → Prop) (g : GM) : Prop := ∀ (A : Wd) (a : Addr) (vs : List V) (xs : List PyData) (S : List MO) (ws : List W3) (us : List V) (d : PyData) (ys : List PyData) (Q : VK), Rl K A S → A.H a = some (.lst vs) → DaA K A.G vs xs → RWs K A us ws → g xs ws = some (d, ys) →
  (∀ (v : V) (vs' : List V), Da K A.G v d → DaA K A.G vs' ys → Q v (upd A.H a (.lst vs'))) → r (.ref a) us A.H Q
def eM (g : GM) (o : FE) (a : FA) : FE := fun sl S => (o sl S).bind fun p => if (listAt p.2 p.1).isSome = true then (a sl p.2).bind fun q => (listAt q.2 p.1).bind fun xs => (g xs q.1).map fun z => (.d z.1, setAt q.2 p.1 (.lst z.2)) else none
theorem eM_imp {r : V → List V → Hp → VK → Prop} {g : GM} (ok : MkOk K r g) {o : FE} {f : FA} {σ : L2.St} {H : Hp} {Q : VK} (h : teO K (eM g o f) σ H Q) : tBM K "list" r (teO K o) (taO K f) σ H Q := by
  obtain ⟨A, S, sl, w, S', rfl, R, s, e, q⟩ := h
  obtain ⟨⟨w1, S1⟩, e1, e⟩ := Option.bind_eq_some_iff.mp e
  dsimp only at e
  by_cases z : (listAt S1 w1).isSome = true
  · rw [if_pos z] at e
    obtain ⟨⟨w2, S2⟩, e2, e⟩ := Option.bind_eq_some_iff.mp e
    obtain ⟨xs, e3, e⟩ := Option.bind_eq_some_iff.mp e
    obtain ⟨⟨d, ys⟩, e4, e⟩ := Option.map_eq_some_iff.mp e
    cases e
    obtain ⟨xs0, h0⟩ := Option.isSome_iff_exists.mp z
    refine ⟨A, S, sl, w1, S1, rfl, R, s, e1, fun B v n R1 r1 => ⟨?_, B, S1, sl, w2, S2, rfl, R1, s.mono n, e2, fun C us n2 R2 r2 => ?_⟩⟩
    · obtain ⟨i, a, vs, rfl, _, _, rfl, _, h, _⟩ := listAt_of R1 r1 h0
      exact .inl ⟨rfl, _, SqL.of h⟩
    · obtain ⟨i, a, vs, rfl, ha, hS, rfl, g0, h, hd⟩ := listAt_of R2 (r1.mono n2) e3
      refine ok C a vs xs S2 w2 us d ys Q R2 h hd r2 e4 fun v vs' dv dvs => ?_
      obtain ⟨n3, R3⟩ := Nx.wr (u := .lst vs') (o := .lst ys) R2 ha g0 ⟨g0, vs', upd_same, dvs⟩ (by rw [h]; rfl)
      exact q ⟨C.G, upd C.H a (.lst vs'), C.ι⟩ v ((n.trans n2).trans n3) R3 dv
  · rw [if_neg z] at e; cases e
variable {o : Expr} {fo : FE} {f : FA} {name : Str} {apos cpos : Pos} {mid : String} {r : V → List V → Hp → VK → Prop} {g : GM}
theorem e_m (hK : X.K = K) (slot : Slot "list" name mid) (hty : typeOf (.builtin mid) = Pure.pure (.type "method_descriptor")) (hm : MtR X mid r) (ok : MkOk K r g) (ho : PE3 K X o fo) (ha : PA3 K X (e :: es) f)
    (hbase : attributeBase o name X.env (eval o X.env) = eval o X.env := by rfl)
    (hfew : ((backTo cpos (starEach (e :: es) X.env)).all (fun x => !x.1) && (backToKw cpos (keywordEach [] X.env)).all (fun x => x.1.isSome)
      && decide ((e :: es).length + ([] : List Keyword).length + (if ([] : List Keyword).isEmpty then 0 else 1) < 30)) = true := by rfl)
    (hline : (apos.endLine == cpos.line) = true := by rfl) (hs : starEach (e :: es) X.env = (false, eval e X.env) :: starEach es X.env := by rfl) (hplain : (backTo cpos (starEach es X.env)).any (·.1) = false := by rfl) :
    PE3 K X (.Call (.Attribute o name apos) (e :: es) [] cpos) (eM g fo f) := ⟨pe_imp (pe_bm PySem.F.plainAttrs_list slot hty hm ho.p ha.p hbase hfew hline hs hplain) fun _ _ _ h => by subst hK; exact eM_imp ok h⟩
def mApp : GM := fun xs ws => match ws with
  | [.d x] => if xs.length ≤ 100000 then some (.none, xs ++ [x]) else none
  | _ => none
def mPopAt : GM := fun xs ws => match ws with
  | [.d (.int k)] => if 0 ≤ k ∧ k < xs.length ∧ xs.length ≤ 100000 then (xs[k.toNat]?).map fun x => (x, xs.eraseIdx k.toNat) else none
  | _ => none
theorem DaA.dropLast {G : Hp} {vs : List V} {ds : List PyData} (h : DaA K G vs ds) : DaA K G vs.dropLast ds.dropLast := by
  rw [List.dropLast_eq_take, List.dropLast_eq_take, h.len]
  exact h.take _
theorem mk_app : MkOk K rAppend mApp := by
  intro A a vs xs S ws us d ys Q R h hd rs e q
  unfold mApp at e
  split at e
  · by_cases z : xs.length ≤ 100000
    · rw [if_pos z] at e
      cases e
      cases rs with
      | cons r rr =>
        cases rr
        exact ⟨a, vs, _, rfl, rfl, h, by rw [hd.len]; exact line_lt z, q _ _ Da.non (hd.app (.cons r .nil))⟩
    · rw [if_neg z] at e; cases e
  · cases e
theorem mk_popAt : MkOk K rPopAt mPopAt := by
  intro A a vs xs S ws us d ys Q R h hd rs e q
  unfold mPopAt at e
  split at e
  · rename_i k
    by_cases z : 0 ≤ k ∧ k < xs.length ∧ xs.length ≤ 100000
    · rw [if_pos z] at e
      obtain ⟨x, hx, e⟩ := Option.map_eq_some_iff.mp e
      cases e
      cases rs with
      | cons r rr =>
        cases rr
        cases Da.int_inv r
        obtain ⟨u, hu, du⟩ := hd.get hx
        exact popL h z.1 (by rw [hd.len]; exact z.2.1) hu (by rw [hd.len]; exact z.2.2) (q _ _ du (hd.erase _))
    · rw [if_neg z] at e; cases e
  · cases e
/-! ### x[i] = v -/
def gSubL (o i : FE) : FG := fun w sl S => match w with
  | .d x => (o sl S).bind fun p => (i sl p.2).bind fun q => match q.1 with
    | .d (.int k) => (listAt q.2 p.1).bind fun xs => (ixN xs.length k).map fun j => (sl, setAt q.2 p.1 (.lst (xs.set j x)))
    | _ => none
  | _ => none
theorem g_sub {i : Expr} {fi : FE} (ho : PE3 K X o fo) (hi : PE3 K X i fi) (ha : ∀ v, assign (.Subscript o i pos) X.env v = (do let ov ← holding [v] (eval o X.env); let iv ← holding [v, ov] (eval i X.env); standAt pos; holding [v, ov, iv] (setItem ov iv v); release [v, ov, iv] []) := by intro _; rfl) : PG3 K X (.Subscript o i pos) [] (gSubL fo fi) := ⟨pg_imp (pg_sub ho.p hi.p set_list ha) fun v σ H Q h => by
  obtain ⟨A, S, sl, w, sl', S', rfl, R, s, r, e, q⟩ := h
  cases w with
  | d x =>
    obtain ⟨⟨w1, S1⟩, e1, e⟩ := Option.bind_eq_some_iff.mp e
    obtain ⟨⟨w2, S2⟩, e2, e⟩ := Option.bind_eq_some_iff.mp e
    dsimp only at e
    refine ⟨A, S, sl, w1, S1, rfl, R, s, e1, fun B u n R1 r1 => ⟨B, S1, sl, w2, S2, rfl, R1, s.mono n, e2, fun C t n2 R2 r2 => ?_⟩⟩
    split at e
    · rename_i k
      obtain ⟨xs, e3, e⟩ := Option.bind_eq_some_iff.mp e
      obtain ⟨j, e4, e⟩ := Option.map_eq_some_iff.mp e
      cases e
      cases Da.int_inv r2
      obtain ⟨i, a, vs, rfl, ha, hS, rfl, g0, h, hd⟩ := listAt_of R2 (r1.mono n2) e3
      have n' := n.trans n2
      refine ⟨a, vs, k, j, rfl, rfl, h, by rw [hd.len]; exact e4, ?_⟩
      obtain ⟨n3, R3⟩ := Nx.wr (u := .lst (vs.set j v)) (o := .lst (xs.set j x)) R2 ha g0 ⟨g0, vs.set j v, upd_same, DaA.set (Da.up n'.gg r) j hd⟩ (by rw [h]; rfl)
      exact q ⟨C.G, upd C.H a (.lst (vs.set j v)), C.ι⟩ σ (n'.trans n3) R3 (s.mono (n'.trans n3)) ⟨rfl, fun _ _ => rfl⟩
    · cases e
  | _ => cases e⟩
/-! ### name += e, of numbers -/
/-! ### a, b = x, y -/
def sPar (i j : Nat) (f : FA) : FS := fun sl S => (f sl S).bind fun p => match p.1 with
  | [x, y] => some (.nx ((sl.set i (some x)).set j (some y)) p.2)
  | _ => none
end
end EA
namespace EA
open PySem PySem.Spec PyProof.Rows L2
/-! ### in order, each once -/
section
variable {α : Type} [DecidableEq α] (lt : α → α → Bool)
def insS (a : α) : List α → List α
  | [] => [a]
  | b :: l => if a = b then b :: l else if lt a b = true then a :: b :: l else b :: insS a l
def sset : List α → List α
  | [] => []
  | a :: l => insS lt a (sset l)
variable {lt}
structure Strict (lt : α → α → Bool) : Prop where
  tr : ∀ a b c, lt a b = true → lt b c = true → lt a c = true
  ir : ∀ a, lt a a = false
  tot : ∀ a b, a ≠ b → lt a b = true ∨ lt b a = true
theorem mem_insS {a x : α} : ∀ {l : List α}, x ∈ insS lt a l ↔ x = a ∨ x ∈ l
  | [] => by simp [insS]
  | b :: l => by
    unfold insS
    by_cases e : a = b
    · rw [if_pos e]; subst e; simp
    · rw [if_neg e]
      by_cases h : lt a b = true
      · rw [if_pos h]; simp
      · rw [if_neg h, List.mem_cons, mem_insS (l := l), List.mem_cons]
        constructor
        · rintro (h | h | h)
          · exact .inr (.inl h)
          · exact .inl h
          · exact .inr (.inr h)
        · rintro (h | h | h)
          · exact .inr (.inl h)
          · exact .inl h
          · exact .inr (.inr h)
theorem mem_sset {x : α} : ∀ {l : List α}, x ∈ sset lt l ↔ x ∈ l
  | [] => Iff.rfl
  | a :: l => by rw [sset, mem_insS, mem_sset (l := l), List.mem_cons]
theorem insS_strict (O : Strict lt) {a : α} : ∀ {l : List α}, l.Pairwise (fun x y => lt x y = true) → (insS lt a l).Pairwise (fun x y => lt x y = true)
  | [], _ => by simp [insS]
  | b :: l, h => by
    obtain ⟨h1, h2⟩ := List.pairwise_cons.mp h
    unfold insS
    by_cases e : a = b
    · rw [if_pos e]; exact h
    · rw [if_neg e]
      by_cases k : lt a b = true
      · rw [if_pos k]
        exact List.pairwise_cons.mpr ⟨fun y hy => (List.mem_cons.mp hy).elim (fun z => by rw [z]; exact k) fun z => O.tr _ _ _ k (h1 y z), h⟩
      · rw [if_neg k]
        refine List.pairwise_cons.mpr ⟨fun y hy => ?_, insS_strict O h2⟩
        rcases mem_insS.mp hy with z | z
        · rw [z]; exact (O.tot a b e).elim (fun z => absurd z k) id
        · exact h1 y z
theorem sset_strict (O : Strict lt) : ∀ l : List α, (sset lt l).Pairwise (fun x y => lt x y = true)
  | [] => .nil
  | a :: l => insS_strict O (sset_strict O l)
theorem strict_uniq (O : Strict lt) : ∀ {l m : List α}, l.Pairwise (fun x y => lt x y = true) → m.Pairwise (fun x y => lt x y = true) → (∀ x, x ∈ l ↔ x ∈ m) → l = m
  | [], [], _, _, _ => rfl
  | [], b :: m, _, _, h => absurd ((h b).mpr List.mem_cons_self) (by simp)
  | a :: l, [], _, _, h => absurd ((h a).mp List.mem_cons_self) (by simp)
  | a :: l, b :: m, hl, hm, h => by
    obtain ⟨l1, l2⟩ := List.pairwise_cons.mp hl
    obtain ⟨m1, m2⟩ := List.pairwise_cons.mp hm
    have e : a = b := by
      refine Classical.byContradiction fun ne => ?_
      have ha : a ∈ m := (List.mem_cons.mp ((h a).mp List.mem_cons_self)).elim (fun z => absurd z ne) id
      have hb : b ∈ l := (List.mem_cons.mp ((h b).mpr List.mem_cons_self)).elim (fun z => absurd z.symm ne) id
      have := O.tr _ _ _ (l1 b hb) (m1 a ha)
      rw [O.ir] at this; cases this
    subst e
    have t : l = m := strict_uniq O l2 m2 fun x => by
      constructor
      · intro hx
        exact (List.mem_cons.mp ((h x).mp (List.mem_cons_of_mem _ hx))).elim (fun z => by subst z; have := l1 x hx; rw [O.ir] at this; cases this) id
      · intro hx
        exact (List.mem_cons.mp ((h x).mpr (List.mem_cons_of_mem _ hx))).elim (fun z => by subst z; have := m1 x hx; rw [O.ir] at this; cases this) id
    rw [t]
theorem sset_of (O : Strict lt) {l m : List α} (h1 : m.Pairwise (fun x y => lt x y = true)) (h2 : ∀ x, x ∈ m ↔ x ∈ l) : sset lt l = m := strict_uniq O (sset_strict O l) h1 fun x => mem_sset.trans (h2 x).symm
end
def ltI (a b : Int) : Bool := decide (a < b)
def ltS (a b : Str) : Bool := decide (a.cps.toList < b.cps.toList)
theorem strictI : Strict ltI := ⟨fun a b c h k => decide_eq_true (Int.lt_trans (of_decide_eq_true h) (of_decide_eq_true k)), fun a => decide_eq_false (Int.lt_irrefl a), fun a b h => (Int.lt_or_gt_of_ne h).imp (fun z => decide_eq_true z) fun z => decide_eq_true z⟩
theorem strictS : Strict ltS := ⟨fun a b c h k => decide_eq_true (List.lt_trans (of_decide_eq_true h) (of_decide_eq_true k)), fun a => decide_eq_false (List.lt_irrefl _), fun a b h => by
  by_cases z : a.cps.toList < b.cps.toList
  · exact .inl (decide_eq_true z)
  · refine .inr (decide_eq_true (Classical.byContradiction fun n => h (str_ext (List.le_antisymm (List.not_lt.mp n) (List.not_lt.mp z)))))⟩
def intsOf : List PyData → Option (List Int)
  | [] => some []
  | .int b :: r => (intsOf r).map (b :: ·)
  | _ :: _ => none
def strsOf : List PyData → Option (List Str)
  | [] => some []
  | .str b :: r => (strsOf r).map (b :: ·)
  | _ :: _ => none
theorem strsOf_map : ∀ bs : List Str, strsOf (bs.map .str) = some bs
  | [] => rfl
  | b :: r => by
    show (strsOf (r.map .str)).map (b :: ·) = _
    rw [strsOf_map r]; rfl
theorem intsOf_eq : ∀ {ds : List PyData} {bs : List Int}, intsOf ds = some bs → ds = bs.map .int
  | [], _, e => by cases e; rfl
  | .int b :: r, _, e => by
    obtain ⟨bs, e1, rfl⟩ := Option.map_eq_some_iff.mp (show (intsOf r).map (b :: ·) = some _ from e)
    rw [intsOf_eq e1]; rfl
  | .none :: _, _, e => by cases e
  | .bool _ :: _, _, e => by cases e
  | .str _ :: _, _, e => by cases e
  | .list _ :: _, _, e => by cases e
  | .tuple _ :: _, _, e => by cases e
  | .dict _ :: _, _, e => by cases e
theorem strsOf_eq : ∀ {ds : List PyData} {bs : List Str}, strsOf ds = some bs → ds = bs.map .str
  | [], _, e => by cases e; rfl
  | .str b :: r, _, e => by
    obtain ⟨bs, e1, rfl⟩ := Option.map_eq_some_iff.mp (show (strsOf r).map (b :: ·) = some _ from e)
    rw [strsOf_eq e1]; rfl
  | .none :: _, _, e => by cases e
  | .bool _ :: _, _, e => by cases e
  | .int _ :: _, _, e => by cases e
  | .list _ :: _, _, e => by cases e
  | .tuple _ :: _, _, e => by cases e
  | .dict _ :: _, _, e => by cases e
/-- the members of a set of numbers or of texts, in order -/
def ssD (ds : List PyData) : Option (List PyData) := if ds.length ≤ 2000 then ((intsOf ds).map fun ks => (sset ltI ks).map .int).or ((strsOf ds).map fun ks => (sset ltS ks).map .str) else none
def gSS (S : List MO) (ws : List W3) : Option (List PyData) := (gSeq S ws).bind ssD
theorem ssD_strs {ks : List Str} (h : ks.length ≤ 2000) : ssD (ks.map .str) = some ((sset ltS ks).map .str) := by
  unfold ssD
  rw [if_pos (by rw [List.length_map]; exact h)]
  cases ks with
  | nil => rfl
  | cons k ks => rw [strsOf_map]; rfl
section
variable {K : PySem.W.Frag} {X : Cx} {e o : Expr} {fa fo fi : FE} {pos pos2 pp pp2 : Pos} {P : Program} {w : World}
theorem gSeq_of {B : Wd} {S : List MO} {ws : List W3} {vs : List V} {xs : List PyData} (R1 : Rl K B S) (rs : RWs K B vs ws) (e3 : gSeq S ws = some xs) : ∃ p us, vs = [.ref p] ∧ (SqL K B.H p us ∨ SqT K B.H p us) ∧ DaA K B.G us xs := by
  unfold gSeq at e3
  split at e3
  · rename_i u
    cases rs with
    | cons rv rr =>
      cases rr
      split at e3
      · rename_i ys hy
        cases e3
        obtain ⟨a, us, rfl, h1, _, hd⟩ := view_list R1 rv hy
        exact ⟨a, us, rfl, .inl h1, hd⟩
      · rename_i ys hy
        cases e3
        obtain ⟨a, us, rfl, h1, hd⟩ := view_tup R1 rv hy
        exact ⟨a, us, rfl, .inr h1, hd⟩
      · cases e3
  · cases e3
theorem n_ss {f : FA} (hK : X.K = K) (hP : X.prog = P) (hw : X.w = w) (hc : X.calm = true) (hu : X.A.units + 64 < cLine) (hg : Gl X "sorted") (hm : X.mg "sorted" = none) (hg2 : Gl X "set") (hm2 : X.mg "set" = none) (ha : PA3 K X [e] f)
    (he : starEach [e] X.env = (false, eval e X.env) :: starEach [] X.env := by rfl) (he2 : starEach [.Call (.Name "set" pp2) [e] [] pos2] X.env = (false, eval (.Call (.Name "set" pp2) [e] [] pos2) X.env) :: starEach [] X.env := by rfl)
    (hpl : (backTo pos (starEach [] X.env)).any (·.1) = false := by rfl) (hpl2 : (backTo pos2 (starEach [] X.env)).any (·.1) = false := by rfl) :
    PN3 K X (.Call (.Name "sorted" pp) [.Call (.Name "set" pp2) [e] [] pos2] [] pos) (nB gSS f) := ⟨pe_imp (pe_callB (CallR.or (cr_sortedSetI hc hu) (cr_sortedSetS hc hu)) hg hm (by decide +kernel) (pa_cons (pe_callTy (CallR.or (cr_setOfI hc) (cr_setOfS hc)) hg2 hm2 (by decide +kernel) ha.p (he := he) (hpl := hpl2)) pa_nil he2) (he := he2) (hpl := hpl)) fun σ H Q h => by
  subst hK hP hw
  obtain ⟨A, S, sl, w0, S', rfl, R, s, e, q⟩ := h
  obtain ⟨⟨w1, S1⟩, e1, e⟩ := Option.bind_eq_some_iff.mp e
  obtain ⟨d, e2, e⟩ := Option.map_eq_some_iff.mp e
  cases e
  obtain ⟨xs, e3, e4⟩ := Option.bind_eq_some_iff.mp e2
  refine ⟨A, S, sl, w1, _, rfl, R, s, e1, fun B vs n R1 rs => ?_⟩
  have at_ := gSeq_of R1 rs e3
  obtain ⟨p, us, rfl, hq, hd⟩ := at_
  unfold ssD at e4
  by_cases hl : xs.length ≤ 2000
  · rw [if_pos hl] at e4
    cases hi : intsOf xs with
    | some ks =>
      rw [hi] at e4
      cases e4
      have ex := intsOf_eq hi
      subst ex
      have hu := hd.ints_inv
      subst hu
      rw [List.length_map] at hl
      refine .inl ⟨p, ks, rfl, hq, hl, fun D m hD hm => .inl ⟨D, _, m, rfl, upd_same, by omega, fun ss p2 st mem _ hp => ?_⟩⟩
      obtain ⟨n2, R2⟩ := Nx.junk (o := SetGO (PySem.intKind X.prog X.w) D (fun k => decide (k ∈ ks)) m) R1 hD
      have es : sset ltI ks = ss := sset_of strictI (st.imp fun h => decide_eq_true h) fun x => (mem x).trans decide_eq_true_iff
      dsimp only at q
      rw [es] at q
      exact new_of (A := ⟨B.G, upd B.H D _, B.ι⟩) R2 (DaA.ints ss) (fun C us p3 n3 R3 np ni g hh hd3 => q C us p3 ((n.trans n2).trans n3) R3 (fresh_back (n.trans n2) np) ni g hh hd3) p2 hp
    | none =>
      rw [hi] at e4
      obtain ⟨ks, hs, e5⟩ := Option.map_eq_some_iff.mp (show (strsOf xs).map (fun ks => (sset ltS ks).map PyData.str) = some _ from e4)
      subst e5
      have ex := strsOf_eq hs
      subst ex
      have hu := hd.strs_inv
      subst hu
      rw [List.length_map] at hl
      refine .inr ⟨p, ks, rfl, hq, hl, fun D m hD hm => .inr ⟨D, _, m, rfl, upd_same, by omega, fun ss p2 st mem _ hp => ?_⟩⟩
      obtain ⟨n2, R2⟩ := Nx.junk (o := SetGO (PySem.strKind X.prog X.w) D (fun k => decide (k ∈ ks)) m) R1 hD
      have es : sset ltS ks = ss := sset_of strictS (st.imp fun h => decide_eq_true h) fun x => (mem x).trans decide_eq_true_iff
      dsimp only at q
      rw [es] at q
      exact new_of (A := ⟨B.G, upd B.H D _, B.ι⟩) R2 (DaA.strs ss) (fun C us p3 n3 R3 np ni g hh hd3 => q C us p3 ((n.trans n2).trans n3) R3 (fresh_back (n.trans n2) np) ni g hh hd3) p2 hp
  · rw [if_neg hl] at e4; cases e4⟩
/-! ### dicts with numbers and texts as keys -/
def keyD : PyData → Option Key
  | .int i => some (.inl i)
  | .str x => some (.inr x)
  | _ => none
def dicAt (S : List MO) : W3 → Option (List (Key × PyData))
  | .r i => match S[i]? with
    | some (.dic xs) => some xs
    | _ => none
  | _ => none
def putD (kvs : List (Key × PyData)) (k : Key) (v : PyData) : List (Key × PyData) :=
  if (kvs.any fun kv => decide (kv.1 = k)) = true then kvs.map (fun kv => if kv.1 = k then (kv.1, v) else kv) else kvs ++ [(k, v)]
theorem dicAt_of {A : Wd} {S : List MO} {v : V} {w : W3} {xs : List (Key × PyData)} (R : Rl K A S) (r : RW K A v w) (e : dicAt S w = some xs) : ∃ i a vs, w = .r i ∧ A.ι[i]? = some a ∧ S[i]? = some (.dic xs) ∧ v = .ref a ∧ A.G a = none ∧ A.H a = some (.dK vs) ∧ DaK K A.G vs xs := by
  cases w with
  | r i =>
    obtain ⟨a, ha, rfl⟩ := r
    unfold dicAt at e
    dsimp only at e
    cases o : S[i]? with
    | none => rw [o] at e; cases e
    | some m =>
      rw [o] at e
      cases m with
      | dic ys =>
        cases e
        obtain ⟨g, vs, h1, h2⟩ := R.ob i _ a o ha
        exact ⟨i, a, vs, rfl, ha, o, rfl, g, h1, h2⟩
      | _ => cases e
  | _ => cases e
def eDN : FE := fun _ S => some (.r S.length, S ++ [.dic []])
def sDP (o i v : FE) : FS := fun sl S => (v sl S).bind fun p => match p.1 with
  | .d x => (o sl p.2).bind fun q => (i sl q.2).bind fun u => match u.1 with
    | .d y => (keyD y).bind fun k => (dicAt u.2 q.1).bind fun kvs => if kvs.length ≤ 100000 then some (.nx sl (setAt u.2 q.1 (.dic (putD kvs k x)))) else none
    | _ => none
  | _ => none
def keyP : Key → PyData
  | .inl i => .int i
  | .inr x => .str x
/-- list(d): the keys -/
def gKeys (S : List MO) (ws : List W3) : Option (List PyData) := match ws with
  | [w] => (dicAt S w).map fun kvs => kvs.map fun kv => keyP kv.1
  | _ => none
theorem daK_keys {G : Hp} {vs : List (Key × V)} {ds : List (Key × PyData)} (h : DaK K G vs ds) : DaA K G (vs.map fun kv => kV kv.1) (ds.map fun kv => keyP kv.1) := by
  induction h with
  | nil => exact .nil
  | @cons k v d vs ds a _ ih =>
    refine .cons ?_ ih
    cases k with
    | inl i => exact .int i
    | inr x => exact .str x
def rKeys : List V → Hp → VK → Prop := fun xs H Q => ∃ (a : Addr) (kvs : List (Key × V)), xs = [.ref a] ∧ Rd H a (.dK kvs) ∧ ∀ p, H p = none → Q (.ref p) (upd H p (.lst (kvs.map fun kv => kV kv.1)))
theorem nk_keys : NkOk K rKeys gKeys := by
  intro A S ws vs d Q R rs e q
  unfold gKeys at e
  split at e
  · rename_i w
    obtain ⟨kvs, e1, rfl⟩ := Option.map_eq_some_iff.mp e
    cases rs with
    | cons rv rr =>
      cases rr
      obtain ⟨i, a, us, rfl, ha, hS, rfl, g0, h, hd⟩ := dicAt_of R rv e1
      exact ⟨a, us, rfl, Rd.of h, new_of R (daK_keys hd) q⟩
  · cases e
/-- list(x) of a list, a tuple or a dict -/
def rLst3 (K : PySem.W.Frag) : List V → Hp → VK → Prop := fun xs H Q => rListOf K xs H Q ∨ rKeys xs H Q
def gLst3 (S : List MO) (ws : List W3) : Option (List PyData) := (gSeq S ws).or (gKeys S ws)
theorem nk_lst3 : NkOk K (rLst3 K) gLst3 := by
  intro A S ws vs d Q R rs e q
  unfold gLst3 at e
  cases h : gSeq S ws with
  | some z => rw [h] at e; cases e; exact .inl (nk_list A S ws vs _ Q R rs h q)
  | none => rw [h] at e; exact .inr (nk_keys A S ws vs _ Q R rs e q)
theorem cr_lst3 (hK : X.K = K) (hc : X.calm = true) : CallR X (.type "list") (rLst3 K) := CallR.or (call_list_ofK hK) (call_listD hc)
end
end EA
namespace EA
open PySem PySem.Spec PyProof.Rows L2
section
variable {K : PySem.W.Frag} {X : Cx}
theorem v3 (i : Nat) {x : Str} {pos : Pos} (hN : X.N[i]? = some x := by rfl) (hv : Vis X.env.scope x := by first | exact Or.inl rfl | exact Or.inr (Or.inl rfl) | exact Or.inr (Or.inr rfl)) (hd : (x == ("__debug__" : Str)) = false := by decide)
    (hcd : (x == ("__classdict__" : Str)) = false := by decide) : PE3 K X (.Name x pos) (eVar i) := e_var hN hv hd hcd
theorem lenK3 (hK : X.K = K) : CallR X (.builtin "len") (rLen K) := call_lenK hK
theorem isiK3 (hK : X.K = K) : CallR X (.builtin "isinstance") (rIsi K) := by subst hK; exact call_isi
theorem tupK3 (hK : X.K = K) : CallR X (.type "tuple") (rTupP K) := by subst hK; exact call_tupP
theorem sortK3 (hK : X.K = K) (hu : X.A.units + 64 < cLine) : CallR X (.builtin "sorted") (rSortD K) := by subst hK; exact cr_sortD hu
theorem int1_3 : CallR X (.type "int") rInt1 := call_int1
theorem abs_3 : CallR X (.builtin "abs") rAbs := call_abs
theorem str_3 : CallR X (.type "str") rStrI := call_str_int
theorem fn3_none {P : Program} {w : World} {mg : Str → Option Value} {base : Heap} {k : Nat} {f : Addr} {fd : FuncData} {ps : List Str} : FnOk P w K mg base CX0 k f fd ps (sp3 K fun _ _ => none) :=
  fn_none fun vs H Q E h => by obtain ⟨_, _, _, _, _, _, _, _, e, _⟩ := h; cases e
/-! ### "sep".join(xs) -/
def joinD (a : Str) (ys : List Str) : Option PyData := if (ys.map (·.length)).sum + ys.length * a.length ≤ 100000 then some (.str (Txt.join a ys)) else none
def eJoin (o e : FE) : FE := fun sl S => (o sl S).bind fun p => match p.1 with
  | .d (.str a) => (e sl p.2).bind fun q => (gSeq q.2 [q.1]).bind fun xs => (strsOf xs).bind fun ys => (joinD a ys).map fun d => (.d d, q.2)
  | _ => none
theorem e_join {o e : Expr} {fo fe : FE} {apos cpos : Pos} (hK : X.K = K) (ho : PE3 K X o fo) (he : PE3 K X e fe) (hs : starEach [e] X.env = [(false, eval e X.env)] := by rfl) (hbase : attributeBase o "join" X.env (eval o X.env) = eval o X.env := by rfl) (hline : (apos.endLine == cpos.line) = true := by rfl) :
    PE3 K X (.Call (.Attribute o "join" apos) [e] [] cpos) (eJoin fo fe) := ⟨pe_imp (pe_join ho.p he.p hs hbase hline) fun σ H Q h => by
  subst hK
  obtain ⟨A, S, sl, w, S', rfl, R, s, e, q⟩ := h
  obtain ⟨⟨w1, S1⟩, e1, e⟩ := Option.bind_eq_some_iff.mp e
  dsimp only at e
  split at e
  · rename_i a
    obtain ⟨⟨w2, S2⟩, e2, e⟩ := Option.bind_eq_some_iff.mp e
    obtain ⟨xs, e3, e⟩ := Option.bind_eq_some_iff.mp e
    obtain ⟨ys, e4, e⟩ := Option.bind_eq_some_iff.mp e
    obtain ⟨d, e5, e⟩ := Option.map_eq_some_iff.mp e
    cases e
    refine ⟨A, S, sl, _, S1, rfl, R, s, e1, fun B v n R1 r1 => ?_⟩
    cases Da.str_inv r1
    refine ⟨⟨a, rfl⟩, B, S1, sl, w2, S2, rfl, R1, s.mono n, e2, fun C u n2 R2 r2 => ?_⟩
    obtain ⟨p, us, hv, hq, hd⟩ := gSeq_of (vs := [u]) (ws := [w2]) R2 (.cons r2 .nil) e3
    cases hv
    have ex := strsOf_eq e4
    subst ex
    have hu := hd.strs_inv
    subst hu
    unfold joinD at e5
    by_cases z : (ys.map (·.length)).sum + ys.length * a.length ≤ 100000
    · rw [if_pos z] at e5
      cases e5
      exact ⟨a, p, ys, rfl, rfl, hq, Nat.le_trans z (by decide), q C _ (n.trans n2) R2 (Da.str _)⟩
    · rw [if_neg z] at e5; cases e5
  · cases e⟩
end
theorem _root_.L2.Room.units1 {k : Nat} {A : Around} (r : Room k A) : A.units + 1 < cLine := by have := r.un; omega
/-- the law, from its function -/
def spLaw3 (K : PySem.W.Frag) : Sp := fun vs H Q _ => ∃ (a : Addr) (ns : List Int), vs = [.ref a] ∧ SqL K H a (ns.map V.int) ∧ ns.length ≤ 63 ∧ ∀ H', Q (.bl true) H'
end EA
namespace EA
open PySem PySem.Spec PyProof.Rows L2
/-! ### it comes to a value that is so -/
def Wp {α : Type} (x : Option α) (Q : α → Prop) : Prop := ∃ a, x = some a ∧ Q a
section
variable {α β : Type} {x : Option α} {Q : α → Prop}
theorem wp_some {a : α} : Wp (some a) Q ↔ Q a := ⟨fun ⟨_, e, q⟩ => by cases e; exact q, fun q => ⟨a, rfl, q⟩⟩
theorem wp_bind {f : α → Option β} {Q : β → Prop} : Wp (x.bind f) Q ↔ Wp x fun a => Wp (f a) Q :=
  ⟨fun ⟨b, e, q⟩ => by obtain ⟨a, h1, h2⟩ := Option.bind_eq_some_iff.mp e; exact ⟨a, h1, b, h2, q⟩, fun ⟨a, h1, b, h2, q⟩ => ⟨b, by rw [h1]; exact h2, q⟩⟩
theorem wp_map {f : α → β} {Q : β → Prop} : Wp (x.map f) Q ↔ Wp x fun a => Q (f a) :=
  ⟨fun ⟨b, e, q⟩ => by obtain ⟨a, h1, rfl⟩ := Option.map_eq_some_iff.mp e; exact ⟨a, h1, q⟩, fun ⟨a, h1, q⟩ => ⟨f a, by rw [h1]; rfl, q⟩⟩
theorem Wp.imp {Q' : α → Prop} (h : Wp x Q) (i : ∀ a, Q a → Q' a) : Wp x Q' := let ⟨a, e, q⟩ := h; ⟨a, e, i a q⟩
theorem wp_eq {a : α} (h : x = some a) (q : Q a) : Wp x Q := ⟨a, h, q⟩
end
/-- .. with the store behind it -/
def Wp2 {α β : Type} (x : Option (α × β)) (Q : α → β → Prop) : Prop := Wp x fun a => Q a.1 a.2
theorem Wp2.imp {α β : Type} {x : Option (α × β)} {Q Q' : α → β → Prop} (h : Wp2 x Q) (i : ∀ a b, Q a b → Q' a b) : Wp2 x Q' := Wp.imp h fun a h => i a.1 a.2 h
theorem wp2_eq {α β : Type} {x : Option (α × β)} {Q : α → β → Prop} {a : α} {b : β} (h : x = some (a, b)) (q : Q a b) : Wp2 x Q := ⟨(a, b), h, q⟩
theorem wp2_some {α β : Type} {Q : α → β → Prop} {a : α} {b : β} (q : Q a b) : Wp2 (some (a, b)) Q := ⟨(a, b), rfl, q⟩
/-! ### the parts, run -/
section
variable {sl : Sl} {S : List MO}
theorem r_fdef {own : Bool} {np nl : Nat} {body : FS} {ws : List W3} (h : ws.length = np) : fdef own np nl body ws S = (body (ws.map some ++ List.replicate nl none) S).bind (ret3 own S) := by unfold fdef; rw [if_pos h]
theorem r_viewr {i : Nat} {xs : List PyData} (h : S[i]? = some (.lst xs)) : view S (.r i) = some (.list xs) := by unfold view; dsimp only; rw [h]
theorem r_listAt {i : Nat} {xs : List PyData} (h : S[i]? = some (.lst xs)) : listAt S (.r i) = some xs := by unfold listAt; dsimp only; rw [h]
end
theorem gI_ok {C : Int → Int → Bool} {f : Int → Int → Int} {S : List MO} {i j : Int} (h : C i j = true) : gI C f S (.d (.int i)) (.d (.int j)) = some (.int (f i j)) := by
  unfold gI
  dsimp only
  rw [if_pos h]
theorem r_sub {S : List MO} {i j : Int} : gSub S (.d (.int i)) (.d (.int j)) = some (.int (i - j)) := gI_ok rfl
theorem r_mod {S : List MO} {i j : Int} (h : 0 < j) : gMod S (.d (.int i)) (.d (.int j)) = some (.int (i % j)) := gI_ok (decide_eq_true h)
theorem r_fdiv {S : List MO} {i j : Int} (h : 0 < j) (h2 : j < 1073741824) : gFdiv S (.d (.int i)) (.d (.int j)) = some (.int (i / j)) := gI_ok (decide_eq_true ⟨h, h2⟩)
theorem r_mulr {S : List MO} {i j : Int} (h : -(2 ^ 64) < j) (h2 : j < 2 ^ 64) : gMul S (.d (.int i)) (.d (.int j)) = some (.int (i * j)) := gI_ok (by
  show ((_ || _) || _) = true
  rw [show decide (-(2 ^ 64) < j ∧ j < 2 ^ 64) = true from decide_eq_true ⟨h, h2⟩, Bool.or_true, Bool.true_or])
theorem r_mull {S : List MO} {i j : Int} (h : -(2 ^ 64) < i) (h2 : i < 2 ^ 64) : gMul S (.d (.int i)) (.d (.int j)) = some (.int (i * j)) := gI_ok (by
  show ((_ || _) || _) = true
  rw [show decide (-(2 ^ 64) < i ∧ i < 2 ^ 64) = true from decide_eq_true ⟨h, h2⟩, Bool.true_or, Bool.true_or])
/-! ### the parts, by what they come to -/
section
variable {sl : Sl} {S : List MO} {Q : W3 → List MO → Prop} {QA : List W3 → List MO → Prop} {QT : Bool → List MO → Prop} {QS : Out → Prop} {QN : List PyData → List MO → Prop} {QO : Option Int → List MO → Prop} {QG : Sl → List MO → Prop} {QI : It3 → List MO → Prop}
theorem wp_var {i : Nat} {w : W3} (h : sl[i]?.join = some w) (q : Q w S) : Wp2 (eVar i sl S) Q := by unfold eVar; rw [h]; exact wp_some.mpr q
theorem wp_d {x : PyData} (q : Q (.d x) S) : Wp2 (eD x sl S) Q := wp_some.mpr q
theorem wp_ty {n : String} (q : Q (.ty n) S) : Wp2 (eTy n sl S) Q := wp_some.mpr q
theorem wp_frz {f : FE} (h : Wp2 (f sl S) fun p1 p2 => Wp2 (match p1 with
  | .r i => match p2[i]? with
    | some (.lst xs) => some (W3.d (.list xs), p2.set i .gone)
    | _ => none
  | w => some (w, p2)) Q) : Wp2 (eFrz f sl S) Q := wp_bind.mpr h
theorem wp_frzr {i : Nat} {xs : List PyData} (h : S[i]? = some (.lst xs)) (q : Q (.d (.list xs)) (S.set i .gone)) : Wp2 (match W3.r i with
  | .r i => match S[i]? with
    | some (.lst xs) => some (W3.d (.list xs), S.set i .gone)
    | _ => none
  | w => some (w, S)) Q := by dsimp only; rw [h]; exact wp_some.mpr q
theorem wp_nil (q : QA [] S) : Wp2 (aNil sl S) QA := wp_some.mpr q
theorem wp_cons {e : FE} {r : FA} (h : Wp2 (e sl S) fun p1 p2 => Wp2 (r sl p2) fun q1 q2 => QA (p1 :: q1) q2) : Wp2 (aCons e r sl S) QA := wp_bind.mpr (Wp.imp h fun _ h => wp_map.mpr h)
theorem wp_tup {a : FA} (h : Wp2 (a sl S) fun p1 p2 => Wp (dsOf p1) fun ds => Q (.d (.tuple ds)) p2) : Wp2 (eTup a sl S) Q := wp_bind.mpr (Wp.imp h fun _ h => wp_map.mpr h)
theorem wp_nlst {a : FA} (h : Wp2 (a sl S) fun p1 p2 => Wp (dsOf p1) fun ds => QN ds p2) : Wp2 (nLst a sl S) QN := wp_bind.mpr (Wp.imp h fun _ h => wp_map.mpr h)
theorem wp_ds0 {Q : List PyData → Prop} (q : Q []) : Wp (dsOf []) Q := wp_some.mpr q
theorem wp_ds1 {Q : List PyData → Prop} {x : PyData} {r : List W3} (h : Wp (dsOf r) fun ds => Q (x :: ds)) : Wp (dsOf (.d x :: r)) Q := wp_map.mpr h
theorem wp_nd {n : FN} (h : Wp2 (n sl S) fun p1 p2 => Q (.d (.list p1)) p2) : Wp2 (eNd n sl S) Q := wp_map.mpr h
theorem wp_no {n : FN} (h : Wp2 (n sl S) fun p1 p2 => Q (.r p2.length) (p2 ++ [.lst p1])) : Wp2 (eNo n sl S) Q := wp_map.mpr h
theorem wp_nx (q : QS (.nx sl S)) : Wp (sNx sl S) QS := wp_some.mpr q
theorem wp_bk (q : QS (.bk sl S)) : Wp (sBk sl S) QS := wp_some.mpr q
theorem wp_ct (q : QS (.ct sl S)) : Wp (sCt sl S) QS := wp_some.mpr q
/-- behind a statement -/
def then3 (g : FS) (Q : Out → Prop) : Out → Prop
  | .nx sl S => Wp (g sl S) Q
  | o => Q o
theorem wp_seq {f g : FS} (h : Wp (f sl S) (then3 g QS)) : Wp (sSeq f g sl S) QS := wp_bind.mpr (Wp.imp h fun o h => by
  cases o with
  | nx _ _ => exact h
  | rt _ _ => exact wp_some.mpr h
  | bk _ _ => exact wp_some.mpr h
  | ct _ _ => exact wp_some.mpr h)
theorem th_nx {g : FS} (h : Wp (g sl S) QS) : then3 g QS (.nx sl S) := h
theorem th_rt {g : FS} {w : W3} (h : QS (.rt w S)) : then3 g QS (.rt w S) := h
theorem th_bk {g : FS} (h : QS (.bk sl S)) : then3 g QS (.bk sl S) := h
theorem th_ct {g : FS} (h : QS (.ct sl S)) : then3 g QS (.ct sl S) := h
theorem wp_ex {f : FE} (h : Wp2 (f sl S) fun p1 p2 => QS (.nx sl p2)) : Wp (sEx f sl S) QS := wp_map.mpr h
theorem wp_rt {f : FE} (h : Wp2 (f sl S) fun p1 p2 => QS (.rt p1 p2)) : Wp (sRt f sl S) QS := wp_map.mpr h
theorem wp_rtn (h : QS (.rt (.d .none) S)) : Wp (sRtN sl S) QS := wp_some.mpr h
theorem wp_sif {t : FT} {a b : FS} (h : Wp2 (t sl S) fun p1 p2 => if p1 = true then Wp (a sl p2) QS else Wp (b sl p2) QS) : Wp (sIf t a b sl S) QS := wp_bind.mpr (Wp.imp h fun p h => by
  dsimp only at h
  by_cases c : p.1 = true
  · rw [if_pos c] at h ⊢; exact h
  · rw [if_neg c] at h ⊢; exact h)
theorem wp_set {i : Nat} {f : FE} (h : Wp2 (f sl S) fun p1 p2 => QS (.nx (sl.set i (some p1)) p2)) : Wp (sSet i f sl S) QS := wp_map.mpr h
theorem wp_asg {f : FE} {g : FG} (h : Wp2 (f sl S) fun p1 p2 => Wp2 (g p1 sl p2) fun q1 q2 => QS (.nx q1 q2)) : Wp (sAsg f g sl S) QS := wp_bind.mpr (Wp.imp h fun _ h => wp_map.mpr h)
theorem wp_gnm {i : Nat} {w : W3} (h : QG (sl.set i (some w)) S) : Wp2 (gNm i w sl S) QG := wp_some.mpr h
theorem wp_gtp {r : List PyData → Sl → List MO → Option (Sl × List MO)} {xs : List PyData} (h : Wp2 (r xs sl S) QG) : Wp2 (gTp r (.d (.tuple xs)) sl S) QG := h
theorem wp_gsn (h : QG sl S) : Wp2 (gsNil [] sl S) QG := wp_some.mpr h
theorem wp_gsc {g : FG} {r : List PyData → Sl → List MO → Option (Sl × List MO)} {x : PyData} {xs : List PyData} (h : Wp2 (g (.d x) sl S) fun p1 p2 => Wp2 (r xs p1 p2) QG) : Wp2 (gsCons g r (x :: xs) sl S) QG := wp_bind.mpr h
theorem wp_for {it : FI} {g : FG} {b : FS} (h : Wp2 (it sl S) fun p1 p2 => Wp (fLoop p1.ok g b p1.ws sl p2) QS) : Wp (sFor it g b sl S) QS := wp_bind.mpr h
theorem wp_lc {own : List Nat} {it : FI} {g : FG} {t : FT} {e : FE} (h : Wp2 (it sl S) fun p1 p2 => p1.ws.length ≤ 100000 ∧ Wp2 (cLoop p1.ok g t e (wipe3 sl own) p1.ws p2) QN) : Wp2 (nLc own it g t e sl S) QN := wp_bind.mpr (Wp.imp h fun _ ⟨h1, h2⟩ => by rw [if_pos h1]; exact h2)
theorem wp_ecmp {g : GB} {a b : FE} (h : Wp2 (a sl S) fun p1 p2 => Wp2 (b sl p2) fun q1 q2 => Wp (view q2 p1) fun x => Wp (view q2 q1) fun y => Wp (g x y) fun c => Q (.d (.bool c)) q2) : Wp2 (eCmp g a b sl S) Q :=
  wp_bind.mpr (Wp.imp h fun _ h => wp_bind.mpr (Wp.imp h fun _ h => wp_bind.mpr (Wp.imp h fun _ h => wp_bind.mpr (Wp.imp h fun _ h => wp_map.mpr h))))
theorem wp_tcmp {g : GB} {a b : FE} (h : Wp2 (a sl S) fun p1 p2 => Wp2 (b sl p2) fun q1 q2 => Wp (view q2 p1) fun x => Wp (view q2 q1) fun y => Wp (g x y) fun c => QT c q2) : Wp2 (tCmp g a b sl S) QT :=
  wp_bind.mpr (Wp.imp h fun _ h => wp_bind.mpr (Wp.imp h fun _ h => wp_bind.mpr (Wp.imp h fun _ h => wp_bind.mpr (Wp.imp h fun _ h => wp_map.mpr h))))
theorem wp_ttr {f : FE} (h : Wp2 (f sl S) fun p1 p2 => Wp (truW p2 p1) fun b => QT b p2) : Wp2 (tTr f sl S) QT := wp_bind.mpr (Wp.imp h fun _ h => wp_map.mpr h)
theorem wp_not {f : FE} (h : Wp2 (f sl S) fun p1 p2 => Wp (truW p2 p1) fun b => Q (.d (.bool (!b))) p2) : Wp2 (eNot f sl S) Q := wp_bind.mpr (Wp.imp h fun _ h => wp_map.mpr h)
theorem wp_tnt {f : FT} (h : Wp2 (f sl S) fun p1 p2 => QT (!p1) p2) : Wp2 (tNt f sl S) QT := wp_map.mpr h
theorem wp_tan {f g : FT} (h : Wp2 (f sl S) fun p1 p2 => if p1 = true then Wp2 (g sl p2) QT else QT false p2) : Wp2 (tAn f g sl S) QT := wp_bind.mpr (Wp.imp h fun p h => by
  dsimp only at h
  by_cases c : p.1 = true
  · rw [if_pos c] at h ⊢; exact h
  · rw [if_neg c] at h ⊢; exact wp_some.mpr h)
theorem wp_tor {f g : FT} (h : Wp2 (f sl S) fun p1 p2 => if p1 = true then QT true p2 else Wp2 (g sl p2) QT) : Wp2 (tOr3 f g sl S) QT := wp_bind.mpr (Wp.imp h fun p h => by
  dsimp only at h
  by_cases c : p.1 = true
  · rw [if_pos c] at h ⊢; exact wp_some.mpr h
  · rw [if_neg c] at h ⊢; exact h)
theorem wp_ean {f g : FE} (h : Wp2 (f sl S) fun p1 p2 => ∃ c, p1 = .d (.bool c) ∧ if c = true then Wp2 (g sl p2) Q else Q (.d (.bool false)) p2) : Wp2 (eAn f g sl S) Q := wp_bind.mpr (Wp.imp h fun p h => by
  obtain ⟨c, e, h⟩ := h
  rw [e]
  cases c with
  | true => exact h
  | false => exact wp_some.mpr h)
theorem wp_eor {f g : FE} (h : Wp2 (f sl S) fun p1 p2 => ∃ c, p1 = .d (.bool c) ∧ if c = true then Q (.d (.bool true)) p2 else Wp2 (g sl p2) Q) : Wp2 (eOr f g sl S) Q := wp_bind.mpr (Wp.imp h fun p h => by
  obtain ⟨c, e, h⟩ := h
  rw [e]
  cases c with
  | true => exact wp_some.mpr h
  | false => exact h)
theorem wp_eif {t : FT} {f g : FE} (h : Wp2 (t sl S) fun p1 p2 => if p1 = true then Wp2 (f sl p2) Q else Wp2 (g sl p2) Q) : Wp2 (eIf t f g sl S) Q := wp_bind.mpr (Wp.imp h fun p h => by
  dsimp only at h
  by_cases c : p.1 = true
  · rw [if_pos c] at h ⊢; exact h
  · rw [if_neg c] at h ⊢; exact h)
theorem wp_op {g : GO} {a b : FE} (h : Wp2 (a sl S) fun p1 p2 => Wp2 (b sl p2) fun q1 q2 => Wp (g q2 p1 q1) fun d => Q (.d d) q2) : Wp2 (eOp g a b sl S) Q := wp_bind.mpr (Wp.imp h fun _ h => wp_bind.mpr (Wp.imp h fun _ h => wp_map.mpr h))
theorem wp_nop {g : List MO → W3 → W3 → Option (List PyData)} {a b : FE} (h : Wp2 (a sl S) fun p1 p2 => Wp2 (b sl p2) fun q1 q2 => Wp (g q2 p1 q1) fun d => QN d q2) : Wp2 (nOp g a b sl S) QN := wp_bind.mpr (Wp.imp h fun _ h => wp_bind.mpr (Wp.imp h fun _ h => wp_map.mpr h))
theorem wp_onone (h : QO none S) : Wp2 (oNone sl S) QO := wp_some.mpr h
theorem wp_osome {f : FE} (h : Wp2 (f sl S) fun p1 p2 => ∃ i, p1 = .d (.int i) ∧ QO (some i) p2) : Wp2 (oSome f sl S) QO := wp_bind.mpr (Wp.imp h fun p h => by
  obtain ⟨i, e, h⟩ := h
  rw [e]; exact wp_some.mpr h)
/-- a part of a sequence -/
def gCut (l h : Option Int) : PyData → Option PyData
  | .list xs => some (.list (cutD xs l h))
  | .tuple xs => some (.tuple (cutD xs l h))
  | .str z => if z.length ≤ 100000 then some (.str (cutS z l h)) else none
  | _ => none
theorem wp_esl {a : FE} {l h : FO} (hh : Wp2 (a sl S) fun p1 p2 => Wp2 (l sl p2) fun q1 q2 => Wp2 (h sl q2) fun u1 u2 => Wp (view u2 p1) fun x => Wp (gCut q1 u1 x) fun d => Q (.d d) u2) : Wp2 (eSl a l h sl S) Q :=
  wp_bind.mpr (Wp.imp hh fun _ h => wp_bind.mpr (Wp.imp h fun _ h => wp_bind.mpr (Wp.imp h fun u h => by
    obtain ⟨x, e, d, e2, q⟩ := h
    rw [e]
    unfold gCut at e2
    split at e2
    · cases e2; exact wp_some.mpr q
    · cases e2; exact wp_some.mpr q
    · rename_i z
      by_cases c : z.length ≤ 100000
      · rw [if_pos c] at e2
        cases e2
        dsimp only
        rw [if_pos c]; exact wp_some.mpr q
      · rw [if_neg c] at e2; cases e2
    · cases e2)))
theorem wp_nsl {a : FE} {l h : FO} (hh : Wp2 (a sl S) fun p1 p2 => Wp2 (l sl p2) fun q1 q2 => Wp2 (h sl q2) fun u1 u2 => ∃ xs, view u2 p1 = some (.list xs) ∧ QN (cutD xs q1 u1) u2) : Wp2 (nSl a l h sl S) QN :=
  wp_bind.mpr (Wp.imp hh fun _ h => wp_bind.mpr (Wp.imp h fun _ h => wp_bind.mpr (Wp.imp h fun u h => by
    obtain ⟨x, e, q⟩ := h
    rw [e]; exact wp_some.mpr q)))
theorem wp_b {g : GC} {a : FA} (h : Wp2 (a sl S) fun p1 p2 => Wp (g p2 p1) fun d => Q (.d d) p2) : Wp2 (eB g a sl S) Q := wp_bind.mpr (Wp.imp h fun _ h => wp_map.mpr h)
theorem wp_nb {g : List MO → List W3 → Option (List PyData)} {a : FA} (h : Wp2 (a sl S) fun p1 p2 => Wp (g p2 p1) fun d => QN d p2) : Wp2 (nB g a sl S) QN := wp_bind.mpr (Wp.imp h fun _ h => wp_map.mpr h)
theorem wp_call {f : F3} {a : FA} (h : Wp2 (a sl S) fun p1 p2 => Wp2 (f p1 p2) Q) : Wp2 (eCall f a sl S) Q := wp_bind.mpr h
theorem wp_isq {f : FE} (h : Wp2 (f sl S) fun p1 p2 => ∃ x xs, view p2 p1 = some x ∧ (x = .list xs ∨ x = .tuple xs) ∧ QI (⟨xs.map .d, seqOk p1 x⟩) p2) : Wp2 (iSq f sl S) QI := wp_bind.mpr (Wp.imp h fun p h => by
  obtain ⟨x, xs, e, h1, q⟩ := h
  rw [e]
  rcases h1 with rfl | rfl
  · exact wp_some.mpr q
  · exact wp_some.mpr q)
theorem wp_ir1 {f : FA} (h : Wp2 (f sl S) fun p1 p2 => ∃ j : Int, p1 = [.d (.int j)] ∧ (-(2 ^ 62) ≤ j ∧ j < 2 ^ 62) ∧ QI (⟨intsW 0 j.toNat, yes⟩) p2) : Wp2 (iR1 f sl S) QI := wp_bind.mpr (Wp.imp h fun p h => by
  obtain ⟨j, e, c, q⟩ := h
  rw [e]
  dsimp only
  rw [if_pos c]; exact wp_some.mpr q)
theorem wp_ir2 {f : FA} (h : Wp2 (f sl S) fun p1 p2 => ∃ i j : Int, p1 = [.d (.int i), .d (.int j)] ∧ (-(2 ^ 62) ≤ i ∧ i < 2 ^ 62 ∧ -(2 ^ 62) ≤ j ∧ j < 2 ^ 62) ∧ QI (⟨intsW i (j - i).toNat, yes⟩) p2) : Wp2 (iR2 f sl S) QI := wp_bind.mpr (Wp.imp h fun p h => by
  obtain ⟨i, j, e, c, q⟩ := h
  rw [e]
  dsimp only
  rw [if_pos c]; exact wp_some.mpr q)
theorem wp_irv {f : FE} (h : Wp2 (f sl S) fun p1 p2 => ∃ xs, (p1 = .d (.list xs) ∨ p1 = .d (.tuple xs)) ∧ QI (⟨xs.reverse.map .d, yes⟩) p2) : Wp2 (iRv f sl S) QI := wp_bind.mpr (Wp.imp h fun p h => by
  obtain ⟨xs, e, q⟩ := h
  rcases e with e | e
  · rw [e]; exact wp_some.mpr q
  · rw [e]; exact wp_some.mpr q)
theorem wp_m {g : GM} {o : FE} {a : FA} (h : Wp2 (o sl S) fun p1 p2 => ∃ x0, listAt p2 p1 = some x0 ∧ Wp2 (a sl p2) fun q1 q2 => Wp (listAt q2 p1) fun xs => Wp2 (g xs q1) fun z1 z2 => Q (.d z1) (setAt q2 p1 (.lst z2))) : Wp2 (eM g o a sl S) Q := wp_bind.mpr (Wp.imp h fun p h => by
  obtain ⟨x0, e, h⟩ := h
  rw [e]
  exact wp_bind.mpr (Wp.imp h fun _ h => wp_bind.mpr (Wp.imp h fun _ h => wp_map.mpr h)))
theorem wp_gsub {o i : FE} {x : PyData} (h : Wp2 (o sl S) fun p1 p2 => Wp2 (i sl p2) fun q1 q2 => ∃ k, q1 = .d (.int k) ∧ Wp (listAt q2 p1) fun xs => Wp (ixN xs.length k) fun j => QG sl (setAt q2 p1 (.lst (xs.set j x)))) : Wp2 (gSubL o i (.d x) sl S) QG := wp_bind.mpr (Wp.imp h fun _ h => wp_bind.mpr (Wp.imp h fun q h => by
  obtain ⟨k, e, h⟩ := h
  rw [e]
  exact wp_bind.mpr (Wp.imp h fun _ h => wp_map.mpr h)))
theorem wp_par {i j : Nat} {f : FA} (h : Wp2 (f sl S) fun p1 p2 => ∃ x y, p1 = [x, y] ∧ QS (.nx ((sl.set i (some x)).set j (some y)) p2)) : Wp (sPar i j f sl S) QS := wp_bind.mpr (Wp.imp h fun p h => by
  obtain ⟨x, y, e, q⟩ := h
  rw [e]; exact wp_some.mpr q)
theorem wp_dn (h : Q (.r S.length) (S ++ [.dic []])) : Wp2 (eDN sl S) Q := wp_some.mpr h
theorem wp_dp {o i v : FE} (h : Wp2 (v sl S) fun p1 p2 => ∃ x, p1 = .d x ∧ Wp2 (o sl p2) fun q1 q2 => Wp2 (i sl q2) fun u1 u2 => ∃ y k, u1 = .d y ∧ keyD y = some k ∧ ∃ kvs, dicAt u2 q1 = some kvs ∧ kvs.length ≤ 100000 ∧ QS (.nx sl (setAt u2 q1 (.dic (putD kvs k x))))) : Wp (sDP o i v sl S) QS := wp_bind.mpr (Wp.imp h fun p h => by
  obtain ⟨x, e, h⟩ := h
  rw [e]
  refine wp_bind.mpr (Wp.imp h fun q h => wp_bind.mpr (Wp.imp h fun u h => ?_))
  obtain ⟨y, k, e1, e2, kvs, e3, e4, q⟩ := h
  rw [e1]
  refine wp_bind.mpr (wp_eq e2 (wp_bind.mpr (wp_eq e3 ?_)))
  rw [if_pos e4]; exact wp_some.mpr q)
theorem wp_join {o e : FE} (h : Wp2 (o sl S) fun p1 p2 => ∃ a, p1 = .d (.str a) ∧ Wp2 (e sl p2) fun q1 q2 => ∃ ys, gSeq q2 [q1] = some (ys.map .str) ∧ Wp (joinD a ys) fun d => Q (.d d) q2) : Wp2 (eJoin o e sl S) Q := wp_bind.mpr (Wp.imp h fun p h => by
  obtain ⟨a, e1, h⟩ := h
  rw [e1]
  refine wp_bind.mpr (Wp.imp h fun q h => ?_)
  obtain ⟨ys, e2, h⟩ := h
  exact wp_bind.mpr (wp_eq e2 (wp_bind.mpr (wp_eq (strsOf_map ys) (wp_map.mpr h)))))
theorem wp_viewd {QV : PyData → Prop} {x : PyData} (h : QV x) : Wp (view S (.d x)) QV := wp_some.mpr h
theorem wp_viewr {QV : PyData → Prop} {i : Nat} {xs : List PyData} (e : S[i]? = some (.lst xs)) (h : QV (.list xs)) : Wp (view S (.r i)) QV := wp_eq (r_viewr e) h
theorem wp_lat {QV : List PyData → Prop} {i : Nat} {xs : List PyData} (e : S[i]? = some (.lst xs)) (h : QV xs) : Wp (listAt S (.r i)) QV := wp_eq (r_listAt e) h
/-- an object that speaks of no later one -/
class NoN (o : MO) : Prop where
  h : ∀ n, o.inn n
instance {xs : List PyData} : NoN (.lst xs) := ⟨fun _ => trivial⟩
instance {xs : List (Key × PyData)} : NoN (.dic xs) := ⟨fun _ => trivial⟩
instance {xs : List (Str × W3)} : NoN (.rcd xs) := ⟨fun _ => trivial⟩
instance {xs : List (Key × PyData)} : NoN (.ldic xs) := ⟨fun _ => trivial⟩
instance : NoN .gone := ⟨fun _ => trivial⟩
/-- the store may be cut -/
class CutR (Se S : List MO) : Prop where
  h : cutRel Se S
instance {S : List MO} : CutR S S := ⟨fun i o hi e => .inr e⟩
instance CutR.set {Se S : List MO} {i : Nat} {o : MO} [c : CutR Se S] [n : NoN o] : CutR Se (S.set i o) := ⟨fun k u hk e => by
  by_cases z : i = k
  · subst z
    rw [List.getElem?_set] at e
    split at e
    · split at e
      · cases e; exact .inl (n.h _)
      · cases e
    · exact c.h _ _ hk e
  · rw [List.getElem?_set_ne z] at e
    exact c.h _ _ hk e⟩
instance {Se S : List MO} {w : W3} {o : MO} [c : CutR Se S] [n : NoN o] : CutR Se (setAt S w o) := by
  cases w with
  | r i => exact CutR.set (Se := Se) (S := S) (i := i) (o := o)
  | _ => exact c
instance {Se S : List MO} {k : Nat} [c : CutR Se S] : CutR Se (S.take k) := ⟨fun i o hi e => c.h i o hi (by
  by_cases z : i < k
  · rw [List.getElem?_take_of_lt z] at e; exact e
  · rw [List.getElem?_eq_none (by rw [List.length_take]; omega)] at e; cases e)⟩
instance {S : List MO} : CutR S [] := ⟨fun i o hi e => by simp at e⟩
instance CutR.app {Se S : List MO} {o : MO} [c : CutR Se S] [n : NoN o] : CutR Se (S ++ [o]) := ⟨fun i u hi e => by
  rcases get_snoc e with e | ⟨_, rfl⟩
  · exact c.h i u hi e
  · exact .inl (n.h _)⟩
instance CutR.app2 {Se S t : List MO} {o : MO} [c : CutR Se (S ++ [o] ++ t)] : CutR Se (S ++ (o :: t)) := by
  rw [show S ++ (o :: t) = S ++ [o] ++ t by simp]; exact c
instance CutR.app0 {Se S : List MO} [c : CutR Se S] : CutR Se (S ++ []) := by rw [List.append_nil]; exact c
theorem MO.inn_mono {o : MO} {n m : Nat} (h : o.inn n) (l : n ≤ m) : o.inn m := by
  cases o with
  | nls ws => exact fun j z => Nat.lt_of_lt_of_le (h j z) l
  | ndc ws => exact fun k j z => Nat.lt_of_lt_of_le (h k j z) l
  | ins n ws => exact fun k j z => Nat.lt_of_lt_of_le (h k j z) l
  | _ => trivial
instance CutR.cons {Se S : List MO} {o o' : MO} [c : CutR Se S] [n : NoN o] : CutR (o' :: Se) (o :: S) := ⟨fun i u hi e => by
  cases i with
  | zero => cases e; exact .inl (n.h _)
  | succ i =>
    rcases c.h i u (by simpa using hi) (by simpa using e) with h | h
    · exact .inl (MO.inn_mono h (by simp))
    · exact .inr (by simpa using h)⟩
theorem CutR.of_take {Se S : List MO} (h : S.take Se.length = Se) : CutR Se S := ⟨fun i o hi e => .inr (by
  rw [← h, List.getElem?_take_of_lt hi]; exact e)⟩
def retQ (own : Bool) (Se : List MO) (Q : W3 → List MO → Prop) : Out → Prop := fun o => Wp2 (ret3 own Se o) Q
theorem wp_fdef {own : Bool} {np nl : Nat} {body : FS} {ws : List W3} (hl : ws.length = np) (h : Wp (body (ws.map some ++ List.replicate nl none) S) (retQ own S Q)) : Wp2 (fdef own np nl body ws S) Q := by
  rw [r_fdef hl]
  exact wp_bind.mpr h
theorem rq_nx {own : Bool} {Se : List MO} [c : CutR Se S] (h : Q (.d .none) (S.take Se.length)) : retQ own Se Q (.nx sl S) := by
  have e2 : ret3 own Se (.nx sl S) = if cutRel Se S then some (.d .none, S.take Se.length) else none := rfl
  unfold retQ
  rw [e2, if_pos c.h]
  exact wp_some.mpr h
theorem rq_d {own : Bool} {Se : List MO} {x : PyData} [c : CutR Se S] (h : Q (.d x) (S.take Se.length)) : retQ own Se Q (.rt (.d x) S) := by
  have e2 : ret3 own Se (.rt (.d x) S) = if cutRel Se S then some (.d x, S.take Se.length) else none := rfl
  unfold retQ
  rw [e2, if_pos c.h]
  exact wp_some.mpr h
theorem rq_new {own : Bool} {Se : List MO} {i : Nat} {xs : List PyData} [c : CutR Se S] (hi : ¬ i < Se.length) (e : S[i]? = some (.lst xs)) (h : if own = true then Q (.r Se.length) (S.take Se.length ++ [.lst xs]) else Q (.d (.list xs)) (S.take Se.length)) : retQ own Se Q (.rt (.r i) S) := by
  have e2 : ret3 own Se (.rt (.r i) S) = if own = true then some (.r Se.length, S.take Se.length ++ [.lst xs]) else some (.d (.list xs), S.take Se.length) := by
    show (if i < Se.length then _ else _) = _
    rw [if_neg hi, e]
    dsimp only
    rw [if_pos c.h]
  unfold retQ
  rw [e2]
  cases own with
  | true => exact wp_some.mpr h
  | false => exact wp_some.mpr h
/-! ### operations on known things -/
variable {P : PyData → Prop} {PB : Bool → Prop}
theorem wp_addi {i j : Int} (h : P (.int (i + j))) : Wp (gAdd S (.d (.int i)) (.d (.int j))) P := wp_some.mpr h
theorem wp_sub {i j : Int} (h : P (.int (i - j))) : Wp (gSub S (.d (.int i)) (.d (.int j))) P := wp_eq r_sub h
theorem wp_mod {i j : Int} (hj : 0 < j) (h : P (.int (i % j))) : Wp (gMod S (.d (.int i)) (.d (.int j))) P := wp_eq (r_mod hj) h
theorem wp_fdiv {i j : Int} (hj : 0 < j ∧ j < 1073741824) (h : P (.int (i / j))) : Wp (gFdiv S (.d (.int i)) (.d (.int j))) P := wp_eq (r_fdiv hj.1 hj.2) h
theorem wp_mulr {i j : Int} (hj : -(2 ^ 64) < j ∧ j < 2 ^ 64) (h : P (.int (i * j))) : Wp (gMul S (.d (.int i)) (.d (.int j))) P := wp_eq (r_mulr hj.1 hj.2) h
theorem wp_mull {i j : Int} (hj : -(2 ^ 64) < i ∧ i < 2 ^ 64) (h : P (.int (i * j))) : Wp (gMul S (.d (.int i)) (.d (.int j))) P := wp_eq (r_mull hj.1 hj.2) h
theorem wp_pow {i j : Int} (hj : 0 ≤ j ∧ j ≤ 1000000 ∧ i.natAbs < 2 ^ 64) (h : P (.int (i ^ j.toNat))) : Wp (gPow S (.d (.int i)) (.d (.int j))) P := wp_eq (gI_ok (decide_eq_true hj)) h
theorem wp_int {i : Int} (h : P (.int i)) : Wp (g1 intD S [.d (.int i)]) P := wp_some.mpr h
theorem wp_abs {i : Int} (h : P (.int (if i < 0 then -i else i))) : Wp (g1 absD S [.d (.int i)]) P := wp_some.mpr h
theorem wp_str {i : Int} (hi : i.natAbs.log2 < 1920) (h : P (.str (toString i))) : Wp (g1 strD S [.d (.int i)]) P := by
  show Wp (if i.natAbs.log2 < 1920 then some (PyData.str (toString i)) else none) P
  rw [if_pos hi]; exact wp_some.mpr h
theorem wp_adds {i j : Str} (hl : i.length + j.length ≤ 100000) (h : P (.str (i ++ j))) : Wp (gAdd S (.d (.str i)) (.d (.str j))) P := by
  refine wp_eq (a := .str (i ++ j)) ?_ h
  show ((if i.length + j.length ≤ 100000 then some (PyData.str (i ++ j)) else none).or _) = _
  rw [if_pos hl]; rfl
theorem wp_addt {i j : List PyData} (hl : i.length + j.length ≤ 100000) (h : P (.tuple (i ++ j))) : Wp (gAdd S (.d (.tuple i)) (.d (.tuple j))) P := by
  refine wp_eq (a := .tuple (i ++ j)) ?_ h
  show ((if i.length + j.length ≤ 100000 then some (PyData.tuple (i ++ j)) else none).or _) = _
  rw [if_pos hl]; rfl
theorem wp_cat {x y : W3} {xs ys : List PyData} {QL : List PyData → Prop} (hx : viewL S x = some xs) (hy : viewL S y = some ys) (hl : xs.length + ys.length ≤ 100000) (h : QL (xs ++ ys)) : Wp (gCatL S x y) QL := by
  refine wp_eq (a := xs ++ ys) ?_ h
  unfold gCatL
  rw [hx, hy]
  show (if _ then _ else _) = _
  rw [if_pos hl]
theorem wp_addl {i j : List PyData} (hl : i.length + j.length ≤ 100000) (h : P (.list (i ++ j))) : Wp (gAdd S (.d (.list i)) (.d (.list j))) P := by
  refine wp_eq (a := .list (i ++ j)) ?_ h
  show ((gCatL S (.d (.list i)) (.d (.list j))).map PyData.list) = _
  obtain ⟨a, e, q⟩ := wp_cat (S := S) (x := .d (.list i)) (y := .d (.list j)) (QL := fun l => l = i ++ j) rfl rfl hl rfl
  rw [e, q]; rfl
theorem wp_ixd {xs : List PyData} {k : Int} {d : PyData} (e : atI xs k = some d) (h : P d) : Wp (gIx S (.d (.list xs)) (.d (.int k))) P := wp_eq e h
theorem wp_ixt {xs : List PyData} {k : Int} {d : PyData} (e : atI xs k = some d) (h : P d) : Wp (gIx S (.d (.tuple xs)) (.d (.int k))) P := wp_eq e h
theorem wp_ixr {i : Nat} {xs : List PyData} {k : Int} {d : PyData} (e0 : S[i]? = some (.lst xs)) (e : atI xs k = some d) (h : P d) : Wp (gIx S (.r i) (.d (.int k))) P := by
  refine wp_eq (a := d) ?_ h
  unfold gIx
  dsimp only
  rw [r_viewr e0]; exact e
theorem wp_lenl {xs : List PyData} (h : P (.int (xs.length : Nat))) : Wp (gLen S [.d (.list xs)]) P := wp_some.mpr h
theorem wp_lent {xs : List PyData} (h : P (.int (xs.length : Nat))) : Wp (gLen S [.d (.tuple xs)]) P := wp_some.mpr h
theorem wp_lensc {xs : List Int} (h : P (.int (xs.length : Nat))) : Wp (gLen S [.sc xs]) P := by
  rw [show xs.length = (xs.map PyData.int).length by rw [List.length_map]] at h
  exact wp_some.mpr h
theorem wp_lenr {i : Nat} {xs : List PyData} (e0 : S[i]? = some (.lst xs)) (h : P (.int (xs.length : Nat))) : Wp (gLen S [.r i]) P := by
  refine wp_eq (a := .int (xs.length : Nat)) ?_ h
  unfold gLen
  dsimp only
  rw [r_viewr e0]
theorem wp_glti {i j : Int} (h : PB (decide (i < j))) : Wp (gLt (.int i) (.int j)) PB := wp_eq (if_pos rfl) (by rw [W.dataLt_int]; exact h)
theorem wp_ggti {i j : Int} (h : PB (decide (j < i))) : Wp (gGt (.int i) (.int j)) PB := wp_eq (if_pos rfl) (by rw [W.dataLt_int]; exact h)
theorem wp_glei {i j : Int} (h : PB (decide (i ≤ j))) : Wp (gLe (.int i) (.int j)) PB := wp_eq (if_pos rfl) (by
  rw [W.dataLt_int]
  have : decide (i ≤ j) = !decide (j < i) := by by_cases c : i ≤ j <;> simp [c] <;> omega
  rw [← this]; exact h)
theorem wp_ggei {i j : Int} (h : PB (decide (j ≤ i))) : Wp (gGe (.int i) (.int j)) PB := wp_eq (if_pos rfl) (by
  rw [W.dataLt_int]
  have : decide (j ≤ i) = !decide (i < j) := by by_cases c : j ≤ i <;> simp [c] <;> omega
  rw [← this]; exact h)
theorem wp_glts {i j : Str} (h : PB (decide (i.cps.toList < j.cps.toList))) : Wp (gLt (.str i) (.str j)) PB := wp_eq (if_pos rfl) (by rw [W.dataLt_str]; exact h)
theorem wp_ggts {i j : Str} (h : PB (decide (j.cps.toList < i.cps.toList))) : Wp (gGt (.str i) (.str j)) PB := wp_eq (if_pos rfl) (by rw [W.dataLt_str]; exact h)
theorem wp_geq {a b : PyData} (c : a.depth ≤ 40 ∨ b.depth ≤ 40) (h : PB (PyData.eqv a b)) : Wp (gEq a b) PB := wp_eq (if_pos c) h
theorem wp_gne {a b : PyData} (c : a.depth ≤ 40 ∨ b.depth ≤ 40) (h : PB (!PyData.eqv a b)) : Wp (gNe a b) PB := wp_eq (if_pos c) h
theorem wp_geqi {i j : Int} (h : PB (i == j)) : Wp (gEq (.int i) (.int j)) PB := wp_geq (.inl (by show PyData.depth (.int i) ≤ 40; rw [PyData.depth]; decide)) h
theorem wp_gnei {i j : Int} (h : PB (!(i == j))) : Wp (gNe (.int i) (.int j)) PB := wp_gne (.inl (by show PyData.depth (.int i) ≤ 40; rw [PyData.depth]; decide)) h
theorem wp_gis {a b : PyData} (c : plainB b = true) (h : PB (isB a b)) : Wp (gIs a b) PB := wp_eq (if_pos c) h
theorem wp_gisn {a b : PyData} (c : plainB b = true) (h : PB (!isB a b)) : Wp (gIsN a b) PB := wp_eq (if_pos c) h
theorem wp_app {xs : List PyData} {x : PyData} {QM : PyData → List PyData → Prop} (hl : xs.length ≤ 100000) (h : QM .none (xs ++ [x])) : Wp2 (mApp xs [.d x]) QM := wp_eq (if_pos hl) h
theorem wp_popAt {xs : List PyData} {k : Int} {x : PyData} {QM : PyData → List PyData → Prop} (h0 : 0 ≤ k) (h1 : k < xs.length) (hl : xs.length ≤ 100000) (e : xs[k.toNat]? = some x) (h : QM x (xs.eraseIdx k.toNat)) : Wp2 (mPopAt xs [.d (.int k)]) QM := by
  unfold mPopAt
  dsimp only
  rw [if_pos ⟨h0, h1, hl⟩, e]
  exact wp_some.mpr h
theorem wp_trub {b : Bool} (h : PB b) : Wp (truW S (.d (.bool b))) PB := wp_some.mpr h
theorem wp_isi {x : PyData} {c : String} {b : Bool} (e : kitB (tyN x) c = some b) (h : P (.bool b)) : Wp (gIsi S [.d x, .ty c]) P := by
  refine wp_eq (a := .bool b) ?_ h
  show ((kitB (tyN x) c).map PyData.bool) = _
  rw [e]; rfl
theorem wp_tupl {xs : List PyData} (h : P (.tuple xs)) : Wp (gTupOf S [.d (.list xs)]) P := wp_some.mpr h
theorem wp_tupt {xs : List PyData} (h : P (.tuple xs)) : Wp (gTupOf S [.d (.tuple xs)]) P := wp_some.mpr h
theorem wp_tupr {i : Nat} {xs : List PyData} (e0 : S[i]? = some (.lst xs)) (h : P (.tuple xs)) : Wp (gTupOf S [.r i]) P := by
  refine wp_eq (a := .tuple xs) ?_ h
  unfold gTupOf
  dsimp only
  rw [r_viewr e0]
end
/-! ### loops -/
theorem get_set0 {S : List MO} {h : Nat} {o o' : MO} (e : S[h]? = some o) : (S.set h o')[h]? = some o' := List.getElem?_set_self (List.getElem?_eq_some_iff.mp e).1
def loopQ (I : Sl → List MO → Prop) (QS : Out → Prop) : Out → Prop
  | .nx sl S => I sl S
  | .ct sl S => I sl S
  | .bk sl S => QS (.nx sl S)
  | .rt w S => QS (.rt w S)
section
variable {I : Sl → List MO → Prop} {QS : Out → Prop} {sl : Sl} {S : List MO}
theorem lq_nx (h : I sl S) : loopQ I QS (.nx sl S) := h
theorem lq_ct (h : I sl S) : loopQ I QS (.ct sl S) := h
theorem lq_bk (h : QS (.nx sl S)) : loopQ I QS (.bk sl S) := h
theorem lq_rt {w : W3} (h : QS (.rt w S)) : loopQ I QS (.rt w S) := h
end
/-- a for loop by an invariant over the turns -/
theorem wp_loop {ok : List MO → Bool} {g : FG} {b : FS} {QS : Out → Prop} (Inv : Nat → Sl → List MO → Prop) : ∀ {ws : List W3} {n : Nat} {sl : Sl} {S : List MO}, Inv n sl S → (∀ i sl S, Inv i sl S → ok S = true) →
    (∀ i w sl S, ws[i - n]? = some w → n ≤ i → Inv i sl S → Wp2 (g w sl S) fun p1 p2 => Wp (b p1 p2) (loopQ (Inv (i + 1)) QS)) → (∀ sl S, Inv (n + ws.length) sl S → QS (.nx sl S)) → Wp (fLoop ok g b ws sl S) QS
  | [], n, sl, S, h0, hok, hs, he => by
    unfold fLoop
    rw [if_pos (hok _ _ _ h0)]
    exact wp_some.mpr (he sl S h0)
  | w :: ws, n, sl, S, h0, hok, hs, he => by
    unfold fLoop
    rw [if_pos (hok _ _ _ h0)]
    refine wp_bind.mpr (Wp.imp (hs n w sl S (by rw [Nat.sub_self]; rfl) (Nat.le_refl _) h0) fun p h => wp_bind.mpr (Wp.imp h fun o h => ?_))
    have go : ∀ {sl S}, Inv (n + 1) sl S → Wp (fLoop ok g b ws sl S) QS := fun {sl S} h1 => wp_loop Inv h1 hok (fun i w sl S e hi => hs i w sl S (by
      have : i - n = (i - (n + 1)) + 1 := by omega
      rw [this]; exact e) (by omega)) fun sl S h2 => he sl S (by rw [List.length_cons, show n + (ws.length + 1) = n + 1 + ws.length by omega]; exact h2)
    cases o with
    | nx sl S => exact go h
    | ct sl S => exact go h
    | bk sl S => exact wp_some.mpr h
    | rt w S => exact wp_some.mpr h
def DatW (w : W3) (K : PyData → Prop) : Prop := ∃ x, w = .d x ∧ K x
theorem datW_i {x : PyData} {K : PyData → Prop} (h : K x) : DatW (.d x) K := ⟨x, rfl, h⟩
theorem wp_ty3 {sl : Sl} {S : List MO} {QT : Bool → List MO → Prop} (h : QT true S) : Wp2 (tYes3 sl S) QT := wp_some.mpr h
theorem set_same {S : List MO} {h : Nat} {o : MO} (e : S[h]? = some o) : S.set h o = S := by
  apply List.ext_getElem?
  intro j
  by_cases z : h = j
  · subst z; rw [get_set0 e, e]
  · rw [List.getElem?_set_ne z]
/-- a comprehension whose turns keep the store in a state and give each a value -/
theorem wp_comp {ok : List MO → Bool} {g : FG} {t : FT} {e : FE} {sl : Sl} {QN : List PyData → List MO → Prop} (Inv : Nat → List PyData → List MO → Prop) : ∀ {ws : List W3} {n : Nat} {acc : List PyData} {S : List MO}, Inv n acc S → (∀ i acc S, Inv i acc S → ok S = true) →
    (∀ i w acc S, ws[i - n]? = some w → n ≤ i → Inv i acc S → Wp2 (g w sl S) fun p1 p2 => Wp2 (t p1 p2) fun c1 c2 => if c1 = true then Wp2 (e p1 c2) fun y1 y2 => DatW y1 fun x => Inv (i + 1) (acc ++ [x]) y2 else Inv (i + 1) acc c2) →
    (∀ ys S, Inv (n + ws.length) (acc ++ ys) S → QN ys S) → Wp2 (cLoop ok g t e sl ws S) QN
  | [], n, acc, S, h0, hok, hs, he => by
    unfold cLoop
    rw [if_pos (hok _ _ _ h0)]
    exact wp_some.mpr (he [] S (by rw [List.append_nil]; exact h0))
  | w :: ws, n, acc, S, h0, hok, hs, he => by
    unfold cLoop
    rw [if_pos (hok _ _ _ h0)]
    refine wp_bind.mpr (Wp.imp (hs n w acc S (by rw [Nat.sub_self]; rfl) (Nat.le_refl _) h0) fun p h => wp_bind.mpr (Wp.imp h fun c h => ?_))
    have go : ∀ {acc' S} {QN' : List PyData → List MO → Prop}, Inv (n + 1) acc' S → (∀ ys S, Inv (n + 1 + ws.length) (acc' ++ ys) S → QN' ys S) → Wp2 (cLoop ok g t e sl ws S) QN' := fun {acc' S QN'} h1 h2 => wp_comp Inv h1 hok (fun i w acc S e hi => hs i w acc S (by
      have : i - n = (i - (n + 1)) + 1 := by omega
      rw [this]; exact e) (by omega)) h2
    have en : n + (w :: ws).length = n + 1 + ws.length := by rw [List.length_cons]; omega
    rw [en] at he
    by_cases hc : c.1 = true
    · rw [if_pos hc] at h ⊢
      refine wp_bind.mpr (Wp.imp h fun y h => ?_)
      obtain ⟨x, e1, h1⟩ := h
      rw [e1]
      exact wp_map.mpr (go h1 fun ys S h2 => he (x :: ys) S (by rw [List.append_assoc] at h2; exact h2))
    · rw [if_neg hc] at h ⊢
      exact go h he
/-- a comprehension that leaves the store as it is -/
theorem wp_pure {ok : List MO → Bool} {g : FG} {t : FT} {e : FE} {sl : Sl} {S : List MO} {QN : List PyData → List MO → Prop} {ws : List W3} {α : Type} (xs : List α) (w : α → W3) (c : α → Bool) (v : α → PyData) (hws : ws = xs.map w) (hok : ok S = true)
    (hs : ∀ x ∈ xs, Wp2 (g (w x) sl S) fun p1 p2 => Wp2 (t p1 p2) fun b1 b2 => b1 = c x ∧ b2 = S ∧ (c x = true → Wp2 (e p1 S) fun y1 y2 => y1 = .d (v x) ∧ y2 = S)) (h : QN ((xs.filter c).map v) S) : Wp2 (cLoop ok g t e sl ws S) QN := by
  subst hws
  have main : ∀ xs : List α, (∀ x ∈ xs, Wp2 (g (w x) sl S) fun p1 p2 => Wp2 (t p1 p2) fun b1 b2 => b1 = c x ∧ b2 = S ∧ (c x = true → Wp2 (e p1 S) fun y1 y2 => y1 = .d (v x) ∧ y2 = S)) → cLoop ok g t e sl (xs.map w) S = some ((xs.filter c).map v, S) := by
    intro xs
    induction xs with
    | nil => intro _; show (if ok S = true then _ else _) = _; rw [if_pos hok]; rfl
    | cons x xs ih =>
      intro hs
      obtain ⟨p, e1, ⟨b1, b2⟩, e2, e3, e3', h3⟩ := hs x List.mem_cons_self
      dsimp only at e3 e3'
      subst e3 e3'
      have ih := ih fun y hy => hs y (List.mem_cons_of_mem _ hy)
      rw [List.map_cons]
      unfold cLoop
      rw [if_pos hok, e1]
      show (t p.1 p.2).bind _ = _
      rw [e2]
      show (if c x = true then _ else _) = _
      by_cases hc : c x = true
      · rw [if_pos hc, List.filter_cons_of_pos hc, List.map_cons]
        obtain ⟨⟨y1, y2⟩, e4, e5, e6⟩ := h3 hc
        dsimp only at e5 e6
        subst e5 e6
        show (e p.1 _).bind _ = _
        rw [e4]
        show (cLoop ok g t e sl (xs.map w) _).map _ = _
        rw [ih]; rfl
      · rw [if_neg hc, List.filter_cons_of_neg hc]
        exact ih
  exact wp_eq (main xs hs) h
theorem get_set {S : List MO} {h : Nat} {o o' : MO} (e : S[h]? = some o) : (S.set h o')[h]? = some o' := List.getElem?_set_self (List.getElem?_eq_some_iff.mp e).1
theorem take_set {S : List MO} {h : Nat} {o : MO} : (S.set h o).take S.length = S.set h o := List.take_of_length_le (by rw [List.length_set]; exact Nat.le_refl _)
theorem take_app {S l : List MO} : (S ++ l).take S.length = S := by rw [List.take_append_of_le_length (Nat.le_refl _), List.take_length]
theorem rq_dt {own : Bool} {Se : List MO} {x : PyData} {S S2 : List MO} {Q : W3 → List MO → Prop} [CutR Se S] (e : S.take Se.length = S2) (h : Q (.d x) S2) : retQ own Se Q (.rt (.d x) S) := rq_d (by rw [e]; exact h)
theorem rq_nxt {own : Bool} {Se : List MO} {sl : Sl} {S S2 : List MO} {Q : W3 → List MO → Prop} [CutR Se S] (e : S.take Se.length = S2) (h : Q (.d .none) S2) : retQ own Se Q (.nx sl S) := rq_nx (by rw [e]; exact h)
theorem set_app {S l : List MO} {h : Nat} {o u : MO} (e : S[h]? = some u) : (S ++ l).set h o = S.set h o ++ l := List.set_append_left _ _ (List.getElem?_eq_some_iff.mp e).1
theorem get_app {S l : List MO} {h : Nat} {u : MO} (e : S[h]? = some u) : (S ++ l)[h]? = some u := by rw [List.getElem?_append_left (List.getElem?_eq_some_iff.mp e).1]; exact e
theorem get_last {S : List MO} {u : MO} : (S ++ [u])[S.length]? = some u := by rw [List.getElem?_append_right (Nat.le_refl _), Nat.sub_self]; rfl
theorem set_last {S : List MO} {u o : MO} : (S ++ [u]).set S.length o = S ++ [o] := by rw [List.set_append_right _ _ (Nat.le_refl _), Nat.sub_self]; rfl
section
variable {sl : Sl} {S : List MO} {Q : W3 → List MO → Prop} {QG : Sl → List MO → Prop}
def AtSet (p q : W3) (S : List MO) (x : PyData) (K : List MO → Prop) : Prop := ∃ h k xs j, p = .r h ∧ q = .d (.int k) ∧ S[h]? = some (.lst xs) ∧ ixN xs.length k = some j ∧ K (S.set h (.lst (xs.set j x)))
theorem atSet_i {S : List MO} {x : PyData} {K : List MO → Prop} {h j : Nat} {k : Int} {xs : List PyData} (e1 : S[h]? = some (.lst xs)) (e2 : ixN xs.length k = some j) (q : K (S.set h (.lst (xs.set j x)))) : AtSet (.r h) (.d (.int k)) S x K := ⟨h, k, xs, j, rfl, rfl, e1, e2, q⟩
theorem wp_gs {o i : FE} {x : PyData} (h : Wp2 (o sl S) fun p1 p2 => Wp2 (i sl p2) fun q1 q2 => AtSet p1 q1 q2 x (QG sl)) : Wp2 (gSubL o i (.d x) sl S) QG :=
  wp_gsub (h.imp fun p1 p2 h => h.imp fun q1 q2 ⟨h, k, xs, j, e1, e2, e3, e4, q⟩ => ⟨k, e2, wp_eq (by rw [e1]; exact r_listAt e3) (wp_eq e4 (by rw [e1]; exact q))⟩)
def AtLst (p : W3) (S : List MO) (K : Nat → Prop) : Prop := ∃ h x0, p = .r h ∧ S[h]? = some (.lst x0) ∧ K h
def NowLst (h : Nat) (S : List MO) (K : List PyData → Prop) : Prop := ∃ xs, S[h]? = some (.lst xs) ∧ K xs
theorem atLst_i {h : Nat} {S : List MO} {K : Nat → Prop} {xs : List PyData} (e : S[h]? = some (.lst xs)) (q : K h) : AtLst (.r h) S K := ⟨h, xs, rfl, e, q⟩
theorem nowLst_i {h : Nat} {S : List MO} {K : List PyData → Prop} {xs : List PyData} (e : S[h]? = some (.lst xs)) (q : K xs) : NowLst h S K := ⟨xs, e, q⟩
theorem wp_me {g : GM} {o : FE} {a : FA} (h : Wp2 (o sl S) fun p1 p2 => AtLst p1 p2 fun h => Wp2 (a sl p2) fun q1 q2 => NowLst h q2 fun xs => Wp2 (g xs q1) fun z1 z2 => Q (.d z1) (q2.set h (.lst z2))) : Wp2 (eM g o a sl S) Q :=
  wp_m (h.imp fun p1 p2 ⟨h, x0, e1, e2, hh⟩ => ⟨x0, by rw [e1]; exact r_listAt e2, hh.imp fun q1 q2 ⟨xs, e3, q⟩ => wp_eq (by rw [e1]; exact r_listAt e3) (q.imp fun z1 z2 q => by rw [e1]; exact q)⟩)
end
theorem take_set2 {S : List MO} {h : Nat} {a b : MO} : ((S.set h a).set h b).take S.length = S.set h b := by rw [List.set_set, take_set]
theorem take_set3 {S : List MO} {h : Nat} {a b c : MO} : (((S.set h a).set h b).set h c).take S.length = S.set h c := by rw [List.set_set, List.set_set, take_set]
theorem take_aset {S l : List MO} {o : MO} : ((S ++ [o]).set S.length o).take S.length = S := by rw [set_last, take_app]
/-- what is walked: a list, a tuple -/
def SeqW (S : List MO) (w : W3) (K : It3 → Prop) : Prop := ∃ x xs, view S w = some x ∧ (x = .list xs ∨ x = .tuple xs) ∧ K ⟨xs.map .d, seqOk w x⟩
section
variable {S : List MO} {K : It3 → Prop} {xs : List PyData} {QL : List PyData → Prop}
theorem sq_l (h : K ⟨xs.map .d, yes⟩) : SeqW S (.d (.list xs)) K := ⟨_, xs, rfl, .inl rfl, h⟩
theorem sq_t (h : K ⟨xs.map .d, yes⟩) : SeqW S (.d (.tuple xs)) K := ⟨_, xs, rfl, .inr rfl, h⟩
theorem sq_sc {ns : List Int} (h : K ⟨(ns.map PyData.int).map .d, yes⟩) : SeqW S (.sc ns) K := ⟨_, _, rfl, .inl rfl, h⟩
theorem sq_r {i : Nat} (e : S[i]? = some (.lst xs)) (h : K ⟨xs.map .d, seqOk (.r i) (.list xs)⟩) : SeqW S (.r i) K := ⟨_, xs, r_viewr e, .inl rfl, h⟩
theorem seqOk_r {i : Nat} (e : S[i]? = some (.lst xs)) : seqOk (.r i) (.list xs) S = true := by simp [seqOk, r_viewr e]
theorem wp_sq {sl : Sl} {f : FE} {QI : It3 → List MO → Prop} (h : Wp2 (f sl S) fun p1 p2 => SeqW p2 p1 fun j => QI j p2) : Wp2 (iSq f sl S) QI := wp_isq h
theorem wp_l3l (h : QL xs) : Wp (gLst3 S [.d (.list xs)]) QL := wp_eq rfl h
theorem wp_l3t (h : QL xs) : Wp (gLst3 S [.d (.tuple xs)]) QL := wp_eq rfl h
theorem wp_l3r {i : Nat} (e : S[i]? = some (.lst xs)) (h : QL xs) : Wp (gLst3 S [.r i]) QL := by
  refine wp_eq (a := xs) ?_ h
  unfold gLst3 gSeq
  dsimp only
  rw [r_viewr e]; rfl
def Rng1 (p : List W3) (K : It3 → Prop) : Prop := ∃ j : Int, p = [.d (.int j)] ∧ (-(2 ^ 62) ≤ j ∧ j < 2 ^ 62) ∧ K ⟨intsW 0 j.toNat, yes⟩
def Rng2 (p : List W3) (K : It3 → Prop) : Prop := ∃ i j : Int, p = [.d (.int i), .d (.int j)] ∧ (-(2 ^ 62) ≤ i ∧ i < 2 ^ 62 ∧ -(2 ^ 62) ≤ j ∧ j < 2 ^ 62) ∧ K ⟨intsW i (j - i).toNat, yes⟩
theorem rng1_i {j : Int} (e : -(2 ^ 62) ≤ j ∧ j < 2 ^ 62) (h : K ⟨intsW 0 j.toNat, yes⟩) : Rng1 [.d (.int j)] K := ⟨j, rfl, e, h⟩
theorem rng2_i {i j : Int} (e : -(2 ^ 62) ≤ i ∧ i < 2 ^ 62 ∧ -(2 ^ 62) ≤ j ∧ j < 2 ^ 62) (h : K ⟨intsW i (j - i).toNat, yes⟩) : Rng2 [.d (.int i), .d (.int j)] K := ⟨i, j, rfl, e, h⟩
theorem wp_r1 {sl : Sl} {f : FA} {QI : It3 → List MO → Prop} (h : Wp2 (f sl S) fun p1 p2 => Rng1 p1 fun j => QI j p2) : Wp2 (iR1 f sl S) QI := wp_ir1 h
theorem wp_r2 {sl : Sl} {f : FA} {QI : It3 → List MO → Prop} (h : Wp2 (f sl S) fun p1 p2 => Rng2 p1 fun j => QI j p2) : Wp2 (iR2 f sl S) QI := wp_ir2 h
theorem intsW_len {lo : Int} {n : Nat} : (intsW lo n).length = n := by unfold intsW; rw [List.length_map, List.length_range]
/-- an int, a truth as it is told -/
def IntW (w : W3) (K : Int → Prop) : Prop := ∃ i, w = .d (.int i) ∧ K i
theorem intW_i {i : Int} {K : Int → Prop} (h : K i) : IntW (.d (.int i)) K := ⟨i, rfl, h⟩
theorem wp_os {sl : Sl} {f : FE} {QO : Option Int → List MO → Prop} (h : Wp2 (f sl S) fun p1 p2 => IntW p1 fun i => QO (some i) p2) : Wp2 (oSome f sl S) QO := wp_osome h
def BoolW (w : W3) (K : Bool → Prop) : Prop := ∃ c, w = .d (.bool c) ∧ K c
theorem boolW_i {c : Bool} {K : Bool → Prop} (h : K c) : BoolW (.d (.bool c)) K := ⟨c, rfl, h⟩
theorem wp_an {sl : Sl} {f g : FE} {Q : W3 → List MO → Prop} (h : Wp2 (f sl S) fun p1 p2 => BoolW p1 fun c => if c = true then Wp2 (g sl p2) Q else Q (.d (.bool false)) p2) : Wp2 (eAn f g sl S) Q := wp_ean h
theorem wp_or {sl : Sl} {f g : FE} {Q : W3 → List MO → Prop} (h : Wp2 (f sl S) fun p1 p2 => BoolW p1 fun c => if c = true then Q (.d (.bool true)) p2 else Wp2 (g sl p2) Q) : Wp2 (eOr f g sl S) Q := wp_eor h
def PairW (p : List W3) (K : W3 → W3 → Prop) : Prop := ∃ x y, p = [x, y] ∧ K x y
theorem pairW_i {x y : W3} {K : W3 → W3 → Prop} (h : K x y) : PairW [x, y] K := ⟨x, y, rfl, h⟩
theorem wp_pr {sl : Sl} {i j : Nat} {f : FA} {QS : Out → Prop} (h : Wp2 (f sl S) fun p1 p2 => PairW p1 fun x y => QS (.nx ((sl.set i (some x)).set j (some y)) p2)) : Wp (sPar i j f sl S) QS := wp_par h
end
def frzO (S : List MO) : W3 → Option (W3 × List MO)
  | .r i => match S[i]? with
    | some (.lst xs) => some (W3.d (.list xs), S.set i .gone)
    | _ => none
  | w => some (w, S)
section
variable {sl : Sl} {S : List MO} {Q : W3 → List MO → Prop}
theorem wp_fz {f : FE} (h : Wp2 (f sl S) fun p1 p2 => Wp2 (frzO p2 p1) Q) : Wp2 (eFrz f sl S) Q := wp_frz h
theorem fz_r {i : Nat} {xs : List PyData} (e : S[i]? = some (.lst xs)) (q : Q (.d (.list xs)) (S.set i .gone)) : Wp2 (frzO S (.r i)) Q := wp_frzr e q
theorem fz_d {x : PyData} (q : Q (.d x) S) : Wp2 (frzO S (.d x)) Q := wp2_some q
/-- a list made here is handed back -/
theorem rq_own {S0 Se : List MO} {ds : List PyData} [CutR Se S] (e : S.take Se.length = S0) (hn : Se.length ≤ S.length) (q : Q (.r Se.length) (S0 ++ [.lst ds])) : retQ true Se Q (.rt (.r S.length) (S ++ [.lst ds])) := by
  refine rq_new (xs := ds) (by omega) get_last ?_
  rw [if_pos rfl, List.take_append_of_le_length hn, e]
  exact q
end
theorem take_setapp {S l : List MO} {h : Nat} {o : MO} : (S.set h o ++ l).take S.length = S.set h o := by
  rw [List.take_append_of_le_length (by rw [List.length_set]; exact Nat.le_refl _), take_set]
theorem get_setapp {S l : List MO} {h : Nat} {o u : MO} (e : S[h]? = some u) : (S.set h o ++ l)[h]? = some o := get_app (get_set e)
theorem get_setlast {S : List MO} {h : Nat} {o u : MO} : (S.set h o ++ [u])[S.length]? = some u := by
  have := get_last (S := S.set h o) (u := u)
  rwa [List.length_set] at this
theorem set_setlast {S : List MO} {h : Nat} {o u u' : MO} : (S.set h o ++ [u]).set S.length u' = S.set h o ++ [u'] := by
  have := set_last (S := S.set h o) (u := u) (o := u')
  rwa [List.length_set] at this
theorem set_setapp {S l : List MO} {h : Nat} {o o' u : MO} (e : S[h]? = some u) : (S.set h o ++ l).set h o' = S.set h o' ++ l := by rw [set_app (get_set e), List.set_set]
section
variable {S : List MO} {P : PyData → Prop} {c : String} {r : Bool}
theorem isi_b {b : Bool} (e : kitB "bool" c = some r) (h : P (.bool r)) : Wp (gIsi S [.d (.bool b), .ty c]) P := wp_isi e h
theorem isi_i {b : Int} (e : kitB "int" c = some r) (h : P (.bool r)) : Wp (gIsi S [.d (.int b), .ty c]) P := wp_isi e h
theorem isi_s {b : Str} (e : kitB "str" c = some r) (h : P (.bool r)) : Wp (gIsi S [.d (.str b), .ty c]) P := wp_isi e h
theorem isi_n (e : kitB "NoneType" c = some r) (h : P (.bool r)) : Wp (gIsi S [.d .none, .ty c]) P := wp_isi e h
theorem isi_t {xs : List PyData} (e : kitB "tuple" c = some r) (h : P (.bool r)) : Wp (gIsi S [.d (.tuple xs), .ty c]) P := wp_isi e h
theorem isi_l {xs : List PyData} (e : kitB "list" c = some r) (h : P (.bool r)) : Wp (gIsi S [.d (.list xs), .ty c]) P := wp_isi e h
end
theorem atI_cons0 {α : Type} {x : α} {xs : List α} : atI (x :: xs) 0 = some x := by
  have : atI (x :: xs) ((0 : Nat) : Int) = some x := atI_nat rfl
  exact this
theorem atI_map0 {α β : Type} {f : α → β} {x : α} {xs : List α} : atI ((x :: xs).map f) 0 = some (f x) := atI_cons0
theorem atI_nat' {α : Type} {xs : List α} {k : Int} {x : α} (h0 : 0 ≤ k) (e : xs[k.toNat]? = some x) : atI xs k = some x := atI_of h0 e
section
variable {PB : Bool → Prop}
theorem is_bt_bt (h : PB true) : Wp (gIs (.bool true) (.bool true)) PB := wp_gis rfl h
theorem isn_bt_bt (h : PB false) : Wp (gIsN (.bool true) (.bool true)) PB := wp_gisn rfl h
theorem is_bt_bf (h : PB false) : Wp (gIs (.bool true) (.bool false)) PB := wp_gis rfl h
theorem isn_bt_bf (h : PB true) : Wp (gIsN (.bool true) (.bool false)) PB := wp_gisn rfl h
theorem is_bt_n (h : PB false) : Wp (gIs (.bool true) .none) PB := wp_gis rfl h
theorem isn_bt_n (h : PB true) : Wp (gIsN (.bool true) .none) PB := wp_gisn rfl h
theorem is_bf_bt (h : PB false) : Wp (gIs (.bool false) (.bool true)) PB := wp_gis rfl h
theorem isn_bf_bt (h : PB true) : Wp (gIsN (.bool false) (.bool true)) PB := wp_gisn rfl h
theorem is_bf_bf (h : PB true) : Wp (gIs (.bool false) (.bool false)) PB := wp_gis rfl h
theorem isn_bf_bf (h : PB false) : Wp (gIsN (.bool false) (.bool false)) PB := wp_gisn rfl h
theorem is_bf_n (h : PB false) : Wp (gIs (.bool false) .none) PB := wp_gis rfl h
theorem isn_bf_n (h : PB true) : Wp (gIsN (.bool false) .none) PB := wp_gisn rfl h
theorem is_n_bt (h : PB false) : Wp (gIs .none (.bool true)) PB := wp_gis rfl h
theorem isn_n_bt (h : PB true) : Wp (gIsN .none (.bool true)) PB := wp_gisn rfl h
theorem is_n_bf (h : PB false) : Wp (gIs .none (.bool false)) PB := wp_gis rfl h
theorem isn_n_bf (h : PB true) : Wp (gIsN .none (.bool false)) PB := wp_gisn rfl h
theorem is_n_n (h : PB true) : Wp (gIs .none .none) PB := wp_gis rfl h
theorem isn_n_n (h : PB false) : Wp (gIsN .none .none) PB := wp_gisn rfl h
theorem is_t_bt {xs : List PyData} (h : PB false) : Wp (gIs (.tuple xs) (.bool true)) PB := wp_gis rfl h
theorem isn_t_bt {xs : List PyData} (h : PB true) : Wp (gIsN (.tuple xs) (.bool true)) PB := wp_gisn rfl h
theorem is_t_bf {xs : List PyData} (h : PB false) : Wp (gIs (.tuple xs) (.bool false)) PB := wp_gis rfl h
theorem isn_t_bf {xs : List PyData} (h : PB true) : Wp (gIsN (.tuple xs) (.bool false)) PB := wp_gisn rfl h
theorem is_t_n {xs : List PyData} (h : PB false) : Wp (gIs (.tuple xs) .none) PB := wp_gis rfl h
theorem isn_t_n {xs : List PyData} (h : PB true) : Wp (gIsN (.tuple xs) .none) PB := wp_gisn rfl h
theorem is_l_bt {xs : List PyData} (h : PB false) : Wp (gIs (.list xs) (.bool true)) PB := wp_gis rfl h
theorem isn_l_bt {xs : List PyData} (h : PB true) : Wp (gIsN (.list xs) (.bool true)) PB := wp_gisn rfl h
theorem is_l_bf {xs : List PyData} (h : PB false) : Wp (gIs (.list xs) (.bool false)) PB := wp_gis rfl h
theorem isn_l_bf {xs : List PyData} (h : PB true) : Wp (gIsN (.list xs) (.bool false)) PB := wp_gisn rfl h
theorem is_l_n {xs : List PyData} (h : PB false) : Wp (gIs (.list xs) .none) PB := wp_gis rfl h
theorem isn_l_n {xs : List PyData} (h : PB true) : Wp (gIsN (.list xs) .none) PB := wp_gisn rfl h
theorem is_i_bt {i : Int} (h : PB false) : Wp (gIs (.int i) (.bool true)) PB := wp_gis rfl h
theorem isn_i_bt {i : Int} (h : PB true) : Wp (gIsN (.int i) (.bool true)) PB := wp_gisn rfl h
theorem is_i_bf {i : Int} (h : PB false) : Wp (gIs (.int i) (.bool false)) PB := wp_gis rfl h
theorem isn_i_bf {i : Int} (h : PB true) : Wp (gIsN (.int i) (.bool false)) PB := wp_gisn rfl h
theorem is_i_n {i : Int} (h : PB false) : Wp (gIs (.int i) .none) PB := wp_gis rfl h
theorem isn_i_n {i : Int} (h : PB true) : Wp (gIsN (.int i) .none) PB := wp_gisn rfl h
theorem is_s_bt {x : Str} (h : PB false) : Wp (gIs (.str x) (.bool true)) PB := wp_gis rfl h
theorem isn_s_bt {x : Str} (h : PB true) : Wp (gIsN (.str x) (.bool true)) PB := wp_gisn rfl h
theorem is_s_bf {x : Str} (h : PB false) : Wp (gIs (.str x) (.bool false)) PB := wp_gis rfl h
theorem isn_s_bf {x : Str} (h : PB true) : Wp (gIsN (.str x) (.bool false)) PB := wp_gisn rfl h
theorem is_s_n {x : Str} (h : PB false) : Wp (gIs (.str x) .none) PB := wp_gis rfl h
theorem isn_s_n {x : Str} (h : PB true) : Wp (gIsN (.str x) .none) PB := wp_gisn rfl h
end
/-! ### steps: the rules with one premise, found by their conclusion -/
class Step (G : Prop) (N : outParam Prop) : Prop where
  of : N → G
theorem step_of {G N : Prop} [h : Step G N] (n : N) : G := h.of n
section
variable {sl : Sl} {S : List MO} {Q : W3 → List MO → Prop} {QA : List W3 → List MO → Prop} {QT : Bool → List MO → Prop} {QS : Out → Prop} {QN : List PyData → List MO → Prop} {QO : Option Int → List MO → Prop} {QG : Sl → List MO → Prop} {QI : It3 → List MO → Prop} {P : PyData → Prop} {PB : Bool → Prop} {I : Sl → List MO → Prop} {K : It3 → Prop} {xs : List PyData} {QL : List PyData → Prop}
instance st_wp_d {x : PyData} : Step (Wp2 (eD x sl S) Q) (Q (.d x) S) := ⟨wp_d⟩
instance st_wp_cons {e : FE} {r : FA} : Step (Wp2 (aCons e r sl S) QA) (Wp2 (e sl S) fun p1 p2 => Wp2 (r sl p2) fun q1 q2 => QA (p1 :: q1) q2) := ⟨wp_cons⟩
instance st_wp_nil  : Step (Wp2 (aNil sl S) QA) (QA [] S) := ⟨wp_nil⟩
instance st_wp_op {g : GO} {a b : FE} : Step (Wp2 (eOp g a b sl S) Q) (Wp2 (a sl S) fun p1 p2 => Wp2 (b sl p2) fun q1 q2 => Wp (g q2 p1 q1) fun d => Q (.d d) q2) := ⟨wp_op⟩
instance st_wp_tcmp {g : GB} {a b : FE} : Step (Wp2 (tCmp g a b sl S) QT) (Wp2 (a sl S) fun p1 p2 => Wp2 (b sl p2) fun q1 q2 => Wp (view q2 p1) fun x => Wp (view q2 q1) fun y => Wp (g x y) fun c => QT c q2) := ⟨wp_tcmp⟩
instance st_wp_call {f : F3} {a : FA} : Step (Wp2 (eCall f a sl S) Q) (Wp2 (a sl S) fun p1 p2 => Wp2 (f p1 p2) Q) := ⟨wp_call⟩
instance st_intW_i {i : Int} {K : Int → Prop} : Step (IntW (.d (.int i)) K) (K i) := ⟨intW_i⟩
instance st_datW_i {x : PyData} {K : PyData → Prop} : Step (DatW (.d x) K) (K x) := ⟨datW_i⟩
instance st_wp_seq {f g : FS} : Step (Wp (sSeq f g sl S) QS) (Wp (f sl S) (then3 g QS)) := ⟨wp_seq⟩
instance st_th_nx {g : FS} : Step (then3 g QS (.nx sl S)) (Wp (g sl S) QS) := ⟨th_nx⟩
instance st_th_rt {g : FS} {w : W3} : Step (then3 g QS (.rt w S)) (QS (.rt w S)) := ⟨th_rt⟩
instance st_th_bk {g : FS} : Step (then3 g QS (.bk sl S)) (QS (.bk sl S)) := ⟨th_bk⟩
instance st_th_ct {g : FS} : Step (then3 g QS (.ct sl S)) (QS (.ct sl S)) := ⟨th_ct⟩
instance st_wp_set {i : Nat} {f : FE} : Step (Wp (sSet i f sl S) QS) (Wp2 (f sl S) fun p1 p2 => QS (.nx (sl.set i (some p1)) p2)) := ⟨wp_set⟩
instance st_wp_ex {f : FE} : Step (Wp (sEx f sl S) QS) (Wp2 (f sl S) fun p1 p2 => QS (.nx sl p2)) := ⟨wp_ex⟩
instance st_wp_rt {f : FE} : Step (Wp (sRt f sl S) QS) (Wp2 (f sl S) fun p1 p2 => QS (.rt p1 p2)) := ⟨wp_rt⟩
instance st_wp_rtn  : Step (Wp (sRtN sl S) QS) (QS (.rt (.d .none) S)) := ⟨wp_rtn⟩
instance st_wp_sif {t : FT} {a b : FS} : Step (Wp (sIf t a b sl S) QS) (Wp2 (t sl S) fun p1 p2 => if p1 = true then Wp (a sl p2) QS else Wp (b sl p2) QS) := ⟨wp_sif⟩
instance st_wp_asg {f : FE} {g : FG} : Step (Wp (sAsg f g sl S) QS) (Wp2 (f sl S) fun p1 p2 => Wp2 (g p1 sl p2) fun q1 q2 => QS (.nx q1 q2)) := ⟨wp_asg⟩
instance st_wp_for {it : FI} {g : FG} {b : FS} : Step (Wp (sFor it g b sl S) QS) (Wp2 (it sl S) fun p1 p2 => Wp (fLoop p1.ok g b p1.ws sl p2) QS) := ⟨wp_for⟩
instance st_wp_pr {sl : Sl} {i j : Nat} {f : FA} {QS : Out → Prop} : Step (Wp (sPar i j f sl S) QS) (Wp2 (f sl S) fun p1 p2 => PairW p1 fun x y => QS (.nx ((sl.set i (some x)).set j (some y)) p2)) := ⟨wp_pr⟩
instance st_pairW_i {x y : W3} {K : W3 → W3 → Prop} : Step (PairW [x, y] K) (K x y) := ⟨pairW_i⟩
instance st_lq_nx  : Step (loopQ I QS (.nx sl S)) (I sl S) := ⟨lq_nx⟩
instance st_lq_ct  : Step (loopQ I QS (.ct sl S)) (I sl S) := ⟨lq_ct⟩
instance st_lq_bk  : Step (loopQ I QS (.bk sl S)) (QS (.nx sl S)) := ⟨lq_bk⟩
instance st_lq_rt {w : W3} : Step (loopQ I QS (.rt w S)) (QS (.rt w S)) := ⟨lq_rt⟩
instance st_wp_dp {o i v : FE} : Step (Wp (sDP o i v sl S) QS) (Wp2 (v sl S) fun p1 p2 => ∃ x, p1 = .d x ∧ Wp2 (o sl p2) fun q1 q2 => Wp2 (i sl q2) fun u1 u2 => ∃ y k, u1 = .d y ∧ keyD y = some k ∧ ∃ kvs, dicAt u2 q1 = some kvs ∧ kvs.length ≤ 100000 ∧ QS (.nx sl (setAt u2 q1 (.dic (putD kvs k x))))) := ⟨wp_dp⟩
instance st_wp_nx  : Step (Wp (sNx sl S) QS) (QS (.nx sl S)) := ⟨wp_nx⟩
instance st_wp_bk  : Step (Wp (sBk sl S) QS) (QS (.bk sl S)) := ⟨wp_bk⟩
instance st_wp_ct  : Step (Wp (sCt sl S) QS) (QS (.ct sl S)) := ⟨wp_ct⟩
instance st_wp_ty {n : String} : Step (Wp2 (eTy n sl S) Q) (Q (.ty n) S) := ⟨wp_ty⟩
instance st_wp_fz {f : FE} : Step (Wp2 (eFrz f sl S) Q) (Wp2 (f sl S) fun p1 p2 => Wp2 (frzO p2 p1) Q) := ⟨wp_fz⟩
instance st_fz_d {x : PyData} : Step (Wp2 (frzO S (.d x)) Q) (Q (.d x) S) := ⟨fz_d⟩
instance st_wp_tup {a : FA} : Step (Wp2 (eTup a sl S) Q) (Wp2 (a sl S) fun p1 p2 => Wp (dsOf p1) fun ds => Q (.d (.tuple ds)) p2) := ⟨wp_tup⟩
instance st_wp_nlst {a : FA} : Step (Wp2 (nLst a sl S) QN) (Wp2 (a sl S) fun p1 p2 => Wp (dsOf p1) fun ds => QN ds p2) := ⟨wp_nlst⟩
instance st_wp_ds0 {Q : List PyData → Prop} : Step (Wp (dsOf []) Q) (Q []) := ⟨wp_ds0⟩
instance st_wp_ds1 {Q : List PyData → Prop} {x : PyData} {r : List W3} : Step (Wp (dsOf (.d x :: r)) Q) (Wp (dsOf r) fun ds => Q (x :: ds)) := ⟨wp_ds1⟩
instance st_wp_nd {n : FN} : Step (Wp2 (eNd n sl S) Q) (Wp2 (n sl S) fun p1 p2 => Q (.d (.list p1)) p2) := ⟨wp_nd⟩
instance st_wp_no {n : FN} : Step (Wp2 (eNo n sl S) Q) (Wp2 (n sl S) fun p1 p2 => Q (.r p2.length) (p2 ++ [.lst p1])) := ⟨wp_no⟩
instance st_wp_gnm {i : Nat} {w : W3} : Step (Wp2 (gNm i w sl S) QG) (QG (sl.set i (some w)) S) := ⟨wp_gnm⟩
instance st_wp_gtp {r : List PyData → Sl → List MO → Option (Sl × List MO)} {xs : List PyData} : Step (Wp2 (gTp r (.d (.tuple xs)) sl S) QG) (Wp2 (r xs sl S) QG) := ⟨wp_gtp⟩
instance st_wp_gsn  : Step (Wp2 (gsNil [] sl S) QG) (QG sl S) := ⟨wp_gsn⟩
instance st_wp_gsc {g : FG} {r : List PyData → Sl → List MO → Option (Sl × List MO)} {x : PyData} {xs : List PyData} : Step (Wp2 (gsCons g r (x :: xs) sl S) QG) (Wp2 (g (.d x) sl S) fun p1 p2 => Wp2 (r xs p1 p2) QG) := ⟨wp_gsc⟩
instance st_wp_gs {o i : FE} {x : PyData} : Step (Wp2 (gSubL o i (.d x) sl S) QG) (Wp2 (o sl S) fun p1 p2 => Wp2 (i sl p2) fun q1 q2 => AtSet p1 q1 q2 x (QG sl)) := ⟨wp_gs⟩
instance st_wp_ty3 {sl : Sl} {S : List MO} {QT : Bool → List MO → Prop} : Step (Wp2 (tYes3 sl S) QT) (QT true S) := ⟨wp_ty3⟩
instance st_wp_lc {own : List Nat} {it : FI} {g : FG} {t : FT} {e : FE} : Step (Wp2 (nLc own it g t e sl S) QN) (Wp2 (it sl S) fun p1 p2 => p1.ws.length ≤ 100000 ∧ Wp2 (cLoop p1.ok g t e (wipe3 sl own) p1.ws p2) QN) := ⟨wp_lc⟩
instance st_wp_ecmp {g : GB} {a b : FE} : Step (Wp2 (eCmp g a b sl S) Q) (Wp2 (a sl S) fun p1 p2 => Wp2 (b sl p2) fun q1 q2 => Wp (view q2 p1) fun x => Wp (view q2 q1) fun y => Wp (g x y) fun c => Q (.d (.bool c)) q2) := ⟨wp_ecmp⟩
instance st_wp_ttr {f : FE} : Step (Wp2 (tTr f sl S) QT) (Wp2 (f sl S) fun p1 p2 => Wp (truW p2 p1) fun b => QT b p2) := ⟨wp_ttr⟩
instance st_wp_not {f : FE} : Step (Wp2 (eNot f sl S) Q) (Wp2 (f sl S) fun p1 p2 => Wp (truW p2 p1) fun b => Q (.d (.bool (!b))) p2) := ⟨wp_not⟩
instance st_wp_tnt {f : FT} : Step (Wp2 (tNt f sl S) QT) (Wp2 (f sl S) fun p1 p2 => QT (!p1) p2) := ⟨wp_tnt⟩
instance st_wp_tan {f g : FT} : Step (Wp2 (tAn f g sl S) QT) (Wp2 (f sl S) fun p1 p2 => if p1 = true then Wp2 (g sl p2) QT else QT false p2) := ⟨wp_tan⟩
instance st_wp_tor {f g : FT} : Step (Wp2 (tOr3 f g sl S) QT) (Wp2 (f sl S) fun p1 p2 => if p1 = true then QT true p2 else Wp2 (g sl p2) QT) := ⟨wp_tor⟩
instance st_wp_an {sl : Sl} {f g : FE} {Q : W3 → List MO → Prop} : Step (Wp2 (eAn f g sl S) Q) (Wp2 (f sl S) fun p1 p2 => BoolW p1 fun c => if c = true then Wp2 (g sl p2) Q else Q (.d (.bool false)) p2) := ⟨wp_an⟩
instance st_boolW_i {c : Bool} {K : Bool → Prop} : Step (BoolW (.d (.bool c)) K) (K c) := ⟨boolW_i⟩
instance st_wp_or {sl : Sl} {f g : FE} {Q : W3 → List MO → Prop} : Step (Wp2 (eOr f g sl S) Q) (Wp2 (f sl S) fun p1 p2 => BoolW p1 fun c => if c = true then Q (.d (.bool true)) p2 else Wp2 (g sl p2) Q) := ⟨wp_or⟩
instance st_wp_eif {t : FT} {f g : FE} : Step (Wp2 (eIf t f g sl S) Q) (Wp2 (t sl S) fun p1 p2 => if p1 = true then Wp2 (f sl p2) Q else Wp2 (g sl p2) Q) := ⟨wp_eif⟩
instance st_wp_nop {g : List MO → W3 → W3 → Option (List PyData)} {a b : FE} : Step (Wp2 (nOp g a b sl S) QN) (Wp2 (a sl S) fun p1 p2 => Wp2 (b sl p2) fun q1 q2 => Wp (g q2 p1 q1) fun d => QN d q2) := ⟨wp_nop⟩
instance st_wp_onone  : Step (Wp2 (oNone sl S) QO) (QO none S) := ⟨wp_onone⟩
instance st_wp_os {sl : Sl} {f : FE} {QO : Option Int → List MO → Prop} : Step (Wp2 (oSome f sl S) QO) (Wp2 (f sl S) fun p1 p2 => IntW p1 fun i => QO (some i) p2) := ⟨wp_os⟩
instance st_wp_esl {a : FE} {l h : FO} : Step (Wp2 (eSl a l h sl S) Q) (Wp2 (a sl S) fun p1 p2 => Wp2 (l sl p2) fun q1 q2 => Wp2 (h sl q2) fun u1 u2 => Wp (view u2 p1) fun x => Wp (gCut q1 u1 x) fun d => Q (.d d) u2) := ⟨wp_esl⟩
instance st_wp_nsl {a : FE} {l h : FO} : Step (Wp2 (nSl a l h sl S) QN) (Wp2 (a sl S) fun p1 p2 => Wp2 (l sl p2) fun q1 q2 => Wp2 (h sl q2) fun u1 u2 => ∃ xs, view u2 p1 = some (.list xs) ∧ QN (cutD xs q1 u1) u2) := ⟨wp_nsl⟩
instance st_wp_b {g : GC} {a : FA} : Step (Wp2 (eB g a sl S) Q) (Wp2 (a sl S) fun p1 p2 => Wp (g p2 p1) fun d => Q (.d d) p2) := ⟨wp_b⟩
instance st_wp_nb {g : List MO → List W3 → Option (List PyData)} {a : FA} : Step (Wp2 (nB g a sl S) QN) (Wp2 (a sl S) fun p1 p2 => Wp (g p2 p1) fun d => QN d p2) := ⟨wp_nb⟩
instance st_wp_sq {sl : Sl} {f : FE} {QI : It3 → List MO → Prop} : Step (Wp2 (iSq f sl S) QI) (Wp2 (f sl S) fun p1 p2 => SeqW p2 p1 fun j => QI j p2) := ⟨wp_sq⟩
instance st_sq_l  : Step (SeqW S (.d (.list xs)) K) (K ⟨xs.map .d, yes⟩) := ⟨sq_l⟩
instance st_sq_t  : Step (SeqW S (.d (.tuple xs)) K) (K ⟨xs.map .d, yes⟩) := ⟨sq_t⟩
instance st_sq_sc {ns : List Int} : Step (SeqW S (.sc ns) K) (K ⟨(ns.map PyData.int).map .d, yes⟩) := ⟨sq_sc⟩
instance st_wp_r1 {sl : Sl} {f : FA} {QI : It3 → List MO → Prop} : Step (Wp2 (iR1 f sl S) QI) (Wp2 (f sl S) fun p1 p2 => Rng1 p1 fun j => QI j p2) := ⟨wp_r1⟩
instance st_wp_r2 {sl : Sl} {f : FA} {QI : It3 → List MO → Prop} : Step (Wp2 (iR2 f sl S) QI) (Wp2 (f sl S) fun p1 p2 => Rng2 p1 fun j => QI j p2) := ⟨wp_r2⟩
instance st_wp_irv {f : FE} : Step (Wp2 (iRv f sl S) QI) (Wp2 (f sl S) fun p1 p2 => ∃ xs, (p1 = .d (.list xs) ∨ p1 = .d (.tuple xs)) ∧ QI (⟨xs.reverse.map .d, yes⟩) p2) := ⟨wp_irv⟩
instance st_wp_me {g : GM} {o : FE} {a : FA} : Step (Wp2 (eM g o a sl S) Q) (Wp2 (o sl S) fun p1 p2 => AtLst p1 p2 fun h => Wp2 (a sl p2) fun q1 q2 => NowLst h q2 fun xs => Wp2 (g xs q1) fun z1 z2 => Q (.d z1) (q2.set h (.lst z2))) := ⟨wp_me⟩
instance st_wp_join {o e : FE} : Step (Wp2 (eJoin o e sl S) Q) (Wp2 (o sl S) fun p1 p2 => ∃ a, p1 = .d (.str a) ∧ Wp2 (e sl p2) fun q1 q2 => ∃ ys, gSeq q2 [q1] = some (ys.map .str) ∧ Wp (joinD a ys) fun d => Q (.d d) q2) := ⟨wp_join⟩
instance st_wp_dn  : Step (Wp2 (eDN sl S) Q) (Q (.r S.length) (S ++ [.dic []])) := ⟨wp_dn⟩
instance st_wp_viewd {QV : PyData → Prop} {x : PyData} : Step (Wp (view S (.d x)) QV) (QV x) := ⟨wp_viewd⟩
instance st_wp_trub {b : Bool} : Step (Wp (truW S (.d (.bool b))) PB) (PB b) := ⟨wp_trub⟩
instance st_wp_l3l  : Step (Wp (gLst3 S [.d (.list xs)]) QL) (QL xs) := ⟨wp_l3l⟩
instance st_wp_l3t  : Step (Wp (gLst3 S [.d (.tuple xs)]) QL) (QL xs) := ⟨wp_l3t⟩
instance st_wp_addi {i j : Int} : Step (Wp (gAdd S (.d (.int i)) (.d (.int j))) P) (P (.int (i + j))) := ⟨wp_addi⟩
instance st_wp_sub {i j : Int} : Step (Wp (gSub S (.d (.int i)) (.d (.int j))) P) (P (.int (i - j))) := ⟨wp_sub⟩
instance st_wp_int {i : Int} : Step (Wp (g1 intD S [.d (.int i)]) P) (P (.int i)) := ⟨wp_int⟩
instance st_wp_abs {i : Int} : Step (Wp (g1 absD S [.d (.int i)]) P) (P (.int (if i < 0 then -i else i))) := ⟨wp_abs⟩
instance st_wp_lenl {xs : List PyData} : Step (Wp (gLen S [.d (.list xs)]) P) (P (.int (xs.length : Nat))) := ⟨wp_lenl⟩
instance st_wp_lent {xs : List PyData} : Step (Wp (gLen S [.d (.tuple xs)]) P) (P (.int (xs.length : Nat))) := ⟨wp_lent⟩
instance st_wp_lensc {xs : List Int} : Step (Wp (gLen S [.sc xs]) P) (P (.int (xs.length : Nat))) := ⟨wp_lensc⟩
instance st_wp_geqi {i j : Int} : Step (Wp (gEq (.int i) (.int j)) PB) (PB (i == j)) := ⟨wp_geqi⟩
instance st_wp_gnei {i j : Int} : Step (Wp (gNe (.int i) (.int j)) PB) (PB (!(i == j))) := ⟨wp_gnei⟩
instance st_wp_glti {i j : Int} : Step (Wp (gLt (.int i) (.int j)) PB) (PB (decide (i < j))) := ⟨wp_glti⟩
instance st_wp_ggti {i j : Int} : Step (Wp (gGt (.int i) (.int j)) PB) (PB (decide (j < i))) := ⟨wp_ggti⟩
instance st_wp_glei {i j : Int} : Step (Wp (gLe (.int i) (.int j)) PB) (PB (decide (i ≤ j))) := ⟨wp_glei⟩
instance st_wp_ggei {i j : Int} : Step (Wp (gGe (.int i) (.int j)) PB) (PB (decide (j ≤ i))) := ⟨wp_ggei⟩
instance st_wp_glts {i j : Str} : Step (Wp (gLt (.str i) (.str j)) PB) (PB (decide (i.cps.toList < j.cps.toList))) := ⟨wp_glts⟩
instance st_wp_ggts {i j : Str} : Step (Wp (gGt (.str i) (.str j)) PB) (PB (decide (j.cps.toList < i.cps.toList))) := ⟨wp_ggts⟩
instance st_wp_tupl {xs : List PyData} : Step (Wp (gTupOf S [.d (.list xs)]) P) (P (.tuple xs)) := ⟨wp_tupl⟩
instance st_wp_tupt {xs : List PyData} : Step (Wp (gTupOf S [.d (.tuple xs)]) P) (P (.tuple xs)) := ⟨wp_tupt⟩
instance st_is_bt_bt  : Step (Wp (gIs (.bool true) (.bool true)) PB) (PB true) := ⟨is_bt_bt⟩
instance st_isn_bt_bt  : Step (Wp (gIsN (.bool true) (.bool true)) PB) (PB false) := ⟨isn_bt_bt⟩
instance st_is_bt_bf  : Step (Wp (gIs (.bool true) (.bool false)) PB) (PB false) := ⟨is_bt_bf⟩
instance st_isn_bt_bf  : Step (Wp (gIsN (.bool true) (.bool false)) PB) (PB true) := ⟨isn_bt_bf⟩
instance st_is_bt_n  : Step (Wp (gIs (.bool true) .none) PB) (PB false) := ⟨is_bt_n⟩
instance st_isn_bt_n  : Step (Wp (gIsN (.bool true) .none) PB) (PB true) := ⟨isn_bt_n⟩
instance st_is_bf_bt  : Step (Wp (gIs (.bool false) (.bool true)) PB) (PB false) := ⟨is_bf_bt⟩
instance st_isn_bf_bt  : Step (Wp (gIsN (.bool false) (.bool true)) PB) (PB true) := ⟨isn_bf_bt⟩
instance st_is_bf_bf  : Step (Wp (gIs (.bool false) (.bool false)) PB) (PB true) := ⟨is_bf_bf⟩
instance st_isn_bf_bf  : Step (Wp (gIsN (.bool false) (.bool false)) PB) (PB false) := ⟨isn_bf_bf⟩
instance st_is_bf_n  : Step (Wp (gIs (.bool false) .none) PB) (PB false) := ⟨is_bf_n⟩
instance st_isn_bf_n  : Step (Wp (gIsN (.bool false) .none) PB) (PB true) := ⟨isn_bf_n⟩
instance st_is_n_bt  : Step (Wp (gIs .none (.bool true)) PB) (PB false) := ⟨is_n_bt⟩
instance st_isn_n_bt  : Step (Wp (gIsN .none (.bool true)) PB) (PB true) := ⟨isn_n_bt⟩
instance st_is_n_bf  : Step (Wp (gIs .none (.bool false)) PB) (PB false) := ⟨is_n_bf⟩
instance st_isn_n_bf  : Step (Wp (gIsN .none (.bool false)) PB) (PB true) := ⟨isn_n_bf⟩
instance st_is_n_n  : Step (Wp (gIs .none .none) PB) (PB true) := ⟨is_n_n⟩
instance st_isn_n_n  : Step (Wp (gIsN .none .none) PB) (PB false) := ⟨isn_n_n⟩
instance st_is_t_bt {xs : List PyData} : Step (Wp (gIs (.tuple xs) (.bool true)) PB) (PB false) := ⟨is_t_bt⟩
instance st_isn_t_bt {xs : List PyData} : Step (Wp (gIsN (.tuple xs) (.bool true)) PB) (PB true) := ⟨isn_t_bt⟩
instance st_is_t_bf {xs : List PyData} : Step (Wp (gIs (.tuple xs) (.bool false)) PB) (PB false) := ⟨is_t_bf⟩
instance st_isn_t_bf {xs : List PyData} : Step (Wp (gIsN (.tuple xs) (.bool false)) PB) (PB true) := ⟨isn_t_bf⟩
instance st_is_t_n {xs : List PyData} : Step (Wp (gIs (.tuple xs) .none) PB) (PB false) := ⟨is_t_n⟩
instance st_isn_t_n {xs : List PyData} : Step (Wp (gIsN (.tuple xs) .none) PB) (PB true) := ⟨isn_t_n⟩
instance st_is_l_bt {xs : List PyData} : Step (Wp (gIs (.list xs) (.bool true)) PB) (PB false) := ⟨is_l_bt⟩
instance st_isn_l_bt {xs : List PyData} : Step (Wp (gIsN (.list xs) (.bool true)) PB) (PB true) := ⟨isn_l_bt⟩
instance st_is_l_bf {xs : List PyData} : Step (Wp (gIs (.list xs) (.bool false)) PB) (PB false) := ⟨is_l_bf⟩
instance st_isn_l_bf {xs : List PyData} : Step (Wp (gIsN (.list xs) (.bool false)) PB) (PB true) := ⟨isn_l_bf⟩
instance st_is_l_n {xs : List PyData} : Step (Wp (gIs (.list xs) .none) PB) (PB false) := ⟨is_l_n⟩
instance st_isn_l_n {xs : List PyData} : Step (Wp (gIsN (.list xs) .none) PB) (PB true) := ⟨isn_l_n⟩
instance st_is_i_bt {i : Int} : Step (Wp (gIs (.int i) (.bool true)) PB) (PB false) := ⟨is_i_bt⟩
instance st_isn_i_bt {i : Int} : Step (Wp (gIsN (.int i) (.bool true)) PB) (PB true) := ⟨isn_i_bt⟩
instance st_is_i_bf {i : Int} : Step (Wp (gIs (.int i) (.bool false)) PB) (PB false) := ⟨is_i_bf⟩
instance st_isn_i_bf {i : Int} : Step (Wp (gIsN (.int i) (.bool false)) PB) (PB true) := ⟨isn_i_bf⟩
instance st_is_i_n {i : Int} : Step (Wp (gIs (.int i) .none) PB) (PB false) := ⟨is_i_n⟩
instance st_isn_i_n {i : Int} : Step (Wp (gIsN (.int i) .none) PB) (PB true) := ⟨isn_i_n⟩
instance st_is_s_bt {x : Str} : Step (Wp (gIs (.str x) (.bool true)) PB) (PB false) := ⟨is_s_bt⟩
instance st_isn_s_bt {x : Str} : Step (Wp (gIsN (.str x) (.bool true)) PB) (PB true) := ⟨isn_s_bt⟩
instance st_is_s_bf {x : Str} : Step (Wp (gIs (.str x) (.bool false)) PB) (PB false) := ⟨is_s_bf⟩
instance st_isn_s_bf {x : Str} : Step (Wp (gIsN (.str x) (.bool false)) PB) (PB true) := ⟨isn_s_bf⟩
instance st_is_s_n {x : Str} : Step (Wp (gIs (.str x) .none) PB) (PB false) := ⟨is_s_n⟩
instance st_isn_s_n {x : Str} : Step (Wp (gIsN (.str x) .none) PB) (PB true) := ⟨isn_s_n⟩
instance st_ite_t {P Q : Prop} : Step (if true = true then P else Q) P := ⟨fun h => by rw [if_pos rfl]; exact h⟩
instance st_ite_f {P Q : Prop} : Step (if false = true then P else Q) Q := ⟨fun h => by rw [if_neg Bool.false_ne_true]; exact h⟩
end
theorem gate_wp {α : Type} {x : Option α} {Q : α → Prop} (h : Wp x Q) : Wp x Q := h
theorem gate_isi {S : List MO} {ws : List W3} {P : PyData → Prop} (h : Wp (gIsi S ws) P) : Wp (gIsi S ws) P := h
theorem gate_eq {a b : PyData} {P : Bool → Prop} (h : Wp (gEq a b) P) : Wp (gEq a b) P := h
theorem gate_ne {a b : PyData} {P : Bool → Prop} (h : Wp (gNe a b) P) : Wp (gNe a b) P := h
theorem gate_ix {S : List MO} {a b : W3} {P : PyData → Prop} (h : Wp (gIx S a b) P) : Wp (gIx S a b) P := h
theorem gate_rq {b : Bool} {n : List MO} {Q : W3 → List MO → Prop} {o : Out} (h : retQ b n Q o) : retQ b n Q o := h
end EA
namespace EA
open PySem PySem.Spec PyProof.Rows L2
/-! ### comprehensions with two fors; sets of texts -/
def cLoop2 (ok : List MO → Bool) (g : FG) (t : FT) (it1 : FI) (g1 : FG) (t1 : FT) (e : FE) (vs1 : List Nat) (sl : Sl) : List W3 → List MO → Option (List PyData × List MO)
  | [], S => if ok S = true then some ([], S) else none
  | w :: ws, S => if ok S = true then (g w sl S).bind fun p => (t p.1 p.2).bind fun b => if b.1 = true then (it1 p.1 b.2).bind fun q => (cLoop q.1.ok g1 t1 e (wipe3 p.1 vs1) q.1.ws q.2).bind fun y => (cLoop2 ok g t it1 g1 t1 e vs1 sl ws y.2).map fun z => (y.1 ++ z.1, z.2)
      else cLoop2 ok g t it1 g1 t1 e vs1 sl ws b.2
    else none
theorem cLoop2_ok {ok : List MO → Bool} {g : FG} {t : FT} {it1 : FI} {g1 : FG} {t1 : FT} {e : FE} {vs1 : List Nat} {sl : Sl} {ws : List W3} {S : List MO} {o : List PyData × List MO} (h : cLoop2 ok g t it1 g1 t1 e vs1 sl ws S = some o) : ok S = true := by
  cases ws with
  | nil =>
    by_cases z : ok S = true
    · exact z
    · rw [cLoop2, if_neg z] at h; cases h
  | cons w ws =>
    by_cases z : ok S = true
    · exact z
    · rw [cLoop2, if_neg z] at h; cases h
/-- vs: the slots of all the block's names, vs1: of the second target -/
def nLc2 (vs vs1 : List Nat) (it : FI) (g : FG) (t : FT) (it1 : FI) (g1 : FG) (t1 : FT) (e : FE) : FN := fun sl S => (it sl S).bind fun p => (cLoop2 p.1.ok g t it1 g1 t1 e vs1 (wipe3 sl vs) p.1.ws p.2).bind fun r => if r.1.length ≤ 100000 then some r else none
/-- not locked, no code object -/
def nfx (D : Addr) (o : Option HO) : Prop := (∀ od u, o ≠ some (.frz od u)) ∧ ∀ q, o ≠ some (LamX.CodeO D q)
/-- what gathers the values: Acc where it stands, add one more -/
structure Gath (K : PySem.W.Frag) (D : Addr) (L : Nat) (okx : PyData → Prop) (add : V → Hp → (Hp → Prop) → Prop) (Acc : Wd → List PyData → Prop) : Prop where
  keep : ∀ {C E : Wd} {ds : List PyData}, Nx C E → D ∉ C.ι → C.G D = none → Acc C ds → Acc E ds
  has : ∀ {C : Wd} {ds : List PyData}, Acc C ds → C.H D ≠ none
  nf : ∀ {C : Wd} {ds : List PyData}, Acc C ds → nfx D (C.H D)
  add : ∀ {C : Wd} {ds : List PyData} {u : V} {x : PyData} {N : Hp → Prop}, C.G D = none → Acc C ds → Da K C.G u x → ds.length < L → okx x → (∀ o', Acc ⟨C.G, upd C.H D o', C.ι⟩ (ds ++ [x]) → N (upd C.H D o')) → add u C.H N
section
variable {K : PySem.W.Frag} {D : Addr} {L : Nat} {okx : PyData → Prop} {add : V → Hp → (Hp → Prop) → Prop} {Acc : Wd → List PyData → Prop}
theorem SR3.monov {A B : Wd} {σ : L2.St} {sl : Sl} (n : Nv A B) (h : SR3 K A σ sl) : SR3 K B σ sl := ⟨h.len, fun i w e => by
  obtain ⟨v, h1, h2⟩ := h.at_ i w e
  exact ⟨v, h1, h2.monov n⟩⟩
theorem Nv.trans {A B C : Wd} (a : Nv A B) (b : Nv B C) : Nv A C := ⟨a.gg.trans b.gg, a.pre.trans b.pre⟩
theorem Nx.atD {B C : Wd} {o : HO} (n : Nx B C) (nB : B.H D = none) : Nx B ⟨C.G, upd C.H D o, C.ι⟩ :=
  ⟨n.gg, fun b o' hb hh => by
    show upd C.H D _ b = _
    rw [upd_ne (fun z => by rw [z, nB] at hh; cases hh)]; exact n.hh b o' hb hh, n.nw, fun b hb z => n.dm b hb (upd_none z), n.pre, n.fr, fun b od ks e => by
    show upd C.H D _ b = _
    rw [upd_ne (fun z => by rw [z, nB] at e; cases e)]; exact n.lk b od ks e⟩
theorem Rl.atD {C : Wd} {S : List MO} {o : HO} (R : Rl K C S) (g : C.G D = none) (ni : D ∉ C.ι) (hz : nfx D (C.H D)) : Rl K ⟨C.G, upd C.H D o, C.ι⟩ S := by
  refine ⟨fun b o hb => ?_, R.nd, R.len, fun i o a e1 e2 => (R.ob i o a e1 e2).keep (Same.refl _) (fun g => g) (fun u hu => ?_) fun b φ h => by
    show upd C.H D _ b = _
    rw [upd_ne (fun z => by rw [z] at h; exact hz.2 _ h)]; exact h⟩
  · show upd C.H D _ b = _
    rw [upd_ne (ne_of_none hb g)]; exact R.gh b o hb
  · show upd C.H D _ a = _
    rw [upd_ne (fun z => ni (by rw [← z]; exact List.mem_of_getElem? e2))]; exact hu
/-- a loop that gathers -/
theorem loop1 {J : It} {j : It3} {B B0 C0 : Wd} {g : FG} {t : FT} {f : FE} {ws vs : List Nat} {σ : L2.St} {slw : Sl} {S1 S' : List MO} {ys ds0 : List PyData} {Qd : Hp → Prop} (GA : Gath K D L okx add Acc) (IR : ItR K B J j) (hw : ∀ k ∈ ws, k ∈ vs) (s : SR3 K B (wipe σ vs) slw) (nv : Nw B C0) (n0 : Nx B0 C0) (hB0 : B0.H D = none) (R0 : Rl K C0 S1) (g0 : C0.G D = none) (ni0 : D ∉ C0.ι) (a0 : Acc C0 ds0)
    (e : cLoop j.ok g t f slw j.ws S1 = some (ys, S')) (lim : ds0.length + ys.length ≤ L) (okys : ∀ x ∈ ys, okx x)
    (q : ∀ C, Nx B0 C → Rl K C S' → C.G D = none → D ∉ C.ι → Acc C (ds0 ++ ys) → Qd C.H) :
    ∃ W : Nat → Nat → Hp → Prop, (∃ m, W 0 m C0.H) ∧ ∀ i m H, W i m H → (J.stop i H ∧ Qd H) ∨ (J.go i H ∧ ∃ N : Hp → Prop, (∀ H', N H' → ∃ m', m' < m ∧ W (i + 1) m' H') ∧
      ∀ x H', J.yld i H x H' → tgO K ws g x (wipe σ vs) H' fun σ2 H2 => wipe σ2 vs = wipe σ vs ∧ ttO K t σ2 H2 fun b H3 => if b = true then teO K f σ2 H3 fun y H4 => add y H4 N else N H3) := by
  refine ⟨fun i m H => m = j.ws.length - i ∧ i ≤ j.ws.length ∧ ∃ (C : Wd) (S : List MO) (ds rest : List PyData), C.H = H ∧ Nx B0 C ∧ Nw B C ∧ Rl K C S ∧ C.G D = none ∧ D ∉ C.ι ∧ Acc C ds ∧
      cLoop j.ok g t f slw (j.ws.drop i) S = some (rest, S') ∧ ds ++ rest = ds0 ++ ys ∧ ∀ x ∈ rest, okx x,
    ⟨_, rfl, Nat.zero_le _, C0, S1, ds0, ys, rfl, n0, nv, R0, g0, ni0, a0, by rw [List.drop_zero]; exact e, rfl, okys⟩, ?_⟩
  rintro i m H1 ⟨rfl, hi, C, S2, ds, rest, rfl, n2, nv2, R2, gC, niC, hC, e3, ey, okr⟩
  have hok := cLoop_ok e3
  have ir := IR C S2 nv2 R2 hok i
  by_cases hlt : i < j.ws.length
  · have hwi : j.ws[i]? = some j.ws[i] := List.getElem?_eq_getElem hlt
    obtain ⟨go, step⟩ := ir.1 _ hwi
    have hdr : j.ws.drop i = j.ws[i] :: j.ws.drop (i + 1) := List.drop_eq_getElem_cons hlt
    rw [hdr, cLoop, if_pos hok] at e3
    obtain ⟨⟨sl3, S3⟩, e4, e5⟩ := Option.bind_eq_some_iff.mp e3
    obtain ⟨⟨b3, S4⟩, e6, e7⟩ := Option.bind_eq_some_iff.mp e5
    refine .inr ⟨go, fun H' => i + 1 ≤ j.ws.length ∧ ∃ (C : Wd) (S : List MO) (ds rest : List PyData), C.H = H' ∧ Nx B0 C ∧ Nw B C ∧ Rl K C S ∧ C.G D = none ∧ D ∉ C.ι ∧ Acc C ds ∧
      cLoop j.ok g t f slw (j.ws.drop (i + 1)) S = some (rest, S') ∧ ds ++ rest = ds0 ++ ys ∧ ∀ x ∈ rest, okx x, fun H' w => ⟨j.ws.length - (i + 1), by omega, rfl, w⟩, fun v H' y => ?_⟩
    obtain ⟨C', rfl, n3, R3, r3⟩ := step v H' y
    have keep : ∀ {E : Wd}, Nx C E → E.G D = none ∧ D ∉ E.ι ∧ Acc E ds := fun {E} nE =>
      ⟨nE.nw D niC gC (GA.has hC), fun z => (nE.fr D z).elim niC (fun k => GA.has hC k), GA.keep nE niC gC hC⟩
    refine ⟨C', S2, slw, j.ws[i], sl3, S3, rfl, R3, s.monov (nv2.trans n3.toW), r3, e4, fun E σ' n4 R4 s4 k4 => ⟨?_, ?_⟩⟩
    · exact wipe_same (by rw [k4.1, wipe_length]) k4.2 hw
    · refine ⟨E, S3, sl3, b3, S4, rfl, R4, s4, e6, fun F n5 R5 => ?_⟩
      have nF : Nx C F := (n3.trans n4).trans n5
      cases b3 with
      | false =>
        obtain ⟨g1, g2, g3⟩ := keep nF
        exact ⟨hlt, F, S4, ds, rest, rfl, n2.trans nF, nv2.trans nF.toW, R5, g1, g2, g3, e7, ey, okr⟩
      | true =>
        obtain ⟨⟨y1, S5⟩, e8, e9⟩ := Option.bind_eq_some_iff.mp e7
        refine ⟨F, S4, sl3, y1, S5, rfl, R5, s4.mono n5, e8, fun L' u n6 R6 r6 => ?_⟩
        cases y1 with
        | r _ => cases e9
        | sc _ => cases e9
        | ty _ => cases e9
        | d x =>
          obtain ⟨⟨r2, S6⟩, e10, e11⟩ := Option.map_eq_some_iff.mp e9
          cases e11
          obtain ⟨g1, g2, g3⟩ := keep (nF.trans n6)
          have nL : Nx B0 L' := n2.trans (nF.trans n6)
          have hlen : ds.length < L := by
            have := congrArg List.length ey
            rw [List.length_append, List.length_append, List.length_cons] at this
            omega
          refine GA.add g1 g3 r6 hlen (okr x List.mem_cons_self) fun o' a' => ⟨hlt, ⟨L'.G, upd L'.H D o', L'.ι⟩, S5, ds ++ [x], r2, rfl, nL.atD hB0, ?_, R6.atD g1 g2 (GA.nf g3), g1, g2, a', e10, ?_, fun z hz => okr z (List.mem_cons_of_mem _ hz)⟩
          · exact nv2.trans ⟨⟨(nF.trans n6).gg, (nF.trans n6).pre⟩, fun b od ks eb => by
              show upd L'.H D o' b = _
              rw [upd_ne (fun z => by rw [z] at eb; exact (GA.nf hC).1 _ _ eb)]
              exact (nF.trans n6).lk b od ks eb⟩
          · rw [List.append_assoc]; exact ey
  · have hz2 : i = j.ws.length := by omega
    subst hz2
    rw [List.drop_length, cLoop, if_pos hok] at e3
    cases e3
    rw [List.append_nil] at ey
    subst ey
    exact .inl ⟨ir.2 (Nat.le_refl _), q C n2 R2 gC niC hC⟩
/-- two loops that gather -/
theorem loop2 {J : It} {j : It3} {B C0 : Wd} {g g1 : FG} {t t1 : FT} {it1 : FI} {f : FE} {ws vs ws1 vs1 : List Nat} {σ : L2.St} {slw : Sl} {S1 S' : List MO} {ys ds0 : List PyData} {Qd : Hp → Prop} (GA : Gath K D L okx add Acc) (IR : ItR K B J j) (hw : ∀ k ∈ ws, k ∈ vs) (hw1 : ∀ k ∈ ws1, k ∈ vs1) (s : SR3 K B (wipe σ vs) slw) (n0 : Nx B C0) (hB0 : B.H D = none) (R0 : Rl K C0 S1) (g0 : C0.G D = none) (ni0 : D ∉ C0.ι) (a0 : Acc C0 ds0)
    (e : cLoop2 j.ok g t it1 g1 t1 f vs1 slw j.ws S1 = some (ys, S')) (lim : ds0.length + ys.length ≤ L) (okys : ∀ x ∈ ys, okx x)
    (q : ∀ C, Nx B C → Rl K C S' → C.G D = none → D ∉ C.ι → Acc C (ds0 ++ ys) → Qd C.H) :
    ∃ W : Nat → Nat → Hp → Prop, (∃ m, W 0 m C0.H) ∧ ∀ i m H, W i m H → (J.stop i H ∧ Qd H) ∨ (J.go i H ∧ ∃ N : Hp → Prop, (∀ H', N H' → ∃ m', m' < m ∧ W (i + 1) m' H') ∧
      ∀ x H', J.yld i H x H' → tgO K ws g x (wipe σ vs) H' fun σ2 H2 => wipe σ2 vs = wipe σ vs ∧ ttO K t σ2 H2 fun b H3 => if b = true then tiO K it1 σ2 H3 fun J1 H4 => ∃ W1 : Nat → Nat → Hp → Prop, (∃ m, W1 0 m H4) ∧ ∀ j k H, W1 j k H →
      (J1.stop j H ∧ N H) ∨ (J1.go j H ∧ ∃ N1 : Hp → Prop, (∀ H', N1 H' → ∃ k', k' < k ∧ W1 (j + 1) k' H') ∧ ∀ x H', J1.yld j H x H' → tgO K ws1 g1 x (wipe σ2 vs1) H' fun σ3 H5 => wipe σ3 vs1 = wipe σ2 vs1 ∧ ttO K t1 σ3 H5 fun b H6 =>
        if b = true then teO K f σ3 H6 fun y H7 => add y H7 N1 else N1 H6) else N H3) := by
  refine ⟨fun i m H => m = j.ws.length - i ∧ i ≤ j.ws.length ∧ ∃ (C : Wd) (S : List MO) (ds rest : List PyData), C.H = H ∧ Nx B C ∧ Rl K C S ∧ C.G D = none ∧ D ∉ C.ι ∧ Acc C ds ∧
      cLoop2 j.ok g t it1 g1 t1 f vs1 slw (j.ws.drop i) S = some (rest, S') ∧ ds ++ rest = ds0 ++ ys ∧ ∀ x ∈ rest, okx x,
    ⟨_, rfl, Nat.zero_le _, C0, S1, ds0, ys, rfl, n0, R0, g0, ni0, a0, by rw [List.drop_zero]; exact e, rfl, okys⟩, ?_⟩
  rintro i m H1 ⟨rfl, hi, C, S2, ds, rest, rfl, n2, R2, gC, niC, hC, e3, ey, okr⟩
  have hok := cLoop2_ok e3
  have ir := IR C S2 n2.toW R2 hok i
  by_cases hlt : i < j.ws.length
  · have hwi : j.ws[i]? = some j.ws[i] := List.getElem?_eq_getElem hlt
    obtain ⟨go, step⟩ := ir.1 _ hwi
    have hdr : j.ws.drop i = j.ws[i] :: j.ws.drop (i + 1) := List.drop_eq_getElem_cons hlt
    rw [hdr, cLoop2, if_pos hok] at e3
    obtain ⟨⟨sl3, S3⟩, e4, e5⟩ := Option.bind_eq_some_iff.mp e3
    obtain ⟨⟨b3, S4⟩, e6, e7⟩ := Option.bind_eq_some_iff.mp e5
    refine .inr ⟨go, fun H' => i + 1 ≤ j.ws.length ∧ ∃ (C : Wd) (S : List MO) (ds rest : List PyData), C.H = H' ∧ Nx B C ∧ Rl K C S ∧ C.G D = none ∧ D ∉ C.ι ∧ Acc C ds ∧
      cLoop2 j.ok g t it1 g1 t1 f vs1 slw (j.ws.drop (i + 1)) S = some (rest, S') ∧ ds ++ rest = ds0 ++ ys ∧ ∀ x ∈ rest, okx x, fun H' w => ⟨j.ws.length - (i + 1), by omega, rfl, w⟩, fun v H' y => ?_⟩
    obtain ⟨C', rfl, n3, R3, r3⟩ := step v H' y
    have keep : ∀ {E : Wd}, Nx C E → E.G D = none ∧ D ∉ E.ι ∧ Acc E ds := fun {E} nE =>
      ⟨nE.nw D niC gC (GA.has hC), fun z => (nE.fr D z).elim niC (fun k => GA.has hC k), GA.keep nE niC gC hC⟩
    refine ⟨C', S2, slw, j.ws[i], sl3, S3, rfl, R3, s.mono (n2.trans n3), r3, e4, fun E σ' n4 R4 s4 k4 => ⟨?_, ?_⟩⟩
    · exact wipe_same (by rw [k4.1, wipe_length]) k4.2 hw
    · refine ⟨E, S3, sl3, b3, S4, rfl, R4, s4, e6, fun F n5 R5 => ?_⟩
      have nF : Nx C F := (n3.trans n4).trans n5
      cases b3 with
      | false =>
        obtain ⟨g1, g2, g3⟩ := keep nF
        exact ⟨hlt, F, S4, ds, rest, rfl, n2.trans nF, R5, g1, g2, g3, e7, ey, okr⟩
      | true =>
        obtain ⟨⟨j1, S5⟩, e8, e9⟩ := Option.bind_eq_some_iff.mp e7
        obtain ⟨⟨y1, S6⟩, e10, e11⟩ := Option.bind_eq_some_iff.mp e9
        obtain ⟨⟨r2, S7⟩, e12, e13⟩ := Option.map_eq_some_iff.mp e11
        cases e13
        refine ⟨F, S4, sl3, j1, S5, rfl, R5, s4.mono n5, e8, fun B1 J1 n6 R6 IR1 => ?_⟩
        obtain ⟨g1, g2, g3⟩ := keep (nF.trans n6)
        have s6 : SR3 K B1 (wipe σ' vs1) (wipe3 sl3 vs1) := (s4.mono (n5.trans n6)).weak vs1
        refine loop1 GA IR1 hw1 s6 ⟨⟨Same.refl _, List.prefix_rfl⟩, fun _ _ _ h => h⟩ (n2.trans (nF.trans n6)) hB0 R6 g1 g2 g3 e10 ?_ (fun x hx => okr x (List.mem_append_left _ hx)) fun C7 n7 R7 g7 ni7 a7 => ⟨hlt, C7, S6, ds ++ y1, r2, rfl, n7, R7, g7, ni7, a7, e12, ?_, fun z hz => okr z (List.mem_append_right _ hz)⟩
        · have := congrArg List.length ey
          simp only [List.length_append] at this
          omega
        · rw [List.append_assoc]; exact ey
  · have hz2 : i = j.ws.length := by omega
    subst hz2
    rw [List.drop_length, cLoop2, if_pos hok] at e3
    cases e3
    rw [List.append_nil] at ey
    subst ey
    exact .inl ⟨ir.2 (Nat.le_refl _), q C n2 R2 gC niC hC⟩
end
end EA
namespace EA
open PySem PySem.Spec PyProof.Rows L2
/-! ### the rules: lists with two fors, sorted sets of texts -/
def addL (D : Addr) : V → Hp → (Hp → Prop) → Prop := fun y H N => ∃ acc, H D = some (.lst acc) ∧ acc.length < sizeLine ∧ N (upd H D (.lst (acc ++ [y])))
theorem gathL {K : PySem.W.Frag} {D : Addr} : Gath K D 100000 (fun _ => True) (addL D) (fun C ds => ∃ acc, C.H D = some (.lst acc) ∧ DaA K C.G acc ds) where
  keep := fun n ni g ⟨acc, h1, h2⟩ => ⟨acc, n.hh D _ ni h1, h2.up n.gg⟩
  has := fun ⟨acc, h1, h2⟩ z => by rw [z] at h1; cases h1
  nf := fun ⟨acc, h1, h2⟩ => ⟨(fun _ _ z => by rw [h1] at z; cases z), (fun _ z => by rw [h1] at z; cases z)⟩
  add := fun g ⟨acc, h1, h2⟩ hu hl _ q => ⟨acc, h1, Nat.lt_of_le_of_lt (Nat.le_of_lt (by rw [h2.len]; exact hl)) (by decide), q _ ⟨acc ++ [_], upd_same, h2.app (.cons hu .nil)⟩⟩
section
variable {K : PySem.W.Frag} {X : Cx} {pos : Pos} {P : Program} {w : World}
theorem lc2_go {it it1 : FI} {g g1 : FG} {t t1 : FT} {f : FE} {vs ws vs1 ws1 : List Nat} (hw : ∀ j ∈ ws, j ∈ vs) (hw1 : ∀ j ∈ ws1, j ∈ vs1) {σ : L2.St} {H : Hp} {Q : VK} (h : tnO K (nLc2 vs vs1 it g t it1 g1 t1 f) σ H Q) : tLc2 (tiO K it) (tgO K ws g) (ttO K t) (tiO K it1) (tgO K ws1 g1) (ttO K t1) (teO K f) vs vs1 σ H Q := by
  obtain ⟨A, S, sl, ys, S', rfl, R, s, e, q⟩ := h
  obtain ⟨⟨j, S1⟩, e1, e2⟩ := Option.bind_eq_some_iff.mp e
  obtain ⟨⟨y0, S0⟩, e3, e4⟩ := Option.bind_eq_some_iff.mp e2
  have hl : y0.length ≤ 100000 := by
    by_cases hl : y0.length ≤ 100000
    · exact hl
    · rw [if_neg hl] at e4; cases e4
  rw [if_pos hl] at e4
  cases e4
  refine ⟨A, S, sl, j, S1, rfl, R, s, e1, fun B J n R' IR D hD => ?_⟩
  have gD : B.G D = none := R'.gh.free hD
  have niD : D ∉ B.ι := R'.new hD
  have aD : A.H D = none := by
    cases z : A.H D with
    | none => rfl
    | some u => exact absurd hD (n.dm D (by rw [z]; exact fun k => nomatch k))
  obtain ⟨nj, Rj⟩ := Nx.junk (o := .lst []) R' hD
  exact loop2 (ds0 := []) (gathL (K := K) (D := D)) IR hw hw1 ((s.mono n).weak vs) nj hD Rj gD niD ⟨[], upd_same, .nil⟩ e3 (by rw [List.length_nil, Nat.zero_add]; exact hl) (fun _ _ => trivial)
    fun C n7 R7 g7 ni7 ⟨acc, h7, d7⟩ => q C acc D (n.trans n7) R7 aD ni7 g7 h7 d7
theorem s_setLc2 {i : Nat} {y : Str} {py spos : Pos} {elt tg iter tg1 iter1 : Expr} {ifs ifs1 : List Expr} {scope : Scope} {own : List (Str × Nat)} {vs ws vs1 ws1 : List Nat} {it it1 : FI} {g g1 : FG} {t t1 : FT} {f : FE} (w : FN → FE) (hwrap : w = eNd ∨ w = eNo) (hc : X.calm = true) (hN : X.N.Nodup) (hy : X.N[i]? = some y) (hyl : X.env.scope.names.lookup y = some .local)
    (hsw : swapsWith (.ListComp elt [⟨tg, iter, ifs, 0⟩, ⟨tg1, iter1, ifs1, 0⟩] scope pos) (some (.Name y py)) spos.line X.env = pure true) (hi : PI3 K X tg iter it) (ok : BlkOk X.N X.env.scope scope own) (hv : own.map (·.2) = vs) (hw : ∀ j ∈ ws, j ∈ vs) (hv1 : ∀ j ∈ vs1, j ∈ vs) (hw1 : ∀ j ∈ ws1, j ∈ vs1)
    (hg : ∀ (s : Shared) (H : Hp) (C : Addr) (cl : List (Str × Addr)) (fp : List Addr), PG3 K (X.blk s H scope (compEnvC scope cl C X.env) fp) tg ws g) (ht : ∀ (s : Shared) (H : Hp) (C : Addr) (cl : List (Str × Addr)) (fp : List Addr), PTs3 K (X.blk s H scope (compEnvC scope cl C X.env) fp) ifs t)
    (hi1 : ∀ (s : Shared) (H : Hp) (C : Addr) (cl : List (Str × Addr)) (fp : List Addr), PI3 K (X.blk s H scope (compEnvC scope cl C X.env) fp) tg1 iter1 it1)
    (hg1 : ∀ (s : Shared) (H : Hp) (C : Addr) (cl : List (Str × Addr)) (fp : List Addr), PG3 K (X.blk s H scope (compEnvC scope cl C X.env) fp) tg1 ws1 g1) (ht1 : ∀ (s : Shared) (H : Hp) (C : Addr) (cl : List (Str × Addr)) (fp : List Addr), PTs3 K (X.blk s H scope (compEnvC scope cl C X.env) fp) ifs1 t1)
    (he : ∀ (s : Shared) (H : Hp) (C : Addr) (cl : List (Str × Addr)) (fp : List Addr), PE3 K (X.blk s H scope (compEnvC scope cl C X.env) fp) elt f) (hs : ∀ x, foldedSetIterable iter X.env x = pure x := by intro _; rfl) (hs1 : ∀ env x, foldedSetIterable iter1 env x = pure x := by intro _ _; rfl) :
    PS3 K X (.Assign [.Name y py] (.ListComp elt [⟨tg, iter, ifs, 0⟩, ⟨tg1, iter1, ifs1, 0⟩] scope pos) spos) (sSet i (w (nLc2 vs vs1 it g t it1 g1 t1 f))) :=
  ⟨ps_imp (ps_setLc2 (vs1 := vs1) hc hN hy hyl hsw hi.p ok (by rw [hv]; exact hv1) (fun s H C cl fp => (hg s H C cl fp).p) (fun s H C cl fp => (ht s H C cl fp).p) (fun s H C cl fp => (hi1 s H C cl fp).p) (fun s H C cl fp => (hg1 s H C cl fp).p) (fun s H C cl fp => (ht1 s H C cl fp).p) (fun s H C cl fp => (he s H C cl fp).p) hs hs1) fun D σ H h => by
    rw [hv]
    have h1 := set_imp h
    have h2 : tnO K (nLc2 vs vs1 it g t it1 g1 t1 f) σ H fun x H1 => D.nx (σ.set i (some x)) H1 := by
      rcases hwrap with rfl | rfl
      · exact nd_imp h1
      · exact no_imp h1
    exact lc2_go hw hw1 h2⟩
end
end EA
namespace EA
open PySem PySem.Spec PyProof.Rows L2
theorem _root_.L2.Room.units65 {k : Nat} {A : Around} (r : Room k A) : A.units + 65 < cLine := by have := r.un; omega
/-! ### xs.index(x) -/
end EA
namespace EZ
open PySem
open PySem.Sem (wp)
/-- the pairs that are out: their addresses rise, each stands in the heap -/
structure Out (S : Addr) (wr : List Addr) (h : Heap) (R : Nat → Value → Value → Prop) (Ts : List Addr) : Prop where
  above : ∀ T ∈ Ts, S < T ∧ T ∉ wr
  rise : Ts.Pairwise (· < ·)
  pair : ∀ j T, Ts[j]? = some T → ∃ x y, R j x y ∧ IsPair h T x y
theorem Out.keep {S : Addr} {wr : List Addr} {h h' : Heap} {R : Nat → Value → Value → Prop} {Ts : List Addr} (o : Out S wr h R Ts) (k : ∀ b ob, b ≠ S → b ∉ wr → h.get? b = some ob → h'.get? b = some ob) : Out S wr h' R Ts := ⟨o.above, o.rise, fun j T hj => by
  obtain ⟨x, y, r, p⟩ := o.pair j T hj
  obtain ⟨a1, a2⟩ := o.above T (List.mem_of_getElem? hj)
  exact ⟨x, y, r, k T _ (Nat.ne_of_gt a1) a2 p⟩⟩
end EZ
namespace EA
open PySem PySem.Spec PyProof.Rows L2
/-! ### list(text), sum of numbers -/
def signsV (x : Str) : List V := x.cps.toList.map fun c => .str ⟨#[c]⟩
def signsD (x : Str) : List PyData := x.cps.toList.map fun c => .str ⟨#[c]⟩
def rListT : List V → Hp → VK → Prop := fun xs H Q => ∃ x, xs = [.str x] ∧ x.length ≤ sizeLine ∧ ∀ p, H p = none → Q (.ref p) (upd H p (.lst (signsV x)))
section
variable {X : Cx} {K : PySem.W.Frag}
theorem vals_of_at : ∀ {cs : List Nat} {its : List Value}, its.length = cs.length → (∀ (j : Nat) v, its[j]? = some v → ∃ c t, cs[j]? = some c ∧ v = .str ⟨#[c]⟩ t) → Vals (cs.map fun c => V.str ⟨#[c]⟩) its
  | [], [], _, _ => .nil
  | c :: cs, v :: its, hl, h => by
    obtain ⟨c', t, e1, e2⟩ := h 0 v rfl
    cases e1
    exact .cons ⟨t, e2⟩ (vals_of_at (by simpa using hl) fun j v hj => h (j + 1) v (by simpa using hj))
theorem call_listT (hc : X.calm = true) : CallR X (.type "list") rListT := by
  intro pins s σ H xs us Q I r h
  obtain ⟨x, rfl, hz, q⟩ := h
  obtain ⟨u, rfl, rx⟩ := vals1 r
  obtain ⟨t, rfl⟩ := rx
  refine call_list_str (I.ok.hd hc) x t (fun h' tk acc c hk hS hacc => ?_) hz
  have hl : (signsV x).length ≤ sizeLine := by unfold signsV; rw [List.length_map, Array.length_toList]; exact hz
  refine ⟨.ref s.heap.objs.size, upd H s.heap.objs.size (.lst (signsV x)), I.laid (t' := tk) hk (Nat.le_refl _) ⟨hl, acc.toList, c, vals_of_at (by rw [Array.length_toList, hacc.1, Array.length_toList]) (fun j v hj => ?_), by rw [Array.toArray_toList]; exact hS⟩, rfl, q _ (I.hok.fresh (Nat.le_refl _))⟩
  have hs := hacc.2 j v (by simpa using hj)
  obtain ⟨c0, u, e1, e2⟩ := hs
  exact ⟨c0, u, by simpa using e1, e2⟩
def gSgn (ws : List W3) : Option (List PyData) := match ws with
  | [.d (.str x)] => if x.length ≤ 100000 then some (signsD x) else none
  | _ => none
def gLst4 (S : List MO) (ws : List W3) : Option (List PyData) := (gLst3 S ws).or (gSgn ws)
def rLst4 (K : PySem.W.Frag) : List V → Hp → VK → Prop := fun xs H Q => rLst3 K xs H Q ∨ rListT xs H Q
theorem signs_da {G : Hp} (x : Str) : DaA K G (signsV x) (signsD x) := by
  unfold signsV signsD
  induction x.cps.toList with
  | nil => exact .nil
  | cons c r ih => exact .cons (.str _) ih
theorem nk_lst4 : NkOk K (rLst4 K) gLst4 := by
  intro A S ws vs d Q R rs e q
  unfold gLst4 at e
  cases h : gLst3 S ws with
  | some z => rw [h] at e; cases e; exact .inl (nk_lst3 A S ws vs _ Q R rs h q)
  | none =>
    rw [h] at e
    replace e : gSgn ws = some d := e
    clear h
    unfold gSgn at e
    split at e
    · rename_i x
      by_cases z : x.length ≤ 100000
      · rw [if_pos z] at e
        cases e
        cases rs with
        | cons r rr =>
          cases rr
          cases Da.str_inv r
          exact .inr ⟨x, rfl, Nat.le_trans z (by decide), fun p hp => new_of R (signs_da x) q p hp⟩
      · rw [if_neg z] at e; cases e
    · cases e
theorem cr_lst4 (hK : X.K = K) (hc : X.calm = true) : CallR X (.type "list") (rLst4 K) := CallR.or (cr_lst3 hK hc) (call_listT hc)
end
end EA
namespace EA
open PySem PySem.Spec PyProof.Rows L2
/-! ### rules for S14 to S16 -/
section
variable {S : List MO} {QL : List PyData → Prop} {P : PyData → Prop}
theorem wp_l4 {ws : List W3} (h : Wp (gLst3 S ws) QL) : Wp (gLst4 S ws) QL := by
  obtain ⟨a, e, q⟩ := h
  exact ⟨a, by unfold gLst4; rw [e]; rfl, q⟩
theorem wp_l4s {x : Str} (hl : x.length ≤ 100000) (h : QL (signsD x)) : Wp (gLst4 S [.d (.str x)]) QL := ⟨signsD x, by
  show (none : Option (List PyData)).or (gSgn [.d (.str x)]) = _
  show gSgn [.d (.str x)] = _
  unfold gSgn
  exact if_pos hl, h⟩
variable {sl : Sl} {Q : W3 → List MO → Prop} {QT : Bool → List MO → Prop} {QN : List PyData → List MO → Prop}
end
end EA
namespace EA
open PySem PySem.Spec PyProof.Rows L2
noncomputable def f3_stirred : F3 := fdef false 2 2
  (sSeq (sSet 2 (eOp gMod (eB (g1 intD) (aCons (eOp gAdd (eOp gAdd (eOp gMul (eVar 0) (eD (.int (48017)))) (eOp gMul (eVar 1) (eD (.int (8821))))) (eD (.int (70001)))) aNil)) (eD (.int (2147483423)))))
  (sSeq (sSet 3 (eOp gMod (eB (g1 intD) (aCons (eOp gAdd (eOp gAdd (eOp gMul (eVar 2) (eVar 2)) (eOp gMul (eVar 1) (eD (.int (60017))))) (eOp gFdiv (eVar 2) (eD (.int (151))))) aNil)) (eD (.int (2147483477)))))
  (sRt (eOp gFdiv (eB (g1 intD) (aCons (eOp gMod (eB (g1 intD) (aCons (eOp gAdd (eOp gMul (eVar 3) (eD (.int (51199)))) (eOp gFdiv (eVar 2) (eD (.int (17))))) aNil)) (eD (.int (2147483549)))) aNil)) (eD (.int (128)))))))
noncomputable def f3_take : F3 := fdef false 2 2
  (sSeq (sIf (tAn (tCmp gEq (eOp gIx (eVar 0) (eD (.int (2)))) (eD (.int (0)))) (tCmp gLt (eOp gIx (eVar 0) (eD (.int (1)))) (eB gLen (aCons (eOp gIx (eVar 0) (eD (.int (0)))) aNil))))
  (sSeq (sSet 2 (eOp gIx (eOp gIx (eVar 0) (eD (.int (0)))) (eOp gIx (eVar 0) (eD (.int (1))))))
  (sSeq (sAsg (eOp gAdd (eOp gIx (eVar 0) (eD (.int (1)))) (eD (.int (1)))) (gSubL (eVar 0) (eD (.int (1)))))
  (sSeq (sIf (tCmp gLt (eVar 2) (eOp gPow (eD (.int (10))) (eD (.int (18)))))
  (sRt (eOp gMod (eB (g1 intD) (aCons (eCall f3_stirred (aCons (eOp gMod (eB (g1 intD) (aCons (eVar 2) aNil)) (eD (.int (2147483423)))) (aCons (eOp gIx (eVar 0) (eD (.int (1)))) aNil))) aNil)) (eVar 1)))
  sNx)
  (sAsg (eVar 2) (gSubL (eVar 0) (eD (.int (2))))))))
  sNx)
  (sSeq (sIf (tCmp gGt (eOp gIx (eVar 0) (eD (.int (2)))) (eD (.int (0))))
  (sSeq (sSet 3 (eOp gIx (eVar 0) (eD (.int (2)))))
  (sSeq (sAsg (eOp gFdiv (eB (g1 intD) (aCons (eVar 3) aNil)) (eVar 1)) (gSubL (eVar 0) (eD (.int (2)))))
  (sRt (eOp gMod (eB (g1 intD) (aCons (eVar 3) aNil)) (eVar 1)))))
  sNx)
  (sSeq (sAsg (eOp gMod (eB (g1 intD) (aCons (eOp gAdd (eOp gIx (eVar 0) (eD (.int (3)))) (eD (.int (1)))) aNil)) (eD (.int (2147483477)))) (gSubL (eVar 0) (eD (.int (3)))))
  (sRt (eOp gMod (eB (g1 intD) (aCons (eCall f3_stirred (aCons (eOp gIx (eVar 0) (eD (.int (3)))) (aCons (eOp gIx (eVar 0) (eD (.int (1)))) aNil))) aNil)) (eVar 1))))))
noncomputable def f3_shuffled : F3 := fdef false 2 2
  (sSeq (sSet 2 (eNo (nB gLst4 (aCons (eVar 1) aNil))))
  (sRt (eNd (nLc [3] (iR1 (aCons (eB gLen (aCons (eVar 2) aNil)) aNil)) (gNm 3) tYes3 (eM mPopAt (eVar 2) (aCons (eCall f3_take (aCons (eVar 0) (aCons (eB gLen (aCons (eVar 2) aNil)) aNil))) aNil))))))
noncomputable def f3_hand : F3 := fdef true 1 3
  (sSeq (sSet 1 (eOp gAdd (eOp gMul (eB gLen (aCons (eVar 0) aNil)) (eD (.int (37)))) (eD (.int (101)))))
  (sSeq (sSet 2 (eNo (nLst aNil)))
  (sSeq (sFor (iSq (eVar 0)) (gNm 3)
  (sSeq (sSet 1 (eOp gMod (eB (g1 intD) (aCons (eOp gAdd (eOp gMul (eVar 1) (eD (.int (2011)))) (eB (g1 intD) (aCons (eVar 3) aNil))) aNil)) (eD (.int (2147483543)))))
  (sEx (eM mApp (eVar 2) (aCons (eB (g1 absD) (aCons (eB (g1 intD) (aCons (eVar 3) aNil)) aNil)) aNil)))))
  (sRt (eNo (nLst (aCons (eFrz (eVar 2)) (aCons (eD (.int (0))) (aCons (eD (.int (0))) (aCons (eVar 1) aNil))))))))))
noncomputable def f3_whole : F3 := fdef false 1 0
  (sRt (eAn (eB gIsi (aCons (eVar 0) (aCons (eTy "int") aNil))) (eNot (eB gIsi (aCons (eVar 0) (aCons (eTy "bool") aNil))))))
local macro_rules | `(tactic| walk_at "ix") => `(tactic| first | rfl | exact atI_cons0 | exact atI_map0)
local macro_rules | `(tactic| walk_at "st") => `(tactic| first | assumption | rfl | exact get_set (by assumption) | exact get_set (get_set (by assumption)) | exact get_last | exact get_setlast | exact get_setapp (by assumption) | exact get_app (by assumption) | exact get_app (get_set (by assumption)))
local macro_rules | `(tactic| walk_at "tk") => `(tactic| first | exact List.take_length | exact take_set | exact take_set2 | exact take_set3 | exact take_app | exact take_aset | exact take_setapp | rfl)
local macro_rules | `(tactic| walk_at "sd") => `(tactic| first | omega | assumption | decide)
local macro_rules | `(tactic| walk_at "wp1") => `(tactic| first
  | with_reducible refine wp_seq ?_ | with_reducible refine th_nx ?_ | with_reducible refine th_rt ?_ | with_reducible refine th_bk ?_ | with_reducible refine th_ct ?_
  | with_reducible refine wp_set ?_ | with_reducible refine wp_ex ?_ | with_reducible refine wp_rt ?_ | with_reducible refine wp_rtn ?_ | with_reducible refine wp_sif ?_ | with_reducible refine wp_asg ?_
  | with_reducible refine wp_for ?_ | with_reducible refine wp_pr ?_ | with_reducible refine pairW_i ?_ | with_reducible refine lq_nx ?_ | with_reducible refine lq_ct ?_ | with_reducible refine lq_bk ?_ | with_reducible refine lq_rt ?_ | with_reducible refine wp_dp ?_ | with_reducible refine wp_nx ?_ | with_reducible refine wp_bk ?_ | with_reducible refine wp_ct ?_
  | ((with_reducible apply wp_var); rfl) | with_reducible refine wp_d ?_ | with_reducible refine wp_ty ?_ | with_reducible refine wp_fz ?_ | with_reducible refine fz_d ?_ | ((with_reducible apply fz_r); (walk_at "st")) | with_reducible refine wp_nil ?_ | with_reducible refine wp_cons ?_
  | with_reducible refine wp_tup ?_ | with_reducible refine wp_nlst ?_ | with_reducible refine wp_ds0 ?_ | with_reducible refine wp_ds1 ?_ | with_reducible refine wp_nd ?_ | with_reducible refine wp_no ?_
  | with_reducible refine wp_gnm ?_ | with_reducible refine wp_gtp ?_ | with_reducible refine wp_gsn ?_ | with_reducible refine wp_gsc ?_ | with_reducible refine wp_gs ?_
  | with_reducible refine wp_ty3 ?_ | with_reducible refine datW_i ?_ | with_reducible refine wp_lc ?_ | with_reducible refine wp_ecmp ?_ | with_reducible refine wp_tcmp ?_ | with_reducible refine wp_ttr ?_ | with_reducible refine wp_not ?_ | with_reducible refine wp_tnt ?_ | with_reducible refine wp_tan ?_ | with_reducible refine wp_tor ?_
  | with_reducible refine wp_an ?_ | with_reducible refine boolW_i ?_ | with_reducible refine wp_or ?_ | with_reducible refine wp_eif ?_ | with_reducible refine wp_op ?_ | with_reducible refine wp_nop ?_ | with_reducible refine wp_onone ?_ | with_reducible refine wp_os ?_ | with_reducible refine intW_i ?_
  | with_reducible refine wp_esl ?_ | with_reducible refine wp_nsl ?_ | with_reducible refine wp_b ?_ | with_reducible refine wp_nb ?_ | with_reducible refine wp_call ?_ | with_reducible refine wp_sq ?_ | with_reducible refine sq_l ?_ | with_reducible refine sq_t ?_ | with_reducible refine sq_sc ?_ | ((with_reducible apply sq_r); (walk_at "st")) | with_reducible refine wp_r1 ?_ | with_reducible refine wp_r2 ?_ | with_reducible refine wp_irv ?_
  | with_reducible refine wp_me ?_ | with_reducible refine wp_join ?_ | with_reducible refine wp_dn ?_
  | with_reducible refine wp_viewd ?_ | ((with_reducible apply wp_viewr); (walk_at "st")) | ((with_reducible apply wp_lat); (walk_at "st")))
local macro_rules | `(tactic| walk_at "wp") => `(tactic| first
  | walk_at "wp1"
  | ((with_reducible apply atSet_i); (walk_at "st"); rfl) | ((with_reducible apply atLst_i); (walk_at "st")) | ((with_reducible apply nowLst_i); (walk_at "st"))
  | ((with_reducible refine wp_l4s ?_ ?_); (first | omega | assumption | decide +kernel)) | with_reducible refine wp_l4 ?_ | with_reducible refine wp_l3l ?_ | with_reducible refine wp_l3t ?_ | ((with_reducible apply wp_l3r); (walk_at "st")) | ((with_reducible refine rng1_i ?_ ?_); (walk_at "sd")) | ((with_reducible refine rng2_i ?_ ?_); (walk_at "sd"))
  | with_reducible refine wp_addi ?_ | with_reducible refine wp_sub ?_ | ((with_reducible refine wp_mod ?_ ?_); (walk_at "sd")) | ((with_reducible refine wp_fdiv ?_ ?_); (walk_at "sd")) | ((with_reducible refine wp_mulr ?_ ?_); (walk_at "sd")) | ((with_reducible refine wp_mull ?_ ?_); (walk_at "sd")) | ((with_reducible refine wp_pow ?_ ?_); (walk_at "sd"))
  | with_reducible refine wp_int ?_ | with_reducible refine wp_abs ?_
  | ((with_reducible apply wp_ixd); (walk_at "ix")) | ((with_reducible apply wp_ixt); (walk_at "ix")) | ((with_reducible apply wp_ixr); (walk_at "st"); (walk_at "ix"))
  | with_reducible refine wp_lenl ?_ | with_reducible refine wp_lent ?_ | with_reducible refine wp_lensc ?_ | ((with_reducible apply wp_lenr); (walk_at "st"))
  | with_reducible refine wp_geqi ?_ | with_reducible refine wp_gnei ?_ | with_reducible refine wp_glti ?_ | with_reducible refine wp_ggti ?_ | with_reducible refine wp_glei ?_ | with_reducible refine wp_ggei ?_ | with_reducible refine wp_glts ?_ | with_reducible refine wp_ggts ?_
  | with_reducible refine is_bt_bt ?_ | with_reducible refine isn_bt_bt ?_ | with_reducible refine is_bt_bf ?_ | with_reducible refine isn_bt_bf ?_ | with_reducible refine is_bt_n ?_ | with_reducible refine isn_bt_n ?_ | with_reducible refine is_bf_bt ?_ | with_reducible refine isn_bf_bt ?_ | with_reducible refine is_bf_bf ?_ | with_reducible refine isn_bf_bf ?_ | with_reducible refine is_bf_n ?_ | with_reducible refine isn_bf_n ?_ | with_reducible refine is_n_bt ?_ | with_reducible refine isn_n_bt ?_ | with_reducible refine is_n_bf ?_ | with_reducible refine isn_n_bf ?_ | with_reducible refine is_n_n ?_ | with_reducible refine isn_n_n ?_ | with_reducible refine is_t_bt ?_ | with_reducible refine isn_t_bt ?_ | with_reducible refine is_t_bf ?_ | with_reducible refine isn_t_bf ?_ | with_reducible refine is_t_n ?_ | with_reducible refine isn_t_n ?_ | with_reducible refine is_l_bt ?_ | with_reducible refine isn_l_bt ?_ | with_reducible refine is_l_bf ?_ | with_reducible refine isn_l_bf ?_ | with_reducible refine is_l_n ?_ | with_reducible refine isn_l_n ?_ | with_reducible refine is_i_bt ?_ | with_reducible refine isn_i_bt ?_ | with_reducible refine is_i_bf ?_ | with_reducible refine isn_i_bf ?_ | with_reducible refine is_i_n ?_ | with_reducible refine isn_i_n ?_ | with_reducible refine is_s_bt ?_ | with_reducible refine isn_s_bt ?_ | with_reducible refine is_s_bf ?_ | with_reducible refine isn_s_bf ?_ | with_reducible refine is_s_n ?_ | with_reducible refine isn_s_n ?_
  | ((with_reducible refine wp_gis ?_ ?_); rfl) | ((with_reducible refine wp_gisn ?_ ?_); rfl) | with_reducible refine wp_trub ?_ | ((with_reducible refine isi_t (r := true) ?_ ?_); (decide +kernel)) | ((with_reducible refine isi_t (r := false) ?_ ?_); (decide +kernel)) | ((with_reducible refine isi_b (r := true) ?_ ?_); (decide +kernel)) | ((with_reducible refine isi_b (r := false) ?_ ?_); (decide +kernel)) | ((with_reducible refine isi_i (r := true) ?_ ?_); (decide +kernel)) | ((with_reducible refine isi_i (r := false) ?_ ?_); (decide +kernel)) | ((with_reducible refine isi_s (r := true) ?_ ?_); (decide +kernel)) | ((with_reducible refine isi_s (r := false) ?_ ?_); (decide +kernel)) | ((with_reducible refine isi_l (r := true) ?_ ?_); (decide +kernel)) | ((with_reducible refine isi_l (r := false) ?_ ?_); (decide +kernel)) | ((with_reducible refine isi_n (r := true) ?_ ?_); (decide +kernel)) | ((with_reducible refine isi_n (r := false) ?_ ?_); (decide +kernel))
  | with_reducible refine wp_tupl ?_ | with_reducible refine wp_tupt ?_ | ((with_reducible apply wp_tupr); (walk_at "st"))
  | with_reducible refine ite2 (fun _ => ?_) (fun z => absurd rfl z)
  | with_reducible refine ite2 (fun z => absurd z Bool.false_ne_true) (fun _ => ?_)
  | ((with_reducible apply rq_dt); (walk_at "tk")) | ((with_reducible apply rq_nxt); (walk_at "tk")))
local macro_rules | `(tactic| walk_at "fdef") => `(tactic| (refine wp_fdef rfl ?_; simp only [List.map_cons, List.map_nil, List.replicate_succ, List.replicate_zero, List.cons_append, List.nil_append]))
theorem stirred3 {S : List MO} {n t : Int} (n0 : 0 ≤ n) (n1 : n < 2147483543) (t0 : 0 ≤ t) (t1 : t ≤ 64) {Q : W3 → List MO → Prop} (q : ∀ v : Int, 0 ≤ v → Q (.d (.int v)) S) : Wp2 (f3_stirred [.d (.int n), .d (.int t)] S) Q := by
  have a0 := Int.emod_nonneg (n * 48017 + t * 8821 + 70001) (by decide : (2147483423 : Int) ≠ 0)
  have a1 := Int.emod_lt_of_pos (n * 48017 + t * 8821 + 70001) (by decide : (0 : Int) < 2147483423)
  unfold f3_stirred
  walk_at "fdef"
  repeat walk_at "wp"
  generalize (n * 48017 + t * 8821 + 70001) % 2147483423 = a at a0 a1
  exact q _ (Int.ediv_nonneg (Int.emod_nonneg _ (by decide)) (by decide))
def HandO (o : List PyData) : Prop := ∃ (cells : List Int) (at_ rest seed : Int), o = [.list (cells.map .int), .int at_, .int rest, .int seed] ∧ cells.length ≤ 63 ∧ (∀ x ∈ cells, 0 ≤ x) ∧ 0 ≤ at_ ∧ at_ ≤ 63 ∧ 0 ≤ rest ∧ 0 ≤ seed ∧ seed < 2147483543
theorem take3 {S : List MO} {h : Nat} {o : List PyData} {m : Int} (hh : S[h]? = some (.lst o)) (ho : HandO o) (m0 : 0 < m) (m1 : m < 1073741824) {Q : W3 → List MO → Prop} (q : ∀ (v : Int) (o' : List PyData), 0 ≤ v → v < m → HandO o' → Q (.d (.int v)) (S.set h (.lst o'))) : Wp2 (f3_take [.r h, .d (.int m)] S) Q := by
  obtain ⟨cells, at_, rest, seed, rfl, cl, c0, a0, a1, r0, s0, s1⟩ := ho
  have fin : ∀ (at_' rest' seed' z : Int), 0 ≤ at_' → at_' ≤ 63 → 0 ≤ rest' → 0 ≤ seed' → seed' < 2147483543 → Q (.d (.int (z % m))) (S.set h (.lst [.list (cells.map .int), .int at_', .int rest', .int seed'])) := fun at_' rest' seed' z b0 b1 b2 b3 b4 =>
    q _ _ (Int.emod_nonneg _ (by omega)) (Int.emod_lt_of_pos _ m0) ⟨cells, at_', rest', seed', rfl, cl, c0, b0, b1, b2, b3, b4⟩
  unfold f3_take
  walk_at "fdef"
  repeat walk_at "wp"
  refine ite2 (fun c1 => ?_) (fun c1 => ?_)
  · repeat walk_at "wp"
    refine ite2 (fun c2 => ?_) (fun c2 => ?_)
    · have c2' : at_ < ((cells.map PyData.int).length : Int) := of_decide_eq_true c2
      rw [List.length_map] at c2'
      have hk : at_.toNat < cells.length := by omega
      have x0 := c0 _ (List.getElem_mem hk)
      have ei : atI (cells.map PyData.int) at_ = some (.int cells[at_.toNat]) := atI_of a0 (by rw [List.getElem?_map, List.getElem?_eq_getElem hk]; rfl)
      repeat walk_at "wp"
      refine wp_ixd ei ?_
      repeat walk_at "wp"
      refine ite2 (fun c3 => ?_) (fun c3 => ?_)
      · have y0 := Int.emod_nonneg cells[at_.toNat] (by decide : (2147483423 : Int) ≠ 0)
        have y1 := Int.emod_lt_of_pos cells[at_.toNat] (by decide : (0 : Int) < 2147483423)
        repeat walk_at "wp"
        refine stirred3 y0 (by omega) (by omega) (by omega) fun v v0 => ?_
        repeat walk_at "wp"
        exact fin (at_ + 1) rest seed v (by omega) (by omega) r0 s0 s1
      · have c3' : ¬ cells[at_.toNat] < (10 : Int) ^ (18 : Int).toNat := fun z => c3 (decide_eq_true z)
        have d3 : ¬ cells[at_.toNat] < 1000000000000000000 := c3'
        repeat walk_at "wp"
        refine ite2 (fun c4 => ?_) (fun c4 => ?_)
        · repeat walk_at "wp"
          exact fin (at_ + 1) (cells[at_.toNat] / m) seed _ (by omega) (by omega) (Int.ediv_nonneg x0 (by omega)) s0 s1
        · exact absurd (show decide ((0 : Int) < cells[at_.toNat]) = true from decide_eq_true (by omega)) c4
    · repeat walk_at "wp"
      refine ite2 (fun c4 => ?_) (fun c4 => ?_)
      · have c4' : 0 < rest := of_decide_eq_true c4
        repeat walk_at "wp"
        exact fin at_ (rest / m) seed _ a0 a1 (Int.ediv_nonneg r0 (by omega)) s0 s1
      · have y0 := Int.emod_nonneg (seed + 1) (by decide : (2147483477 : Int) ≠ 0)
        have y1 := Int.emod_lt_of_pos (seed + 1) (by decide : (0 : Int) < 2147483477)
        repeat walk_at "wp"
        refine stirred3 y0 (by omega) (by omega) (by omega) fun v v0 => ?_
        repeat walk_at "wp"
        exact fin at_ rest ((seed + 1) % 2147483477) _ a0 a1 r0 y0 (by omega)
  · repeat walk_at "wp"
    refine ite2 (fun c4 => ?_) (fun c4 => ?_)
    · have c4' : 0 < rest := of_decide_eq_true c4
      repeat walk_at "wp"
      exact fin at_ (rest / m) seed _ a0 a1 (Int.ediv_nonneg r0 (by omega)) s0 s1
    · have y0 := Int.emod_nonneg (seed + 1) (by decide : (2147483477 : Int) ≠ 0)
      have y1 := Int.emod_lt_of_pos (seed + 1) (by decide : (0 : Int) < 2147483477)
      repeat walk_at "wp"
      refine stirred3 y0 (by omega) (by omega) (by omega) fun v v0 => ?_
      repeat walk_at "wp"
      exact fin at_ rest ((seed + 1) % 2147483477) _ a0 a1 r0 y0 (by omega)
/-- the hand of a script -/
theorem hand3 {S : List MO} {ns : List Int} (hl : ns.length ≤ 63) {Q : W3 → List MO → Prop} (q : ∀ o : List PyData, HandO o → Q (.r S.length) (S ++ [.lst o])) : Wp2 (f3_hand [.sc ns] S) Q := by
  unfold f3_hand
  walk_at "fdef"
  repeat walk_at "wp"
  refine wp_loop (n := 0) (fun i sl S' => ∃ (t : Int) (cs : List Int) (x : Option W3), sl = [some (.sc ns), some (.d (.int t)), some (.r S.length), x] ∧ S' = S ++ [.lst (cs.map .int)] ∧ cs.length = i ∧ (∀ x ∈ cs, 0 ≤ x) ∧ 0 ≤ t ∧ t < 2147483543)
    ⟨_, [], none, rfl, rfl, rfl, (fun x h => nomatch h), by omega, by omega⟩ (fun _ _ _ _ => rfl) (fun i w sl S' hw hi hp => ?_) (fun sl S' hp => ?_)
  · obtain ⟨t, cs, x0, rfl, rfl, hc, hn, t0, t1⟩ := hp
    obtain ⟨d, hd, rfl⟩ := ws_get hw
    rw [List.getElem?_map] at hd
    obtain ⟨z, hz, rfl⟩ := Option.map_eq_some_iff.mp hd
    have hlt : i < ns.length := by have := (List.getElem?_eq_some_iff.mp hz).1; omega
    repeat walk_at "wp"
    refine wp_app (by rw [List.length_map]; omega) ?_
    repeat walk_at "wp"
    refine ⟨_, cs ++ [if z < 0 then -z else z], _, rfl, ?_, by rw [List.length_append, hc]; rfl, ?_, Int.emod_nonneg _ (by decide), Int.emod_lt_of_pos _ (by decide)⟩
    · rw [set_last, List.map_append]; rfl
    · intro y hy
      rcases List.mem_append.mp hy with hy | hy
      · exact hn y hy
      · have e : y = if z < 0 then -z else z := by simpa using hy
        rw [e]
        split <;> omega
  · obtain ⟨t, cs, x0, rfl, rfl, hc, hn, t0, t1⟩ := hp
    rw [List.length_map, List.length_map] at hc
    repeat walk_at "wp"
    rw [set_last]
    refine rq_own (S0 := S) (take_app) (by rw [List.length_append]; omega) (q _ ⟨cs, 0, 0, t, rfl, by omega, hn, by decide, by decide, by decide, t0, t1⟩)
/-- a list in a drawn order -/
theorem shuffled3 {S : List MO} {h : Nat} {o : List PyData} {ds : List PyData} (hh : S[h]? = some (.lst o)) (ho : HandO o) (hl : ds.length ≤ 1000) {Q : W3 → List MO → Prop} (q : ∀ (es : List PyData) (o' : List PyData), es.Perm ds → HandO o' → Q (.d (.list es)) (S.set h (.lst o'))) : Wp2 (f3_shuffled [.r h, .d (.list ds)] S) Q := by
  unfold f3_shuffled
  walk_at "fdef"
  repeat walk_at "wp"
  have hlt : h < S.length := (List.getElem?_eq_some_iff.mp hh).1
  refine ⟨by rw [intsW_len]; omega, ?_⟩
  refine wp_comp (n := 0) (acc := []) (fun i acc S' => ∃ (rem : List PyData) (o' : List PyData), S' = S.set h (.lst o') ++ [.lst rem] ∧ HandO o' ∧ rem.length + i = ds.length ∧ (acc ++ rem).Perm ds)
    ⟨ds, o, by rw [set_same hh], ho, by omega, by rw [List.nil_append]⟩ (fun _ _ _ _ => rfl) (fun i w acc S' hw hi hp => ?_) (fun ys S' hp => ?_)
  · obtain ⟨rem, o', rfl, ho', hr, pm⟩ := hp
    obtain ⟨hlt2, rfl⟩ := intsW_get hw
    repeat walk_at "wp"
    have hrp : 0 < rem.length := by omega
    refine take3 (get_setapp hh) ho' (by omega) (by omega) fun v o2 v0 v1 ho2 => ?_
    rw [set_setapp hh]
    repeat walk_at "wp"
    have hv : v.toNat < rem.length := by omega
    refine wp_popAt v0 v1 (by omega) (List.getElem?_eq_getElem hv) ?_
    repeat walk_at "wp"
    refine ⟨rem.eraseIdx v.toNat, o2, set_setlast, ho2, ?_, perm_turn (List.getElem?_eq_getElem hv) pm⟩
    rw [List.length_eraseIdx, if_pos hv]
    omega
  · obtain ⟨rem, o', rfl, ho', hr, pm⟩ := hp
    rw [intsW_len] at hr
    have er : rem = [] := List.length_eq_zero_iff.mp (by omega)
    subst er
    repeat walk_at "wp"
    rw [List.append_nil, List.nil_append] at pm
    exact q ys o' pm ho'
end EA
namespace EA
open PySem PySem.Spec PyProof.Rows L2
theorem eq_of {α β : Type} {x : Option (α × β)} {u : α} {v : β} (h : Wp2 x fun a b => a = u ∧ b = v) : x = some (u, v) := by
  obtain ⟨⟨a, b⟩, e, e1, e2⟩ := h
  dsimp only at e1 e2
  rw [e, e1, e2]
/-! ### more on known things -/
theorem anyEq_strs (x : Str) : ∀ xs : List Str, ((xs.map PyData.str).any fun y => PyData.eqv y (.str x)) = decide (x ∈ xs)
  | [] => by simp
  | y :: r => by
    rw [List.map_cons, List.any_cons, anyEq_strs x r]
    show ((y == x) || decide (x ∈ r)) = _
    by_cases e : y = x
    · subst e; simp
    · rw [show (y == x) = false from beq_eq_false_iff_ne.mpr e]
      have e2 : x ≠ y := fun z => e z.symm
      simp [e2]
theorem dep_str (i : Str) : (PyData.str i).depth ≤ 40 := by rw [PyData.depth]; decide
theorem dep_bool (i : Bool) : (PyData.bool i).depth ≤ 40 := by rw [PyData.depth]; decide
section
variable {PB : Bool → Prop} {P : PyData → Prop} {S : List MO} {sl : Sl}
theorem wp_gin_sl {x : Str} {xs : List Str} (h : PB (decide (x ∈ xs))) : Wp (gIn (.str x) (.list (xs.map .str))) PB := wp_eq (if_pos (.inr (dep_str x))) (by rw [anyEq_strs]; exact h)
theorem wp_gin_st {x : Str} {xs : List Str} (h : PB (decide (x ∈ xs))) : Wp (gIn (.str x) (.tuple (xs.map .str))) PB := wp_eq (if_pos (.inr (dep_str x))) (by rw [anyEq_strs]; exact h)
theorem wp_nin {a b : PyData} {c : Bool} (h : Wp (gIn a b) fun d => d = c) (q : PB (!c)) : Wp (gNin a b) PB := wp_map.mpr (h.imp fun d e => by rw [e]; exact q)
theorem wp_gnin_sl {x : Str} {xs : List Str} (h : PB (!decide (x ∈ xs))) : Wp (gNin (.str x) (.list (xs.map .str))) PB := wp_nin (wp_gin_sl rfl) h
theorem wp_gnin_st {x : Str} {xs : List Str} (h : PB (!decide (x ∈ xs))) : Wp (gNin (.str x) (.tuple (xs.map .str))) PB := wp_nin (wp_gin_st rfl) h
theorem wp_geqs {i j : Str} (h : PB (i == j)) : Wp (gEq (.str i) (.str j)) PB := wp_geq (.inl (dep_str i)) h
theorem wp_gnes {i j : Str} (h : PB (!(i == j))) : Wp (gNe (.str i) (.str j)) PB := wp_gne (.inl (dep_str i)) h
theorem wp_geqb {i j : Bool} (h : PB (i == j)) : Wp (gEq (.bool i) (.bool j)) PB := wp_geq (.inl (dep_bool i)) h
theorem wp_gneb {i j : Bool} (h : PB (!(i == j))) : Wp (gNe (.bool i) (.bool j)) PB := wp_gne (.inl (dep_bool i)) h
theorem eqv_nil (xs : List PyData) : PyData.eqv (.list xs) (.list []) = xs.isEmpty := by
  cases xs with
  | nil => rfl
  | cons _ _ => rfl
theorem dep_nil : (PyData.list []).depth ≤ 40 := by decide
theorem wp_geq_nil {xs : List PyData} (h : PB xs.isEmpty) : Wp (gEq (.list xs) (.list [])) PB := wp_geq (.inr dep_nil) (by rw [eqv_nil]; exact h)
theorem wp_gne_nil {xs : List PyData} (h : PB (!xs.isEmpty)) : Wp (gNe (.list xs) (.list [])) PB := wp_gne (.inr dep_nil) (by rw [eqv_nil]; exact h)
theorem wp_trul {xs : List PyData} (h : PB (!xs.isEmpty)) : Wp (truW S (.d (.list xs))) PB := wp_some.mpr h
theorem wp_trut {xs : List PyData} (h : PB (!xs.isEmpty)) : Wp (truW S (.d (.tuple xs))) PB := wp_some.mpr h
theorem wp_trur {i : Nat} {xs : List PyData} (e : S[i]? = some (.lst xs)) (h : PB (!xs.isEmpty)) : Wp (truW S (.r i)) PB := by
  refine wp_eq (a := !xs.isEmpty) ?_ h
  unfold truW
  dsimp only
  rw [e]
theorem wp_trui {i : Int} (h : PB (i != 0)) : Wp (truW S (.d (.int i))) PB := wp_some.mpr h
/-- a slice from k on, one up to k -/
theorem cutD_from {α : Type} (xs : List α) (k : Nat) : cutD xs (some (k : Int)) none = xs.drop k := by
  unfold cutD
  rw [HT.sIx_nat, HT.sIx_none]
  by_cases h : k ≤ xs.length
  · rw [Nat.min_eq_left h]
    exact List.take_of_length_le (by rw [List.length_drop]; exact Nat.le_refl _)
  · rw [Nat.min_eq_right (by omega), List.drop_length, List.drop_eq_nil_of_le (by omega), List.take_nil]
theorem cutD_to {α : Type} (xs : List α) (k : Nat) : cutD xs none (some (k : Int)) = xs.take k := by
  unfold cutD
  rw [HT.sIx_nat, HT.sIx_none]
  by_cases h : k ≤ xs.length
  · rw [Nat.min_eq_left h]; rfl
  · rw [Nat.min_eq_right (by omega)]
    show (xs.drop 0).take (xs.length - 0) = _
    rw [List.drop_zero, Nat.sub_zero, List.take_length, List.take_of_length_le (by omega)]
theorem wp_cutl {l h : Option Int} {xs : List PyData} (q : P (.list (cutD xs l h))) : Wp (gCut l h (.list xs)) P := wp_some.mpr q
theorem wp_cutt {l h : Option Int} {xs : List PyData} (q : P (.tuple (cutD xs l h))) : Wp (gCut l h (.tuple xs)) P := wp_some.mpr q
instance st_wp_trul {xs : List PyData} : Step (Wp (truW S (.d (.list xs))) PB) (PB (!xs.isEmpty)) := ⟨wp_trul⟩
instance st_wp_trut {xs : List PyData} : Step (Wp (truW S (.d (.tuple xs))) PB) (PB (!xs.isEmpty)) := ⟨wp_trut⟩
instance st_wp_trui {i : Int} : Step (Wp (truW S (.d (.int i))) PB) (PB (i != 0)) := ⟨wp_trui⟩
instance st_wp_cutl {l h : Option Int} {xs : List PyData} : Step (Wp (gCut l h (.list xs)) P) (P (.list (cutD xs l h))) := ⟨wp_cutl⟩
instance st_wp_cutt {l h : Option Int} {xs : List PyData} : Step (Wp (gCut l h (.tuple xs)) P) (P (.tuple (cutD xs l h))) := ⟨wp_cutt⟩
end
/-- a comprehension without a test that leaves the store as it is -/
theorem wp_all {ok : List MO → Bool} {g : FG} {e : FE} {sl : Sl} {S : List MO} {QN : List PyData → List MO → Prop} {ws : List W3} {α : Type} (xs : List α) (w : α → W3) (v : α → PyData) (hws : ws = xs.map w) (hok : ok S = true)
    (hs : ∀ x ∈ xs, Wp2 (g (w x) sl S) fun p1 p2 => Wp2 (e p1 p2) fun y1 y2 => y1 = .d (v x) ∧ y2 = S) (h : QN (xs.map v) S) (hg : ∀ w sl' S', g w sl S = some (sl', S') → S' = S) : Wp2 (cLoop ok g tYes3 e sl ws S) QN :=
  wp_pure xs w (fun _ => true) v hws hok (fun x hx => by
    obtain ⟨⟨a, b⟩, e1, h1⟩ := hs x hx
    have := hg _ _ _ e1
    subst this
    exact ⟨(a, b), e1, wp2_some ⟨rfl, rfl, fun _ => h1⟩⟩) (by rw [List.filter_eq_self.mpr fun _ _ => rfl]; exact h)
theorem gnm_st {i : Nat} {sl : Sl} {S : List MO} : ∀ w sl' S', gNm i w sl S = some (sl', S') → S' = S := fun _ _ _ e => by cases e; rfl
theorem intsW_of {α : Type} {L : List α} {n : Nat} (h : L.length = n) : intsW 0 ((L.length : Nat) : Int).toNat = (List.range n).map fun j => W3.d (.int (j : Nat)) := by
  unfold intsW
  rw [Int.toNat_natCast, h]
  exact List.map_congr_left fun k _ => by rw [Int.zero_add]
theorem atI_at {α : Type} {xs : List α} {j : Nat} {x : α} (h : xs[j]? = some x) : atI xs (j : Int) = some x := atI_nat' (by omega) (by rw [Int.toNat_natCast]; exact h)
end EA
namespace EA
open PySem PySem.Spec PyProof.Rows L2
/-! ### part settings -/
abbrev Pt : Type := List (Str × Bool)
/-- a setting keeps a part -/
def Kp (f : Str → Bool) (l : Pt) : Prop := ∀ r ∈ l, f r.1 = r.2
def drp (l : Pt) (s : Str) : Pt := l.filter fun r => decide (r.1 ≠ s)
/-- the condition always holds under the part -/
def Alw (c : C) (l : Pt) : Prop := ∀ f, Kp f l → c.ev f = true
def Lst (c : C) (l : Pt) : Prop := Alw c l ∧ ∀ s ∈ l.map (·.1), ¬ Alw c (drp l s)
def Sub (ns : List Str) (l : Pt) : Prop := (l.map (·.1)).Sublist ns
theorem kp_cons {f : Str → Bool} {s : Str} {b : Bool} {l : Pt} : Kp f ((s, b) :: l) ↔ f s = b ∧ Kp f l := by
  unfold Kp
  rw [List.forall_mem_cons]
theorem kp_fset {f : Str → Bool} {s : Str} {o : Bool} {l : Pt} (h : s ∉ l.map (·.1)) : Kp (fset f s o) l ↔ Kp f l := by
  have e : ∀ r ∈ l, fset f s o r.1 = f r.1 := fun r hr => by
    show (if r.1 = s then o else f r.1) = f r.1
    rw [if_neg fun e => h (List.mem_map.mpr ⟨r, hr, e⟩)]
  exact ⟨fun k r hr => (e r hr).symm.trans (k r hr), fun k r hr => (e r hr).trans (k r hr)⟩
theorem fset_at (f : Str → Bool) (s : Str) (o : Bool) : fset f s o s = o := if_pos rfl
/-- under a head -/
theorem alw_cons {ys : List Str} {s : Str} {x y : C} {b : Bool} {l : Pt} (hx : OC ys x) (hy : OC ys y) (ns : s ∉ ys) (nl : s ∉ l.map (·.1)) : Alw (.nd s x y) ((s, b) :: l) ↔ Alw (if b then x else y) l := by
  have hz : OC ys (if b then x else y) := by cases b; exact hy; exact hx
  refine ⟨fun h f k => ?_, fun h f k => ?_⟩
  · have t := h (fset f s b) (kp_cons.mpr ⟨fset_at f s b, (kp_fset nl).mpr k⟩)
    rw [← hz.ev_fset (f := f) (o := b) ns]
    have t : (if fset f s b s then x.ev (fset f s b) else y.ev (fset f s b)) = true := t
    rw [fset_at] at t
    cases b <;> exact t
  · obtain ⟨k1, k2⟩ := kp_cons.mp k
    show (if f s then x.ev f else y.ev f) = true
    have t := h f k2
    rw [k1]
    cases b <;> exact t
theorem alw_both {ys : List Str} {s : Str} {x y : C} {l : Pt} (hx : OC ys x) (hy : OC ys y) (ns : s ∉ ys) (nl : s ∉ l.map (·.1)) : Alw (.nd s x y) l ↔ Alw x l ∧ Alw y l := by
  have one : ∀ (b : Bool), Alw (.nd s x y) l → Alw (if b then x else y) l := fun b h => (alw_cons hx hy ns nl).mp fun f k => h f (kp_cons.mp k).2
  refine ⟨fun h => ⟨one true h, one false h⟩, fun ⟨h1, h2⟩ f k => ?_⟩
  show (if f s then x.ev f else y.ev f) = true
  cases f s
  · exact h2 f k
  · exact h1 f k
theorem drp_names {l : Pt} {s t : Str} (h : t ∉ l.map (·.1)) : t ∉ (drp l s).map (·.1) := fun m => by
  obtain ⟨r, hr, e⟩ := List.mem_map.mp m
  exact h (List.mem_map.mpr ⟨r, (List.mem_filter.mp hr).1, e⟩)
theorem drp_cons_ne {l : Pt} {s t : Str} {b : Bool} (h : t ≠ s) : drp ((t, b) :: l) s = (t, b) :: drp l s := List.filter_cons_of_pos (by simpa using h)
theorem drp_no {l : Pt} {s : Str} (h : s ∉ l.map (·.1)) : drp l s = l := List.filter_eq_self.mpr fun r hr => by
  have : r.1 ≠ s := fun e => h (List.mem_map.mpr ⟨r, hr, e⟩)
  simpa using this
theorem drp_head {l : Pt} {s : Str} {b : Bool} (h : s ∉ l.map (·.1)) : drp ((s, b) :: l) s = l := by
  have e : drp ((s, b) :: l) s = drp l s := List.filter_cons_of_neg (by simp)
  rw [e, drp_no h]
theorem lst_both {ys : List Str} {s : Str} {x y d : C} {l : Pt} (hx : OC ys x) (hy : OC ys y) (ns : s ∉ ys) (nl : s ∉ l.map (·.1)) (hd : ∀ f, d.ev f = (x.ev f && y.ev f)) : Lst (.nd s x y) l ↔ Lst d l := by
  have a : ∀ m : Pt, s ∉ m.map (·.1) → (Alw (.nd s x y) m ↔ Alw d m) := fun m hm => by
    rw [alw_both hx hy ns hm]
    refine ⟨fun ⟨h1, h2⟩ f k => by rw [hd, h1 f k, h2 f k]; rfl, fun h => ⟨fun f k => ?_, fun f k => ?_⟩⟩
    · have t := h f k
      rw [hd, Bool.and_eq_true] at t
      exact t.1
    · have t := h f k
      rw [hd, Bool.and_eq_true] at t
      exact t.2
  unfold Lst
  rw [a l nl]
  refine and_congr Iff.rfl ⟨fun h t ht k => h t ht ((a _ (drp_names nl)).mpr k), fun h t ht k => h t ht ((a _ (drp_names nl)).mp k)⟩
theorem lst_cons {ys : List Str} {s : Str} {x y : C} {b : Bool} {l : Pt} (hx : OC ys x) (hy : OC ys y) (ns : s ∉ ys) (nl : s ∉ l.map (·.1)) :
    Lst (.nd s x y) ((s, b) :: l) ↔ Lst (if b then x else y) l ∧ ¬ Alw (if b then y else x) l := by
  unfold Lst
  rw [alw_cons hx hy ns nl, List.map_cons, List.forall_mem_cons, drp_head nl, alw_both hx hy ns nl]
  constructor
  · rintro ⟨h1, h2, h3⟩
    refine ⟨⟨h1, fun t ht k => h3 t ht ?_⟩, fun k => h2 ?_⟩
    · rw [drp_cons_ne fun e => nl (by rw [e]; exact ht)]
      exact (alw_cons hx hy ns (drp_names nl)).mpr k
    · cases b
      · exact ⟨k, h1⟩
      · exact ⟨h1, k⟩
  · rintro ⟨⟨h1, h3⟩, h2⟩
    refine ⟨h1, fun k => h2 ?_, fun t ht k => h3 t ht ?_⟩
    · cases b
      · exact k.1
      · exact k.2
    · rw [drp_cons_ne fun e => nl (by rw [e]; exact ht)] at k
      exact (alw_cons hx hy ns (drp_names nl)).mp k
/-- the causes, all of them, once -/
structure CL (ns : List Str) (c : C) (ls : List Pt) : Prop where
  nd : ls.Nodup
  mem : ∀ l, l ∈ ls ↔ Sub ns l ∧ Lst c l
  few : ls.length ≤ 3 ^ ns.length
theorem sub_cons {n : Str} {ns : List Str} {l : Pt} : Sub (n :: ns) l ↔ Sub ns l ∨ ∃ b m, l = (n, b) :: m ∧ Sub ns m := by
  unfold Sub
  constructor
  · intro h
    match l, h with
    | [], _ => exact .inl (List.nil_sublist _)
    | (s, b) :: m, h =>
      rw [List.map_cons] at h ⊢
      cases h with
      | cons _ h => exact .inl h
      | cons_cons _ h => exact .inr ⟨b, m, rfl, h⟩
  · rintro (h | ⟨b, m, rfl, h⟩)
    · exact h.cons _
    · exact h.cons_cons _
theorem Sub.names {ns : List Str} {l : Pt} (h : Sub ns l) {s : Str} (n : s ∉ ns) : s ∉ l.map (·.1) := fun m => n (h.subset m)
theorem CL.up {n : Str} {ns : List Str} {c : C} {ls : List Pt} (h : CL ns c ls) (hc : OC ns c) (nn : n ∉ ns) : CL (n :: ns) c ls := by
  refine ⟨h.nd, fun l => ?_, Nat.le_trans h.few (Nat.pow_le_pow_right (by decide) (by simp))⟩
  rw [h.mem, sub_cons]
  refine ⟨fun ⟨a, b⟩ => ⟨.inl a, b⟩, ?_⟩
  rintro ⟨a | ⟨b, m, rfl, hm⟩, L⟩
  · exact ⟨a, L⟩
  · refine absurd (fun f k => ?_) (L.2 n (by simp))
    have nm := hm.names nn
    rw [drp_head nm] at k
    have t := L.1 (fset f n b) (kp_cons.mpr ⟨fset_at f n b, (kp_fset nm).mpr k⟩)
    rw [hc.ev_fset nn] at t
    exact t
theorem Sub.nd {ns : List Str} {l : Pt} (h : Sub ns l) (nd : ns.Nodup) : (l.map (·.1)).Nodup := List.Nodup.sublist h nd
theorem nodup_map_cons {α : Type} (a : α) : ∀ {l : List (List α)}, l.Nodup → (l.map (a :: ·)).Nodup := fun h => List.pairwise_map.mpr (h.imp fun n e => n (List.cons.inj e).2)
theorem CL.step {s : Str} {ys : List Str} {x y d : C} {l0 l1 l2 : List Pt} {p1 p2 : Pt → Bool} (nd : (s :: ys).Nodup) (hx : OC ys x) (hy : OC ys y) (hd : ∀ f, d.ev f = (x.ev f && y.ev f)) (h0 : CL ys d l0) (h1 : CL ys y l1) (h2 : CL ys x l2)
    (e1 : ∀ l ∈ l1, (p1 l = true ↔ ¬ Alw x l)) (e2 : ∀ l ∈ l2, (p2 l = true ↔ ¬ Alw y l)) : CL (s :: ys) (.nd s x y) (l0 ++ (l1.filter p1).map ((s, false) :: ·) ++ (l2.filter p2).map ((s, true) :: ·)) := by
  obtain ⟨ns, ndy⟩ := List.nodup_cons.mp nd
  refine ⟨?_, fun l => ?_, ?_⟩
  · rw [List.nodup_append, List.nodup_append]
    refine ⟨⟨h0.nd, nodup_map_cons _ (h1.nd.sublist List.filter_sublist), fun a ha b hb e => ?_⟩, nodup_map_cons _ (h2.nd.sublist List.filter_sublist), fun a ha b hb e => ?_⟩
    · obtain ⟨m, hm, rfl⟩ := List.mem_map.mp hb
      subst e
      exact ((h0.mem _).mp ha).1.names ns (by simp)
    · obtain ⟨m, hm, rfl⟩ := List.mem_map.mp hb
      subst e
      rcases List.mem_append.mp ha with ha | ha
      · exact ((h0.mem _).mp ha).1.names ns (by simp)
      · obtain ⟨m', _, e⟩ := List.mem_map.mp ha
        have := (List.cons.inj e).1
        exact absurd (congrArg (·.2) this) (by simp)
  · rw [List.mem_append, List.mem_append, sub_cons]
    constructor
    · rintro ((h | h) | h)
      · obtain ⟨a, b⟩ := (h0.mem _).mp h
        exact ⟨.inl a, (lst_both hx hy ns (a.names ns) hd).mpr b⟩
      · obtain ⟨m, hm, rfl⟩ := List.mem_map.mp h
        obtain ⟨hm, pm⟩ := List.mem_filter.mp hm
        obtain ⟨a, b⟩ := (h1.mem _).mp hm
        exact ⟨.inr ⟨_, _, rfl, a⟩, (lst_cons (b := false) hx hy ns (a.names ns)).mpr ⟨b, (e1 _ hm).mp pm⟩⟩
      · obtain ⟨m, hm, rfl⟩ := List.mem_map.mp h
        obtain ⟨hm, pm⟩ := List.mem_filter.mp hm
        obtain ⟨a, b⟩ := (h2.mem _).mp hm
        exact ⟨.inr ⟨_, _, rfl, a⟩, (lst_cons (b := true) hx hy ns (a.names ns)).mpr ⟨b, (e2 _ hm).mp pm⟩⟩
    · rintro ⟨a | ⟨b, m, rfl, a⟩, L⟩
      · exact .inl (.inl ((h0.mem _).mpr ⟨a, (lst_both hx hy ns (a.names ns) hd).mp L⟩))
      · obtain ⟨L1, L2⟩ := (lst_cons hx hy ns (a.names ns)).mp L
        cases b with
        | false =>
          have hm := (h1.mem m).mpr ⟨a, L1⟩
          exact .inl (.inr (List.mem_map.mpr ⟨m, List.mem_filter.mpr ⟨hm, (e1 m hm).mpr L2⟩, rfl⟩))
        | true =>
          have hm := (h2.mem m).mpr ⟨a, L1⟩
          exact .inr (List.mem_map.mpr ⟨m, List.mem_filter.mpr ⟨hm, (e2 m hm).mpr L2⟩, rfl⟩)
  · have f0 := h0.few
    have f1 := h1.few
    have f2 := h2.few
    have g1 := List.length_filter_le p1 l1
    have g2 := List.length_filter_le p2 l2
    rw [List.length_append, List.length_append, List.length_map, List.length_map, List.length_cons, Nat.pow_succ]
    omega
/-! ### parts by their rows -/
def ins : List Nat → List Bool
  | [] => [true]
  | x :: p => (ins p).map (fun t => t && decide (x ≠ 1)) ++ (ins p).map (fun t => t && decide (x ≠ 0))
/-! ### as data -/
end EA
namespace EA
open PySem PySem.Spec PyProof.Rows L2
/-- the turns of the causes -/
def PL (ys : List Str) (s : Str) (x y : C) : Nat → List Pt → Prop
  | 0, ls => ∃ d, (∀ f, d.ev f = (x.ev f && y.ev f)) ∧ CL ys d ls
  | i + 1, ls => ∃ l0 lm pm, PL ys s x y i l0 ∧ CL ys (if i = 1 then x else y) lm ∧ (∀ l ∈ lm, (pm l = true ↔ ¬ Alw (if i = 1 then y else x) l)) ∧ ls = l0 ++ (lm.filter pm).map ((s, decide (i = 1)) :: ·)
/-! ### the sorted causes -/
end EA
namespace EA
open PySem PySem.Spec PyProof.Rows L2
/-! ### sorted -/
theorem le_trans3 (a b c : PyData) (h : W.dataLe (β := PyData) false id a b = true) (k : W.dataLe (β := PyData) false id b c = true) : W.dataLe (β := PyData) false id a c = true :=
  (W.sortLe_total (PyProof.Rows.listOrd itemOrd) false (fun b : PyData => W.keyToks b)).trans a b c h k
theorem le_total3 (a b : PyData) : (W.dataLe (β := PyData) false id a b || W.dataLe (β := PyData) false id b a) = true := by
  rcases (W.sortLe_total (PyProof.Rows.listOrd itemOrd) false (fun b : PyData => W.keyToks b)).total a b with h | h
  · rw [show W.dataLe (β := PyData) false id a b = true from h]; rfl
  · rw [show W.dataLe (β := PyData) false id b a = true from h]; exact Bool.or_true _
theorem sorted3 (ds : List PyData) : (ds.mergeSort (W.dataLe false id)).Pairwise (fun a b => W.dataLe (β := PyData) false id a b = true) := List.pairwise_mergeSort le_trans3 le_total3 ds
section
variable {S : List MO} {QL : List PyData → Prop}
theorem wp_sortD {ds : List PyData} (h1 : W.AllAlike ds) (h2 : 2 ≤ ds.length → W.Sortable ds) (h3 : ∀ d ∈ ds, d.depth ≤ 40) (q : QL (ds.mergeSort (W.dataLe false id))) : Wp (gSorted S [.d (.list ds)]) QL := by
  refine wp_eq (a := ds.mergeSort (W.dataLe false id)) ?_ q
  show sortD ds = _
  unfold sortD
  rw [if_pos ⟨h1, h2, h3⟩]
theorem wp_sortR {i : Nat} {ds : List PyData} (e : S[i]? = some (.lst ds)) (h : Wp (gSorted S [.d (.list ds)]) QL) : Wp (gSorted S [.r i]) QL := by
  have : gSorted S [.r i] = gSorted S [.d (.list ds)] := by
    unfold gSorted
    dsimp only
    rw [r_viewr e]; rfl
  rw [this]; exact h
theorem wp_sort_strs {ks : List Str} (nd : ks.Nodup) (q : ∀ ms : List Str, ms.Perm ks → ms.Pairwise slt → QL (ms.map .str)) : Wp (gSorted S [.d (.list (ks.map .str))]) QL := by
  refine wp_sortD (fun a ha b hb => ?_) (fun _ => .inr fun d hd => ?_) (fun d hd => ?_) ?_
  · obtain ⟨x, _, rfl⟩ := List.mem_map.mp ha
    obtain ⟨y, _, rfl⟩ := List.mem_map.mp hb
    rfl
  · obtain ⟨x, _, rfl⟩ := List.mem_map.mp hd
    exact ⟨(fun z => nomatch z), fun _ z => nomatch z⟩
  · obtain ⟨x, _, rfl⟩ := List.mem_map.mp hd
    exact dep_str x
  · obtain ⟨ms, e, p⟩ := perm_map_inv (List.mergeSort_perm (ks.map PyData.str) (W.dataLe false id)) rfl
    have so := sorted3 (ks.map PyData.str)
    rw [e] at so ⊢
    refine q ms p ?_
    have nd2 : ms.Nodup := p.nodup_iff.mpr nd
    refine List.Pairwise.imp₂ (fun a b h ne => ?_) (List.pairwise_map.mp so) nd2
    have h' : (!W.dataLt (.str b) (.str a)) = true := h
    rw [W.dataLt_str] at h'
    have nlt : ¬ slt b a := by simpa [slt] using h'
    exact Classical.byContradiction fun n => ne (slt_tri n nlt)
end
end EA
namespace EA
open PySem PySem.Spec PyProof.Rows L2
/-! ### while; the lesser of two texts -/
def wNext (t : FT) (b : FS) (n : Nat) : Out → Option Out
  | .nx a c => wRun t b n a c
  | .ct a c => wRun t b n a c
  | .bk a c => some (.nx a c)
  | .rt w c => some (.rt w c)
theorem wRun_step {t : FT} {b : FS} {n : Nat} {sl : Sl} {S S1 : List MO} {o : Out} (e1 : t sl S = some (true, S1)) (e2 : b sl S1 = some o) : wRun t b (n + 1) sl S = wNext t b n o := by
  rw [wRun, e1]
  simp only [Option.bind_some, if_true]
  rw [e2]
  cases o <;> rfl
theorem wp_while {t : FT} {b : FS} {Q : Out → Prop} (P : Nat → Sl → List MO → Prop) (step : ∀ m sl S, P m sl S → Wp2 (t sl S) fun c S1 => if c = true then Wp (b sl S1) (loopQ (fun sl' S' => ∃ m', m' < m ∧ P m' sl' S') Q) else Q (.nx sl S1)) {m : Nat} {sl : Sl} {S : List MO} (h : P m sl S) : Wp (sWh t b sl S) Q := by
  suffices k : ∀ m sl S, P m sl S → ∃ n o, wRun t b n sl S = some o ∧ Q o by
    obtain ⟨n, o, e, q⟩ := k m sl S h
    exact ⟨o, sWh_of e, q⟩
  intro m
  induction m using Nat.strongRecOn with
  | _ m ih =>
    intro sl S h
    obtain ⟨⟨c, S1⟩, e1, h1⟩ := step m sl S h
    dsimp only at h1
    cases c with
    | false =>
      rw [if_neg Bool.false_ne_true] at h1
      exact ⟨1, .nx sl S1, by rw [wRun, e1]; rfl, h1⟩
    | true =>
      rw [if_pos rfl] at h1
      obtain ⟨o, e2, h2⟩ := h1
      cases o with
      | nx sl' S' =>
        obtain ⟨m', lt, p⟩ := h2
        obtain ⟨n, o, e3, q⟩ := ih m' lt sl' S' p
        exact ⟨n + 1, o, (wRun_step e1 e2).trans e3, q⟩
      | ct sl' S' =>
        obtain ⟨m', lt, p⟩ := h2
        obtain ⟨n, o, e3, q⟩ := ih m' lt sl' S' p
        exact ⟨n + 1, o, (wRun_step e1 e2).trans e3, q⟩
      | bk sl' S' =>
        exact ⟨1, _, wRun_step (n := 0) e1 e2, h2⟩
      | rt w S' =>
        exact ⟨1, _, wRun_step (n := 0) e1 e2, h2⟩
end EA
namespace EA
open PySem PySem.Spec PyProof.Rows L2
/-! ### least lots -/
/-- all the least lots of a row of marks at which F holds, each once -/
structure Lots (ms : List Int) (F : List Int → Bool) (ls : List (List Int)) : Prop where
  nd : ls.Nodup
  mem : ∀ S, S ∈ ls ↔ S.Sublist ms ∧ F S = true ∧ ∀ T, T.Sublist S → T ≠ S → F T = false
  few : ls.length ≤ 2 ^ ms.length
theorem sub_of_mem : ∀ {ms S T : List Int}, ms.Nodup → S.Sublist ms → T.Sublist ms → (∀ x ∈ T, x ∈ S) → T.Sublist S
  | [], S, T, _, hs, ht, _ => by
    rw [List.sublist_nil.mp ht]
    exact List.nil_sublist _
  | m :: ms, S, T, nd, hs, ht, h => by
    obtain ⟨nm, nd'⟩ := List.nodup_cons.mp nd
    cases ht with
    | cons _ ht =>
      cases hs with
      | cons _ hs => exact sub_of_mem nd' hs ht h
      | cons_cons _ hs =>
        refine List.Sublist.cons _ (sub_of_mem nd' hs ht fun x hx => ?_)
        rcases List.mem_cons.mp (h x hx) with e | e
        · exact absurd (ht.subset hx) (by rw [e]; exact nm)
        · exact e
    | cons_cons _ ht =>
      cases hs with
      | cons _ hs => exact absurd (hs.subset (h m List.mem_cons_self)) nm
      | cons_cons _ hs =>
        refine List.Sublist.cons_cons _ (sub_of_mem nd' hs ht fun x hx => ?_)
        rcases List.mem_cons.mp (h x (List.mem_cons_of_mem _ hx)) with e | e
        · exact absurd (ht.subset hx) (by rw [e]; exact nm)
        · exact e
theorem Lots.below {ms : List Int} {F : List Int → Bool} {ls : List (List Int)} (h : Lots ms F ls) : ∀ (n : Nat) {U : List Int}, U.length ≤ n → U.Sublist ms → F U = true → ∃ L ∈ ls, L.Sublist U
  | n, U, hn, hu, hf => by
    by_cases least : ∀ T, T.Sublist U → T ≠ U → F T = false
    · exact ⟨U, (h.mem U).mpr ⟨hu, hf, least⟩, List.Sublist.refl U⟩
    · have ex : ∃ T, T.Sublist U ∧ T ≠ U ∧ F T = true := Classical.byContradiction fun no => least fun T h1 h2 => by
        cases hT : F T with
        | false => rfl
        | true => exact absurd ⟨T, h1, h2, hT⟩ no
      obtain ⟨T, h1, h2, h3⟩ := ex
      have lt : T.length < U.length := by
        have le := h1.length_le
        rcases Nat.lt_or_eq_of_le le with l | l
        · exact l
        · exact absurd (h1.eq_of_length l) h2
      match n, hn with
      | 0, hn => omega
      | n + 1, hn =>
        obtain ⟨L, hL, sL⟩ := h.below n (U := T) (by omega) (h1.trans hu) h3
        exact ⟨L, hL, sL.trans h1⟩
theorem Lots.none {ms : List Int} {F : List Int → Bool} (h : ∀ S, S.Sublist ms → F S = false) : Lots ms F [] :=
  ⟨List.nodup_nil, fun S => ⟨fun z => (nomatch z), fun ⟨a, b, _⟩ => by rw [h S a] at b; cases b⟩, Nat.zero_le _⟩
theorem Lots.all {ms : List Int} {F : List Int → Bool} (h : F [] = true) : Lots ms F [[]] :=
  ⟨by simp, fun S => by
    rw [List.mem_singleton]
    constructor
    · rintro rfl
      exact ⟨List.nil_sublist _, h, fun T h1 h2 => absurd (List.sublist_nil.mp h1) h2⟩
    · rintro ⟨_, _, h3⟩
      refine Classical.byContradiction fun ne => ?_
      have := h3 [] (List.nil_sublist _) (fun e => ne e.symm)
      rw [h] at this
      exact absurd this (by decide), Nat.one_le_two_pow⟩
theorem Lots.step {m : Int} {ms : List Int} {F F0 F1 : List Int → Bool} {l0 l1 : List (List Int)} {p : List Int → Bool} (nd : (m :: ms).Nodup) (h0 : Lots ms F0 l0) (h1 : Lots ms F1 l1) (e0 : ∀ S, S.Sublist ms → F S = F0 S) (e1 : ∀ S, S.Sublist ms → F (m :: S) = F1 S)
    (hp : ∀ S ∈ l1, (p S = true ↔ ¬ ∃ L ∈ l0, ∀ x ∈ L, x ∈ S)) : Lots (m :: ms) F (l0 ++ (l1.filter p).map (m :: ·)) := by
  obtain ⟨nm, nd'⟩ := List.nodup_cons.mp nd
  have no : ∀ {S : List Int}, S.Sublist ms → m ∉ S := fun h z => nm (h.subset z)
  refine ⟨?_, fun S => ?_, ?_⟩
  · rw [List.nodup_append]
    refine ⟨h0.nd, List.pairwise_map.mpr ((h1.nd.sublist List.filter_sublist).imp fun n e => n (List.cons.inj e).2), fun a ha b hb e => ?_⟩
    obtain ⟨T, _, rfl⟩ := List.mem_map.mp hb
    subst e
    exact no ((h0.mem _).mp ha).1 List.mem_cons_self
  · rw [List.mem_append]
    constructor
    · rintro (h | h)
      · obtain ⟨a, b, c⟩ := (h0.mem S).mp h
        exact ⟨a.cons _, by rw [e0 S a]; exact b, fun T t1 t2 => by rw [e0 T (t1.trans a)]; exact c T t1 t2⟩
      · obtain ⟨T, hT, rfl⟩ := List.mem_map.mp h
        obtain ⟨hT, pT⟩ := List.mem_filter.mp hT
        obtain ⟨a, b, c⟩ := (h1.mem T).mp hT
        have nol := (hp T hT).mp pT
        refine ⟨a.cons_cons _, by rw [e1 T a]; exact b, fun U u1 u2 => ?_⟩
        cases u1 with
        | cons _ u1 =>
          have hu := u1.trans a
          rw [e0 U hu]
          cases hF : F0 U with
          | false => rfl
          | true =>
            obtain ⟨L, hL, sL⟩ := h0.below _ (Nat.le_refl _) hu hF
            exact absurd ⟨L, hL, fun x hx => (sL.trans u1).subset hx⟩ nol
        | cons_cons _ u1 =>
          rename_i U'
          rw [e1 U' (u1.trans a)]
          exact c U' u1 fun e => u2 (by rw [e])
    · rintro ⟨a, b, c⟩
      cases a with
      | cons _ a =>
        left
        exact (h0.mem S).mpr ⟨a, by rw [← e0 S a]; exact b, fun T t1 t2 => by rw [← e0 T (t1.trans a)]; exact c T t1 t2⟩
      | cons_cons _ a =>
        rename_i T
        right
        rw [e1 T a] at b
        have hT : T ∈ l1 := (h1.mem T).mpr ⟨a, b, fun U u1 u2 => by rw [← e1 U (u1.trans a)]; exact c _ (u1.cons_cons _) fun e => u2 (List.cons.inj e).2⟩
        refine List.mem_map.mpr ⟨T, List.mem_filter.mpr ⟨hT, (hp T hT).mpr ?_⟩, rfl⟩
        rintro ⟨L, hL, sL⟩
        obtain ⟨l1', l2', _⟩ := (h0.mem L).mp hL
        have sub := sub_of_mem nd' a l1' sL
        have := c L (sub.cons _) fun e => no l1' (by rw [e]; exact List.mem_cons_self)
        rw [e0 L l1', l2'] at this
        cases this
  · have f0 := h0.few
    have f1 := h1.few
    have g := List.length_filter_le p l1
    rw [List.length_append, List.length_map, List.length_cons, Nat.pow_succ]
    omega
end EA
namespace EA
open PySem PySem.Spec PyProof.Rows L2
noncomputable def f3_side_of : F3 := fdef false 3 0
  (sSeq (sIf (tOr3 (tTr (eB gIsi (aCons (eVar 0) (aCons (eTy "bool") aNil)))) (tCmp gNe (eOp gIx (eVar 0) (eD (.int (0)))) (eVar 1)))
  (sRt (eVar 0))
  sNx)
  (sRt (eIf (tTr (eVar 2)) (eOp gIx (eVar 0) (eD (.int (1)))) (eOp gIx (eVar 0) (eD (.int (2)))))))
local macro_rules | `(tactic| walk_at "ix") => `(tactic| first | rfl | exact atI_cons0 | exact atI_map0)
local macro_rules | `(tactic| walk_at "st") => `(tactic| first | assumption | rfl | exact get_set (by assumption) | exact get_set (get_set (by assumption)) | exact get_last | exact get_setlast | exact get_setapp (by assumption) | exact get_app (by assumption) | exact get_app (get_set (by assumption)))
local macro_rules | `(tactic| walk_at "tk") => `(tactic| first | exact List.take_length | exact take_set | exact take_set2 | exact take_set3 | exact take_app | exact take_aset | exact take_setapp | rfl)
local macro_rules | `(tactic| walk_at "sd") => `(tactic| first | omega | assumption | decide)
local macro_rules | `(tactic| walk_at "wpx") => `(tactic| first
  | with_reducible refine ite2 (fun _ => ?_) (fun z => absurd rfl z)
  | with_reducible refine ite2 (fun z => absurd z Bool.false_ne_true) (fun _ => ?_)
  | ((with_reducible refine gate_wp ?_); (first
    | ((with_reducible apply wp_viewr); (walk_at "st")) | ((with_reducible apply wp_lat); (walk_at "st"))
    | ((with_reducible refine gate_eq ?_); (first | with_reducible refine wp_geqs ?_ | with_reducible refine wp_geqb ?_ | with_reducible refine wp_geq_nil ?_))
    | ((with_reducible refine gate_ne ?_); (first | with_reducible refine wp_gnes ?_ | with_reducible refine wp_gneb ?_ | with_reducible refine wp_gne_nil ?_))
    | ((with_reducible refine gate_ix ?_); (first | ((with_reducible apply wp_ixd); (walk_at "ix")) | ((with_reducible apply wp_ixt); (walk_at "ix")) | ((with_reducible apply wp_ixr); (walk_at "st"); (walk_at "ix"))))
    | ((with_reducible apply wp_trur); (walk_at "st"))
    | ((with_reducible refine wp_l4s ?_ ?_); (first | omega | assumption | decide +kernel)) | with_reducible refine wp_l4 ?_ | ((with_reducible apply wp_l3r); (walk_at "st"))
    | ((with_reducible refine wp_mod ?_ ?_); (walk_at "sd")) | ((with_reducible refine wp_fdiv ?_ ?_); (walk_at "sd")) | ((with_reducible refine wp_mulr ?_ ?_); (walk_at "sd")) | ((with_reducible refine wp_mull ?_ ?_); (walk_at "sd")) | ((with_reducible refine wp_pow ?_ ?_); (walk_at "sd"))
    | ((with_reducible apply wp_lenr); (walk_at "st"))
    | ((with_reducible refine wp_gis ?_ ?_); rfl) | ((with_reducible refine wp_gisn ?_ ?_); rfl)
    | ((with_reducible refine gate_isi ?_); (first | ((with_reducible refine isi_t (r := true) ?_ ?_); (decide +kernel)) | ((with_reducible refine isi_t (r := false) ?_ ?_); (decide +kernel)) | ((with_reducible refine isi_b (r := true) ?_ ?_); (decide +kernel)) | ((with_reducible refine isi_b (r := false) ?_ ?_); (decide +kernel)) | ((with_reducible refine isi_i (r := true) ?_ ?_); (decide +kernel)) | ((with_reducible refine isi_i (r := false) ?_ ?_); (decide +kernel)) | ((with_reducible refine isi_s (r := true) ?_ ?_); (decide +kernel)) | ((with_reducible refine isi_s (r := false) ?_ ?_); (decide +kernel)) | ((with_reducible refine isi_l (r := true) ?_ ?_); (decide +kernel)) | ((with_reducible refine isi_l (r := false) ?_ ?_); (decide +kernel)) | ((with_reducible refine isi_n (r := true) ?_ ?_); (decide +kernel)) | ((with_reducible refine isi_n (r := false) ?_ ?_); (decide +kernel))))
    | ((with_reducible apply wp_tupr); (walk_at "st"))))
  | ((with_reducible refine gate_rq ?_); (first | ((with_reducible apply rq_dt); (walk_at "tk")) | ((with_reducible apply rq_nxt); (walk_at "tk"))))
  | ((with_reducible apply fz_r); (walk_at "st")) | ((with_reducible apply sq_r); (walk_at "st"))
  | ((with_reducible apply atSet_i); (walk_at "st"); rfl) | ((with_reducible apply atLst_i); (walk_at "st")) | ((with_reducible apply nowLst_i); (walk_at "st"))
  | ((with_reducible refine rng1_i ?_ ?_); (walk_at "sd")) | ((with_reducible refine rng2_i ?_ ?_); (walk_at "sd")))
local macro_rules | `(tactic| walk_at "wp") => `(tactic| first
  | with_reducible refine step_of ?_ | ((with_reducible apply wp_var); rfl) | walk_at "wpx")
local macro_rules | `(tactic| walk_at "fdef") => `(tactic| (refine wp_fdef rfl ?_; simp only [List.map_cons, List.map_nil, List.replicate_succ, List.replicate_zero, List.cons_append, List.nil_append]))
theorem side3 {S : List MO} {c : C} {s : Str} {o : Bool} : f3_side_of [.d c.enc, .d (.str s), .d (.bool o)] S = some (.d (c.side s o).enc, S) := by
  refine eq_of ?_
  unfold f3_side_of
  cases c with
  | b v =>
    simp only [C.enc]
    walk_at "fdef"
    repeat walk_at "wp"
    exact ⟨rfl, rfl⟩
  | nd t x y =>
    simp only [C.enc]
    walk_at "fdef"
    repeat walk_at "wp"
    have es : (C.nd t x y).side s o = if t = s then (if o then x else y) else .nd t x y := rfl
    refine ite2 (fun h => ?_) (fun h => ?_)
    · have n : t ≠ s := by simpa using h
      rw [es, if_neg n]
      repeat walk_at "wp"
      exact ⟨rfl, rfl⟩
    · have n : t = s := by simpa using h
      rw [es, if_pos n]
      repeat walk_at "wp"
      cases o with
      | true =>
        repeat walk_at "wp"
        exact ⟨rfl, rfl⟩
      | false =>
        repeat walk_at "wp"
        exact ⟨rfl, rfl⟩
theorem wp_ceq {c d : C} {ns : List Str} {PB : Bool → Prop} (hc : OC ns c) (hn : ns.length ≤ 40) (h : PB (decide (c = d))) : Wp (gEq c.enc d.enc) PB := wp_geq (.inl (Nat.le_trans (C.depth_le hc) hn)) (by rw [C.eqv_iff]; exact h)
theorem rep_one {b : Bool} : Rep [] (.b b) [b] := ⟨.leaf b, rfl, fun k hk => by
  have e : k = 0 := by have : k < 1 := hk; omega
  subst e; rfl⟩
theorem formed_enc (s : Str) (x y : C) : (C.formed s x y).enc = if x = y then x.enc else .tuple [.str s, x.enc, y.enc] := by
  unfold C.formed
  by_cases h : x = y
  · rw [if_pos h, if_pos h]
  · rw [if_neg h, if_neg h]; rfl
/-! ### the settings of switches, from all off to all on -/
def sets (ns : List Str) : List (List Str) := (List.range (2 ^ ns.length)).map fun k => ns.filter (asg ns k)
abbrev tupS (l : List Str) : PyData := .tuple (l.map PyData.str)
theorem asg_snoc {a : Str} : ∀ {pre : List Str} {k : Nat} {s : Str}, a ∉ pre → asg (pre ++ [a]) k s = if s = a then decide (k % 2 = 1) else asg pre (k / 2) s
  | [], k, s, _ => by
    show (if s = a then decide (k / 2 ^ 0 % 2 = 1) else false) = _
    rw [Nat.pow_zero, Nat.div_one]; rfl
  | x :: xs, k, s, h => by
    have h1 : a ≠ x := fun e => h (by rw [e]; exact List.mem_cons_self)
    have h2 : a ∉ xs := fun m => h (List.mem_cons_of_mem _ m)
    show (if s = x then decide (k / 2 ^ (xs ++ [a]).length % 2 = 1) else asg (xs ++ [a]) k s) = if s = a then decide (k % 2 = 1) else if s = x then decide (k / 2 / 2 ^ xs.length % 2 = 1) else asg xs (k / 2) s
    rw [asg_snoc (pre := xs) h2, List.length_append, List.length_singleton, Nat.pow_succ', Nat.div_div_eq_div_mul]
    by_cases e : s = x
    · rw [if_pos e, if_pos e, if_neg (by rw [e]; exact fun z => h1 z.symm)]
    · rw [if_neg e, if_neg e]
theorem filter_snoc_asg {pre : List Str} {a : Str} (h : a ∉ pre) (k : Nat) : (pre ++ [a]).filter (asg (pre ++ [a]) k) = pre.filter (asg pre (k / 2)) ++ (if k % 2 = 1 then [a] else []) := by
  rw [List.filter_append]
  congr 1
  · apply List.filter_congr
    intro s hs
    rw [asg_snoc h, if_neg (fun e => h (by rw [← e]; exact hs))]
  · by_cases e : k % 2 = 1
    · rw [if_pos e, List.filter_cons_of_pos (by rw [asg_snoc h, if_pos rfl]; exact decide_eq_true e)]; rfl
    · rw [if_neg e, List.filter_cons_of_neg (by rw [asg_snoc h, if_pos rfl]; exact fun z => e (of_decide_eq_true z))]; rfl
theorem sets_len (ns : List Str) : (sets ns).length = 2 ^ ns.length := by unfold sets; rw [List.length_map, List.length_range]
theorem sets_at {ns : List Str} {k : Nat} (h : k < 2 ^ ns.length) : (sets ns)[k]? = some (ns.filter (asg ns k)) := by
  unfold sets
  rw [List.getElem?_map, List.getElem?_range h]; rfl
theorem sets_snoc {pre : List Str} {a : Str} (h : a ∉ pre) : sets (pre ++ [a]) = (List.range (2 * (sets pre).length)).map fun k => pre.filter (asg pre (k / 2)) ++ (if k % 2 = 1 then [a] else []) := by
  rw [sets_len]
  unfold sets
  rw [List.length_append, List.length_singleton, Nat.pow_succ']
  exact List.map_congr_left fun k _ => filter_snoc_asg h k
end EA
namespace EA
open PySem PySem.Spec PyProof.Rows L2
/-! ### conditions -/
noncomputable def f3_formed : F3 := fdef false 3 0
  (sSeq (sIf (tCmp gEq (eVar 1) (eVar 2))
  (sRt (eVar 1))
  sNx)
  (sRt (eTup (aCons (eVar 0) (aCons (eVar 1) (aCons (eVar 2) aNil))))))
local macro_rules | `(tactic| walk_at "ix") => `(tactic| first | rfl | exact atI_cons0 | exact atI_map0)
local macro_rules | `(tactic| walk_at "st") => `(tactic| first | assumption | rfl | exact get_set (by assumption) | exact get_set (get_set (by assumption)) | exact get_last | exact get_setlast | exact get_setapp (by assumption) | exact get_app (by assumption) | exact get_app (get_set (by assumption)))
local macro_rules | `(tactic| walk_at "tk") => `(tactic| first | exact List.take_length | exact take_set | exact take_set2 | exact take_set3 | exact take_app | exact take_aset | exact take_setapp | rfl)
local macro_rules | `(tactic| walk_at "sd") => `(tactic| first | omega | assumption | decide)
local macro_rules | `(tactic| walk_at "wpx") => `(tactic| first
  | with_reducible refine ite2 (fun _ => ?_) (fun z => absurd rfl z)
  | with_reducible refine ite2 (fun z => absurd z Bool.false_ne_true) (fun _ => ?_)
  | ((with_reducible refine gate_wp ?_); (first
    | ((with_reducible apply wp_viewr); (walk_at "st")) | ((with_reducible apply wp_lat); (walk_at "st"))
    | ((with_reducible refine gate_eq ?_); (first | with_reducible refine wp_geqs ?_ | with_reducible refine wp_geqb ?_ | with_reducible refine wp_geq_nil ?_))
    | ((with_reducible refine gate_ne ?_); (first | with_reducible refine wp_gnes ?_ | with_reducible refine wp_gneb ?_ | with_reducible refine wp_gne_nil ?_))
    | ((with_reducible refine gate_ix ?_); (first | ((with_reducible apply wp_ixd); (walk_at "ix")) | ((with_reducible apply wp_ixt); (walk_at "ix")) | ((with_reducible apply wp_ixr); (walk_at "st"); (walk_at "ix"))))
    | ((with_reducible apply wp_trur); (walk_at "st"))
    | ((with_reducible refine wp_l4s ?_ ?_); (first | omega | assumption | decide +kernel)) | with_reducible refine wp_l4 ?_ | ((with_reducible apply wp_l3r); (walk_at "st"))
    | ((with_reducible refine wp_mod ?_ ?_); (walk_at "sd")) | ((with_reducible refine wp_fdiv ?_ ?_); (walk_at "sd")) | ((with_reducible refine wp_mulr ?_ ?_); (walk_at "sd")) | ((with_reducible refine wp_mull ?_ ?_); (walk_at "sd")) | ((with_reducible refine wp_pow ?_ ?_); (walk_at "sd"))
    | ((with_reducible apply wp_lenr); (walk_at "st"))
    | ((with_reducible refine wp_gis ?_ ?_); rfl) | ((with_reducible refine wp_gisn ?_ ?_); rfl)
    | ((with_reducible refine gate_isi ?_); (first | ((with_reducible refine isi_t (r := true) ?_ ?_); (decide +kernel)) | ((with_reducible refine isi_t (r := false) ?_ ?_); (decide +kernel)) | ((with_reducible refine isi_b (r := true) ?_ ?_); (decide +kernel)) | ((with_reducible refine isi_b (r := false) ?_ ?_); (decide +kernel)) | ((with_reducible refine isi_i (r := true) ?_ ?_); (decide +kernel)) | ((with_reducible refine isi_i (r := false) ?_ ?_); (decide +kernel)) | ((with_reducible refine isi_s (r := true) ?_ ?_); (decide +kernel)) | ((with_reducible refine isi_s (r := false) ?_ ?_); (decide +kernel)) | ((with_reducible refine isi_l (r := true) ?_ ?_); (decide +kernel)) | ((with_reducible refine isi_l (r := false) ?_ ?_); (decide +kernel)) | ((with_reducible refine isi_n (r := true) ?_ ?_); (decide +kernel)) | ((with_reducible refine isi_n (r := false) ?_ ?_); (decide +kernel))))
    | ((with_reducible apply wp_tupr); (walk_at "st"))))
  | ((with_reducible refine gate_rq ?_); (first | ((with_reducible apply rq_dt); (walk_at "tk")) | ((with_reducible apply rq_nxt); (walk_at "tk"))))
  | ((with_reducible apply fz_r); (walk_at "st")) | ((with_reducible apply sq_r); (walk_at "st"))
  | ((with_reducible apply atSet_i); (walk_at "st"); rfl) | ((with_reducible apply atLst_i); (walk_at "st")) | ((with_reducible apply nowLst_i); (walk_at "st"))
  | ((with_reducible refine rng1_i ?_ ?_); (walk_at "sd")) | ((with_reducible refine rng2_i ?_ ?_); (walk_at "sd")))
local macro_rules | `(tactic| walk_at "wp") => `(tactic| first
  | with_reducible refine step_of ?_ | ((with_reducible apply wp_var); rfl) | walk_at "wpx")
local macro_rules | `(tactic| walk_at "fdef") => `(tactic| (refine wp_fdef rfl ?_; simp only [List.map_cons, List.map_nil, List.replicate_succ, List.replicate_zero, List.cons_append, List.nil_append]))
theorem formed3 {S : List MO} {s : Str} {ns : List Str} {x y : C} (hx : OC ns x) (hn : ns.length ≤ 40) : f3_formed [.d (.str s), .d x.enc, .d y.enc] S = some (.d (C.formed s x y).enc, S) := by
  refine eq_of ?_
  unfold f3_formed
  walk_at "fdef"
  repeat walk_at "wp"
  refine wp_ceq hx hn ?_
  repeat walk_at "wp"
  rw [formed_enc]
  refine ite2 (fun h => ?_) (fun h => ?_)
  · repeat walk_at "wp"
    rw [if_pos (of_decide_eq_true h)]
    exact ⟨rfl, rfl⟩
  · repeat walk_at "wp"
    rw [if_neg (fun z => h (decide_eq_true z))]
    exact ⟨rfl, rfl⟩
theorem take_setge {S T : List MO} {n i : Nat} {o : MO} (h : n ≤ i) (e : S.take n = T) : (S.set i o).take n = T := by rw [List.take_set_of_le h]; exact e
end EA
namespace EA
open PySem PySem.Spec PyProof.Rows L2
/-! ### the least setting of a condition -/
/-- the switches that are on there -/
def C.fst1 : C → List Str
  | .b _ => []
  | .nd s x y => if y = .b false then s :: x.fst1 else y.fst1
theorem asg_zero : ∀ (ns : List Str) (s : Str), asg ns 0 s = false
  | [], _ => rfl
  | x :: xs, s => by
    show (if s = x then decide (0 / 2 ^ xs.length % 2 = 1) else asg xs 0 s) = false
    rw [asg_zero xs s, Nat.zero_div]
    split <;> rfl
theorem asg_lo {x : Str} {xs : List Str} {k : Nat} (h : k < 2 ^ xs.length) (s : Str) : asg (x :: xs) k s = if s = x then false else asg xs k s := by
  show (if s = x then decide (k / 2 ^ xs.length % 2 = 1) else asg xs k s) = _
  rw [Nat.div_eq_of_lt h]
  split <;> rfl
theorem asg_hi {x : Str} {xs : List Str} {k : Nat} (h : k < 2 ^ xs.length) (s : Str) : asg (x :: xs) (2 ^ xs.length + k) s = if s = x then true else asg xs k s := by
  show (if s = x then decide ((2 ^ xs.length + k) / 2 ^ xs.length % 2 = 1) else asg xs (2 ^ xs.length + k) s) = _
  have z := asg_add 1 xs xs.length k s (Nat.le_refl _)
  rw [Nat.mul_one] at z
  rw [z, Nat.add_div_left _ (Nat.two_pow_pos _), Nat.div_eq_of_lt h]
  split <;> rfl
theorem ev_lo {x : Str} {xs : List Str} {c : C} (h : OC xs c) (nx : x ∉ xs) {k : Nat} (hk : k < 2 ^ xs.length) : c.ev (asg (x :: xs) k) = c.ev (asg xs k) := C.ev_congr c fun s hs => by
  rw [asg_lo hk, if_neg fun e => nx (by rw [← e]; exact h.vars s hs)]
theorem ev_hi {x : Str} {xs : List Str} {c : C} (h : OC xs c) (nx : x ∉ xs) {k : Nat} (hk : k < 2 ^ xs.length) : c.ev (asg (x :: xs) (2 ^ xs.length + k)) = c.ev (asg xs k) := C.ev_congr c fun s hs => by
  rw [asg_hi hk, if_neg fun e => nx (by rw [← e]; exact h.vars s hs)]
theorem filter_lo {x : Str} {xs : List Str} (nx : x ∉ xs) {k : Nat} (hk : k < 2 ^ xs.length) : (x :: xs).filter (asg (x :: xs) k) = xs.filter (asg xs k) := by
  rw [List.filter_cons, asg_lo hk, if_pos rfl, if_neg (by decide)]
  exact List.filter_congr fun s hs => by rw [asg_lo hk, if_neg fun e => nx (by rw [← e]; exact hs)]
theorem filter_hi {x : Str} {xs : List Str} (nx : x ∉ xs) {k : Nat} (hk : k < 2 ^ xs.length) : (x :: xs).filter (asg (x :: xs) (2 ^ xs.length + k)) = x :: xs.filter (asg xs k) := by
  rw [List.filter_cons, asg_hi hk, if_pos rfl, if_pos rfl]
  congr 1
  exact List.filter_congr fun s hs => by rw [asg_hi hk, if_neg fun e => nx (by rw [← e]; exact hs)]
theorem fst1_at {ns : List Str} {c : C} (h : OC ns c) : ns.Nodup → c ≠ .b false → ∃ k, k < 2 ^ ns.length ∧ c.ev (asg ns k) = true ∧ (∀ j, j < k → c.ev (asg ns j) = false) ∧ c.fst1 = ns.filter (asg ns k) := by
  induction h with
  | @leaf ns v =>
    intro _ hc
    have : v = true := by
      cases v with
      | true => rfl
      | false => exact absurd rfl hc
    subst this
    refine ⟨0, Nat.two_pow_pos _, rfl, fun j hj => absurd hj (Nat.not_lt_zero _), ?_⟩
    show [] = _
    symm
    rw [List.filter_eq_nil_iff]
    intro s _
    rw [asg_zero]; decide
  | @skip x xs c hc ih =>
    intro nd hne
    obtain ⟨nx, nd'⟩ := List.nodup_cons.mp nd
    obtain ⟨k, k1, k2, k3, k4⟩ := ih nd' hne
    have p := Nat.two_pow_pos xs.length
    refine ⟨k, by rw [List.length_cons, Nat.pow_succ]; omega, by rw [ev_lo hc nx k1]; exact k2, fun j hj => by rw [ev_lo hc nx (by omega)]; exact k3 j hj, by rw [filter_lo nx k1]; exact k4⟩
  | @node x xs a b ha hb ne iha ihb =>
    intro nd _
    obtain ⟨nx, nd'⟩ := List.nodup_cons.mp nd
    have p := Nat.two_pow_pos xs.length
    have lo : ∀ k, k < 2 ^ xs.length → C.ev (asg (x :: xs) k) (.nd x a b) = b.ev (asg xs k) := fun k hk => by
      show (if asg (x :: xs) k x then a.ev _ else b.ev _) = _
      rw [asg_lo hk, if_pos rfl, if_neg (by decide), ev_lo hb nx hk]
    have hi : ∀ k, k < 2 ^ xs.length → C.ev (asg (x :: xs) (2 ^ xs.length + k)) (.nd x a b) = a.ev (asg xs k) := fun k hk => by
      show (if asg (x :: xs) (2 ^ xs.length + k) x then a.ev _ else b.ev _) = _
      rw [asg_hi hk, if_pos rfl, if_pos rfl, ev_hi ha nx hk]
    by_cases hbf : b = .b false
    · obtain ⟨k, k1, k2, k3, k4⟩ := iha nd' fun z => ne (by rw [z, hbf])
      refine ⟨2 ^ xs.length + k, by rw [List.length_cons, Nat.pow_succ]; omega, by rw [hi k k1]; exact k2, fun j hj => ?_, ?_⟩
      · by_cases hj2 : j < 2 ^ xs.length
        · rw [lo j hj2, hbf]; rfl
        · have := k3 (j - 2 ^ xs.length) (by omega)
          rw [← hi _ (by omega), show 2 ^ xs.length + (j - 2 ^ xs.length) = j by omega] at this
          exact this
      · rw [filter_hi nx k1, ← k4]
        show (if b = .b false then _ else _) = _
        rw [if_pos hbf]
    · obtain ⟨k, k1, k2, k3, k4⟩ := ihb nd' hbf
      refine ⟨k, by rw [List.length_cons, Nat.pow_succ]; omega, by rw [lo k k1]; exact k2, fun j hj => by rw [lo j (by omega)]; exact k3 j hj, ?_⟩
      rw [filter_lo nx k1, ← k4]
      show (if b = .b false then _ else _) = _
      rw [if_neg hbf]
/-! ### rows of truths, in order -/
/-! ### lists in an order are one -/
end EA
namespace EA
open PySem PySem.Spec PyProof.Rows L2
/-! ### a tuple of the module's top -/
section
variable {K : PySem.W.Frag} {X : Cx} {o i e f0 : Expr} {fo fi fd : FE} {pos apos cpos pp : Pos} {es : List Expr}
/-! ### t * k -/
/-! ### d.get(k, x) -/
/-! ### xs.insert(i, x) -/
/-! ### enumerate(xs) -/
/-! ### f(a, b, k=c) -/
def eCallK (m n : Nat) (f : F3) (a k : FA) : FE := fun sl S => (a sl S).bind fun p => (k sl p.2).bind fun q => if p.1.length = m ∧ q.1.length = n then f (p.1 ++ q.1) q.2 else none
end
end EA
namespace EA
open PySem PySem.Spec PyProof.Rows L2
/-! ### dicts whose keys are written texts; their values may be other objects of the store -/
section
variable {K : PySem.W.Frag} {X : Cx} {A B C : Wd} {S S' : List MO} {σ : L2.St} {sl : Sl} {v : V} {w : W3}
def rcdAt (S : List MO) : W3 → Option (List (Str × W3))
  | .r i => match S[i]? with
    | some (.rcd kvs) => some kvs
    | _ => none
  | _ => none
theorem RcA.len {ks : List (Key × V)} {kvs : List (Str × W3)} (h : RcA K A ks kvs) : ks.length = kvs.length := by
  induction h with
  | nil => rfl
  | cons _ _ ih => rw [List.length_cons, List.length_cons, ih]
theorem RcA.keys {ks : List (Key × V)} {kvs : List (Str × W3)} (h : RcA K A ks kvs) : ks.map (·.1) = kvs.map fun kv => .inr kv.1 := by
  induction h with
  | nil => rfl
  | cons _ _ ih => rw [List.map_cons, List.map_cons, ih]
theorem RcA.ref {ks : List (Key × V)} {kvs : List (Str × W3)} (h : RcA K A ks kvs) : ∀ s j, (s, W3.r j) ∈ kvs → j < A.ι.length := by
  induction h with
  | nil => intro s j h; cases h
  | @cons s' v' w' ks kvs hv _ ih =>
    intro s j h
    rcases List.mem_cons.mp h with e | h
    · cases e
      obtain ⟨a, h1, _⟩ := hv
      exact (List.getElem?_eq_some_iff.mp h1).1
    · exact ih s j h
def rcdPut (kvs : List (Str × W3)) (k : Str) (w : W3) : List (Str × W3) := kvs.map fun kv => if kv.1 = k then (kv.1, w) else kv
/-! {"k": e, ..} -/
/-! d["k"], d["k"] = e -/
def eRG (o : FE) (k : Str) : FE := fun sl S => (o sl S).bind fun p => (rcdAt p.2 p.1).bind fun kvs => (kvs.lookup k).map fun w => (w, p.2)
def sRS (o : FE) (k : Str) (v : FE) : FS := fun sl S => (v sl S).bind fun p => match p.1 with
  | .d x => (o sl p.2).bind fun q => (rcdAt q.2 q.1).bind fun kvs => if (kvs.lookup k).isSome = true ∧ kvs.length ≤ 15 then some (.nx sl (setAt q.2 q.1 (.rcd (rcdPut kvs k (.d x))))) else none
  | _ => none
end
end EA
namespace EA
open PySem PySem.Spec PyProof.Rows L2
/-! ### dicts that hold other objects -/
section
variable {K : PySem.W.Frag} {A B : Wd} {S : List MO} {v : V} {w : W3} {kvs : List (Key × W3)}
theorem NdA.len {ks : List (Key × V)} (h : NdA K A ks kvs) : ks.length = kvs.length := by
  induction h with
  | nil => rfl
  | cons _ _ ih => rw [List.length_cons, List.length_cons, ih]
theorem NdA.app {ks us : List (Key × V)} {ks' : List (Key × W3)} (h : NdA K A ks kvs) (h2 : NdA K A us ks') : NdA K A (ks ++ us) (kvs ++ ks') := by
  induction h with
  | nil => exact h2
  | cons h _ ih => exact .cons h ih
theorem NdA.any {ks : List (Key × V)} (h : NdA K A ks kvs) (k : Key) : (ks.any fun kv => decide (kv.1 = k)) = kvs.any fun kv => decide (kv.1 = k) := by
  induction h with
  | nil => rfl
  | cons _ _ ih => rw [List.any_cons, List.any_cons, ih]
end
def eNDN : FE := fun _ S => some (.r S.length, S ++ [.ndc []])
def isNoneW : W3 → Bool
  | .d .none => true
  | _ => false
/-- x is None, x is not None, x any value -/
def tIsN (neg : Bool) (f : FE) : FT := fun sl S => (f sl S).map fun p => (neg != isNoneW p.1, p.2)
/-! ### xs.extend(ys), ys a list of data -/
end EA
namespace EA
open PySem PySem.Spec PyProof.Rows L2
/-! ### rules for S11 (sets of texts), S22 to S24 -/
section
variable {sl : Sl} {S : List MO} {Q : W3 → List MO → Prop} {QS : Out → Prop} {QN : List PyData → List MO → Prop}
theorem wp_rg {o : FE} {k : Str} (h : Wp2 (o sl S) fun p1 p2 => ∃ kvs w, rcdAt p2 p1 = some kvs ∧ kvs.lookup k = some w ∧ Q w p2) : Wp2 (eRG o k sl S) Q := wp_bind.mpr (Wp.imp h fun p ⟨kvs, w, e, e2, q⟩ => by
  rw [e]
  dsimp only [Option.bind_some]
  rw [e2]; exact wp_some.mpr q)
end
end EA
namespace EA
open PySem PySem.Spec PyProof.Rows L2
/-! ### rules for S25 to S27, and more -/
section
variable {sl : Sl} {S : List MO} {Q : W3 → List MO → Prop} {QS : Out → Prop} {QN : List PyData → List MO → Prop} {QT : Bool → List MO → Prop} {QI : It3 → List MO → Prop}
theorem wp_ndn (h : Q (.r S.length) (S ++ [.ndc []])) : Wp2 (eNDN sl S) Q := wp_some.mpr h
theorem wp_tisn {neg : Bool} {f : FE} (h : Wp2 (f sl S) fun p1 p2 => QT (neg != isNoneW p1) p2) : Wp2 (tIsN neg f sl S) QT := wp_map.mpr h
theorem wp_callD {f : F3} {a : FA} {ds : List PyData} (h : Wp2 (a sl S) fun p1 p2 => Wp2 (f (p1 ++ ds.map .d) p2) Q) : Wp2 (eCallD f a ds sl S) Q := wp_bind.mpr h
def retKQ (Q : W3 → List MO → Prop) : Out → Prop := fun o => Wp2 (retK o) Q
theorem rk_nx (q : Q (.d .none) S) : retKQ Q (.nx sl S) := wp_some.mpr q
theorem rk_rt {w : W3} (q : Q w S) : retKQ Q (.rt w S) := wp_some.mpr q
instance st_ndn : Step (Wp2 (eNDN sl S) Q) (Q (.r S.length) (S ++ [.ndc []])) := ⟨wp_ndn⟩
instance st_tisn {neg : Bool} {f : FE} : Step (Wp2 (tIsN neg f sl S) QT) (Wp2 (f sl S) fun p1 p2 => QT (neg != isNoneW p1) p2) := ⟨wp_tisn⟩
instance st_callD {f : F3} {a : FA} {ds : List PyData} : Step (Wp2 (eCallD f a ds sl S) Q) (Wp2 (a sl S) fun p1 p2 => Wp2 (f (p1 ++ ds.map .d) p2) Q) := ⟨wp_callD⟩
instance st_rknx : Step (retKQ Q (.nx sl S)) (Q (.d .none) S) := ⟨rk_nx⟩
instance st_rkrt {w : W3} : Step (retKQ Q (.rt w S)) (Q w S) := ⟨rk_rt⟩
end
/-! ### dicts -/
/-! ### each once, as first seen -/
end EA
namespace EA
open PySem PySem.Spec PyProof.Rows L2
/-! ### defs that make lambdas; the law that starts with tables -/
/-- a def whose code object stands at c -/
structure FunL (K : PySem.W.Frag) (x qual : Str) (st : Stmt) (f : Addr) (fd : FuncData) (c : Addr) : Prop where
  ex : ∃ (oc : Value) (od : Option Addr) (kV doc pm : Value) (an : Option Addr) (ct : Value) (osl : Array (Option Value)),
    fd = PySem.W.fnOf x qual (defArgs st) (defBody st) (defScope st) .none kV doc pm an (.ref c) ct ∧ K.lookup f = some ⟨oc, od, .func fd, osl⟩ ∧ PySem.W.codeIn K (.ref c) qual = true
  kp : PySem.W.keepIn K (.ref f) = true
section
variable {P : Program} {w : World} {K : PySem.W.Frag} {mg : Str → Option Value} {base : Heap} {x qual : Str} {st : Stmt} {f c : Addr} {fd : FuncData} {N ps : List Str} {k : Nat}
theorem FunL.ok {sp : Sp} (F : FunL K x qual st f fd c) (S : FnScope N ps (defScope st)) (len : ∀ vs H Q E, sp vs H Q E → vs.length = ps.length)
    (hbody : ∀ (A : Around) (outer : List Env) (s : Shared) (H : Hp) (vs : List V) (Q : VK) (E : XK), Room k (A.deeper (envOfC qual (defScope st) s.heap.objs.size f (.ref c))) → sp vs H Q E →
      ∃ t, PSs (cxOf CX0 P w K mg base N qual (defScope st) f (.ref c) A outer s H E).nox (defBody st) t ∧ t { nx := fun _ H' => Q .non H', rt := Q } (start N vs) H) : FnOk P w K mg base CX0 (k + 1) f fd ps sp := by
  obtain ⟨oc, od, kV, doc, pm, an, ct, osl, rfl, lk, hcd⟩ := F.ex
  refine fn_of lk hcd S len fun A outer s H vs Q E hr hsp => ?_
  obtain ⟨t, h, q⟩ := hbody A outer s H vs Q E hr hsp
  exact ⟨t, h.nox, q⟩
end
end EA
namespace EA
open PySem PySem.Spec PyProof.Rows L2
/-! ### {8: x, ..}: written numbers, data -/
section
variable {K : PySem.W.Frag} {X : Cx} {σ : L2.St} {sl : Sl}
def idF : List (Int × FE) → Sl → List MO → Option (List (Key × PyData) × List MO)
  | [], _, S => some ([], S)
  | (k, f) :: r, sl, S => (f sl S).bind fun p => match p.1 with
    | .d x => (idF r sl p.2).map fun q => ((.inl k, x) :: q.1, q.2)
    | _ => none
def eID (fs : List (Int × FE)) : FE := fun sl S => (idF fs sl S).bind fun p => if (p.1.map (·.1)).Nodup ∧ p.1.length ≤ 15 then some (.r p.2.length, p.2 ++ [.dic p.1]) else none
theorem DaK.keys {G : Hp} {vs : List (Key × V)} {ds : List (Key × PyData)} (h : DaK K G vs ds) : vs.map (·.1) = ds.map (·.1) := by
  induction h with
  | nil => rfl
  | cons _ _ ih => rw [List.map_cons, List.map_cons, ih]
end
end EA
namespace EA
open PySem PySem.Spec PyProof.Rows L2
/-! ### instances of the program's own classes: fields, methods, their making -/
def insAt (S : List MO) (n : Str) : W3 → Option (List (Str × W3))
  | .r i => match S[i]? with
    | some (.ins m kvs) => if m = n then some kvs else none
    | _ => none
  | _ => none
def fput (f : Str) (w : W3) : List (Str × W3) → List (Str × W3)
  | [] => [(f, w)]
  | (g, x) :: r => if g = f then (g, w) :: r else (g, x) :: fput f w r
section
variable {K : PySem.W.Frag} {X : Cx} {A B C : Wd} {S S' : List MO} {σ : L2.St} {sl : Sl} {v : V} {w : W3}
theorem FsA.len {ks : List (Str × V)} {kvs : List (Str × W3)} (h : FsA K A ks kvs) : ks.length = kvs.length := by
  induction h with
  | nil => rfl
  | cons _ _ ih => rw [List.length_cons, List.length_cons, ih]
/-! o.f -/
def eFG (n : Str) (o : FE) (f : Str) : FE := fun sl S => (o sl S).bind fun p => (insAt p.2 n p.1).bind fun kvs => (kvs.lookup f).map fun w => (w, p.2)
theorem Rl.ins {n : Str} {Ca a dx : Addr} {i : Nat} {ks : List (Str × V)} {kvs : List (Str × W3)} (hc : clsAt K n Ca) (R : Rl K A S) (ha : A.ι[i]? = some a) (g : A.G a = none) (hz : nfz (A.H a) = true) (h : FsA K A ks kvs) : Nx A ⟨A.G, upd A.H a (.ins Ca dx ks), A.ι⟩ ∧ Rl K ⟨A.G, upd A.H a (.ins Ca dx ks), A.ι⟩ (S.set i (.ins n kvs)) :=
  Nx.wr R ha g ⟨g, Ca, dx, ks, hc, upd_same, FsA.monov (A := A) (B := ⟨A.G, upd A.H a (.ins Ca dx ks), A.ι⟩) ⟨Same.refl _, List.prefix_rfl⟩ h⟩ hz
/-! o.f = e -/
def sFS (n : Str) (o : FE) (f : Str) (v : FE) : FS := fun sl S => (v sl S).bind fun p => (o sl p.2).bind fun q => (insAt q.2 n q.1).bind fun kvs => if kvs.length < 900 then some (.nx sl (setAt q.2 q.1 (.ins n (fput f p.1 kvs)))) else none
/-! o.f += i -/
def sFA (n : Str) (o : FE) (f : Str) (v : FE) : FS := fun sl S => (o sl S).bind fun p => (insAt p.2 n p.1).bind fun kvs => match kvs.lookup f with
  | some (.d (.int i)) => (v sl p.2).bind fun q => match q.1 with
    | .d (.int j) => (insAt q.2 n p.1).bind fun kvs2 => if kvs2.length < 900 then some (.nx sl (setAt q.2 p.1 (.ins n (fput f (.d (.int (i + j))) kvs2)))) else none
    | _ => none
  | _ => none
/-! o.m(..) -/
def eMt (n : Str) (m : Str) (f3 : F3) (o : FE) (a : FA) : FE := fun sl S => (o sl S).bind fun p => (insAt p.2 n p.1).bind fun kvs => if kvs.lookup m = none then (a sl p.2).bind fun u => f3 (p.1 :: u.1) u.2 else none
/-! C(..) -/
def eMk (n : Str) (f3 : F3) (a : FA) : FE := fun sl S => (a sl S).bind fun p => (f3 (.r p.2.length :: p.1) (p.2 ++ [.ins n []])).bind fun q => match q.1 with
  | .d .none => some (.r p.2.length, q.2)
  | _ => none
end
end EA
namespace EA
open PySem PySem.Spec PySem.Calls PyProof.Rows L2 LamX
/-! ### a lambda of one parameter, with captured names -/
section
variable {X : Cx} {pins : List (Addr × Obj)} {σ : L2.St} {H : Hp} {s : Shared}
/-- one parameter; captured names and globals besides -/
structure LamS1 (sc scope : Scope) (a : Str) : Prop where
  kind : scope.kind = .function
  co : scope.isCoroutine = false
  gen : scope.isGenerator = false
  own : ∀ y ∈ scope.names, y.2 ≠ .cell ∧ (y.2 = .local → y.1 = a)
  loc : scope.names.lookup a = some .local
  free : ∀ y ∈ scope.names, y.2 = .free → sc.names.lookup y.1 = some .cell ∨ sc.names.lookup y.1 = some .free
theorem LamS1.has {scope : Scope} {a : Str} (L : LamS1 X.env.scope scope a) (ok : X.Ok) : ∀ y ∈ scope.names, y.2 = .free → ∃ c, X.env.cells.lookup y.1 = some c := fun y hy e => by
  rcases L.free y hy e with k | k
  · exact ok.has _ (.inl k)
  · exact ok.has _ (.inr k)
end
end EA
namespace EA
open PySem PySem.Spec PySem.Calls PyProof.Rows L2
/-! ### lists that hold other objects -/
def nlsAt (S : List MO) : W3 → Option (List W3)
  | .r i => match S[i]? with
    | some (.nls ws) => some ws
    | _ => none
  | _ => none
section
variable {K : PySem.W.Frag} {A B : Wd} {S : List MO} {v : V} {w : W3} {ws : List W3}
theorem RWs.get {vs : List V} {i : Nat} (h : RWs K A vs ws) (e : ws[i]? = some w) : ∃ v, vs[i]? = some v ∧ RW K A v w := by
  induction h generalizing i with
  | nil => simp at e
  | cons h _ ih =>
    cases i with
    | zero => simp at e; subst e; exact ⟨_, rfl, h⟩
    | succ i =>
      obtain ⟨v, h1, h2⟩ := ih (by simpa using e)
      exact ⟨v, by simpa using h1, h2⟩
end
/-- [] that will hold other objects -/
def eNLN : FE := fun _ S => some (.r S.length, S ++ [.nls []])
/-- o.append(x), x any value -/
def eAppN (o : FE) (a : FA) : FE := fun sl S => (o sl S).bind fun p => if (nlsAt p.2 p.1).isSome = true then (a sl p.2).bind fun q => (nlsAt q.2 p.1).bind fun xs => match q.1 with
  | [x] => if xs.length ≤ 100000 then some (.d .none, setAt q.2 p.1 (.nls (xs ++ [x]))) else none
  | _ => none
  else none
noncomputable def nlsIs (S : List MO) (w : W3) (ws : List W3) : Bool := @decide (nlsAt S w = some ws) (Classical.propDecidable _)
/-- a list that holds other objects is walked; it stays -/
noncomputable def iN (f : FE) : FI := fun sl S => (f sl S).bind fun p => (nlsAt p.2 p.1).map fun ws => (⟨ws, fun S => nlsIs S p.1 ws⟩, p.2)
/-! ### sorted with a lambda that calls a def -/
/-- the keys of the items, one by one: the store stays -/
noncomputable def keysK (fb : FE) (caps : Sl) (S : List MO) : List W3 → Option (List PyData)
  | [] => some []
  | w :: ws => (fb (some w :: caps) S).bind fun p => @ite _ (p.2 = S) (Classical.propDecidable _) (match p.1 with
     | .d x => (keysK fb caps S ws).map (x :: ·)
     | _ => none) none
def capsOf (sl : Sl) (cap : List Nat) : Sl := cap.map fun j => sl[j]?.join
/-- what the sort asks of its keys -/
def KeysOk (kz : List PyData) : Prop := PySem.W.AllAlike kz ∧ PySem.W.Sortable kz ∧ ∀ d ∈ kz, d.depth ≤ 40
noncomputable def eSortK (P : Addr) (q : Str) (fe : FE) (cap : List Nat) (fb : FE) : FE := fun sl S => (fe sl S).bind fun p => (nlsAt p.2 p.1).bind fun ws => (keysK fb (capsOf sl cap) p.2 ws).bind fun kz =>
  @ite _ (KeysOk kz ∧ ∃ i : Nat, p.2[i]? = some (MO.tab P q)) (Classical.propDecidable _) (some (.r p.2.length, p.2 ++ [.nls (((ws.zip kz).mergeSort (PySem.W.dataLe false (·.2))).map (·.1))])) none
/-- the captured names -/
inductive CapN (XN : List Str) (a : Str) : List Nat → List Str → Prop
  | nil : CapN XN a [] []
  | cons {j : Nat} {y : Str} {js : List Nat} {ys : List Str} : XN[j]? = some y → y ≠ a → CapN XN a js ys → CapN XN a (j :: js) (y :: ys)
theorem CapN.len {XN : List Str} {a : Str} {js : List Nat} {ys : List Str} (h : CapN XN a js ys) : js.length = ys.length := by
  induction h with
  | nil => rfl
  | cons _ _ _ ih => rw [List.length_cons, List.length_cons, ih]
theorem CapN.at_ {XN : List Str} {a : Str} {js : List Nat} {ys : List Str} (h : CapN XN a js ys) {i : Nat} {y : Str} (e : ys[i]? = some y) : ∃ j, js[i]? = some j ∧ XN[j]? = some y ∧ y ≠ a := by
  induction h generalizing i with
  | nil => simp at e
  | cons h1 h2 _ ih =>
    cases i with
    | zero => simp at e; subst e; exact ⟨_, rfl, h1, h2⟩
    | succ i =>
      obtain ⟨j, e1, e2⟩ := ih (by simpa using e)
      exact ⟨j, by simpa using e1, e2⟩
end EA
namespace EA
open PySem PySem.Spec PyProof.Rows L2
/-! ### rules for lists of lists -/
section
variable {sl : Sl} {S : List MO} {Q : W3 → List MO → Prop} {QI : It3 → List MO → Prop}
theorem wp_nln (h : Q (.r S.length) (S ++ [.nls []])) : Wp2 (eNLN sl S) Q := wp_some.mpr h
theorem wp_appn {o : FE} {a : FA} (h : Wp2 (o sl S) fun p1 p2 => (∃ x0, nlsAt p2 p1 = some x0) ∧ Wp2 (a sl p2) fun q1 q2 => ∃ x ws, q1 = [x] ∧ nlsAt q2 p1 = some ws ∧ ws.length ≤ 100000 ∧ Q (.d .none) (setAt q2 p1 (.nls (ws ++ [x])))) : Wp2 (eAppN o a sl S) Q := by
  obtain ⟨⟨p1, p2⟩, e1, ⟨x0, e0⟩, ⟨q1, q2⟩, e2, x, ws, h1, h2, h3, q⟩ := h
  dsimp only at e0 e2 h1 h2 q
  subst h1
  refine ⟨(.d .none, setAt q2 p1 (.nls (ws ++ [x]))), ?_, q⟩
  unfold eAppN
  rw [e1]
  simp only [Option.bind_some, e0, Option.isSome_some, if_true, e2, h2, if_pos h3]
theorem wp_in {f : FE} (h : Wp2 (f sl S) fun p1 p2 => ∃ ws, nlsAt p2 p1 = some ws ∧ QI ⟨ws, fun S => nlsIs S p1 ws⟩ p2) : Wp2 (iN f sl S) QI := wp_bind.mpr (Wp.imp h fun p ⟨ws, e, q⟩ => by
  rw [e]; exact wp_some.mpr q)
theorem wp_sortK {P : Addr} {q : Str} {fe : FE} {cap : List Nat} {fb : FE} (h : Wp2 (fe sl S) fun p1 p2 => ∃ ws kz, nlsAt p2 p1 = some ws ∧ keysK fb (capsOf sl cap) p2 ws = some kz ∧ KeysOk kz ∧ (∃ i : Nat, p2[i]? = some (MO.tab P q)) ∧ Q (.r p2.length) (p2 ++ [.nls (((ws.zip kz).mergeSort (W.dataLe false (·.2))).map (·.1))])) : Wp2 (eSortK P q fe cap fb sl S) Q := by
  obtain ⟨⟨p1, p2⟩, e1, ws, kz, h1, h2, h3, h4, q⟩ := h
  dsimp only at h1 h2 h4 q
  refine ⟨(.r p2.length, p2 ++ [.nls (((ws.zip kz).mergeSort (W.dataLe false (·.2))).map (·.1))]), ?_, q⟩
  unfold eSortK
  rw [e1]
  simp only [Option.bind_some, h1, h2]
  rw [if_pos ⟨h3, h4⟩]
instance st_nln : Step (Wp2 (eNLN sl S) Q) (Q (.r S.length) (S ++ [.nls []])) := ⟨wp_nln⟩
instance st_appn {o : FE} {a : FA} : Step (Wp2 (eAppN o a sl S) Q) (Wp2 (o sl S) fun p1 p2 => (∃ x0, nlsAt p2 p1 = some x0) ∧ Wp2 (a sl p2) fun q1 q2 => ∃ x ws, q1 = [x] ∧ nlsAt q2 p1 = some ws ∧ ws.length ≤ 100000 ∧ Q (.d .none) (setAt q2 p1 (.nls (ws ++ [x])))) := ⟨wp_appn⟩
instance st_in {f : FE} : Step (Wp2 (iN f sl S) QI) (Wp2 (f sl S) fun p1 p2 => ∃ ws, nlsAt p2 p1 = some ws ∧ QI ⟨ws, fun S => nlsIs S p1 ws⟩ p2) := ⟨wp_in⟩
instance st_sortK {P : Addr} {q : Str} {fe : FE} {cap : List Nat} {fb : FE} : Step (Wp2 (eSortK P q fe cap fb sl S) Q) (Wp2 (fe sl S) fun p1 p2 => ∃ ws kz, nlsAt p2 p1 = some ws ∧ keysK fb (capsOf sl cap) p2 ws = some kz ∧ KeysOk kz ∧ (∃ i : Nat, p2[i]? = some (MO.tab P q)) ∧ Q (.r p2.length) (p2 ++ [.nls (((ws.zip kz).mergeSort (W.dataLe false (·.2))).map (·.1))])) := ⟨wp_sortK⟩
end
/-! ### sorted sets of texts, two fors -/
/-! ### the pieces in the store -/
section
variable (val : Nat → PyData)
abbrev pcO (p : C × Nat) : MO := .lst [p.1.enc, val p.2]
def PS (S : List MO) (pcs : List (C × Nat)) : List MO := S ++ .nls ((List.range pcs.length).map fun i => .r (S.length + 1 + i)) :: pcs.map (pcO val)
end
section
variable {val : Nat → PyData} {S : List MO} {pcs : List (C × Nat)}
theorem PS.take : (PS val S pcs).take S.length = S := by unfold PS; rw [List.take_append_of_le_length (Nat.le_refl _), List.take_length]
theorem PS.nls : (PS val S pcs)[S.length]? = some (.nls ((List.range pcs.length).map fun i => .r (S.length + 1 + i))) := by
  unfold PS
  rw [List.getElem?_append_right (Nat.le_refl _), Nat.sub_self]; rfl
theorem PS.at_ {i : Nat} {p : C × Nat} (h : pcs[i]? = some p) : (PS val S pcs)[S.length + 1 + i]? = some (pcO val p) := by
  unfold PS
  rw [List.getElem?_append_right (by omega), show S.length + 1 + i - S.length = i + 1 by omega, List.getElem?_cons_succ, List.getElem?_map, h]; rfl
theorem PS.len : (PS val S pcs).length = S.length + 1 + pcs.length := by
  unfold PS
  rw [List.length_append, List.length_cons, List.length_map]; omega
theorem PS.set {i : Nat} (p : C × Nat) : (PS val S pcs).set (S.length + 1 + i) (pcO val p) = PS val S (pcs.set i p) := by
  unfold PS
  rw [List.set_append_right _ _ (by omega), show S.length + 1 + i - S.length = i + 1 by omega, List.set_cons_succ, List.length_set, List.map_set]
theorem PS.app (p : C × Nat) : (PS val S pcs ++ [pcO val p]).set S.length (.nls ((List.range pcs.length).map (fun i => W3.r (S.length + 1 + i)) ++ [.r (PS val S pcs).length])) = PS val S (pcs ++ [p]) := by
  rw [PS.len]
  unfold PS
  rw [List.append_assoc, List.set_append_right _ _ (Nat.le_refl _), Nat.sub_self, List.cons_append, List.set_cons_zero, List.length_append, List.length_singleton, List.range_succ, List.map_append, List.map_append]
  rfl
theorem PS.nil : S ++ [.nls []] = PS val S [] := rfl
end
end EA
namespace EA
open PySem PySem.Spec PyProof.Rows L2
noncomputable def f3_first_setting : F3 := fdef false 1 1
  (sSeq (sIf (tCmp gIs (eVar 0) (eD (.bool false)))
  (sRt (eD .none))
  sNx)
  (sSeq (sSet 1 (eNo (nLst aNil)))
  (sSeq (sWh (tNt (tTr (eB gIsi (aCons (eVar 0) (aCons (eTy "bool") aNil)))))
  (sIf (tCmp gIs (eOp gIx (eVar 0) (eD (.int (2)))) (eD (.bool false)))
  (sSeq (sEx (eM mApp (eVar 1) (aCons (eOp gIx (eVar 0) (eD (.int (0)))) aNil)))
  (sSet 0 (eOp gIx (eVar 0) (eD (.int (1))))))
  (sSet 0 (eOp gIx (eVar 0) (eD (.int (2)))))))
  (sRt (eB gTupOf (aCons (eVar 1) aNil))))))
local macro_rules | `(tactic| walk_at "ix") => `(tactic| first | rfl | exact atI_cons0 | exact atI_map0)
local macro_rules | `(tactic| walk_at "st") => `(tactic| first | assumption | rfl | exact get_set (by assumption) | exact get_set (get_set (by assumption)) | exact get_last | exact get_setlast | exact get_setapp (by assumption) | exact get_app (by assumption) | exact get_app (get_set (by assumption)))
local macro_rules | `(tactic| walk_at "tk") => `(tactic| first | exact List.take_length | exact take_set | exact take_set2 | exact take_set3 | exact take_app | exact take_aset | exact take_setapp | rfl)
local macro_rules | `(tactic| walk_at "sd") => `(tactic| first | omega | assumption | decide)
local macro_rules | `(tactic| walk_at "wpx") => `(tactic| first
  | with_reducible refine ite2 (fun _ => ?_) (fun z => absurd rfl z)
  | with_reducible refine ite2 (fun z => absurd z Bool.false_ne_true) (fun _ => ?_)
  | ((with_reducible refine gate_wp ?_); (first
    | ((with_reducible apply wp_viewr); (walk_at "st")) | ((with_reducible apply wp_lat); (walk_at "st"))
    | ((with_reducible refine gate_eq ?_); (first | with_reducible refine wp_geqs ?_ | with_reducible refine wp_geqb ?_ | with_reducible refine wp_geq_nil ?_))
    | ((with_reducible refine gate_ne ?_); (first | with_reducible refine wp_gnes ?_ | with_reducible refine wp_gneb ?_ | with_reducible refine wp_gne_nil ?_))
    | ((with_reducible refine gate_ix ?_); (first | ((with_reducible apply wp_ixd); (walk_at "ix")) | ((with_reducible apply wp_ixt); (walk_at "ix")) | ((with_reducible apply wp_ixr); (walk_at "st"); (walk_at "ix"))))
    | ((with_reducible apply wp_trur); (walk_at "st"))
    | ((with_reducible refine wp_l4s ?_ ?_); (first | omega | assumption | decide +kernel)) | with_reducible refine wp_l4 ?_ | ((with_reducible apply wp_l3r); (walk_at "st"))
    | ((with_reducible refine wp_mod ?_ ?_); (walk_at "sd")) | ((with_reducible refine wp_fdiv ?_ ?_); (walk_at "sd")) | ((with_reducible refine wp_mulr ?_ ?_); (walk_at "sd")) | ((with_reducible refine wp_mull ?_ ?_); (walk_at "sd")) | ((with_reducible refine wp_pow ?_ ?_); (walk_at "sd"))
    | ((with_reducible apply wp_lenr); (walk_at "st"))
    | ((with_reducible refine wp_gis ?_ ?_); rfl) | ((with_reducible refine wp_gisn ?_ ?_); rfl)
    | ((with_reducible refine gate_isi ?_); (first | ((with_reducible refine isi_t (r := true) ?_ ?_); (decide +kernel)) | ((with_reducible refine isi_t (r := false) ?_ ?_); (decide +kernel)) | ((with_reducible refine isi_b (r := true) ?_ ?_); (decide +kernel)) | ((with_reducible refine isi_b (r := false) ?_ ?_); (decide +kernel)) | ((with_reducible refine isi_i (r := true) ?_ ?_); (decide +kernel)) | ((with_reducible refine isi_i (r := false) ?_ ?_); (decide +kernel)) | ((with_reducible refine isi_s (r := true) ?_ ?_); (decide +kernel)) | ((with_reducible refine isi_s (r := false) ?_ ?_); (decide +kernel)) | ((with_reducible refine isi_l (r := true) ?_ ?_); (decide +kernel)) | ((with_reducible refine isi_l (r := false) ?_ ?_); (decide +kernel)) | ((with_reducible refine isi_n (r := true) ?_ ?_); (decide +kernel)) | ((with_reducible refine isi_n (r := false) ?_ ?_); (decide +kernel))))
    | ((with_reducible apply wp_tupr); (walk_at "st"))))
  | ((with_reducible refine gate_rq ?_); (first | ((with_reducible apply rq_dt); (walk_at "tk")) | ((with_reducible apply rq_nxt); (walk_at "tk"))))
  | ((with_reducible apply fz_r); (walk_at "st")) | ((with_reducible apply sq_r); (walk_at "st"))
  | ((with_reducible apply atSet_i); (walk_at "st"); rfl) | ((with_reducible apply atLst_i); (walk_at "st")) | ((with_reducible apply nowLst_i); (walk_at "st"))
  | ((with_reducible refine rng1_i ?_ ?_); (walk_at "sd")) | ((with_reducible refine rng2_i ?_ ?_); (walk_at "sd")))
local macro_rules | `(tactic| walk_at "wp") => `(tactic| first
  | with_reducible refine step_of ?_ | ((with_reducible apply wp_var); rfl) | walk_at "wpx")
local macro_rules | `(tactic| walk_at "fdef") => `(tactic| (refine wp_fdef rfl ?_; simp only [List.map_cons, List.map_nil, List.replicate_succ, List.replicate_zero, List.cons_append, List.nil_append]))
theorem fst1_len {ns : List Str} {c : C} (hn : NS ns) (hc : OC ns c) (h : c ≠ .b false) : c.fst1.length ≤ 12 := by
  obtain ⟨k, _, _, _, e⟩ := fst1_at hc hn.nd h
  rw [e]
  exact Nat.le_trans (List.length_filter_le _ _) hn.few
theorem first_setting3 {ns : List Str} {c : C} {S : List MO} (hn : NS ns) (hc : OC ns c) (h : c ≠ .b false) : f3_first_setting [.d c.enc] S = some (.d (.tuple (c.fst1.map .str)), S) := by
  have few := fst1_len hn hc h
  refine eq_of ?_
  unfold f3_first_setting
  walk_at "fdef"
  have e0 : ∀ {c : C}, c ≠ .b false → isB c.enc (.bool false) = false := fun {c} h => by
    cases c with
    | b v =>
      cases v with
      | false => exact absurd rfl h
      | true => rfl
    | nd t x y => rfl
  repeat walk_at "wp"
  refine ite2 (fun z => absurd ((e0 h).symm.trans z) (by decide)) fun _ => ?_
  repeat walk_at "wp"
  refine wp_while (fun m sl S' => ∃ (acc : List Str) (e : C), sl = [some (.d e.enc), some (.r S.length)] ∧ S'.take S.length = S ∧ S'[S.length]? = some (.lst (acc.map .str)) ∧ acc ++ e.fst1 = c.fst1 ∧ e ≠ .b false ∧ OC ns e ∧ m = e.size) (fun m sl S' hp => ?_) (m := c.size)
    ⟨[], c, rfl, ?_, ?_, rfl, h, hc, rfl⟩
  · obtain ⟨acc, e, rfl, hT, hL, ha, hne, oe, rfl⟩ := hp
    have hal : acc.length ≤ 12 := by have := congrArg List.length ha; rw [List.length_append] at this; omega
    cases e with
    | b v =>
      cases v with
      | false => exact absurd rfl hne
      | true =>
        simp only [C.enc]
        repeat walk_at "wp"
        haveI := CutR.of_take hT
        refine ite2 (fun z => absurd z (by decide)) fun _ => ?_
        repeat walk_at "wp"
        have ea : acc = c.fst1 := by rw [← ha]; simp [C.fst1]
        rw [ea]
        exact ⟨rfl, hT⟩
    | nd t x y =>
      simp only [C.enc]
      have nL : ∀ o, (S'.set S.length o)[S.length]? = some o := fun o => get_set hL
      have nT : ∀ o, (S'.set S.length o).take S.length = S := fun o => take_setge (Nat.le_refl _) hT
      have sx := x.size_pos
      have sy := y.size_pos
      obtain ⟨pre, ys, rfl, hx, hy0, nxy⟩ := oe.split
      have ox : OC (pre ++ t :: ys) x := OC.app (.skip hx) pre
      have oy : OC (pre ++ t :: ys) y := OC.app (.skip hy0) pre
      by_cases hy : y = .b false
      · subst hy
        have ne : C.fst1 (.nd t x (.b false)) = t :: x.fst1 := by simp [C.fst1]
        simp only [C.enc]
        repeat walk_at "wp"
        refine wp_app (by rw [List.length_map]; omega) ?_
        repeat walk_at "wp"
        refine ⟨x.size, by simp only [C.size]; omega, acc ++ [t], x, rfl, nT _, by rw [nL, List.map_append]; rfl, by rw [List.append_assoc, ← ha, ne]; rfl, nxy, ox, rfl⟩
      · have ne : C.fst1 (.nd t x y) = y.fst1 := by simp [C.fst1, hy]
        repeat walk_at "wp"
        refine ite2 (fun z => absurd ((e0 hy).symm.trans z) (by decide)) fun _ => ?_
        repeat walk_at "wp"
        exact ⟨y.size, by simp only [C.size]; omega, acc, y, rfl, hT, hL, by rw [← ha, ne], hy, oy, rfl⟩
  · rw [List.take_append_of_le_length (Nat.le_refl _), List.take_length]
  · rw [List.getElem?_append_right (Nat.le_refl _), Nat.sub_self]; rfl
end EA
namespace EA
open PySem PySem.Spec PyProof.Rows L2
/-! ### small rules -/
theorem wp_ixs {S : List MO} {P : PyData → Prop} {z : Str} {k : Int} {c : Nat} (hl : z.length ≤ 100000) (e : atI z.cps.toList k = some c) (h : P (.str ⟨#[c]⟩)) : Wp (gIx S (.d (.str z)) (.d (.int k))) P := by
  refine wp_eq (a := .str ⟨#[c]⟩) ?_ h
  show (if z.length ≤ 100000 then (atI z.cps.toList k).map fun c => PyData.str ⟨#[c]⟩ else none) = _
  rw [if_pos hl, e]; rfl
theorem wp_geqD {a b : PyData} {c : Bool} {PB : Bool → Prop} (d : a.depth ≤ 40 ∨ b.depth ≤ 40) (e : PyData.eqv a b = c) (h : PB c) : Wp (gEq a b) PB := wp_geq d (by rw [e]; exact h)
theorem wp_geqsD {i j : Str} {c : Bool} {PB : Bool → Prop} (e : (i == j) = c) (h : PB c) : Wp (gEq (.str i) (.str j)) PB := wp_geqs (by rw [e]; exact h)
theorem wp_gnesD {i j : Str} {c : Bool} {PB : Bool → Prop} (e : (i == j) = c) (h : PB (!c)) : Wp (gNe (.str i) (.str j)) PB := wp_gnes (by rw [e]; exact h)
theorem wp_gin_lit {x : Str} {ds : List PyData} {c : Bool} {PB : Bool → Prop} (e : (ds.any fun y => PyData.eqv y (.str x)) = c) (h : PB c) : Wp (gIn (.str x) (.tuple ds)) PB := wp_eq (if_pos (.inr (dep_str x))) (by rw [e]; exact h)
theorem ite_t {c : Bool} {P Q : Prop} (e : c = true) (h : P) : if c = true then P else Q := by rw [if_pos e]; exact h
theorem ite_f {c : Bool} {P Q : Prop} (e : c = false) (h : Q) : if c = true then P else Q := by rw [if_neg (by rw [e]; decide)]; exact h
/-- a statement, then what it comes to, then the rest -/
def thenJ (J : Sl → List MO → Prop) (Q : Out → Prop) : Out → Prop
  | .nx sl S => J sl S
  | o => Q o
theorem tj_nx {J : Sl → List MO → Prop} {Q : Out → Prop} {sl : Sl} {S : List MO} (h : J sl S) : thenJ J Q (.nx sl S) := h
theorem tj_rt {J : Sl → List MO → Prop} {Q : Out → Prop} {w : W3} {S : List MO} (h : Q (.rt w S)) : thenJ J Q (.rt w S) := h
theorem tj_bk {J : Sl → List MO → Prop} {Q : Out → Prop} {sl : Sl} {S : List MO} (h : Q (.bk sl S)) : thenJ J Q (.bk sl S) := h
theorem tj_ct {J : Sl → List MO → Prop} {Q : Out → Prop} {sl : Sl} {S : List MO} (h : Q (.ct sl S)) : thenJ J Q (.ct sl S) := h
instance st_tj_nx {J : Sl → List MO → Prop} {Q : Out → Prop} {sl : Sl} {S : List MO} : Step (thenJ J Q (.nx sl S)) (J sl S) := ⟨tj_nx⟩
instance st_tj_rt {J : Sl → List MO → Prop} {Q : Out → Prop} {w : W3} {S : List MO} : Step (thenJ J Q (.rt w S)) (Q (.rt w S)) := ⟨tj_rt⟩
instance st_tj_bk {J : Sl → List MO → Prop} {Q : Out → Prop} {sl : Sl} {S : List MO} : Step (thenJ J Q (.bk sl S)) (Q (.bk sl S)) := ⟨tj_bk⟩
instance st_tj_ct {J : Sl → List MO → Prop} {Q : Out → Prop} {sl : Sl} {S : List MO} : Step (thenJ J Q (.ct sl S)) (Q (.ct sl S)) := ⟨tj_ct⟩
end EA
namespace EA
open PySem PySem.Spec PyProof.Rows L2
local macro_rules | `(tactic| walk_at "ix") => `(tactic| first | rfl | exact atI_cons0 | exact atI_map0)
local macro_rules | `(tactic| walk_at "st") => `(tactic| first | assumption | rfl | exact get_set (by assumption) | exact get_set (get_set (by assumption)) | exact get_last | exact get_setlast | exact get_setapp (by assumption) | exact get_app (by assumption) | exact get_app (get_set (by assumption)))
local macro_rules | `(tactic| walk_at "tk") => `(tactic| first | exact List.take_length | exact take_set | exact take_set2 | exact take_set3 | exact take_app | exact take_aset | exact take_setapp | rfl)
local macro_rules | `(tactic| walk_at "sd") => `(tactic| first | omega | assumption | decide)
local macro_rules | `(tactic| walk_at "wpx") => `(tactic| first
  | with_reducible refine ite2 (fun _ => ?_) (fun z => absurd rfl z)
  | with_reducible refine ite2 (fun z => absurd z Bool.false_ne_true) (fun _ => ?_)
  | ((with_reducible refine gate_wp ?_); (first
    | ((with_reducible apply wp_viewr); (walk_at "st")) | ((with_reducible apply wp_lat); (walk_at "st"))
    | ((with_reducible refine gate_eq ?_); (first | with_reducible refine wp_geqs ?_ | with_reducible refine wp_geqb ?_ | with_reducible refine wp_geq_nil ?_))
    | ((with_reducible refine gate_ne ?_); (first | with_reducible refine wp_gnes ?_ | with_reducible refine wp_gneb ?_ | with_reducible refine wp_gne_nil ?_))
    | ((with_reducible refine gate_ix ?_); (first | ((with_reducible apply wp_ixd); (walk_at "ix")) | ((with_reducible apply wp_ixt); (walk_at "ix")) | ((with_reducible apply wp_ixr); (walk_at "st"); (walk_at "ix"))))
    | ((with_reducible apply wp_trur); (walk_at "st"))
    | ((with_reducible refine wp_l4s ?_ ?_); (first | omega | assumption | decide +kernel)) | with_reducible refine wp_l4 ?_ | ((with_reducible apply wp_l3r); (walk_at "st"))
    | ((with_reducible refine wp_mod ?_ ?_); (walk_at "sd")) | ((with_reducible refine wp_fdiv ?_ ?_); (walk_at "sd")) | ((with_reducible refine wp_mulr ?_ ?_); (walk_at "sd")) | ((with_reducible refine wp_mull ?_ ?_); (walk_at "sd")) | ((with_reducible refine wp_pow ?_ ?_); (walk_at "sd"))
    | ((with_reducible apply wp_lenr); (walk_at "st"))
    | ((with_reducible refine wp_gis ?_ ?_); rfl) | ((with_reducible refine wp_gisn ?_ ?_); rfl)
    | ((with_reducible refine gate_isi ?_); (first | ((with_reducible refine isi_t (r := true) ?_ ?_); (decide +kernel)) | ((with_reducible refine isi_t (r := false) ?_ ?_); (decide +kernel)) | ((with_reducible refine isi_b (r := true) ?_ ?_); (decide +kernel)) | ((with_reducible refine isi_b (r := false) ?_ ?_); (decide +kernel)) | ((with_reducible refine isi_i (r := true) ?_ ?_); (decide +kernel)) | ((with_reducible refine isi_i (r := false) ?_ ?_); (decide +kernel)) | ((with_reducible refine isi_s (r := true) ?_ ?_); (decide +kernel)) | ((with_reducible refine isi_s (r := false) ?_ ?_); (decide +kernel)) | ((with_reducible refine isi_l (r := true) ?_ ?_); (decide +kernel)) | ((with_reducible refine isi_l (r := false) ?_ ?_); (decide +kernel)) | ((with_reducible refine isi_n (r := true) ?_ ?_); (decide +kernel)) | ((with_reducible refine isi_n (r := false) ?_ ?_); (decide +kernel))))
    | ((with_reducible apply wp_tupr); (walk_at "st"))))
  | ((with_reducible refine gate_rq ?_); (first | ((with_reducible apply rq_dt); (walk_at "tk")) | ((with_reducible apply rq_nxt); (walk_at "tk"))))
  | ((with_reducible apply fz_r); (walk_at "st")) | ((with_reducible apply sq_r); (walk_at "st"))
  | ((with_reducible apply atSet_i); (walk_at "st"); rfl) | ((with_reducible apply atLst_i); (walk_at "st")) | ((with_reducible apply nowLst_i); (walk_at "st"))
  | ((with_reducible refine rng1_i ?_ ?_); (walk_at "sd")) | ((with_reducible refine rng2_i ?_ ?_); (walk_at "sd")))
local macro_rules | `(tactic| walk_at "wp") => `(tactic| first
  | with_reducible refine step_of ?_ | ((with_reducible apply wp_var); rfl) | walk_at "wpx")
local macro_rules | `(tactic| walk_at "fdef") => `(tactic| (refine wp_fdef rfl ?_; simp only [List.map_cons, List.map_nil, List.replicate_succ, List.replicate_zero, List.cons_append, List.nil_append]))
end EA
namespace EA
open PySem PySem.Spec PyProof.Rows L2
/-! ### the one form of a table -/
/-- the condition of a row of truths -/
def frm : List Str → List Bool → C
  | [], bs => .b (bs.getD 0 false)
  | s :: ns, bs => C.formed s (frm ns (bs.drop (bs.length / 2))) (frm ns (bs.take (bs.length / 2)))
theorem frm_rep : ∀ {ns : List Str} {bs : List Bool}, ns.Nodup → bs.length = 2 ^ ns.length → Rep ns (frm ns bs) bs
  | [], bs, _, h => by
    obtain ⟨b, rfl⟩ : ∃ b, bs = [b] := List.length_eq_one_iff.mp h
    exact rep_one
  | s :: ns, bs, nd, h => by
    obtain ⟨nx, nd'⟩ := List.nodup_cons.mp nd
    have p := Nat.two_pow_pos ns.length
    rw [List.length_cons, Nat.pow_succ] at h
    have h2 : bs.length / 2 = 2 ^ ns.length := by omega
    have r1 := frm_rep (ns := ns) (bs := bs.take (bs.length / 2)) nd' (by rw [List.length_take]; omega)
    have r2 := frm_rep (ns := ns) (bs := bs.drop (bs.length / 2)) nd' (by rw [List.length_drop]; omega)
    have := Rep.form r1 r2 nx
    rw [List.take_append_drop] at this
    exact this
theorem nodup_leN : ∀ {l m : List Nat}, l.Nodup → (∀ x ∈ l, x ∈ m) → l.length ≤ m.length
  | [], _, _, _ => Nat.zero_le _
  | x :: r, m, nd, h => by
    obtain ⟨nx, nd'⟩ := List.nodup_cons.mp nd
    have hx := h x List.mem_cons_self
    have ih := nodup_leN (l := r) (m := m.erase x) nd' fun y hy => by
      have hne : y ≠ x := fun e => nx (by rw [← e]; exact hy)
      exact (List.mem_erase_of_ne hne).mpr (h y (List.mem_cons_of_mem _ hy))
    rw [List.length_erase_of_mem hx] at ih
    have : 0 < m.length := List.length_pos_of_mem hx
    rw [List.length_cons]
    omega
/-- pieces that tell of f -/
structure Pcs (ns : List Str) (m : Nat) (pcs : List (C × Nat)) (f : Nat → Option Nat) : Prop where
  oc : ∀ p ∈ pcs, OC ns p.1
  lt : ∀ p ∈ pcs, p.2 < m
  nf : ∀ p ∈ pcs, p.1 ≠ .b false
  nd : (pcs.map (·.2)).Nodup
  ev : ∀ p ∈ pcs, ∀ k, k < 2 ^ ns.length → p.1.ev (asg ns k) = decide (f k = some p.2)
  all : ∀ k, k < 2 ^ ns.length → ∀ v, f k = some v → v ∈ pcs.map (·.2)
theorem Pcs.len {ns : List Str} {m : Nat} {pcs : List (C × Nat)} {f : Nat → Option Nat} (h : Pcs ns m pcs f) : pcs.length ≤ m := by
  have z : (pcs.map (·.2)).length ≤ (List.range m).length := by
    refine nodup_leN h.nd fun v hv => ?_
    obtain ⟨p, hp, rfl⟩ := List.mem_map.mp hv
    exact List.mem_range.mpr (h.lt p hp)
  rwa [List.length_map, List.length_range] at z
end EA
namespace EA
open PySem PySem.Spec PyProof.Rows L2
local macro_rules | `(tactic| walk_at "ix") => `(tactic| first | rfl | exact atI_cons0 | exact atI_map0)
local macro_rules | `(tactic| walk_at "st") => `(tactic| first | assumption | rfl | exact get_set (by assumption) | exact get_set (get_set (by assumption)) | exact get_last | exact get_setlast | exact get_setapp (by assumption) | exact get_app (by assumption) | exact get_app (get_set (by assumption)))
local macro_rules | `(tactic| walk_at "tk") => `(tactic| first | exact List.take_length | exact take_set | exact take_set2 | exact take_set3 | exact take_app | exact take_aset | exact take_setapp | rfl)
local macro_rules | `(tactic| walk_at "sd") => `(tactic| first | omega | assumption | decide)
local macro_rules | `(tactic| walk_at "wpx") => `(tactic| first
  | with_reducible refine ite2 (fun _ => ?_) (fun z => absurd rfl z)
  | with_reducible refine ite2 (fun z => absurd z Bool.false_ne_true) (fun _ => ?_)
  | ((with_reducible refine gate_wp ?_); (first
    | ((with_reducible apply wp_viewr); (walk_at "st")) | ((with_reducible apply wp_lat); (walk_at "st"))
    | ((with_reducible refine gate_eq ?_); (first | with_reducible refine wp_geqs ?_ | with_reducible refine wp_geqb ?_ | with_reducible refine wp_geq_nil ?_))
    | ((with_reducible refine gate_ne ?_); (first | with_reducible refine wp_gnes ?_ | with_reducible refine wp_gneb ?_ | with_reducible refine wp_gne_nil ?_))
    | ((with_reducible refine gate_ix ?_); (first | ((with_reducible apply wp_ixd); (walk_at "ix")) | ((with_reducible apply wp_ixt); (walk_at "ix")) | ((with_reducible apply wp_ixr); (walk_at "st"); (walk_at "ix"))))
    | ((with_reducible apply wp_trur); (walk_at "st"))
    | ((with_reducible refine wp_l4s ?_ ?_); (first | omega | assumption | decide +kernel)) | with_reducible refine wp_l4 ?_ | ((with_reducible apply wp_l3r); (walk_at "st"))
    | ((with_reducible refine wp_mod ?_ ?_); (walk_at "sd")) | ((with_reducible refine wp_fdiv ?_ ?_); (walk_at "sd")) | ((with_reducible refine wp_mulr ?_ ?_); (walk_at "sd")) | ((with_reducible refine wp_mull ?_ ?_); (walk_at "sd")) | ((with_reducible refine wp_pow ?_ ?_); (walk_at "sd"))
    | ((with_reducible apply wp_lenr); (walk_at "st"))
    | ((with_reducible refine wp_gis ?_ ?_); rfl) | ((with_reducible refine wp_gisn ?_ ?_); rfl)
    | ((with_reducible refine gate_isi ?_); (first | ((with_reducible refine isi_t (r := true) ?_ ?_); (decide +kernel)) | ((with_reducible refine isi_t (r := false) ?_ ?_); (decide +kernel)) | ((with_reducible refine isi_b (r := true) ?_ ?_); (decide +kernel)) | ((with_reducible refine isi_b (r := false) ?_ ?_); (decide +kernel)) | ((with_reducible refine isi_i (r := true) ?_ ?_); (decide +kernel)) | ((with_reducible refine isi_i (r := false) ?_ ?_); (decide +kernel)) | ((with_reducible refine isi_s (r := true) ?_ ?_); (decide +kernel)) | ((with_reducible refine isi_s (r := false) ?_ ?_); (decide +kernel)) | ((with_reducible refine isi_l (r := true) ?_ ?_); (decide +kernel)) | ((with_reducible refine isi_l (r := false) ?_ ?_); (decide +kernel)) | ((with_reducible refine isi_n (r := true) ?_ ?_); (decide +kernel)) | ((with_reducible refine isi_n (r := false) ?_ ?_); (decide +kernel))))
    | ((with_reducible apply wp_tupr); (walk_at "st"))))
  | ((with_reducible refine gate_rq ?_); (first | ((with_reducible apply rq_dt); (walk_at "tk")) | ((with_reducible apply rq_nxt); (walk_at "tk"))))
  | ((with_reducible apply fz_r); (walk_at "st")) | ((with_reducible apply sq_r); (walk_at "st"))
  | ((with_reducible apply atSet_i); (walk_at "st"); rfl) | ((with_reducible apply atLst_i); (walk_at "st")) | ((with_reducible apply nowLst_i); (walk_at "st"))
  | ((with_reducible refine rng1_i ?_ ?_); (walk_at "sd")) | ((with_reducible refine rng2_i ?_ ?_); (walk_at "sd")))
local macro_rules | `(tactic| walk_at "wp") => `(tactic| first
  | with_reducible refine step_of ?_ | ((with_reducible apply wp_var); rfl) | walk_at "wpx")
local macro_rules | `(tactic| walk_at "fdef") => `(tactic| (refine wp_fdef rfl ?_; simp only [List.map_cons, List.map_nil, List.replicate_succ, List.replicate_zero, List.cons_append, List.nil_append]))
end EA
namespace EA
open PySem PySem.Spec PyProof.Rows L2
local macro_rules | `(tactic| walk_at "ix") => `(tactic| first | rfl | exact atI_cons0 | exact atI_map0)
local macro_rules | `(tactic| walk_at "st") => `(tactic| first | assumption | rfl | exact get_set (by assumption) | exact get_set (get_set (by assumption)) | exact get_last | exact get_setlast | exact get_setapp (by assumption) | exact get_app (by assumption) | exact get_app (get_set (by assumption)))
local macro_rules | `(tactic| walk_at "tk") => `(tactic| first | exact List.take_length | exact take_set | exact take_set2 | exact take_set3 | exact take_app | exact take_aset | exact take_setapp | rfl)
local macro_rules | `(tactic| walk_at "sd") => `(tactic| first | omega | assumption | decide)
local macro_rules | `(tactic| walk_at "wpx") => `(tactic| first
  | with_reducible refine ite2 (fun _ => ?_) (fun z => absurd rfl z)
  | with_reducible refine ite2 (fun z => absurd z Bool.false_ne_true) (fun _ => ?_)
  | ((with_reducible refine gate_wp ?_); (first
    | ((with_reducible apply wp_viewr); (walk_at "st")) | ((with_reducible apply wp_lat); (walk_at "st"))
    | ((with_reducible refine gate_eq ?_); (first | with_reducible refine wp_geqs ?_ | with_reducible refine wp_geqb ?_ | with_reducible refine wp_geq_nil ?_))
    | ((with_reducible refine gate_ne ?_); (first | with_reducible refine wp_gnes ?_ | with_reducible refine wp_gneb ?_ | with_reducible refine wp_gne_nil ?_))
    | ((with_reducible refine gate_ix ?_); (first | ((with_reducible apply wp_ixd); (walk_at "ix")) | ((with_reducible apply wp_ixt); (walk_at "ix")) | ((with_reducible apply wp_ixr); (walk_at "st"); (walk_at "ix"))))
    | ((with_reducible apply wp_trur); (walk_at "st"))
    | ((with_reducible refine wp_l4s ?_ ?_); (first | omega | assumption | decide +kernel)) | with_reducible refine wp_l4 ?_ | ((with_reducible apply wp_l3r); (walk_at "st"))
    | ((with_reducible refine wp_mod ?_ ?_); (walk_at "sd")) | ((with_reducible refine wp_fdiv ?_ ?_); (walk_at "sd")) | ((with_reducible refine wp_mulr ?_ ?_); (walk_at "sd")) | ((with_reducible refine wp_mull ?_ ?_); (walk_at "sd")) | ((with_reducible refine wp_pow ?_ ?_); (walk_at "sd"))
    | ((with_reducible apply wp_lenr); (walk_at "st"))
    | ((with_reducible refine wp_gis ?_ ?_); rfl) | ((with_reducible refine wp_gisn ?_ ?_); rfl)
    | ((with_reducible refine gate_isi ?_); (first | ((with_reducible refine isi_t (r := true) ?_ ?_); (decide +kernel)) | ((with_reducible refine isi_t (r := false) ?_ ?_); (decide +kernel)) | ((with_reducible refine isi_b (r := true) ?_ ?_); (decide +kernel)) | ((with_reducible refine isi_b (r := false) ?_ ?_); (decide +kernel)) | ((with_reducible refine isi_i (r := true) ?_ ?_); (decide +kernel)) | ((with_reducible refine isi_i (r := false) ?_ ?_); (decide +kernel)) | ((with_reducible refine isi_s (r := true) ?_ ?_); (decide +kernel)) | ((with_reducible refine isi_s (r := false) ?_ ?_); (decide +kernel)) | ((with_reducible refine isi_l (r := true) ?_ ?_); (decide +kernel)) | ((with_reducible refine isi_l (r := false) ?_ ?_); (decide +kernel)) | ((with_reducible refine isi_n (r := true) ?_ ?_); (decide +kernel)) | ((with_reducible refine isi_n (r := false) ?_ ?_); (decide +kernel))))
    | ((with_reducible apply wp_tupr); (walk_at "st"))))
  | ((with_reducible refine gate_rq ?_); (first | ((with_reducible apply rq_dt); (walk_at "tk")) | ((with_reducible apply rq_nxt); (walk_at "tk"))))
  | ((with_reducible apply fz_r); (walk_at "st")) | ((with_reducible apply sq_r); (walk_at "st"))
  | ((with_reducible apply atSet_i); (walk_at "st"); rfl) | ((with_reducible apply atLst_i); (walk_at "st")) | ((with_reducible apply nowLst_i); (walk_at "st"))
  | ((with_reducible refine rng1_i ?_ ?_); (walk_at "sd")) | ((with_reducible refine rng2_i ?_ ?_); (walk_at "sd")))
local macro_rules | `(tactic| walk_at "wp") => `(tactic| first
  | with_reducible refine step_of ?_ | ((with_reducible apply wp_var); rfl) | walk_at "wpx")
local macro_rules | `(tactic| walk_at "fdef") => `(tactic| (refine wp_fdef rfl ?_; simp only [List.map_cons, List.map_nil, List.replicate_succ, List.replicate_zero, List.cons_append, List.nil_append]))
theorem Pcs.congr {ns : List Str} {m : Nat} {pcs : List (C × Nat)} {f g : Nat → Option Nat} (h : Pcs ns m pcs f) (e : ∀ k, k < 2 ^ ns.length → g k = f k) : Pcs ns m pcs g :=
  ⟨h.oc, h.lt, h.nf, h.nd, fun p hp k hk => by rw [e k hk]; exact h.ev p hp k hk, fun k hk v hv => h.all k hk v (by rw [← e k hk]; exact hv)⟩
end EA
namespace EA
open PySem PySem.Spec PyProof.Rows L2
noncomputable def f3_form : Nat → F3
  | 0 => fun _ _ => none
  | n + 1 => fdef false 2 3
      (sSeq (sIf (tCmp gEq (eB gLen (aCons (eVar 0) aNil)) (eD (.int (0))))
        (sRt (eOp gIx (eVar 1) (eD (.int (0)))))
        sNx)
        (sSeq (sSet 2 (eOp gFdiv (eB gLen (aCons (eVar 1) aNil)) (eD (.int (2)))))
        (sSeq (sSet 3 (eCall (f3_form n) (aCons (eSl (eVar 0) (oSome (eD (.int (1)))) oNone) (aCons (eSl (eVar 1) oNone (oSome (eVar 2))) aNil))))
        (sSeq (sSet 4 (eCall (f3_form n) (aCons (eSl (eVar 0) (oSome (eD (.int (1)))) oNone) (aCons (eSl (eVar 1) (oSome (eVar 2)) oNone) aNil))))
        (sSeq (sIf (tCmp gEq (eVar 4) (eVar 3))
        (sRt (eVar 4))
        sNx)
        (sRt (eTup (aCons (eOp gIx (eVar 0) (eD (.int (0)))) (aCons (eVar 4) (aCons (eVar 3) aNil))))))))))
noncomputable def f3_alike : Nat → F3
  | 0 => fun _ _ => none
  | n + 1 => fdef false 2 1
      (sSeq (sIf (tTr (eB gIsi (aCons (eVar 1) (aCons (eTy "bool") aNil))))
        (sRt (eAn (eB gIsi (aCons (eVar 0) (aCons (eTy "bool") aNil))) (eCmp gEq (eVar 0) (eVar 1))))
        sNx)
        (sSeq (sIf (tTr (eB gIsi (aCons (eVar 1) (aCons (eTy "tuple") aNil))))
        (sSeq (sIf (tOr3 (tNt (tTr (eB gIsi (aCons (eVar 0) (aCons (eTy "tuple") aNil))))) (tCmp gNe (eB gLen (aCons (eVar 0) aNil)) (eB gLen (aCons (eVar 1) aNil))))
        (sRt (eD (.bool false)))
        sNx)
        (sRt (eCmp gEq (eB gLen (aCons (eNd (nLc [2] (iR1 (aCons (eB gLen (aCons (eVar 1) aNil)) aNil)) (gNm 2) (tNt (tTr (eCall (f3_alike n) (aCons (eOp gIx (eVar 0) (eVar 2)) (aCons (eOp gIx (eVar 1) (eVar 2)) aNil))))) (eVar 2))) aNil)) (eD (.int (0))))))
        sNx)
        (sSeq (sIf (tTr (eB gIsi (aCons (eVar 1) (aCons (eTy "int") aNil))))
        (sRt (eAn (eCall f3_whole (aCons (eVar 0) aNil)) (eCmp gEq (eVar 0) (eVar 1))))
        sNx)
        (sSeq (sIf (tTr (eB gIsi (aCons (eVar 1) (aCons (eTy "str") aNil))))
        (sRt (eAn (eB gIsi (aCons (eVar 0) (aCons (eTy "str") aNil))) (eCmp gEq (eVar 0) (eVar 1))))
        sNx)
        (sRt (eAn (eCmp gIs (eVar 1) (eD .none)) (eCmp gIs (eVar 0) (eD .none))))))))
local macro_rules | `(tactic| walk_at "ix") => `(tactic| first | rfl | exact atI_cons0 | exact atI_map0)
local macro_rules | `(tactic| walk_at "st") => `(tactic| first | assumption | rfl | exact get_set (by assumption) | exact get_set (get_set (by assumption)) | exact get_last | exact get_setlast | exact get_setapp (by assumption) | exact get_app (by assumption) | exact get_app (get_set (by assumption)))
local macro_rules | `(tactic| walk_at "tk") => `(tactic| first | exact List.take_length | exact take_set | exact take_set2 | exact take_set3 | exact take_app | exact take_aset | exact take_setapp | rfl)
local macro_rules | `(tactic| walk_at "sd") => `(tactic| first | omega | assumption | decide)
local macro_rules | `(tactic| walk_at "wpx") => `(tactic| first
  | with_reducible refine ite2 (fun _ => ?_) (fun z => absurd rfl z)
  | with_reducible refine ite2 (fun z => absurd z Bool.false_ne_true) (fun _ => ?_)
  | ((with_reducible refine gate_wp ?_); (first
    | ((with_reducible apply wp_viewr); (walk_at "st")) | ((with_reducible apply wp_lat); (walk_at "st"))
    | ((with_reducible refine gate_eq ?_); (first | with_reducible refine wp_geqs ?_ | with_reducible refine wp_geqb ?_ | with_reducible refine wp_geq_nil ?_))
    | ((with_reducible refine gate_ne ?_); (first | with_reducible refine wp_gnes ?_ | with_reducible refine wp_gneb ?_ | with_reducible refine wp_gne_nil ?_))
    | ((with_reducible refine gate_ix ?_); (first | ((with_reducible apply wp_ixd); (walk_at "ix")) | ((with_reducible apply wp_ixt); (walk_at "ix")) | ((with_reducible apply wp_ixr); (walk_at "st"); (walk_at "ix"))))
    | ((with_reducible apply wp_trur); (walk_at "st"))
    | ((with_reducible refine wp_l4s ?_ ?_); (first | omega | assumption | decide +kernel)) | with_reducible refine wp_l4 ?_ | ((with_reducible apply wp_l3r); (walk_at "st"))
    | ((with_reducible refine wp_mod ?_ ?_); (walk_at "sd")) | ((with_reducible refine wp_fdiv ?_ ?_); (walk_at "sd")) | ((with_reducible refine wp_mulr ?_ ?_); (walk_at "sd")) | ((with_reducible refine wp_mull ?_ ?_); (walk_at "sd")) | ((with_reducible refine wp_pow ?_ ?_); (walk_at "sd"))
    | ((with_reducible apply wp_lenr); (walk_at "st"))
    | ((with_reducible refine wp_gis ?_ ?_); rfl) | ((with_reducible refine wp_gisn ?_ ?_); rfl)
    | ((with_reducible refine gate_isi ?_); (first | ((with_reducible refine isi_t (r := true) ?_ ?_); (decide +kernel)) | ((with_reducible refine isi_t (r := false) ?_ ?_); (decide +kernel)) | ((with_reducible refine isi_b (r := true) ?_ ?_); (decide +kernel)) | ((with_reducible refine isi_b (r := false) ?_ ?_); (decide +kernel)) | ((with_reducible refine isi_i (r := true) ?_ ?_); (decide +kernel)) | ((with_reducible refine isi_i (r := false) ?_ ?_); (decide +kernel)) | ((with_reducible refine isi_s (r := true) ?_ ?_); (decide +kernel)) | ((with_reducible refine isi_s (r := false) ?_ ?_); (decide +kernel)) | ((with_reducible refine isi_l (r := true) ?_ ?_); (decide +kernel)) | ((with_reducible refine isi_l (r := false) ?_ ?_); (decide +kernel)) | ((with_reducible refine isi_n (r := true) ?_ ?_); (decide +kernel)) | ((with_reducible refine isi_n (r := false) ?_ ?_); (decide +kernel))))
    | ((with_reducible apply wp_tupr); (walk_at "st"))))
  | ((with_reducible refine gate_rq ?_); (first | ((with_reducible apply rq_dt); (walk_at "tk")) | ((with_reducible apply rq_nxt); (walk_at "tk"))))
  | ((with_reducible apply fz_r); (walk_at "st")) | ((with_reducible apply sq_r); (walk_at "st"))
  | ((with_reducible apply atSet_i); (walk_at "st"); rfl) | ((with_reducible apply atLst_i); (walk_at "st")) | ((with_reducible apply nowLst_i); (walk_at "st"))
  | ((with_reducible refine rng1_i ?_ ?_); (walk_at "sd")) | ((with_reducible refine rng2_i ?_ ?_); (walk_at "sd")))
local macro_rules | `(tactic| walk_at "wp") => `(tactic| first
  | with_reducible refine step_of ?_ | ((with_reducible apply wp_var); rfl) | walk_at "wpx")
local macro_rules | `(tactic| walk_at "fdef") => `(tactic| (refine wp_fdef rfl ?_; simp only [List.map_cons, List.map_nil, List.replicate_succ, List.replicate_zero, List.cons_append, List.nil_append]))
theorem form3 : ∀ (n : Nat) {ns : List Str} {bs : List Bool} {S : List MO}, ns.length < n → NS ns → bs.length = 2 ^ ns.length → f3_form n [.d (strsD ns), .d (.list (bs.map .bool))] S = some (.d (frm ns bs).enc, S)
  | 0, _, _, _, h, _, _ => absurd h (by omega)
  | n + 1, [], bs, S, h, hn, hb => by
    obtain ⟨b, rfl⟩ : ∃ b, bs = [b] := List.length_eq_one_iff.mp hb
    refine eq_of ?_
    unfold f3_form
    walk_at "fdef"
    repeat walk_at "wp"
    exact ⟨rfl, rfl⟩
  | n + 1, s :: ns, bs, S, h, hn, hb => by
    have nn : NS ns := NS.suf (pre := [s]) hn
    have few := hn.few
    rw [List.length_cons] at h few
    have p := Nat.two_pow_pos ns.length
    have hb' := hb
    rw [List.length_cons, Nat.pow_succ] at hb'
    have e1 := form3 n (ns := ns) (bs := bs.take (bs.length / 2)) (S := S) (by omega) nn (by rw [List.length_take]; omega)
    have e2 := form3 n (ns := ns) (bs := bs.drop (bs.length / 2)) (S := S) (by omega) nn (by rw [List.length_drop]; omega)
    have o1 := (frm_rep (ns := ns) (bs := bs.take (bs.length / 2)) nn.nd (by rw [List.length_take]; omega)).oc
    have o2 := (frm_rep (ns := ns) (bs := bs.drop (bs.length / 2)) nn.nd (by rw [List.length_drop]; omega)).oc
    refine eq_of ?_
    unfold f3_form
    walk_at "fdef"
    repeat walk_at "wp"
    have n1 : (((((s :: ns).map PyData.str).length : Nat) : Int) == 0) = false := beq_eq_false_iff_ne.mpr (by rw [List.length_map, List.length_cons]; omega)
    have hh : ((bs.map PyData.bool).length : Int) / 2 = ((bs.length / 2 : Nat) : Int) := by rw [List.length_map]; omega
    have t0 : cutD (bs.map PyData.bool) none (some (((bs.map PyData.bool).length : Int) / 2)) = (bs.take (bs.length / 2)).map PyData.bool := by rw [hh, cutD_to, List.map_take]
    have t1 : cutD (bs.map PyData.bool) (some (((bs.map PyData.bool).length : Int) / 2)) none = (bs.drop (bs.length / 2)).map PyData.bool := by rw [hh, cutD_from, List.map_drop]
    have t2 : cutD ((s :: ns).map PyData.str) (some 1) none = ns.map PyData.str := cutD_from _ 1
    rw [n1]
    repeat walk_at "wp"
    rw [t0, t2]
    refine wp2_eq e1 ?_
    repeat walk_at "wp"
    rw [t1, t2]
    refine wp2_eq e2 ?_
    repeat walk_at "wp"
    refine wp_ceq o2 (by omega) ?_
    repeat walk_at "wp"
    show if decide (frm ns (bs.drop (bs.length / 2)) = frm ns (bs.take (bs.length / 2))) = true then _ else _
    have ef : (frm (s :: ns) bs).enc = if frm ns (bs.drop (bs.length / 2)) = frm ns (bs.take (bs.length / 2)) then (frm ns (bs.drop (bs.length / 2))).enc else .tuple [.str s, (frm ns (bs.drop (bs.length / 2))).enc, (frm ns (bs.take (bs.length / 2))).enc] := formed_enc _ _ _
    rw [ef]
    refine ite2 (fun h => ?_) (fun h => ?_)
    · repeat walk_at "wp"
      rw [if_pos (of_decide_eq_true h)]
      exact ⟨rfl, rfl⟩
    · repeat walk_at "wp"
      rw [if_neg (fun z => h (decide_eq_true z))]
      exact ⟨rfl, rfl⟩
/-! ### what tells two data apart by kind -/
mutual
def gdD : PyData → Bool
  | .none => true
  | .bool _ => true
  | .int _ => true
  | .str _ => true
  | .tuple xs => decide (xs.length ≤ 5000) && gdA xs
  | _ => false
def gdA : List PyData → Bool
  | [] => true
  | x :: xs => gdD x && gdA xs
end
theorem gdA_at : ∀ {xs : List PyData} {i : Nat} {x : PyData}, gdA xs = true → xs[i]? = some x → gdD x = true ∧ x.depth ≤ PyData.depthAll xs
  | [], _, _, _, e => by simp at e
  | y :: ys, i, x, h, e => by
    have h : (gdD y && gdA ys) = true := h
    rw [Bool.and_eq_true] at h
    show _ ∧ _ ≤ max y.depth (PyData.depthAll ys)
    cases i with
    | zero => simp at e; subst e; exact ⟨h.1, Nat.le_max_left _ _⟩
    | succ i =>
      obtain ⟨h1, h2⟩ := gdA_at (i := i) h.2 (by simpa using e)
      exact ⟨h1, Nat.le_trans h2 (Nat.le_max_right _ _)⟩
theorem alike3 : ∀ (n : Nat) {d : PyData} {S : List MO}, gdD d = true → d.depth < n → f3_alike n [.d d, .d d] S = some (.d (.bool true), S)
  | 0, _, _, _, h => absurd h (Nat.not_lt_zero _)
  | n + 1, d, S, hg, hd => by
    refine eq_of ?_
    unfold f3_alike
    cases d with
    | none =>
      walk_at "fdef"
      repeat walk_at "wp"
      exact ⟨rfl, rfl⟩
    | bool b =>
      walk_at "fdef"
      repeat walk_at "wp"
      rw [beq_self_eq_true]
      exact ⟨rfl, rfl⟩
    | int i =>
      walk_at "fdef"
      repeat walk_at "wp"
      unfold f3_whole
      walk_at "fdef"
      repeat walk_at "wp"
      rw [beq_self_eq_true]
      exact ⟨rfl, rfl⟩
    | str x =>
      walk_at "fdef"
      repeat walk_at "wp"
      rw [beq_self_eq_true]
      exact ⟨rfl, rfl⟩
    | tuple xs =>
      have hg : (decide (xs.length ≤ 5000) && gdA xs) = true := hg
      rw [Bool.and_eq_true] at hg
      have hl : xs.length ≤ 5000 := of_decide_eq_true hg.1
      have hd : PyData.depthAll xs + 1 < n + 1 := hd
      walk_at "fdef"
      repeat walk_at "wp"
      refine ite2 (fun z => absurd z (by decide)) fun _ => ?_
      repeat walk_at "wp"
      rw [beq_self_eq_true]
      repeat walk_at "wp"
      refine ite2 (fun z => absurd z (by decide)) fun _ => ?_
      repeat walk_at "wp"
      refine ⟨by rw [intsW_of rfl, List.length_map, List.length_range]; omega, ?_⟩
      refine wp_pure (List.range xs.length) (fun j => .d (.int (j : Nat))) (fun _ => false) (fun _ => .none) (intsW_of rfl) rfl (fun j hj => ?_) ?_
      · have hj := List.mem_range.mp hj
        have hx := List.getElem?_eq_getElem hj
        obtain ⟨g1, g2⟩ := gdA_at hg.2 hx
        repeat walk_at "wp"
        refine wp_ixt (atI_at hx) ?_
        repeat walk_at "wp"
        refine wp_ixt (atI_at hx) ?_
        repeat walk_at "wp"
        refine wp2_eq (alike3 n g1 (by omega)) ?_
        repeat walk_at "wp"
        exact ⟨rfl, rfl, fun z => absurd z (by decide)⟩
      · rw [show (List.range xs.length).filter (fun _ => false) = [] from List.filter_eq_nil_iff.mpr (fun _ _ z => by cases z)]
        repeat walk_at "wp"
        exact ⟨rfl, rfl⟩
    | list xs => cases hg
    | dict xs => cases hg
end EA
namespace EA
open PySem PySem.Spec PyProof.Rows L2
noncomputable def f3_switch_names : F3 := fdef false 2 5
  (sSeq (sSet 2 (eNo (nLst aNil)))
  (sSeq (sFor (iR1 (aCons (eVar 1) aNil)) (gNm 3)
  (sSeq (sSet 4 (eCall f3_take (aCons (eVar 0) (aCons (eD (.int (4))) aNil))))
  (sIf (tCmp gEq (eVar 4) (eD (.int (0))))
  (sEx (eM mApp (eVar 2) (aCons (eOp gAdd (eD (.str "m")) (eB (g1 strD) (aCons (eOp gAdd (eVar 3) (eD (.int (1)))) aNil))) aNil)))
  (sIf (tCmp gEq (eVar 4) (eD (.int (1))))
  (sEx (eM mApp (eVar 2) (aCons (eOp gAdd (eD (.str "e")) (eB (g1 strD) (aCons (eOp gAdd (eVar 3) (eD (.int (1)))) aNil))) aNil)))
  (sSeq (sSet 5 (eNd (nLc [6] (iR1 (aCons (eCall f3_take (aCons (eVar 0) (aCons (eD (.int (7))) aNil))) aNil)) (gNm 6) tYes3 (eOp gIx (eD (.str "abcdefghijklmnopqrstuvwxyz")) (eCall f3_take (aCons (eVar 0) (aCons (eD (.int (26))) aNil)))))))
  (sEx (eM mApp (eVar 2) (aCons (eOp gAdd (eOp gAdd (eOp gIx (eD (.str "ABCDEFGHIJKLMNOPQRSTUVWXYZ")) (eCall f3_take (aCons (eVar 0) (aCons (eD (.int (26))) aNil)))) (eJoin (eD (.str "")) (eVar 5))) (eB (g1 strD) (aCons (eVar 3) aNil))) aNil))))))))
  (sRt (eNd (nB gSorted (aCons (eVar 2) aNil))))))
noncomputable def f3_settings : F3 := fdef false 1 3
  (sSeq (sSet 1 (eNd (nLst (aCons (eNd (nLst aNil)) aNil))))
  (sSeq (sFor (iRv (eVar 0)) (gNm 2)
  (sSet 1 (eOp gAdd (eVar 1) (eNd (nLc [3] (iSq (eVar 1)) (gNm 3) tYes3 (eOp gAdd (eNd (nLst (aCons (eVar 2) aNil))) (eVar 3)))))))
  (sRt (eVar 1))))
noncomputable def f3_bits : F3 := fdef false 2 3
  (sSeq (sSet 2 (eCall f3_take (aCons (eVar 0) (aCons (eD (.int (6))) aNil))))
  (sSeq (sIf (tCmp gEq (eVar 2) (eD (.int (0))))
  (sSeq (sSet 3 (eCmp gEq (eCall f3_take (aCons (eVar 0) (aCons (eD (.int (2))) aNil))) (eD (.int (1)))))
  (sRt (eNd (nLc [4] (iR1 (aCons (eVar 1) aNil)) (gNm 4) tYes3 (eVar 3)))))
  sNx)
  (sSeq (sIf (tCmp gEq (eVar 2) (eD (.int (1))))
  (sRt (eNd (nLc [4] (iR1 (aCons (eVar 1) aNil)) (gNm 4) tYes3 (eCmp gEq (eCall f3_take (aCons (eVar 0) (aCons (eD (.int (8))) aNil))) (eD (.int (0)))))))
  sNx)
  (sRt (eNd (nLc [4] (iR1 (aCons (eVar 1) aNil)) (gNm 4) tYes3 (eCmp gEq (eCall f3_take (aCons (eVar 0) (aCons (eD (.int (2))) aNil))) (eD (.int (1))))))))))
local macro_rules | `(tactic| walk_at "ix") => `(tactic| first | rfl | exact atI_cons0 | exact atI_map0)
local macro_rules | `(tactic| walk_at "st") => `(tactic| first | assumption | rfl | exact get_set (by assumption) | exact get_set (get_set (by assumption)) | exact get_last | exact get_setlast | exact get_setapp (by assumption) | exact get_app (by assumption) | exact get_app (get_set (by assumption)))
local macro_rules | `(tactic| walk_at "tk") => `(tactic| first | exact List.take_length | exact take_set | exact take_set2 | exact take_set3 | exact take_app | exact take_aset | exact take_setapp | rfl)
local macro_rules | `(tactic| walk_at "sd") => `(tactic| first | omega | assumption | decide)
local macro_rules | `(tactic| walk_at "wpx") => `(tactic| first
  | with_reducible refine ite2 (fun _ => ?_) (fun z => absurd rfl z)
  | with_reducible refine ite2 (fun z => absurd z Bool.false_ne_true) (fun _ => ?_)
  | ((with_reducible refine gate_wp ?_); (first
    | ((with_reducible apply wp_viewr); (walk_at "st")) | ((with_reducible apply wp_lat); (walk_at "st"))
    | ((with_reducible refine gate_eq ?_); (first | with_reducible refine wp_geqs ?_ | with_reducible refine wp_geqb ?_ | with_reducible refine wp_geq_nil ?_))
    | ((with_reducible refine gate_ne ?_); (first | with_reducible refine wp_gnes ?_ | with_reducible refine wp_gneb ?_ | with_reducible refine wp_gne_nil ?_))
    | ((with_reducible refine gate_ix ?_); (first | ((with_reducible apply wp_ixd); (walk_at "ix")) | ((with_reducible apply wp_ixt); (walk_at "ix")) | ((with_reducible apply wp_ixr); (walk_at "st"); (walk_at "ix"))))
    | ((with_reducible apply wp_trur); (walk_at "st"))
    | ((with_reducible refine wp_l4s ?_ ?_); (first | omega | assumption | decide +kernel)) | with_reducible refine wp_l4 ?_ | ((with_reducible apply wp_l3r); (walk_at "st"))
    | ((with_reducible refine wp_mod ?_ ?_); (walk_at "sd")) | ((with_reducible refine wp_fdiv ?_ ?_); (walk_at "sd")) | ((with_reducible refine wp_mulr ?_ ?_); (walk_at "sd")) | ((with_reducible refine wp_mull ?_ ?_); (walk_at "sd")) | ((with_reducible refine wp_pow ?_ ?_); (walk_at "sd"))
    | ((with_reducible apply wp_lenr); (walk_at "st"))
    | ((with_reducible refine wp_gis ?_ ?_); rfl) | ((with_reducible refine wp_gisn ?_ ?_); rfl)
    | ((with_reducible refine gate_isi ?_); (first | ((with_reducible refine isi_t (r := true) ?_ ?_); (decide +kernel)) | ((with_reducible refine isi_t (r := false) ?_ ?_); (decide +kernel)) | ((with_reducible refine isi_b (r := true) ?_ ?_); (decide +kernel)) | ((with_reducible refine isi_b (r := false) ?_ ?_); (decide +kernel)) | ((with_reducible refine isi_i (r := true) ?_ ?_); (decide +kernel)) | ((with_reducible refine isi_i (r := false) ?_ ?_); (decide +kernel)) | ((with_reducible refine isi_s (r := true) ?_ ?_); (decide +kernel)) | ((with_reducible refine isi_s (r := false) ?_ ?_); (decide +kernel)) | ((with_reducible refine isi_l (r := true) ?_ ?_); (decide +kernel)) | ((with_reducible refine isi_l (r := false) ?_ ?_); (decide +kernel)) | ((with_reducible refine isi_n (r := true) ?_ ?_); (decide +kernel)) | ((with_reducible refine isi_n (r := false) ?_ ?_); (decide +kernel))))
    | ((with_reducible apply wp_tupr); (walk_at "st"))))
  | ((with_reducible refine gate_rq ?_); (first | ((with_reducible apply rq_dt); (walk_at "tk")) | ((with_reducible apply rq_nxt); (walk_at "tk"))))
  | ((with_reducible apply fz_r); (walk_at "st")) | ((with_reducible apply sq_r); (walk_at "st"))
  | ((with_reducible apply atSet_i); (walk_at "st"); rfl) | ((with_reducible apply atLst_i); (walk_at "st")) | ((with_reducible apply nowLst_i); (walk_at "st"))
  | ((with_reducible refine rng1_i ?_ ?_); (walk_at "sd")) | ((with_reducible refine rng2_i ?_ ?_); (walk_at "sd")))
local macro_rules | `(tactic| walk_at "wp") => `(tactic| first
  | with_reducible refine step_of ?_ | ((with_reducible apply wp_var); rfl) | walk_at "wpx")
local macro_rules | `(tactic| walk_at "fdef") => `(tactic| (refine wp_fdef rfl ?_; simp only [List.map_cons, List.map_nil, List.replicate_succ, List.replicate_zero, List.cons_append, List.nil_append]))
section
variable {S : List MO} {h : Nat} {o : List PyData} {Q : W3 → List MO → Prop}
theorem switch_names3 {n : Nat} (hh : S[h]? = some (.lst o)) (ho : HandO o) (hn : n ≤ 5) (q : ∀ (ns : List Str) (o' : List PyData), NS ns → ns.length = n → Str.ofString "Q9" ∉ ns → HandO o' → Q (.d (strsD ns)) (S.set h (.lst o'))) : Wp2 (f3_switch_names [.r h, .d (.int n)] S) Q := by
  unfold f3_switch_names
  walk_at "fdef"
  repeat walk_at "wp"
  have hlt : h < S.length := (List.getElem?_eq_some_iff.mp hh).1
  have lg : ∀ k : Nat, k < 10 → ((k : Nat) : Int).natAbs.log2 < 1920 := fun k hk => by
    have e : ((k : Nat) : Int).natAbs = k := Int.natAbs_natCast k
    rw [e]
    have : k.log2 ≤ k := Nat.log2_le_self k
    omega
  have dlen : ∀ k : Nat, k < 10 → (Str.ofString (toString ((k : Nat) : Int))).length = 1 := fun k hk => by
    have e := digit k hk
    show (Str.ofString (toString ((k : Nat) : Int))).cps.size = 1
    rw [← Array.length_toList]
    exact (congrArg List.length e)
  refine wp_loop (n := 0) (fun i sl S' => ∃ (ss : List Str) (o' : List PyData) (x1 x2 x3 x4 : Option W3), sl = [some (.r h), some (.d (.int n)), some (.r S.length), x1, x2, x3, x4] ∧ S' = S.set h (.lst o') ++ [.lst (ss.map .str)] ∧ HandO o' ∧ ss.length = i ∧ ∀ j s, ss[j]? = some s → Tag j s)
    ⟨[], o, _, _, _, _, rfl, by rw [set_same hh]; rfl, ho, rfl, fun j s e => by simp at e⟩ (fun _ _ _ _ => rfl) (fun i w sl S' hw hi hp => ?_) (fun sl S' hp => ?_)
  · obtain ⟨ss, o', x1, x2, x3, x4, rfl, rfl, ho', hl, tg⟩ := hp
    obtain ⟨hlt2, rfl⟩ := intsW_get hw
    have i5 : i < 5 := by omega
    have i1 : (0 + ((i - 0 : Nat) : Int)) + 1 = ((i + 1 : Nat) : Int) := by omega
    have i0 : (0 + ((i - 0 : Nat) : Int)) = (i : Int) := by omega
    have tgs : ∀ z, Tag i z → ∀ j s, (ss ++ [z])[j]? = some s → Tag j s := fun z tz j s e => by
      by_cases hj : j < ss.length
      · rw [List.getElem?_append_left hj] at e
        exact tg j s e
      · rw [List.getElem?_append_right (by omega)] at e
        have hj2 : j = ss.length := by
          have := (List.getElem?_eq_some_iff.mp e).1
          simp at this
          omega
        subst hj2
        rw [Nat.sub_self] at e
        have e : z = s := Option.some.inj e
        rw [← e, hl]
        exact tz
    rw [i0]
    repeat walk_at "wp"
    refine take3 (get_setapp hh) ho' (by decide) (by decide) fun v o2 v0 v1 ho2 => ?_
    rw [set_setapp hh]
    repeat walk_at "wp"
    have i1 : (i : Int) + 1 = ((i + 1 : Nat) : Int) := by omega
    have more : ∀ (z : Str) (o3 : List PyData) (sl : Sl), HandO o3 → Tag i z → sl[0]? = some (some (.r h)) → sl[1]? = some (some (.d (.int n))) → sl[2]? = some (some (.r S.length)) → sl.length = 7 → ∃ (ss' : List Str) (o' : List PyData) (x1 x2 x3 x4 : Option W3), sl = [some (.r h), some (.d (.int n)), some (.r S.length), x1, x2, x3, x4] ∧ (S.set h (.lst o3) ++ [MO.lst (ss.map PyData.str)]).set S.length (MO.lst (ss.map PyData.str ++ [PyData.str z])) = S.set h (.lst o') ++ [.lst (ss'.map .str)] ∧ HandO o' ∧ ss'.length = i + 1 ∧ ∀ j s, ss'[j]? = some s → Tag j s := fun z o3 sl h3 tz e0 e1 e2 el => by
      refine ⟨ss ++ [z], o3, (sl[3]?).join, (sl[4]?).join, (sl[5]?).join, (sl[6]?).join, ?_, ?_, h3, by rw [List.length_append, hl]; rfl, tgs z tz⟩
      · match sl, el with
        | [a, b, c, d, e, f, g], _ =>
          simp at e0 e1 e2
          subst e0 e1 e2
          rfl
      · rw [set_setlast, List.map_append]; rfl
    refine ite2 (fun c => ?_) (fun c => ?_)
    · repeat walk_at "wp"
      rw [i1]
      refine wp_str (lg (i + 1) (by omega)) ?_
      refine wp_adds (by rw [dlen (i + 1) (by omega)]; decide) ?_
      repeat walk_at "wp"
      refine wp_app (by rw [List.length_map]; omega) ?_
      refine more _ o2 _ ho2 (.inl ?_) (by rfl) (by rfl) (by rfl) (by rfl)
      rw [cl_append, digit (i + 1) (by omega)]
      show [109] ++ _ = _
      rw [show 48 + (i + 1) = 49 + i by omega]
      rfl
    · repeat walk_at "wp"
      refine ite2 (fun c => ?_) (fun c => ?_)
      · repeat walk_at "wp"
        rw [i1]
        refine wp_str (lg (i + 1) (by omega)) ?_
        refine wp_adds (by rw [dlen (i + 1) (by omega)]; decide) ?_
        repeat walk_at "wp"
        refine wp_app (by rw [List.length_map]; omega) ?_
        refine more _ o2 _ ho2 (.inr (.inl ?_)) (by rfl) (by rfl) (by rfl) (by rfl)
        rw [cl_append, digit (i + 1) (by omega)]
        show [101] ++ _ = _
        rw [show 48 + (i + 1) = 49 + i by omega]
        rfl
      · repeat walk_at "wp"
        refine take3 (get_setapp hh) ho2 (by decide) (by decide) fun m o3 m0 m1 ho3 => ?_
        rw [set_setapp hh]
        repeat walk_at "wp"
        refine ⟨by rw [intsW_len]; omega, ?_⟩
        refine wp_comp (n := 0) (acc := []) (fun k acc S' => ∃ (ms : List Nat) (o' : List PyData), acc = ms.map (fun x => PyData.str ⟨#[x]⟩) ∧ S' = S.set h (.lst o') ++ [.lst (ss.map .str)] ∧ HandO o' ∧ ms.length = k ∧ ∀ x ∈ ms, 97 ≤ x ∧ x ≤ 122)
          ⟨[], o3, rfl, rfl, ho3, rfl, fun x hx => nomatch hx⟩ (fun _ _ _ _ => rfl) (fun k w acc S' hw hk hp => ?_) (fun ys S' hp => ?_)
        · obtain ⟨ms, o', rfl, rfl, h5, k2, k3⟩ := hp
          obtain ⟨_, rfl⟩ := intsW_get hw
          repeat walk_at "wp"
          refine take3 (get_setapp hh) h5 (by decide) (by decide) fun r o6 r0 r1 ho6 => ?_
          rw [set_setapp hh]
          repeat walk_at "wp"
          obtain ⟨r, rfl⟩ : ∃ k : Nat, r = (k : Int) := ⟨r.toNat, by omega⟩
          refine wp_ixs (by decide +kernel) (atI_at (low_at r (by omega))) ?_
          repeat walk_at "wp"
          refine ⟨ms ++ [97 + r], o6, by rw [List.map_append]; rfl, rfl, ho6, by rw [List.length_append, k2]; rfl, fun x hx => ?_⟩
          rcases List.mem_append.mp hx with hx | hx
          · exact k3 x hx
          · have e : x = 97 + r := by simpa using hx
            omega
        · obtain ⟨ms, o', ea, rfl, h5, k2, k3⟩ := hp
          rw [List.nil_append] at ea
          subst ea
          rw [intsW_len] at k2
          have es : ms.map (fun x => PyData.str ⟨#[x]⟩) = (ms.map fun x => (⟨#[x]⟩ : Str)).map .str := by rw [List.map_map]; rfl
          rw [es]
          repeat walk_at "wp"
          refine take3 (get_setapp hh) h5 (by decide) (by decide) fun r o6 r0 r1 ho6 => ?_
          rw [set_setapp hh]
          repeat walk_at "wp"
          obtain ⟨r, rfl⟩ : ∃ k : Nat, r = (k : Int) := ⟨r.toNat, by omega⟩
          refine wp_ixs (by decide +kernel) (atI_at (up_at r (by omega))) ?_
          repeat walk_at "wp"
          have je : cl (Txt.join (Str.ofString "") (ms.map fun x => (⟨#[x]⟩ : Str))) = ms := by
            rw [cl_join rfl, flat_one _ ms (by rw [List.map_map]; rfl)]
          have jl : (Txt.join (Str.ofString "") (ms.map fun x => (⟨#[x]⟩ : Str))).length = ms.length := by
            show (Txt.join (Str.ofString "") (ms.map fun x => (⟨#[x]⟩ : Str))).cps.size = _
            rw [← Array.length_toList]
            exact congrArg List.length je
          have l1 : ((⟨#[65 + r]⟩ : Str) ++ Txt.join (Str.ofString "") (ms.map fun x => (⟨#[x]⟩ : Str))).length = 1 + ms.length := by
            show (_ ++ _ : Array Nat).size = _
            rw [Array.size_append]
            exact congrArg (1 + ·) jl
          refine ⟨_, rfl, ?_⟩
          repeat walk_at "wp"
          refine ⟨ms.map fun x => (⟨#[x]⟩ : Str), rfl, ?_⟩
          refine wp_eq (if_pos (by rw [sum_one, show (Str.ofString "").length = 0 from rfl]; omega)) ?_
          refine wp_adds (by rw [jl]; show 1 + ms.length ≤ _; omega) ?_
          repeat walk_at "wp"
          refine wp_str (lg i (by omega)) ?_
          refine wp_adds (by rw [l1, dlen i (by omega)]; omega) ?_
          repeat walk_at "wp"
          refine wp_app (by rw [List.length_map]; omega) ?_
          refine more _ o6 _ ho6 (.inr (.inr ⟨65 + r, ms, ?_, by omega, by omega, k3, by omega⟩)) (by rfl) (by rfl) (by rfl) (by rfl)
          rw [cl_append, cl_append, digit i (by omega), je]
          show [65 + r] ++ ms ++ _ = _
          rfl
  · obtain ⟨ss, o', x1, x2, x3, x4, rfl, rfl, ho', hl, tg⟩ := hp
    rw [intsW_len] at hl
    have hl : ss.length = n := by omega
    have nds : ss.Nodup := tag_nodup 0 tg
    repeat walk_at "wp"
    refine wp_sortR get_setlast (wp_sort_strs nds fun ys pm srt => ?_)
    have hys := srt
    have mem : ∀ s ∈ ys, ∃ j, j < 5 ∧ Tag j s := fun s hs => by
      obtain ⟨j, hj⟩ := List.getElem?_of_mem (pm.mem_iff.mp hs)
      exact ⟨j, by have := (List.getElem?_eq_some_iff.mp hj).1; omega, tg j s hj⟩
    repeat walk_at "wp"
    refine q ys o' ⟨hys, fun s hs => ?_, by rw [pm.length_eq]; omega⟩ (by rw [pm.length_eq]; exact hl) (fun m => ?_) ho'
    · obtain ⟨j, hj, tj⟩ := mem s hs
      exact tj.ok (by omega)
    · obtain ⟨j, hj, tj⟩ := mem _ m
      exact Tag.q9 (by omega) tj
end
end EA
namespace EA
open PySem PySem.Spec PyProof.Rows L2
local macro_rules | `(tactic| walk_at "ix") => `(tactic| first | rfl | exact atI_cons0 | exact atI_map0)
local macro_rules | `(tactic| walk_at "st") => `(tactic| first | assumption | rfl | exact get_set (by assumption) | exact get_set (get_set (by assumption)) | exact get_last | exact get_setlast | exact get_setapp (by assumption) | exact get_app (by assumption) | exact get_app (get_set (by assumption)))
local macro_rules | `(tactic| walk_at "tk") => `(tactic| first | exact List.take_length | exact take_set | exact take_set2 | exact take_set3 | exact take_app | exact take_aset | exact take_setapp | rfl)
local macro_rules | `(tactic| walk_at "sd") => `(tactic| first | omega | assumption | decide)
local macro_rules | `(tactic| walk_at "wpx") => `(tactic| first
  | with_reducible refine ite2 (fun _ => ?_) (fun z => absurd rfl z)
  | with_reducible refine ite2 (fun z => absurd z Bool.false_ne_true) (fun _ => ?_)
  | ((with_reducible refine gate_wp ?_); (first
    | ((with_reducible apply wp_viewr); (walk_at "st")) | ((with_reducible apply wp_lat); (walk_at "st"))
    | ((with_reducible refine gate_eq ?_); (first | with_reducible refine wp_geqs ?_ | with_reducible refine wp_geqb ?_ | with_reducible refine wp_geq_nil ?_))
    | ((with_reducible refine gate_ne ?_); (first | with_reducible refine wp_gnes ?_ | with_reducible refine wp_gneb ?_ | with_reducible refine wp_gne_nil ?_))
    | ((with_reducible refine gate_ix ?_); (first | ((with_reducible apply wp_ixd); (walk_at "ix")) | ((with_reducible apply wp_ixt); (walk_at "ix")) | ((with_reducible apply wp_ixr); (walk_at "st"); (walk_at "ix"))))
    | ((with_reducible apply wp_trur); (walk_at "st"))
    | ((with_reducible refine wp_l4s ?_ ?_); (first | omega | assumption | decide +kernel)) | with_reducible refine wp_l4 ?_ | ((with_reducible apply wp_l3r); (walk_at "st"))
    | ((with_reducible refine wp_mod ?_ ?_); (walk_at "sd")) | ((with_reducible refine wp_fdiv ?_ ?_); (walk_at "sd")) | ((with_reducible refine wp_mulr ?_ ?_); (walk_at "sd")) | ((with_reducible refine wp_mull ?_ ?_); (walk_at "sd")) | ((with_reducible refine wp_pow ?_ ?_); (walk_at "sd"))
    | ((with_reducible apply wp_lenr); (walk_at "st"))
    | ((with_reducible refine wp_gis ?_ ?_); rfl) | ((with_reducible refine wp_gisn ?_ ?_); rfl)
    | ((with_reducible refine gate_isi ?_); (first | ((with_reducible refine isi_t (r := true) ?_ ?_); (decide +kernel)) | ((with_reducible refine isi_t (r := false) ?_ ?_); (decide +kernel)) | ((with_reducible refine isi_b (r := true) ?_ ?_); (decide +kernel)) | ((with_reducible refine isi_b (r := false) ?_ ?_); (decide +kernel)) | ((with_reducible refine isi_i (r := true) ?_ ?_); (decide +kernel)) | ((with_reducible refine isi_i (r := false) ?_ ?_); (decide +kernel)) | ((with_reducible refine isi_s (r := true) ?_ ?_); (decide +kernel)) | ((with_reducible refine isi_s (r := false) ?_ ?_); (decide +kernel)) | ((with_reducible refine isi_l (r := true) ?_ ?_); (decide +kernel)) | ((with_reducible refine isi_l (r := false) ?_ ?_); (decide +kernel)) | ((with_reducible refine isi_n (r := true) ?_ ?_); (decide +kernel)) | ((with_reducible refine isi_n (r := false) ?_ ?_); (decide +kernel))))
    | ((with_reducible apply wp_tupr); (walk_at "st"))))
  | ((with_reducible refine gate_rq ?_); (first | ((with_reducible apply rq_dt); (walk_at "tk")) | ((with_reducible apply rq_nxt); (walk_at "tk"))))
  | ((with_reducible apply fz_r); (walk_at "st")) | ((with_reducible apply sq_r); (walk_at "st"))
  | ((with_reducible apply atSet_i); (walk_at "st"); rfl) | ((with_reducible apply atLst_i); (walk_at "st")) | ((with_reducible apply nowLst_i); (walk_at "st"))
  | ((with_reducible refine rng1_i ?_ ?_); (walk_at "sd")) | ((with_reducible refine rng2_i ?_ ?_); (walk_at "sd")))
local macro_rules | `(tactic| walk_at "wp") => `(tactic| first
  | with_reducible refine step_of ?_ | ((with_reducible apply wp_var); rfl) | walk_at "wpx")
local macro_rules | `(tactic| walk_at "fdef") => `(tactic| (refine wp_fdef rfl ?_; simp only [List.map_cons, List.map_nil, List.replicate_succ, List.replicate_zero, List.cons_append, List.nil_append]))
abbrev lstS (ss : List Str) : PyData := .list (ss.map .str)
theorem sets_cons {x : Str} {xs : List Str} (nx : x ∉ xs) : sets (x :: xs) = sets xs ++ (sets xs).map (x :: ·) := by
  have e : 2 ^ (x :: xs).length = 2 ^ xs.length + 2 ^ xs.length := by rw [List.length_cons, Nat.pow_succ]; omega
  unfold sets
  rw [e, List.range_add, List.map_append, List.map_map, List.map_map]
  congr 1
  · exact List.map_congr_left fun k hk => filter_lo nx (List.mem_range.mp hk)
  · exact List.map_congr_left fun k hk => filter_hi nx (List.mem_range.mp hk)
section
variable {S : List MO} {h : Nat} {o : List PyData} {Q : W3 → List MO → Prop}
theorem settingsL3 {ns : List Str} (hn : NS ns) : f3_settings [.d (strsD ns)] S = some (.d (.list ((sets ns).map lstS)), S) := by
  have few := hn.few
  refine eq_of ?_
  unfold f3_settings
  walk_at "fdef"
  repeat walk_at "wp"
  refine ⟨ns.map .str, .inl rfl, ?_⟩
  refine wp_loop (n := 0) (fun i sl S' => ∃ (x y : Option W3), sl = [some (.d (strsD ns)), some (.d (.list ((sets (ns.drop (ns.length - i))).map lstS))), x, y] ∧ S' = S)
    ⟨_, _, by rw [Nat.sub_zero, List.drop_length]; rfl, rfl⟩ (fun _ _ _ _ => rfl) (fun i w sl S' hw hi hp => ?_) (fun sl S' hp => ?_)
  · obtain ⟨x, y, rfl, rfl⟩ := hp
    obtain ⟨d, hd, rfl⟩ := ws_get hw
    rw [Nat.sub_zero] at hd
    have hlt : i < ns.length := by have := (List.getElem?_eq_some_iff.mp hd).1; rwa [List.length_reverse, List.length_map] at this
    rw [List.getElem?_reverse (by rw [List.length_map]; exact hlt), List.length_map, List.getElem?_map] at hd
    obtain ⟨a, ha, rfl⟩ := Option.map_eq_some_iff.mp hd
    have ed : ns.drop (ns.length - (i + 1)) = a :: ns.drop (ns.length - i) := by
      have := List.drop_eq_getElem_cons (l := ns) (i := ns.length - (i + 1)) (by omega)
      rw [this]
      congr 1
      · rw [List.getElem?_eq_getElem (by omega)] at ha
        have := Option.some.inj ha
        rw [← this]
        congr 1
        omega
      · congr 1; omega
    have na : a ∉ ns.drop (ns.length - i) := by
      have nd := hn.nd
      rw [← List.take_append_drop (ns.length - (i + 1)) ns, ed] at nd
      exact (List.nodup_cons.mp (List.nodup_append.mp nd).2.1).1
    have hsz : (sets (ns.drop (ns.length - i))).length ≤ 4096 := by
      rw [sets_len, List.length_drop]
      exact Nat.le_trans (Nat.pow_le_pow_right (by decide) (show ns.length - (ns.length - i) ≤ 12 by omega)) (by decide)
    rw [ed, sets_cons na]
    have hLl : ∀ r ∈ sets (ns.drop (ns.length - i)), r.length ≤ 12 := fun r hr => by
      obtain ⟨k, _, rfl⟩ := List.mem_map.mp hr
      refine Nat.le_trans (List.length_filter_le _ _) ?_
      rw [List.length_drop]; omega
    generalize sets (ns.drop (ns.length - i)) = L at hsz hLl ⊢
    repeat walk_at "wp"
    refine ⟨by rw [List.length_map, List.length_map]; omega, ?_⟩
    refine wp_all L (fun r => .d (lstS r)) (fun r => lstS (a :: r)) (by rw [List.map_map]; rfl) rfl (fun r hr => ?_) ?_ gnm_st
    · have hrl := hLl r hr
      repeat walk_at "wp"
      refine wp_addl (by rw [List.length_map]; show 1 + _ ≤ _; omega) ?_
      exact ⟨rfl, rfl⟩
    · refine wp_addl (by rw [List.length_map, List.length_map]; omega) ?_
      repeat walk_at "wp"
      exact ⟨_, _, by rw [List.map_append, List.map_map]; rfl, rfl⟩
  · obtain ⟨x, y, rfl, rfl⟩ := hp
    rw [Nat.zero_add, List.length_map, List.length_reverse, List.length_map, Nat.sub_self, List.drop_zero]
    repeat walk_at "wp"
    exact ⟨rfl, rfl⟩
theorem bits3 {m : Nat} (hm : m ≤ 4096) (hh : S[h]? = some (.lst o)) (ho : HandO o) (q : ∀ (bs : List Bool) (o' : List PyData), bs.length = m → HandO o' → Q (.d (.list (bs.map .bool))) (S.set h (.lst o'))) : Wp2 (f3_bits [.r h, .d (.int m)] S) Q := by
  unfold f3_bits
  walk_at "fdef"
  repeat walk_at "wp"
  refine take3 hh ho (by decide) (by decide) fun v o1 v0 v1 ho1 => ?_
  have hh1 : (S.set h (.lst o1))[h]? = some (.lst o1) := get_set hh
  have drawn : ∀ (n d : Int), 0 < n → n < 1000000 → Wp2 (cLoop yes (gNm 4) tYes3 (eCmp gEq (eCall f3_take (aCons (eVar 0) (aCons (eD (.int n)) aNil))) (eD (.int d))) [some (.r h), some (.d (.int m)), some (.d (.int v)), none, none] (intsW 0 (m : Int).toNat) (S.set h (.lst o1))) fun ys S' => ∃ (bs : List Bool) (o' : List PyData), ys = bs.map .bool ∧ S' = S.set h (.lst o') ∧ bs.length = m ∧ HandO o' := fun n d n0 n1 => by
    refine wp_comp (n := 0) (acc := []) (fun k acc S' => ∃ (bs : List Bool) (o' : List PyData), acc = bs.map .bool ∧ S' = S.set h (.lst o') ∧ bs.length = k ∧ HandO o')
      ⟨[], o1, rfl, rfl, rfl, ho1⟩ (fun _ _ _ _ => rfl) (fun k w acc S' hw hk hp => ?_) (fun ys S' hp => ?_)
    · obtain ⟨bs, o', rfl, rfl, hl, h5⟩ := hp
      have hh5 : (S.set h (.lst o'))[h]? = some (.lst o') := get_set hh
      obtain ⟨_, rfl⟩ := intsW_get hw
      repeat walk_at "wp"
      refine take3 hh5 h5 n0 (by omega) fun r o6 r0 r1 ho6 => ?_
      rw [List.set_set]
      repeat walk_at "wp"
      exact ⟨bs ++ [r == d], o6, by rw [List.map_append]; rfl, rfl, by rw [List.length_append, hl]; rfl, ho6⟩
    · obtain ⟨bs, o', ea, rfl, hl, h5⟩ := hp
      rw [List.nil_append] at ea
      rw [intsW_len] at hl
      exact ⟨bs, o', ea, rfl, by omega, h5⟩
  repeat walk_at "wp"
  refine ite2 (fun c => ?_) (fun c => ?_)
  · repeat walk_at "wp"
    refine take3 hh1 ho1 (by decide) (by decide) fun u o2 u0 u1 ho2 => ?_
    rw [List.set_set]
    repeat walk_at "wp"
    refine ⟨by rw [intsW_len]; omega, ?_⟩
    refine wp_all (List.range m) (fun j => .d (.int (j : Nat))) (fun _ => .bool (u == 1)) (by rw [show (m : Int).toNat = ((List.range m).length : Int).toNat by rw [List.length_range], intsW_of (List.length_range)]) rfl (fun j hj => ?_) ?_ gnm_st
    · repeat walk_at "wp"
      exact ⟨rfl, rfl⟩
    · repeat walk_at "wp"
      have := q ((List.range m).map fun _ => (u == 1)) o2 (by rw [List.length_map, List.length_range]) ho2
      rw [List.map_map] at this
      exact this
  · repeat walk_at "wp"
    refine ite2 (fun c => ?_) (fun c => ?_)
    · repeat walk_at "wp"
      refine ⟨by rw [intsW_len]; omega, ?_⟩
      refine Wp2.imp (drawn 8 0 (by decide) (by decide)) fun ys S' hp => ?_
      obtain ⟨bs, o', rfl, rfl, hl, h5⟩ := hp
      repeat walk_at "wp"
      exact q bs o' hl h5
    · repeat walk_at "wp"
      refine ⟨by rw [intsW_len]; omega, ?_⟩
      refine Wp2.imp (drawn 2 1 (by decide) (by decide)) fun ys S' hp => ?_
      obtain ⟨bs, o', rfl, rfl, hl, h5⟩ := hp
      repeat walk_at "wp"
      exact q bs o' hl h5
end
end EA
namespace EA
open PySem PySem.Spec PyProof.Rows L2
/-! ### a for in a generator's body -/
section
variable {M : Model} {prog : Program} {w : World} {A : Around} {R : GenEnd} {Y : Protocol} {n : Nat} {s₀ : Shared} {c : Code} {fs : List Frame} {s : Shared} {env : Env}
  {K : Flow → Sem PySem.Fin} {J : Value → Sem PySem.Fin} {gd : Bool → Bool} {lv : List Value → List Value}
/-- what a loop's call does with its result -/
def backBy (env : Env) (K : Flow → Sem PySem.Fin) (J : Value → Sem PySem.Fin) (gd : Bool → Bool) (lv : List Value → List Value) (r : Result) : Sem PySem.Fin :=
  ((match r with | .ok f => (.pure f : Sem Flow) | .error e => .raise e).onRaise fun (x : Value) => do
        if (← field x 1) == Value.none then unsupported "frame.own-activation:exception-without-traceback"
        setFlight x env.frame).wrap K J gd lv
theorem seg_For {target iter : Expr} {body : List Stmt} {pos : Pos} (hs : ∀ x, foldedSetIterable iter env x = pure x)
    (h : wpAny M (A.over c fs) (eval iter env) (fun v s1 => wpAny M (A.over c fs) (pyIter v) (fun it s2 => ∀ p, Seg M A R Y n s₀ (.forLoop target it body [] env) (M.den (.forLoop target it body [] env)) (.ret (backBy env K J gd lv) none (gd false) (lv []) c p [] :: fs) s2) (fun x s' => Seg M A R Y n s₀ c (J x) fs s') s1) (fun x s' => Seg M A R Y n s₀ c (J x) fs s') s) :
    Seg M A R Y n s₀ c ((exec (.For target iter body [] pos) env).wrap K J gd lv) fs s := by
  rw [exec_For]
  refine seg_bind_wrap (wpAny_standAt ?_)
  refine seg_bind_wrap (wpAny_mono h (fun v s1 h1 => ?_) fun _ _ x => x)
  refine seg_bind_wrap (wpAny_of_eq (hs v) ?_)
  refine seg_bind_wrap (wpAny_standAt ?_)
  refine seg_bind_wrap (wpAny_holding ?_)
  refine wpAny_mono h1 (fun it s2 h2 => ?_) fun _ _ x => x
  exact seg_call h2
theorem seg_forLoop {target : Expr} {it : Value} {body : List Stmt} (ht : ∀ v, letOwnedTupleGo target it v = pure ())
    (h : wpAny (model prog w) (A.over (.forLoop target it body [] env) fs) (pyNext it) (fun r s1 => match r with
      | none => Seg (model prog w) A R Y n s₀ (.block [] env) ((model prog w).den (.block [] env)) fs s1
      | some v => wpAny (model prog w) (A.over (.forLoop target it body [] env) fs) (assign target env v) (fun _ s2 => Seg (model prog w) A R Y n s₀ (.forLoop target it body [] env) ((execs body env).wrap (fun f => match f with
            | .next | .cont => .pure (.again (.forLoop target it body [] env))
            | .brk => .pure (.done .next)
            | .ret v => .pure (.done (.ret v))) (fun e => (do noteFrame e env; theTreesLotGoes e : Sem Unit).wrap (fun _ => .raise e) .raise id id) id id) fs s2) (fun _ _ => False) s1) (fun _ _ => False) s) :
    Seg (model prog w) A R Y n s₀ (.forLoop target it body [] env) ((model prog w).den (.forLoop target it body [] env)) fs s := by
  show Seg _ A R Y n s₀ _ ((forTurn target it body [] env).onRaise (fun x => do noteFrame x env; theTreesLotGoes x)) fs s
  unfold forTurn
  rw [Sem.onRaise_eq_wrap]
  refine seg_bind_wrap (wpAny_standAt ?_)
  refine seg_bind_wrap (wpAny_onRaise (wpAny_mono h (fun r s1 h1 => ?_) fun _ _ x => x.elim))
  cases r with
  | none => exact seg_again rfl h1
  | some v =>
    refine seg_bind_wrap (wpAny_of_eq (ht v) ?_)
    refine seg_bind_wrap (wpAny_mono h1 (fun _ s2 h2 => ?_) fun _ _ x => x.elim)
    rw [Sem.bind_eq_wrap', Sem.wrap_wrap]
    rw [Sem.wrap_congr (execs body env) _ _ (K' := fun f => match f with
            | .next | .cont => .pure (.again (.forLoop target it body [] env))
            | .brk => .pure (.done .next)
            | .ret v => .pure (.done (.ret v))) (H' := (fun e => (do noteFrame e env; theTreesLotGoes e : Sem Unit).wrap (fun _ => .raise e) .raise id id))
        (fun f => by cases f <;> rfl)
        (fun e => by first | exact Sem.bind_eq_wrap _ _ | (show (do noteFrame e env; theTreesLotGoes e : Sem Unit).bind (fun _ => .raise e) = _; rw [Sem.bind_eq_wrap]))]
    exact h2
/-- what stands while the generator sleeps in its last loop: its names, the iterator, the list -/
structure GZ (L it l : Addr) (items : Array Value) (i : Nat) (h : Heap) : Prop where
  ns : ∃ m, h.Ns L m
  hit : h.IsListIter it l i
  hl : h.IsList l items
/-- for x in xs: yield x -/
theorem seg_yieldLoop {x : Str} {px p2 yp p3 : Pos} {it l : Addr} {items : Array Value} {P : Nat → Shared → Shared → Prop} (hx : env.kindOf x = some .local) (hk : env.scope.kind = .function) (hd : (x == ("__debug__" : Str)) = false) (hco : env.scope.isCoroutine = false) (hi : interactive env = false)
    (hp : (env.scope.kind == .class || (env.scope.kind == .module && env.locals != env.globals)) = false) (hsp : splitAtGen fs = none) (hfg : fs.any Frame.guarded = false) (hh : (A.over (.forLoop (.Name x px) (.ref it) [.Expr (.Yield (some (.Name x p2)) yp) p3] [] env) fs).handled = none)
    (n1 : env.locals ≠ it) (n2 : env.locals ≠ l) (n3 : it ≠ l)
    (hP : ∀ i s₀ s h' tk, P i s₀ s → (∀ b o, b ≠ env.locals → b ≠ it → s.heap.get? b = some o → h'.get? b = some o) → P i s₀ { s with heap := h', toks := tk })
    (hY : ∀ (i : Nat) (v : Value) (n : Nat) (s₀ s : Shared) (kap : Resume → Shared → Prop), items[i]? = some v → GZ env.locals it l items (i + 1) s.heap → P i s₀ s → (∀ s'', GZ env.locals it l items (i + 1) s''.heap → P (i + 1) s'' s'' → kap (.send .none) s'') → Y n s₀ v s kap)
    (hE : ∀ (n : Nat) (s₀ s : Shared), P items.size s₀ s → Seg (model prog w) A R Y n s₀ (.block [] env) ((model prog w).den (.block [] env)) fs s) :
    ∀ (r i n : Nat) (s₀ s : Shared), i + r = items.size → r ≤ n → GZ env.locals it l items i s.heap → P i s₀ s →
      Seg (model prog w) A R Y n s₀ (.forLoop (.Name x px) (.ref it) [.Expr (.Yield (some (.Name x p2)) yp) p3] [] env) ((model prog w).den (.forLoop (.Name x px) (.ref it) [.Expr (.Yield (some (.Name x p2)) yp) p3] [] env)) fs s := by
  intro r
  induction r with
  | zero =>
    intro i n s₀ s hir hn z hPs
    have hnone : items[i]? = none := Array.getElem?_eq_none (by omega)
    refine seg_forLoop (fun _ => rfl) (wpAny_pyNext_list_end hh z.hit z.hl hnone fun h' hx' => ?_)
    have hi : i = items.size := by omega
    subst hi
    exact hE n s₀ _ (hP _ s₀ s h' s.toks hPs fun b o _ hb e => hx' b o hb e)
  | succ r ih =>
    intro i n s₀ s hir hn z hPs
    obtain ⟨n, rfl⟩ : ∃ m, n = m + 1 := ⟨n - 1, by omega⟩
    have hlt : i < items.size := by omega
    have hv : items[i]? = some items[i] := Array.getElem?_eq_getElem hlt
    refine seg_forLoop (fun _ => rfl) (wpAny_pyNext_list_item z.hit z.hl hv fun h' hit' sb => ?_)
    obtain ⟨m, hm⟩ := z.ns
    have hm' : h'.Ns env.locals m := hm.sameBut sb n1
    have hl' : h'.IsList l items := by
      obtain ⟨o, ho, q⟩ := z.hl
      exact ⟨o, (sb.2 l (Ne.symm n3)).trans ho, q⟩
    refine wpAny_assign_Name (wpAny_storeName_local (s := { s with heap := h' }) hx hm' (fun h2 hn2 sb2 => ?_) hp)
    have hit2 : h2.IsListIter it l (i + 1) := by
      obtain ⟨o, ho, q⟩ := hit'
      exact ⟨o, (sb2.2 it (Ne.symm n1)).trans ho, q⟩
    have hl2 : h2.IsList l items := by
      obtain ⟨o, ho, q⟩ := hl'
      exact ⟨o, (sb2.2 l (Ne.symm n2)).trans ho, q⟩
    have z2 : GZ env.locals it l items (i + 1) h2 := ⟨⟨_, hn2⟩, hit2, hl2⟩
    have hP2 : P i s₀ { s with heap := h2, toks := s.toks + 1 } := hP i s₀ s h2 (s.toks + 1) hPs fun b o b1 b2 e => (sb2.2 b b1).trans ((sb.2 b b2).trans e)
    refine seg_execs_cons (seg_Expr_Yield hsp rfl hfg ?_ hco hi)
    refine wpAny_Name (wpAny_loadName_local (s := { s with heap := h2, toks := s.toks + 1 }) hk hx hn2 (if_pos rfl) ?_) hd
    intro kap hkap
    refine hY i _ n s₀ _ kap hv z2 hP2 fun s'' z3 hP3 => hkap .none s'' ?_
    refine seg_execs_nil ?_
    exact seg_again rfl (ih (i + 1) n s'' s'' (by omega) (by omega) z3 hP3)
end
end EA
namespace EA
open PySem PySem.Spec PyProof.Rows L2
/-! ### a generator that walks a list at its end: what its consumer is told -/
/-- what holds while the generator a (its number g), called at sc, is at work or sleeps; H': what it has laid out -/
structure GPt (P : Program) (w : World) (outer : List Env) (H : Hp) (sc : Shared) (a : Addr) (g : Nat) (H' : Hp) (s : Shared) : Prop where
  os : s.os = sc.os
  bare : AllBare s.gens
  lim : s.heap.NoLimit
  gen : s.heap.IsGen a g
  un : Un (frs outer) [] H H' sc.heap s.heap
  ok : HOk P w H' s.heap
section
variable {P : Program} {w : World} {outer : List Env} {H H' : Hp} {sc s : Shared} {a : Addr} {g : Nat}
/-- young objects that are not tracked may change -/
theorem GPt.chg {h' : Heap} {gs : Array GenState} {d : Drawn} {tk : Nat} {ch : List Addr} (G : GPt P w outer H sc a g H' s) (hs : cStatics < sc.heap.objs.size) (hy : ∀ b ∈ ch, sc.heap.objs.size ≤ b ∧ H' b = none ∧ b ≠ a) (k : ∀ b o, b ∉ ch → s.heap.get? b = some o → h'.get? b = some o) (hb : AllBare gs) :
    GPt P w outer H sc a g H' { s with heap := h', gens := gs, drawn := d, toks := tk } := by
  have old : ∀ b, b < sc.heap.objs.size → b ∉ ch := fun b hlt hm => absurd (Nat.lt_of_lt_of_le hlt (hy b hm).1) (Nat.lt_irrefl _)
  have lt : ∀ {b o}, sc.heap.get? b = some o → b ∉ ch := fun {b o} e => old b (Heap.lt_size e)
  refine ⟨G.os, hb, G.lim.at fun o e => k _ o (old _ hs) e, ?_, ⟨fun b o e n hf hx => k b o (lt e) (G.un.keep b o e n hf hx), fun b o e n hf hx => ?_, G.un.free, fun b o e hx => ?_, G.un.tups, G.un.frzs, G.un.tbls⟩, fun b u e => ?_⟩
  · obtain ⟨o, nm, qn, ho, q⟩ := G.gen
    exact ⟨o, nm, qn, k a o (fun hm => (hy a hm).2.2 rfl) ho, q⟩
  · obtain ⟨sl, q⟩ := G.un.slot b o e n hf hx
    exact ⟨sl, k b _ (lt e) q⟩
  · obtain ⟨o', q⟩ := G.un.there b o e hx
    exact ⟨o', k b o' (lt e) q⟩
  · refine (G.ok b u e).stay (fun c v hc q => k c v (fun hm => ?_) q) (fun _ q => q) fun _ _ q => q
    have hn := (hy c hm).2.1
    rcases hc with rfl | hc
    · rw [hn] at e; cases e
    · rw [hn] at hc; cases hc
end
/-- at a yield: D: the consumer's list, what is out so far stands in it; fp: the consumer's own objects besides -/
def YL (P : Program) (w : World) (outer : List Env) (H : Hp) (sc : Shared) (a : Addr) (g : Nat) (D : Addr) (fp : List Addr) (Q : List V → Hp → Prop) : Protocol := fun n s₀ v s kap =>
  ∃ (H' : Hp) (L it l : Addr) (items : Array Value) (xs : List V) (i : Nat) (acc : Array Value) (c : Nat), Vals xs items.toList ∧ items[i]? = some v ∧ Q xs H' ∧ xs.length ≤ sizeLine ∧ (sc.heap.objs.size ≤ L ∧ H' L = none ∧ L ≠ a) ∧ (sc.heap.objs.size ≤ it ∧ H' it = none ∧ it ≠ a) ∧
    (∀ b ∈ D :: fp, H' b = none ∧ b ≠ L ∧ b ≠ it ∧ b ≠ l ∧ ∀ o, s₀.heap.get? b = some o → s.heap.get? b = some o) ∧ s.heap.get? D = some (lstObj acc c) ∧ acc.toList = items.toList.take i ∧ GZ L it l items (i + 1) s.heap ∧ GPt P w outer H sc a g H' s ∧
    ∀ s'' c'', GZ L it l items (i + 1) s''.heap → GPt P w outer H sc a g H' s'' → s''.heap.get? D = some (lstObj (acc.push v) c'') → kap (.send .none) s''
/-- at the end: all that was handed out stands in D -/
def RLF (P : Program) (w : World) (outer : List Env) (H : Hp) (sc : Shared) (a : Addr) (g : Nat) (D : Addr) (fp : List Addr) (Q : List V → Hp → Prop) : Nat → Shared → Shared → Prop := fun n s₀ s =>
  ∃ (H' : Hp) (xs : List V) (acc : Array Value) (c : Nat), Q xs H' ∧ xs.length ≤ sizeLine ∧ (∀ b ∈ D :: fp, H' b = none ∧ ∀ o, s₀.heap.get? b = some o → s.heap.get? b = some o) ∧ s.heap.get? D = some (lstObj acc c) ∧ Vals xs acc.toList ∧ GPt P w outer H sc a g H' s
def RL (P : Program) (w : World) (outer : List Env) (H : Hp) (sc : Shared) (a : Addr) (g : Nat) (D : Addr) (fp : List Addr) (Q : List V → Hp → Prop) : GenEnd := fun n s₀ r s =>
  ((r = .ok (.ret .none) ∨ r = .ok .next) ∧ RLF P w outer H sc a g D fp Q n s₀ s) ∨ ∃ e, r = .error e ∧ False
end EA
namespace EA
open PySem PySem.Spec PyProof.Rows L2 GenW
/-! ### a generator def's last statement: for x in y: yield x -/
section
variable {P : Program} {w : World} {K : PySem.W.Frag} {mg : Str → Option Value} {base : Heap} {N : List Str} {qual : Str} {scope : Scope} {f : Addr} {cd : Value} {A : Around} {outer : List Env} {s s₀ s1 : Shared} {H H' : Hp} {E : XK} {pn pins : List (Addr × Obj)} {σ : L2.St}
theorem seg_lastFor {x y : Str} {px py p2 yp p3 pos : Pos} {i n g c0 : Nat} {l a D : Addr} {fp : List Addr} {xs : List V} {Q : List V → Hp → Prop} {J : Value → Sem PySem.Fin} {body : List Stmt}
    (hx : scope.names.lookup x = some .local) (hy : scope.names.lookup y = some .local) (hdx : (x == ("__debug__" : Str)) = false) (hdy : (y == ("__debug__" : Str)) = false) (hco : scope.isCoroutine = false) (hk : scope.kind = .function)
    (hcs : cStatics < s.heap.objs.size) (hA : A.handled = none) (hn : sizeLine ≤ n)
    (I : Inv (gcxOf P w K mg base N qual scope f cd A outer s H E pn) pins σ H' s1) (hi : N[i]? = some y) (hσ : σ[i]? = some (some (.ref l))) (hl : H' l = some (.lst xs)) (hQ : Q xs H')
    (hg : s1.heap.IsGen a g) (hna : H' a = none) (haL : a ≠ s.heap.objs.size) (hD : s1.heap.get? D = some (lstObj #[] c0))
    (hfp : ∀ b ∈ D :: fp, H' b = none ∧ b ≠ s.heap.objs.size ∧ b < s1.heap.objs.size ∧ ∀ o, s₀.heap.get? b = some o → s1.heap.get? b = some o) :
    Seg (model P w) A (RL P w outer H s a g D fp Q) (YL P w outer H s a g D fp Q) n s₀ (.func body (envOfC qual scope s.heap.objs.size f cd)) ((execs [.For (.Name x px) (.Name y py) [.Expr (.Yield (some (.Name x p2)) yp) p3] [] pos] (envOfC qual scope s.heap.objs.size f cd)).wrap (fun f => .pure (.done (.ret (match f with | .ret v => v | _ => .none)))) J id id) [] s1 := by
  obtain ⟨its, cl, rv, hlo, hsz⟩ := I.lst hl
  obtain ⟨m, hm, hlk⟩ := I.loc
  obtain ⟨u, ru, lku⟩ := hlk i y _ hi hσ (.inl hy)
  have eu : u = .ref l := ru
  subst eu
  have hmy : m y = some (.ref l) := by
    rcases lku with ⟨_, q⟩ | ⟨q, _⟩
    · exact q
    · have q : scope.names.lookup y = some .cell ∨ scope.names.lookup y = some .free := q
      rw [hy] at q; rcases q with q | q <;> cases q
  have hL : s.heap.objs.size < s1.heap.objs.size := hm.lt
  have hIl : s1.heap.IsList l its.toArray := ⟨_, hlo, rfl, cl, rfl⟩
  have hln : l ≠ s.heap.objs.size := fun q => by
    have := I.free
    rw [q] at hl
    rw [show H' s.heap.objs.size = none from this] at hl; cases hl
  have hll : l < s1.heap.objs.size := Heap.lt_size hlo
  have halt : a < s1.heap.objs.size := by obtain ⟨o, nm, qn, ho, _⟩ := hg; exact Heap.lt_size ho
  have hitn : H' s1.heap.objs.size = none := I.hok.fresh (Nat.le_refl _)
  have hlen : xs.length = its.toArray.size := by simpa using rv.length
  refine seg_execs_cons (seg_For (fun _ => rfl) ?_)
  refine wpAny_Name (wpAny_loadName_local hk hy hm hmy ?_) hdy
  refine wpAny_pyIter_list hIl fun p => ?_
  have G0 : GPt P w outer H s a g H' { s1 with heap := s1.heap.push { cls := .type "list_iterator", data := .fields #[.ref l, .int 0 0] } } := by
    refine ⟨I.os, I.bare, I.nolimit.keeps fun b o e => Heap.get?_push_of_some _ e, ?_, I.base.trans (Un.kept fun b o e => Heap.get?_push_of_some _ e), I.hok.kept fun b o e => Heap.get?_push_of_some _ e⟩
    obtain ⟨o, nm, qn, ho, q⟩ := hg
    exact ⟨o, nm, qn, Heap.get?_push_of_some _ ho, q⟩
  have z0 : GZ s.heap.objs.size s1.heap.objs.size l its.toArray 0 (s1.heap.push { cls := .type "list_iterator", data := .fields #[.ref l, .int 0 0] }) :=
    ⟨⟨m, hm.push _⟩, ⟨_, Heap.get?_push_size _ rfl, rfl, rfl⟩, hIl.push _⟩
  have hfpl : ∀ b ∈ D :: fp, b ≠ l := fun b hb q => by
    have := (hfp b hb).1
    rw [q, hl] at this; cases this
  have hfpi : ∀ b ∈ D :: fp, b ≠ s1.heap.objs.size := fun b hb => Nat.ne_of_lt (hfp b hb).2.2.1
  refine seg_yieldLoop (env := envOfC qual scope s.heap.objs.size f cd) (P := fun i s₀ s' => GPt P w outer H s a g H' s' ∧ (∃ acc c, s'.heap.get? D = some (lstObj acc c) ∧ acc.toList = its.toArray.toList.take i) ∧ ∀ b ∈ D :: fp, ∀ o, s₀.heap.get? b = some o → s'.heap.get? b = some o)
    hx hk hdx hco (by simp [interactive, envOfC, hk]) (by simp [envOfC, hk]) rfl rfl ?_ (Nat.ne_of_lt hL) (Ne.symm hln) (Ne.symm (Nat.ne_of_lt hll)) ?_ ?_ ?_ its.toArray.size 0 n s₀ _ (Nat.zero_add _) (by omega) z0 ⟨G0, ⟨#[], c0, Heap.get?_push_of_some _ hD, by simp⟩, fun b hb o e => Heap.get?_push_of_some _ ((hfp b hb).2.2.2 o e)⟩
  · exact hA
  · rintro i s₀' s' h' tk ⟨hG, ⟨acc, c, hd, ha⟩, hf⟩ hk'
    refine ⟨hG.chg (ch := [s.heap.objs.size, s1.heap.objs.size]) hcs (fun b hb => ?_) (fun b o hb e => hk' b o (fun q => hb (by rw [q]; exact List.mem_cons_self ..)) (fun q => hb (by rw [q]; simp)) e) hG.bare, ⟨acc, c, hk' D _ (hfp D (List.mem_cons_self ..)).2.1 (hfpi D (List.mem_cons_self ..)) hd, ha⟩, fun b hb o e => hk' b o (hfp b hb).2.1 (hfpi b hb) (hf b hb o e)⟩
    rcases List.mem_cons.mp hb with q | q
    · exact ⟨Nat.le_of_eq q.symm, by rw [q]; exact I.free, by rw [q]; exact Ne.symm haL⟩
    · rw [List.mem_singleton.mp q]
      exact ⟨Nat.le_of_lt hL, hitn, Ne.symm (Nat.ne_of_lt halt)⟩
  · rintro i v n' s₀' s' kap hv z ⟨hG, ⟨acc, c, hd, ha⟩, hf⟩ hw
    refine ⟨H', s.heap.objs.size, s1.heap.objs.size, l, its.toArray, xs, i, acc, c, by simpa using rv, hv, hQ, hsz, ⟨Nat.le_refl _, I.free, Ne.symm haL⟩, ⟨Nat.le_of_lt hL, hitn, Ne.symm (Nat.ne_of_lt halt)⟩, fun b hb => ⟨(hfp b hb).1, (hfp b hb).2.1, hfpi b hb, hfpl b hb, hf b hb⟩, hd, ha, z, hG, fun s'' c'' z'' G'' d'' => ?_⟩
    refine hw s'' z'' ⟨G'', ⟨acc.push v, c'', d'', ?_⟩, fun b _ o e => e⟩
    have hv' : its[i]? = some v := by simpa using hv
    simp [ha, List.take_succ, hv']
  · rintro n' s₀' s' ⟨hG, ⟨acc, c, hd, ha⟩, hf⟩
    show Seg _ _ _ _ _ _ _ (((execs [] _).onRaise (fun x => do noteFrame x _; theTreesLotGoes x)) >>= _) _ _
    rw [Sem.onRaise_eq_wrap, Sem.bind_eq_wrap', Sem.wrap_wrap]
    refine seg_execs_nil ?_
    refine seg_leaf (.ok .next) ?_
    refine seg_end (.ok (.ret .none)) (.inl ⟨.inl rfl, H', xs, acc, c, hQ, hsz, fun b hb => ⟨(hfp b hb).1, hf b hb⟩, hd, ?_, hG⟩)
    rw [ha]
    simpa using rv
end
end EA
namespace EA
open PySem PySem.Spec PyProof.Rows L2 GenW
/-! ### a generator def whose last statement is for x in y: yield x, by its body -/
section
variable {env : Env} {K : Flow → Sem PySem.Fin} {J : Value → Sem PySem.Fin} {gd : Bool → Bool} {lv : List Value → List Value}
theorem execs_app_wrap (pre rest : List Stmt) : (execs (pre ++ rest) env).wrap K J gd lv = (execs pre env).wrap (fun f => match f with | .next => (execs rest env).wrap K J gd lv | f => K f) J gd lv := by
  induction pre with
  | nil => rfl
  | cons st pre ih =>
    show (execs (st :: (pre ++ rest)) env).wrap K J gd lv = _
    rw [execs_cons_wrap, execs_cons_wrap]
    exact Sem.wrap_congr _ _ _ (fun f => by cases f <;> first | exact ih | rfl) (fun _ => rfl)
end
/-- what a call of such a def gives: a generator that has not begun -/
def LMade (P : Program) (w : World) (k : Nat) (outer : List Env) (H : Hp) (s : Shared) (Q : List V → Hp → Prop) (u : Value) (s' : Shared) : Prop :=
  ∃ (a : Addr) (g : Nat) (c : Code), u = .ref a ∧ s.heap.objs.size ≤ a ∧ a < s'.heap.objs.size ∧ s'.heap.IsGen a g ∧ s'.gens[g]? = some (.fresh c) ∧ s'.os = s.os ∧ AllBare s'.gens ∧ s'.heap.NoLimit ∧ (∀ b o, s.heap.get? b = some o → s'.heap.get? b = some o) ∧
    ∀ (A : Around) (D : Addr) (c0 : Nat) (fp : List (Addr × Obj)) (s2 : Shared), Room k A → A.frames = some outer → (∀ b o, s'.heap.get? b = some o → s2.heap.get? b = some o) →
      (∀ p ∈ (D, lstObj #[] c0) :: fp, s'.heap.objs.size ≤ p.1 ∧ s2.heap.get? p.1 = some p.2 ∧ ∀ v, p.2.data ≠ .cell v) → s2.os = s.os → AllBare s2.gens →
      Seg (model P w) A (RL P w outer H s a g D (fp.map (·.1)) Q) (YL P w outer H s a g D (fp.map (·.1)) Q) sizeLine s2 c ((model P w).den c) [] s2
structure LFn (P : Program) (w : World) (K : PySem.W.Frag) (mg : Str → Option Value) (base : Heap) (k : Nat) (f : Addr) (fd : FuncData) (ps : List Str) (sp : List V → Hp → (List V → Hp → Prop) → Prop) : Prop where
  len : ∀ vs H Q, sp vs H Q → vs.length = ps.length
  run : ∀ (A : Around) (outer : List Env) (s : Shared) (H : Hp) (args : Args) (us : List Value) (vs : List V) (Q : List V → Hp → Prop), Room k A → Env0 P w K mg base A outer s H → BindsTo s fd args (ps.zip us) → Vals vs us → sp vs H Q →
    codeAny (model P w) A (.call (.ref f) args) (fun r s' => match r with | .ok (.ret u) => LMade P w k outer H s Q u s' | _ => False) s
theorem lfn_of {P : Program} {w : World} {K : PySem.W.Frag} {mg : Str → Option Value} {base : Heap} {k : Nat} {f : Addr} {name qual : Str} {params : Arguments} {pre : List Stmt} {scope : Scope} {dV kV doc pm cdv ct oc : Value} {an od : Option Addr} {x y : Str} {px py p2 yp p3 pos : Pos} {i : Nat}
    {osl : Array (Option Value)} {N ps : List Str} {sp : List V → Hp → (List V → Hp → Prop) → Prop} (lk : K.lookup f = some ⟨oc, od, .func (PySem.W.fnOf name qual params (pre ++ [.For (.Name x px) (.Name y py) [.Expr (.Yield (some (.Name x p2)) yp) p3] [] pos]) scope dV kV doc pm an cdv ct), osl⟩) (hcd : PySem.W.codeIn K cdv qual = true) (S : GScope N ps scope)
    (hx : scope.names.lookup x = some .local) (hy : scope.names.lookup y = some .local) (hdx : (x == ("__debug__" : Str)) = false) (hdy : (y == ("__debug__" : Str)) = false) (hi : N[i]? = some y)
    (len : ∀ vs H Q, sp vs H Q → vs.length = ps.length)
    (hbody : ∀ (A : Around) (outer : List Env) (s : Shared) (H : Hp) (vs : List V) (Q : List V → Hp → Prop) (pn : List (Addr × Obj)), Room k (A.deeper (envOfC qual scope s.heap.objs.size f cdv)) → sp vs H Q →
      ∃ t, PSs (gcxOf P w K mg base N qual scope f cdv A outer s H (fun _ _ _ => False) pn) pre t ∧ t { nx := fun σ H' => ∃ l xs, σ[i]? = some (some (.ref l)) ∧ H' l = some (.lst xs) ∧ Q xs H', rt := fun _ _ => False } (start N vs) H) :
    LFn P w K mg base (k + 1) f (PySem.W.fnOf name qual params (pre ++ [.For (.Name x px) (.Name y py) [.Expr (.Yield (some (.Name x p2)) yp) p3] [] pos]) scope dV kV doc pm an cdv ct) ps sp := by
  refine ⟨len, fun A outer s H args us vs Q hr e0 hb r hsp => ?_⟩
  have hl := len _ _ _ hsp
  have KX : K.In s.heap := e0.mod.kin.keeps fun b o e => (e0.bs b o e).1
  have lim : s.heap.NoLimit := e0.mod.nolimit.keeps fun b o e => (e0.bs b o e).1
  have hcs : cStatics < s.heap.objs.size := by obtain ⟨o, ho, _⟩ := lim; exact ho.lt
  have hkind : ∀ y ∈ ps.zip us, scope.names.lookup y.1 = some .local ∨ (scope.names.lookup y.1 = some .cell ∧ ((cellsFrom (s.heap.objs.size + 1) scope.names []).lookup y.1).isSome = true) := fun ⟨n, v⟩ hy => by
    rcases S.par n (List.of_mem_zip hy).1 with q | q
    · exact .inl q
    · exact .inr ⟨q, PySem.W.cellsFrom_some _ _ _ (.inl q)⟩
  refine codeAny_call_generator hr.depth (KX _ _ lk) rfl S.co S.gen rfl (PySem.W.codeRec_of KX hcd) (hb _ _ _ _ ?_)
  refine wpAny_newFunctionEnv_cells S.kind hkind fun env he s1 x1 => ?_
  subst he
  have lim1 : s1.heap.NoLimit := lim.keeps x1.toInCall.keep
  refine ⟨lim1, ?_⟩
  obtain ⟨h1, tk, es1, hk1⟩ := x1.done
  have os1 : s1.os = s.os := by rw [es1]
  have gen1 : s1.gens = s.gens := by rw [es1]
  have lt1 : s.heap.objs.size < s1.heap.objs.size := x1.toInCall.ns.lt
  have sz1 : s.heap.objs.size ≤ s1.heap.objs.size := Nat.le_of_lt lt1
  have kp1 : ∀ b o, s.heap.get? b = some o → s1.heap.get? b = some o := x1.toInCall.keep
  have main : ∀ (go : Obj) (nm qn : Value) (tk2 : Nat), go.cls = .type "generator" → go.data = .fields #[.int s1.gens.size 0, nm, qn] → go.slots = #[] → (∀ h : Heap, (h.push go).get? h.objs.size = some go) →
      LMade P w (k + 1) outer H s Q (.ref s1.heap.objs.size) { s1 with gens := s1.gens.push (.fresh (.func (pre ++ [.For (.Name x px) (.Name y py) [.Expr (.Yield (some (.Name x p2)) yp) p3] [] pos]) (envOfC qual scope s.heap.objs.size f cdv))), toks := tk2, heap := s1.heap.push go } := by
    intro go nm qn tk2 hgc hgd0 hgs hgp
    have hgen : ∀ h : Heap, h.get? s1.heap.objs.size = some go → h.IsGen s1.heap.objs.size s1.gens.size := fun h e => ⟨go, nm, qn, e, hgc, hgd0, hgs⟩
    have hpushed : (s1.heap.push go).get? s1.heap.objs.size = some go := hgp _
    refine ⟨s1.heap.objs.size, s1.gens.size, _, rfl, sz1, ?_, hgen _ hpushed, Array.getElem?_push_size .., os1, ?_, lim1.keeps fun b o e => Heap.get?_push_of_some _ e, fun b o e => Heap.get?_push_of_some _ (kp1 b o e), ?_⟩
    · show _ < (s1.heap.push _).objs.size
      rw [Heap.size_push]; exact Nat.lt_succ_self _
    · exact AllBare.push (by rw [gen1]; exact e0.bare) rfl
    intro Aw D c0 fp s2 hrw hfr hk2 hfp hos hba
    have e0w : Env0 P w K mg base Aw outer s H := ⟨hfr, e0.mod, e0.bs, e0.bsz, e0.funs, e0.frf, e0.hok, e0.bare⟩
    obtain ⟨t, ht, hq⟩ := hbody Aw outer s H vs Q ((s1.heap.objs.size, go) :: (D, lstObj #[] c0) :: fp) (hrw.deeper _) hsp
    have I1 : Inv (gcxOf P w K mg base N qual scope f cdv Aw outer s H (fun _ _ _ => False) []) [] (start N vs) H s1 := inv_startG S hrw.hd e0w hl r x1
    have kp2 : ∀ b o, s1.heap.get? b = some o → s2.heap.get? b = some o := fun b o e => hk2 b o (Heap.get?_push_of_some _ e)
    have I2 : Inv (gcxOf P w K mg base N qual scope f cdv Aw outer s H (fun _ _ _ => False) []) [] (start N vs) H s2 :=
      I1.call' (ch := []) (hos.trans os1.symm) (Un.kept kp2) (I1.hok.kept kp2) hba fun b z => by simp at z
    have hea : s2.heap.get? s1.heap.objs.size = some go := hk2 s1.heap.objs.size go hpushed
    have hgd : ∀ v, go.data ≠ .cell v := fun v q => by rw [hgd0] at q; cases q
    have young : ∀ b, s1.heap.objs.size ≤ b → H b = none ∧ b ≠ s.heap.objs.size ∧ b ∉ frs outer := fun b hb =>
      ⟨I1.hok.fresh hb, Nat.ne_of_gt (Nat.lt_of_lt_of_le lt1 hb), I1.nofs hb⟩
    have hfps : ∀ p ∈ (D, lstObj #[] c0) :: fp, s1.heap.objs.size ≤ p.1 := fun p hp => by
      have h := (hfp p hp).1
      have h : (s1.heap.push go).objs.size ≤ p.1 := h
      rw [Heap.size_push] at h
      omega
    have I3 : Inv (gcxOf P w K mg base N qual scope f cdv Aw outer s H (fun _ _ _ => False) ((s1.heap.objs.size, go) :: (D, lstObj #[] c0) :: fp)) [] (start N vs) H s2 := by
      refine Inv.pinnedG I2 fun p hp => ?_
      rw [List.append_nil] at hp
      rcases List.mem_cons.mp hp with z | z
      · rw [z]
        obtain ⟨y1, y2, y3⟩ := young s1.heap.objs.size (Nat.le_refl _)
        exact ⟨hea, y1, y2, y3, hgd⟩
      · obtain ⟨y1, y2, y3⟩ := young p.1 (hfps p z)
        obtain ⟨_, q2, q3⟩ := hfp p z
        exact ⟨q2, y1, y2, y3, q3⟩
    refine seg_func ?_
    rw [execs_app_wrap]
    refine seg_wrap ?_
    rw [over_func]
    refine wpAny_mono (ht.run [] s2 (start N vs) H _ I3 hq) (fun fl s3 hs => ?_) fun e s3 hx => ?_
    · cases fl with
      | next =>
        obtain ⟨σ', H', I, l, xs, q1, q2, q3⟩ := hs
        have pinA := I.pin (s1.heap.objs.size, go) (List.mem_append_left _ (List.mem_cons_self ..))
        have pinF : ∀ p ∈ (D, lstObj #[] c0) :: fp, s3.heap.get? p.1 = some p.2 ∧ H' p.1 = none ∧ p.1 ≠ s.heap.objs.size := fun p hp => by
          obtain ⟨a1, a2, a3, _⟩ := I.pin p (List.mem_append_left _ (List.mem_cons_of_mem _ hp))
          exact ⟨a1, a2, a3⟩
        have pinM : ∀ b ∈ D :: fp.map (·.1), H' b = none ∧ b ≠ s.heap.objs.size ∧ b < s3.heap.objs.size ∧ ∀ o, s2.heap.get? b = some o → s3.heap.get? b = some o := fun b hb => by
          have hb' : b ∈ ((D, lstObj #[] c0) :: fp).map (·.1) := hb
          obtain ⟨p, hp, rfl⟩ := List.mem_map.mp hb'
          obtain ⟨a1, a2, a3⟩ := pinF p hp
          exact ⟨a2, a3, Heap.lt_size a1, fun o e => by rw [(hfp p hp).2.1] at e; cases e; exact a1⟩
        exact seg_lastFor hx hy hdx hdy S.co S.kind hcs hrw.hd (Nat.le_refl _) I hi q1 q2 q3 (hgen _ pinA.1) pinA.2.1 (Nat.ne_of_gt lt1) (pinF _ (List.mem_cons_self ..)).1 pinM
      | brk => obtain ⟨_, _, _, q⟩ := hs; exact False.elim q
      | cont => obtain ⟨_, _, _, q⟩ := hs; exact False.elim q
      | ret u => obtain ⟨v, σ', H', hI, rv, ev⟩ := hs; exact False.elim ev
    · refine seg_wrap ?_
      rw [over_func]
      refine wpAny_mono (show wpAny (model P w) (Aw.deeper (envOfC qual scope s.heap.objs.size f cdv)) (leaving (envOfC qual scope s.heap.objs.size f cdv) e) (fun _ s'' => CX P w outer H s (fun _ _ _ => False) e s'' ∧ ∀ p ∈ ((s1.heap.objs.size, go) :: (D, lstObj #[] c0) :: fp), s''.heap.get? p.1 = some p.2) (fun _ _ => False) s3 from hx) (fun _ s'' q => ?_) fun _ s'' q => q.elim
      obtain ⟨⟨_, _, _, _, _, _, _, _, _, _, _, _, z⟩, _⟩ := q
      exact False.elim z
  exact main _ _ _ _ rfl rfl rfl fun h => Heap.get?_push_size _ rfl
end EA
namespace EA
open PySem PySem.Spec PyProof.Rows L2 GenW
/-! ### [x for x in g]: the consumer's loop -/
theorem comp_drain {P : Program} {w : World} {outer : List Env} {H : Hp} {sc : Shared} {A : Around} {R : Result → Shared → Prop} {a D : Addr} {g : Nat} {Q : List V → Hp → Prop} {env : Env} {x : Str} {px p2 pos : Pos} {iter : Expr} {scope : Scope}
    (hh : A.handled = none) (hd : A.depth < recursionLimit) (hcs : cStatics < sc.heap.objs.size) (hx : env.kindOf x = some .local) (hk : env.scope.kind = .function) (hdx : (x == ("__debug__" : Str)) = false)
    (hp : (env.scope.kind == .class || (env.scope.kind == .module && env.locals != env.globals)) = false)
    (hCD : env.locals ≠ D) (hCa : env.locals ≠ a) (hDa : D ≠ a) (hCy : sc.heap.objs.size ≤ env.locals) (hDy : sc.heap.objs.size ≤ D)
    (hend : ∀ s' H' xs acc c m, Q xs H' → xs.length ≤ sizeLine → Vals xs acc.toList → s'.heap.get? D = some (lstObj acc c) → GPt P w outer H sc a g H' s' → H' D = none → H' env.locals = none → s'.heap.Ns env.locals m → R (.ok .next) s')
    (n : Nat) (s : Shared) (hg : s.heap.IsGen a g) (hl : s.heap.NoLimit) (hn : ∃ m, s.heap.Ns env.locals m)
    (hgo : ∃ gs, s.gens[g]? = some gs ∧ gs.Goes (model P w) A.in1 (RL P w outer H sc a g D [env.locals] Q) (YL P w outer H sc a g D [env.locals] Q) n (.send .none) (s.setGen g .running)) :
    codeAny (model P w) A (.compLoop (.ListComp (.Name x p2) [⟨.Name x px, iter, [], 0⟩] scope pos) 0 (.ref a) (.ref D) env) R s := by
  refine compLoop_any (fun n s => s.heap.IsGen a g ∧ s.heap.NoLimit ∧ (∃ m, s.heap.Ns env.locals m) ∧ ∃ gs, s.gens[g]? = some gs ∧ gs.Goes (model P w) A.in1 (RL P w outer H sc a g D [env.locals] Q) (YL P w outer H sc a g D [env.locals] Q) n (.send .none) (s.setGen g .running)) (fun n s hI => ?_) n ⟨hg, hl, hn, hgo⟩
  obtain ⟨hg, hl, ⟨m, hn⟩, gs, hgs, hgo⟩ := hI
  have hgl : g < s.gens.size := (Array.getElem?_eq_some_iff.mp hgs).1
  refine wpAny_gsz (n := g + 1) hgl (next_genG (F := RLF P w outer H sc a g D [env.locals] Q) (Er := fun _ _ => False) hh hl hd hg hgs hgo (fun v s₁ gs' hb hv => ?_) (fun s₁ hp' h' hk' => ?_) fun e s₁ he => False.elim he)
  · intro hsz
    obtain ⟨H', L, it, l, items, xs, i, acc, c, rv, hv, hQ, hlen, ⟨q1, q2, q3⟩, ⟨t1, t2, t3⟩, hf, hD, ha, z, G, hkap⟩ := hv
    have hC1 := hf env.locals (by simp)
    have hD1 := hf D (by simp)
    have n1 : s₁.heap.Ns env.locals m := hn.at fun o e => hC1.2.2.2.2 o e
    have hsz1 : g < s₁.gens.size := by
      have q : (s₁.setGen g gs').gens.size = s₁.gens.size := setGen_size _ _ _
      have hsz' : g + 1 ≤ (s₁.setGen g gs').gens.size := hsz
      omega
    refine wpAny_of_eq (a := ()) rfl ?_
    refine wpAny_assign_Name (wpAny_storeName_local (s := s₁.setGen g gs') hx n1 (fun h2 hn2 sb2 => ?_) hp)
    refine wpAny_tests_nil ?_
    rw [if_pos rfl]
    refine wpAny_Name (wpAny_loadName_local hk hx hn2 (if_pos rfl) ?_) hdx
    have hD2 : h2.get? D = some (lstObj acc c) := (sb2.2 D (Ne.symm hCD)).trans hD
    have hi : i < items.size := (Array.getElem?_eq_some_iff.mp hv).1
    have hil : items.size = xs.length := by simpa using rv.length.symm
    have hal : acc.size ≤ i := by
      have := congrArg List.length ha
      simp at this
      omega
    refine append_at (hsz := by omega) hD2 fun h' sb ho' => ?_
    have kp : ∀ b o, b ∉ [env.locals, D] → s₁.heap.get? b = some o → h'.get? b = some o := fun b o hb e => by
      have hb1 : b ≠ env.locals := fun q => hb (by rw [q]; simp)
      have hb2 : b ≠ D := fun q => hb (by rw [q]; simp)
      exact (sb.2 b hb2).trans ((sb2.2 b hb1).trans e)
    have nin : ∀ {b : Addr}, b ≠ env.locals → b ≠ D → b ∉ [env.locals, D] := fun {b} u v hb => by
      rcases List.mem_cons.mp hb with q | q
      · exact u q
      · exact v (List.mem_singleton.mp q)
    have bare2 : AllBare (s₁.setGen g gs').gens := allBare_setGen G.bare hb
    have G2 : ∀ (gs2 : Array GenState) (d : Drawn) (tk : Nat), AllBare gs2 → GPt P w outer H sc a g H' { s₁ with heap := h', gens := gs2, drawn := d, toks := tk } := fun gs2 d tk hb2 =>
      G.chg (ch := [env.locals, D]) hcs (fun b hb => by
        rcases List.mem_cons.mp hb with q | q
        · rw [q]; exact ⟨hCy, hC1.1, hCa⟩
        · rw [List.mem_singleton.mp q]; exact ⟨hDy, hD1.1, hDa⟩) kp hb2
    have zz : GZ L it l items (i + 1) h' := by
      obtain ⟨⟨m', w1⟩, ⟨o2, w2, w2'⟩, ⟨o3, w3, w3'⟩⟩ := z
      exact ⟨⟨m', w1.at fun o e => kp L o (nin (Ne.symm hC1.2.1) (Ne.symm hD1.2.1)) e⟩, ⟨o2, kp it _ (nin (Ne.symm hC1.2.2.1) (Ne.symm hD1.2.2.1)) w2, w2'⟩, ⟨o3, kp l _ (nin (Ne.symm hC1.2.2.2.1) (Ne.symm hD1.2.2.2.1)) w3, w3'⟩⟩
    have hnew : ∃ c'', h'.get? D = some (lstObj (acc.push v) c'') := ⟨_, ho'⟩
    obtain ⟨c'', hnew⟩ := hnew
    have fin := hkap ({ (s₁.setGen g gs') with heap := h', toks := (s₁.setGen g gs').toks + 1 }.setGen g .running) c'' zz (G2 _ _ _ (allBare_setGen (s := { (s₁.setGen g gs') with heap := h', toks := (s₁.setGen g gs').toks + 1 }) bare2 rfl)) hnew
    cases n with
    | zero => exact False.elim fin
    | succ n =>
      refine ⟨n, Nat.lt_succ_self _, (G2 _ _ _ bare2).gen, (G2 _ _ _ bare2).lim, ⟨_, hn2.at fun o e => (sb.2 env.locals hCD).trans e⟩, gs', ?_, fin⟩
      exact setGen_at hsz1
  · intro hsz
    obtain ⟨H', xs, acc, c, hQ, hlen, hf, hD, rv, G⟩ := hp'
    have hC1 := hf env.locals (by simp)
    have hD1 := hf D (by simp)
    have n1 : s₁.heap.Ns env.locals m := hn.at fun o e => hC1.2 o e
    have G' := G.chg (h' := h') (gs := (s₁.setGen g .finished).gens) (d := s₁.drawn) (tk := s₁.toks) (ch := []) hcs (fun b hb => by simp at hb) (fun b o _ e => hk' b o e) (allBare_setGen G.bare rfl)
    refine hend _ H' xs acc c m hQ hlen rv (hk' _ _ hD) G' hD1.1 hC1.1 (n1.at fun o e => hk' _ _ e)
end EA
namespace EA
open PySem PySem.Spec PyProof.Rows L2 GenW
/-! ### [x for x in f(e, ..)], f a generator def whose last statement is for x in y: yield x -/
section
variable {X : Cx} {k : Nat} {f : Addr} {fd : FuncData} {ps : List Str} {sp : List V → Hp → (List V → Hp → Prop) → Prop} {dvs : List V} {ds : List Value} {x : Str} {p pos pos' px p2 : Pos}
structure PLG (X : Cx) (k : Nat) (e : Expr) (tg : TGen) : Prop where
  run : ∀ (pins : List (Addr × Obj)) (s : Shared) (σ : L2.St) (H : Hp) (cont : List V → Hp → Prop), Inv X pins σ H s → tg σ H cont → wpAny (model X.prog X.w) X.A (eval e X.env)
    (fun u s' => ∃ H1 sc, Inv X pins σ H1 sc ∧ LMade X.prog X.w k X.stack H1 sc cont u s') X.xe s
def tCallL (sp : List V → Hp → (List V → Hp → Prop) → Prop) (dvs : List V) (t : TA) : TGen := fun σ H cont => t σ H fun vs H1 => sp (vs ++ dvs) H1 cont
/-- f(e, ..) -/
theorem plg_call {e : Expr} {es : List Expr} {t : TA} (F : LFn X.prog X.w X.K X.mg X.base k f fd ps sp) (hr : Room k X.A) (hg : Gl X x) (hm : X.mg x = some (.ref f)) (hk : PySem.W.keepIn X.K (.ref f) = true) (hb : Binds X.K fd ps ds) (hd : Vals dvs ds)
    (ha : PA X (e :: es) t) (hdb : (x == ("__debug__" : Str)) = false := by decide) (he : starEach (e :: es) X.env = (false, eval e X.env) :: starEach es X.env := by rfl) (hpl : (backTo pos' (starEach es X.env)).any (·.1) = false := by rfl) :
    PLG X k (.Call (.Name x p) (e :: es) [] pos') (tCallL sp dvs t) := by
  refine ⟨fun pins s σ H cont I h => ?_⟩
  refine wpAny_Call_Name_kw (ld_glob I hg hm ?_ hdb)
  refine PySem.W.callWith_K (h₀ := X.base) I.ok.mod.kin hk (thn (ha.run pos' pins s σ H _ I h) fun us s1 ⟨vs, H1, I1, r, q⟩ => ⟨I1.kIn, ?_⟩) he hpl
  have r2 : Vals (vs ++ dvs) (us ++ ds) := r.append hd
  have hl2 : (us ++ ds).length = ps.length := by rw [← r2.length]; exact F.len _ _ _ q
  refine wpAny_call (codeAny_mono (F.run X.A X.stack s1 H1 ⟨us, []⟩ (us ++ ds) (vs ++ dvs) cont hr I1.env0 (hb s1 us I1.kIn hl2) r2 q) fun r s' hq => ?_)
  cases r with
  | error e => exact False.elim hq
  | ok fl =>
    cases fl with
    | ret u => exact ⟨H1, s1, I1, hq⟩
    | next => exact False.elim hq
    | brk => exact False.elim hq
    | cont => exact False.elim hq
theorem lcGen_core {pins : List (Addr × Obj)} {s : Shared} {σ : L2.St} {H : Hp} {Q : VK} {iter : Expr} {scope : Scope} {own : List (Str × Nat)} {tg : TGen} {use : Option (Value → Sem Unit)} {Qf : Value → Shared → Prop} (h : PLG X k iter tg) (hr : Room (k + 1) X.A) (ok : BlkOk X.N X.env.scope scope own) (hx : scope.names.lookup x = some .local) (hdx : (x == ("__debug__" : Str)) = false)
    (hs : ∀ x, foldedSetIterable iter X.env x = pure x) (I : Inv X pins σ H s) (hq : tListG tg σ H Q)
    (hRR : ∀ D C s' m H', Inv X pins σ H' s' → Q (.ref D) H' → s'.heap.Ns C m → FpOk X pins H' C → compPost (model X.prog X.w) X.A X.xe use Qf (.ref D) C (.ok .next) s') :
    wpAny (model X.prog X.w) X.A (comprehension (.ListComp (.Name x p2) [⟨.Name x px, iter, [], 0⟩] scope pos) scope X.env pos' (newList []) false (eval iter X.env) use) Qf X.xe s := by
  have hfree : ∀ y ∈ scope.names, y.2 = .free → ∃ c, X.env.cells.lookup y.1 = some c := fun y hy e => by
    rcases ok.free y hy e with k | k
    · exact I.ok.has _ (.inl k)
    · exact I.ok.has _ (.inr k)
  refine wpAny_comprehension_free (use := use) rfl hs (closure_ok hfree) ok.kind (fun y hy e => by rw [ok.uniq y hy, e]) (thn (h.run pins s σ H _ I hq) fun u s1 ⟨H1, sc, I1, hG⟩ => ?_)
  obtain ⟨a, g, c, rfl, ha1, ha2, hg, hgs, hos, hb, hl, hkp, wake⟩ := hG
  refine wpAny_pyIter_gen hg ?_
  refine wpAny_newObj_type (newEnv_comp ?_) (by show 0 ≤ sizeLine; decide)
  generalize hs3 : ({ s1 with heap := s1.heap.push { cls := .type "list", data := .seq ([] : List Value).toArray } } : Shared) = s3
  have h3 : s3.heap = s1.heap.push { cls := .type "list", data := .seq ([] : List Value).toArray } := by rw [← hs3]
  have g3 : s3.gens = s1.gens := by rw [← hs3]
  have o3 : s3.os = s1.os := by rw [← hs3]
  have sz3 : s3.heap.objs.size = s1.heap.objs.size + 1 := by rw [h3, Heap.size_push]
  show codeAny _ _ (.compStart (.ListComp (.Name x p2) [⟨.Name x px, iter, [], 0⟩] scope pos) 0 (.ref a) (.ref s1.heap.objs.size) (compEnvC scope (cellsFrom (s3.heap.objs.size + 1) scope.names (cloFrom X.env.cells scope.names [])) s3.heap.objs.size X.env)) (compPost (model X.prog X.w) X.A X.xe use Qf (.ref s1.heap.objs.size) s3.heap.objs.size) { s3 with heap := pushCells (s3.heap.push { cls := .type "dict", data := .dict #[] }) scope.names }
  have hkx : (compEnvC scope (cellsFrom (s3.heap.objs.size + 1) scope.names (cloFrom X.env.cells scope.names [])) s3.heap.objs.size X.env).kindOf x = some .local := lookup_relabel_local hx
  have hkk : (compEnvC scope (cellsFrom (s3.heap.objs.size + 1) scope.names (cloFrom X.env.cells scope.names [])) s3.heap.objs.size X.env).scope.kind = .function := ok.kind
  have cL : (compEnvC scope (cellsFrom (s3.heap.objs.size + 1) scope.names (cloFrom X.env.cells scope.names [])) s3.heap.objs.size X.env).locals = s3.heap.objs.size := rfl
  generalize compEnvC scope (cellsFrom (s3.heap.objs.size + 1) scope.names (cloFrom X.env.cells scope.names [])) s3.heap.objs.size X.env = ce at hkx hkk cL ⊢
  generalize hs4 : ({ s3 with heap := pushCells (s3.heap.push { cls := .type "dict", data := .dict #[] }) scope.names } : Shared) = s4
  have g4 : s4.gens = s1.gens := by rw [← hs4]; exact g3
  have o4 : s4.os = s1.os := by rw [← hs4]; exact o3
  have k4 : ∀ b o, s1.heap.get? b = some o → s4.heap.get? b = some o := fun b o e => by
    rw [← hs4]
    exact pushCells_keeps _ _ _ _ (Heap.get?_push_of_some _ (by rw [h3]; exact Heap.get?_push_of_some _ e))
  have hD4 : s4.heap.get? s1.heap.objs.size = some (lstObj #[] 0) := by
    rw [← hs4]
    exact pushCells_keeps _ _ _ _ (Heap.get?_push_of_some _ (by rw [h3]; exact Heap.get?_push_size _ rfl))
  have hC4 : s4.heap.get? s3.heap.objs.size = some { cls := .type "dict", data := .dict #[] } := by
    rw [← hs4]
    exact pushCells_keeps _ _ _ _ (Heap.get?_push_size _ rfl)
  have hnC : s4.heap.Ns ce.locals fun _ => none := by
    have q := Heap.Ns.new s3.heap (.type "dict")
    rw [cL]
    exact q.keeps fun b o e => by rw [← hs4]; exact pushCells_keeps _ _ _ _ e
  have hcs : cStatics < sc.heap.objs.size := by obtain ⟨o, ho, _⟩ := I1.nolimit; exact ho.lt
  have hscD : sc.heap.objs.size ≤ s1.heap.objs.size := Nat.le_trans ha1 (Nat.le_of_lt ha2)
  have hC1 : s1.heap.objs.size ≤ s3.heap.objs.size := Nat.le_of_lt (by rw [sz3]; exact Nat.lt_succ_self _)
  have hCD : s3.heap.objs.size ≠ s1.heap.objs.size := by rw [sz3]; exact Nat.succ_ne_self _
  have hCa : s3.heap.objs.size ≠ a := Nat.ne_of_gt (Nat.lt_of_lt_of_le ha2 hC1)
  have loop : codeAny (model X.prog X.w) X.A (.compLoop (.ListComp (.Name x p2) [⟨.Name x px, iter, [], 0⟩] scope pos) 0 (.ref a) (.ref s1.heap.objs.size) ce) (compPost (model X.prog X.w) X.A X.xe use Qf (.ref s1.heap.objs.size) s3.heap.objs.size) s4 := by
    refine comp_drain (P := X.prog) (w := X.w) (outer := X.stack) (H := H1) (sc := sc) (a := a) (D := s1.heap.objs.size) (g := g) (Q := fun out H2 => ∀ p, H2 p = none → Q (.ref p) (upd H2 p (.lst out))) hr.hd (by have := hr.dp; omega) hcs hkx hkk hdx (by simp [hkk]) (by rw [cL]; exact hCD) (by rw [cL]; exact hCa) (Nat.ne_of_gt ha2) (by rw [cL]; exact Nat.le_trans hscD hC1) hscD ?_ sizeLine s4 (hg.keeps k4) (hl.keeps k4) ⟨_, hnC⟩ ⟨.fresh c, by rw [g4]; exact hgs, rfl, ?_⟩
    · intro s' H' xs acc c' m hQ hlen rv hD G hDn hCn hn
      rw [cL] at hCn hn
      have I2 : Inv X pins σ (upd H' s1.heap.objs.size (.lst xs)) s' := I1.drained hscD hlen hD rv .nil G.os G.bare G.un G.ok hDn
      have nC : (upd H' s1.heap.objs.size (.lst xs)) s3.heap.objs.size = none := by
        rw [upd_ne hCD]
        exact hCn
      exact hRR _ _ s' m _ I2 (hQ _ hDn) hn (I1.fpOk (H' := upd H' s1.heap.objs.size (.lst xs)) (b := s3.heap.objs.size) (Nat.le_trans hscD hC1) nC)
    · rw [cL]
      refine wake X.A.in1 s1.heap.objs.size 0 [(s3.heap.objs.size, { cls := .type "dict", data := .dict #[] })] (s4.setGen g .running) ⟨hr.hd, ?_, ?_⟩ I1.ok.frames k4 (fun p hp => ?_) (o4.trans hos) (allBare_setGen (by rw [g4]; exact hb) rfl)
      · have := hr.dp
        show X.A.depth + 3 * k + 5 < _
        omega
      · have := hr.un
        show X.A.units + 1 + 16 * k + 200 < _
        omega
      · rcases List.mem_cons.mp hp with z | z
        · rw [z]; exact ⟨Nat.le_refl _, hD4, fun v q => by cases q⟩
        · rw [List.mem_singleton.mp z]; exact ⟨hC1, hC4, fun v q => by cases q⟩
  exact codeAny_compStart_list loop (wpAny_pyIter_gen (hg.keeps k4) loop)
/-- name = [..] on one line, the name a local -/
theorem ps_setLcG {i : Nat} {y : Str} {py spos : Pos} {iter : Expr} {scope : Scope} {own : List (Str × Nat)} {tg : TGen} (hN : X.N.Nodup) (hy : X.N[i]? = some y) (hyl : X.env.scope.names.lookup y = some .local)
    (hsw : swapsWith (.ListComp (.Name x p2) [⟨.Name x px, iter, [], 0⟩] scope pos) (some (.Name y py)) spos.line X.env = pure true) (h : PLG X k iter tg) (hr : Room (k + 1) X.A) (ok : BlkOk X.N X.env.scope scope own) (hx : scope.names.lookup x = some .local) (hdx : (x == ("__debug__" : Str)) = false := by decide)
    (hs : ∀ x, foldedSetIterable iter X.env x = pure x := by intro _; rfl) :
    L2.PS X (.Assign [.Name y py] (.ListComp (.Name x p2) [⟨.Name x px, iter, [], 0⟩] scope pos) spos) (tAsg (tListG tg) (gName i)) := by
  refine ⟨fun pins s σ H D I hq => ?_⟩
  rw [exec_Assign_Name_used _ _ _ _ hsw]
  refine wpAny_bind (wpAny_standAt (wpAny_bind ?_))
  show wpAny _ X.A (do let _ ← comprehension (.ListComp (.Name x p2) [⟨.Name x px, iter, [], 0⟩] scope pos) scope X.env (firstIterPos [⟨.Name x px, iter, [], 0⟩] pos) (newList []) false (eval iter X.env) (some (assign (.Name y py) X.env))) _ _ s
  have hq : tListG tg σ H (fun x H1 => gName i x σ H1 D.nx) := hq
  refine wpAny_bind (thn (lcGen_core (Qf := fun _ s' => SP X pins D .next s') h hr ok hx hdx hs I hq fun L C s' m H' I' q hn f => ?_) fun _ s' hq => wpAny_pure (wpAny_pure hq))
  show wpAny _ _ (assign (.Name y py) X.env (.ref L)) _ _ _
  refine wpAny_assign_Name (store_ok2 (v := V.ref L) I' hN hy (.inl hyl) rfl (fun s2 I2 ⟨a, sb, ha⟩ => ?_) (.inr hyl))
  obtain ⟨f0, f1, f2, f3, f4, f5⟩ := f
  have haC : C ≠ a := by
    rcases ha with z | z
    · rw [z]; exact f1
    · exact fun e => f4 y a z e.symm
  refine ⟨m, hn.sameBut sb haC, fun h3 sb3 => ?_⟩
  exact ⟨_, H', I2.turned (t' := s2.toks) (fun b o hb e => (sb3.2 b hb).trans e) f0 f1 f3 f4 f5, q⟩
end
end EA
namespace EA
open PySem PySem.Spec PyProof.Rows L2 GenW
/-! ### a generator def as a function: the data that it hands out -/
abbrev FGn := List W3 → List MO → Option (List PyData × List MO)
def spL (K : PySem.W.Frag) (f : FGn) : List V → Hp → (List V → Hp → Prop) → Prop := fun vs H Q => ∃ (A : Wd) (S : List MO) (ws : List W3) (out : List PyData) (S' : List MO), A.H = H ∧ Rl K A S ∧ RWs K A vs ws ∧ f ws S = some (out, S') ∧ ∀ B xs, Nx A B → Rl K B S' → DaA K B.G xs out → Q xs B.H
/-- what the last loop goes over -/
def retG (iy : Nat) : Out → Option (List PyData × List MO)
  | .nx sl S => match sl[iy]? with
    | some (some (.r i)) => match S[i]? with
      | some (.lst ds) => some (ds, S)
      | _ => none
    | _ => none
  | _ => none
/-- np parameters, nl other names; the last loop goes over the list in slot iy -/
def fgenL (np nl iy : Nat) (pre : FS) : FGn := fun ws S => if ws.length = np then (pre (ws.map some ++ List.replicate nl none) S).bind (retG iy) else none
/-- [x for x in f(e, ..)] -/
def nLcG (f : FGn) (a : FA) : FN := fun sl S => (a sl S).bind fun p => f p.1 p.2
section
variable {K : PySem.W.Frag} {X : Cx}
/-- name = [..] on one line -/
theorem s_setLcG {i k : Nat} {f : Addr} {fd : FuncData} {ps : List Str} {x y z : Str} {p px p2 py pos pos' spos : Pos} {e : Expr} {es : List Expr} {f3 : FGn} {fa : FA} {scope : Scope} {own : List (Str × Nat)} (w : FN → FE) (hwrap : w = eNd ∨ w = eNo) (hN : X.N.Nodup) (hz : X.N[i]? = some z) (hzl : X.env.scope.names.lookup z = some .local)
    (hsw : swapsWith (.ListComp (.Name x p2) [⟨.Name x px, .Call (.Name y p) (e :: es) [] pos', [], 0⟩] scope pos) (some (.Name z py)) spos.line X.env = pure true)
    (F : LFn X.prog X.w X.K X.mg X.base k f fd ps (spL K f3)) (hr : Room (k + 1) X.A) (hg : Gl X y) (hm : X.mg y = some (.ref f)) (hk : PySem.W.keepIn X.K (.ref f) = true) (hb : Binds X.K fd ps [])
    (ha : PA3 K X (e :: es) fa) (ok : BlkOk X.N X.env.scope scope own) (hx : scope.names.lookup x = some .local) (hdx : (x == ("__debug__" : Str)) = false := by decide) (hdb : (y == ("__debug__" : Str)) = false := by decide) (he : starEach (e :: es) X.env = (false, eval e X.env) :: starEach es X.env := by rfl) (hpl : (backTo pos' (starEach es X.env)).any (·.1) = false := by rfl) :
    PS3 K X (.Assign [.Name z py] (.ListComp (.Name x p2) [⟨.Name x px, .Call (.Name y p) (e :: es) [] pos', [], 0⟩] scope pos) spos) (sSet i (w (nLcG f3 fa))) := ⟨ps_imp (ps_setLcG hN hz hzl hsw (plg_call (dvs := []) F (hr.mono (Nat.le_succ _)) hg hm hk hb .nil ha.p hdb he hpl) hr ok hx hdx) fun E σ H h => by
  have h' := set_imp h
  have h2 : tnO K (nLcG f3 fa) σ H fun x H1 => E.nx (σ.set i (some x)) H1 := by
    rcases hwrap with rfl | rfl
    · exact nd_imp h'
    · exact no_imp h'
  obtain ⟨A, S, sl, w, S', rfl, R, s, e, q⟩ := h2
  obtain ⟨⟨w1, S1⟩, e1, e⟩ := Option.bind_eq_some_iff.mp e
  refine ⟨A, S, sl, w1, S1, rfl, R, s, e1, fun B vs n R1 r1 => ⟨B, S1, w1, w, S', rfl, R1, by rw [List.append_nil]; exact r1, e, fun C xs n2 R2 hd p hp => ?_⟩⟩
  exact new_of (Q := fun x H1 => E.nx (σ.set i (some x)) H1) R2 hd (fun D vs p n3 R3 np ni g hh hd2 => q D vs p ((n.trans n2).trans n3) R3 (fresh_back (n.trans n2) np) ni g hh hd2) p hp⟩
/-- a generator def by its prefix -/
theorem fnL {P : Program} {w : World} {mg : Str → Option Value} {base : Heap} {x y name qual : Str} {px py p2 yp p3 pos : Pos} {st : Stmt} {f : Addr} {fd : FuncData} {N ps : List Str} {k np nl iy : Nat} {pre : List Stmt} {body : FS} (F : Fun K name qual st f fd) (S : GScope N ps (defScope st)) (hnp : ps.length = np) (hnl : N.length = np + nl)
    (hbd : defBody st = pre ++ [.For (.Name x px) (.Name y py) [.Expr (.Yield (some (.Name x p2)) yp) p3] [] pos])
    (hx : (defScope st).names.lookup x = some .local) (hy : (defScope st).names.lookup y = some .local) (hdx : (x == ("__debug__" : Str)) = false) (hdy : (y == ("__debug__" : Str)) = false) (hi : N[iy]? = some y)
    (hb : ∀ (cdv : Value) (A : Around) (outer : List Env) (s : Shared) (H : Hp) (pn : List (Addr × Obj)), Room k (A.deeper (envOfC qual (defScope st) s.heap.objs.size f cdv)) → PSs3 K (gcxOf P w K mg base N qual (defScope st) f cdv A outer s H (fun _ _ _ => False) pn).nox pre body) :
    LFn P w K mg base (k + 1) f fd ps (spL K (fgenL np nl iy body)) := by
  have arity : ∀ {ws : List W3} {S0 : List MO} {r}, fgenL np nl iy body ws S0 = some r → ws.length = np ∧ (body (ws.map some ++ List.replicate nl none) S0).bind (retG iy) = some r := fun {ws S0 r} e => by
    unfold fgenL at e
    by_cases z : ws.length = np
    · rw [if_pos z] at e; exact ⟨z, e⟩
    · rw [if_neg z] at e; cases e
  obtain ⟨oc, od, kV, doc, pm, an, cdv, ct, osl, rfl, lk, hcd⟩ := F.ex
  rw [hbd] at lk ⊢
  refine lfn_of lk hcd S hx hy hdx hdy hi (fun vs H Q h => ?_) fun A outer s H vs Q pn hr h => ?_
  · obtain ⟨A, S0, ws, out, S', _, _, r, e, _⟩ := h
    rw [r.len, (arity e).1, hnp]
  · obtain ⟨B, S0, ws, out, S', rfl, R, r, e, q⟩ := h
    obtain ⟨hl, e⟩ := arity e
    obtain ⟨o, e1, e2⟩ := Option.bind_eq_some_iff.mp e
    refine ⟨_, (hb cdv A outer s B.H pn hr).p.nox, B, S0, _, o, rfl, R, ?_, e1, ?_⟩
    · have z := sr3_start r nl
      have ez : N.length - vs.length = nl := by rw [r.len, hl]; omega
      unfold L2.start
      rw [ez]; exact z
    · cases o with
      | nx sl S1 =>
        intro C σ' n R1 s1
        unfold retG at e2
        dsimp only at e2
        cases hs : sl[iy]? with
        | none => rw [hs] at e2; cases e2
        | some ow =>
          cases ow with
          | none => rw [hs] at e2; cases e2
          | some w0 =>
            rw [hs] at e2
            cases w0 with
            | r i =>
              dsimp only at e2
              cases ho : S1[i]? with
              | none => rw [ho] at e2; cases e2
              | some m =>
                rw [ho] at e2
                cases m with
                | lst ds =>
                  cases e2
                  obtain ⟨v, hv, rv⟩ := s1.at_ iy _ hs
                  obtain ⟨a, ha, rfl⟩ := rv
                  obtain ⟨g, xs, h1, h2⟩ := R1.ob i _ a ho ha
                  exact ⟨a, xs, hv, h1, q C xs n R1 h2⟩
                | _ => cases e2
            | _ => cases e2
      | _ => cases e2
end
end EA
namespace EA
open PySem PySem.Spec PyProof.Rows L2
/-! ### repr(x), where nothing is being shown -/
/-- a def's promise, kept where nothing is being shown -/
structure FnOkG (P : Program) (w : World) (K : PySem.W.Frag) (mg : Str → Option Value) (base : Heap) (k : Nat) (f : Addr) (fd : FuncData) (ps : List Str) (sp : Sp) : Prop where
  run : ∀ (A : Around) (outer : List Env) (s : Shared) (H : Hp) (args : Args) (us : List Value) (vs : List V) (Q : VK) (E : XK), A.guards = some [] → Room k A → Env0 P w K mg base A outer s H → BindsTo s fd args (ps.zip us) → Vals vs us → sp vs H Q E →
    codeAny (model P w) A (.call (.ref f) args) (CR CX0 outer P w H s Q E) s
section
variable {P : Program} {w : World} {K : PySem.W.Frag} {mg : Str → Option Value} {base : Heap}
theorem fn_okG {x qual : Str} {st : Stmt} {f : Addr} {fd : FuncData} {N ps : List Str} {k : Nat} {sp : Sp} (F : Fun K x qual st f fd) (S : FnScope N ps (defScope st)) (len : ∀ vs H Q E, sp vs H Q E → vs.length = ps.length)
    (hbody : ∀ (cdv : Value) (A : Around) (outer : List Env) (s : Shared) (H : Hp) (vs : List V) (Q : VK) (E : XK), A.guards = some [] → Room k (A.deeper (envOfC qual (defScope st) s.heap.objs.size f cdv)) → sp vs H Q E →
      ∃ t, PSs (cxOf CX0 P w K mg base N qual (defScope st) f cdv A outer s H E).nox (defBody st) t ∧ t { nx := fun _ H' => Q .non H', rt := Q } (L2.start N vs) H) : FnOkG P w K mg base (k + 1) f fd ps sp := by
  obtain ⟨oc, od, kV, doc, pm, an, cdv, ct, osl, rfl, lk, hcd⟩ := F.ex
  refine ⟨fun A outer s H args us vs Q E hgd hr e0 hb r hsp => ?_⟩
  have hl := len _ _ _ _ hsp
  have KX : K.In s.heap := e0.mod.kin.keeps fun b o e => (e0.bs b o e).1
  have lim : s.heap.NoLimit := e0.mod.nolimit.keeps fun b o e => (e0.bs b o e).1
  have hkind : ∀ y ∈ ps.zip us, (defScope st).names.lookup y.1 = some .local ∨ ((defScope st).names.lookup y.1 = some .cell ∧ ((cellsFrom (s.heap.objs.size + 1) (defScope st).names []).lookup y.1).isSome = true) := fun ⟨n, v⟩ hy => by
    rcases S.par n (List.of_mem_zip hy).1 with q | q
    · exact .inl q
    · exact .inr ⟨q, PySem.W.cellsFrom_some _ _ _ (.inl q)⟩
  refine codeAny_call_function hr.depth (KX _ _ lk) rfl S.co S.gen rfl (PySem.W.codeRec_of KX hcd) (hb _ _ _ _ ?_)
  refine wpAny_newFunctionEnv_cells S.kind hkind fun env he s1 y => ?_
  subst he
  refine ⟨lim.keeps y.toInCall.keep, codeAny_func ?_⟩
  obtain ⟨t, ht, hq⟩ := hbody cdv A outer s H vs Q E hgd (hr.deeper _) hsp
  have I := inv_start (CX := CX0) (E := E) S hr.hd e0 hl r y
  refine wpAny_mono (ht.nox.run [] s1 (L2.start N vs) H _ I hq) (fun fl s' hs => ?_) fun e s' hs => hs
  cases fl with
  | ret u =>
    obtain ⟨v, σ', H', J, rv, q⟩ := hs
    exact ⟨v, H', J.os, J.bare, J.base, J.hok, rv, q⟩
  | next =>
    obtain ⟨σ', H', J, q⟩ := hs
    exact ⟨V.non, H', J.os, J.bare, J.base, J.hok, rfl, q⟩
  | brk =>
    obtain ⟨_, _, _, q⟩ := hs
    exact False.elim q
  | cont =>
    obtain ⟨_, _, _, q⟩ := hs
    exact False.elim q
theorem fn3G {x qual : Str} {st : Stmt} {f : Addr} {fd : FuncData} {N ps : List Str} {k np nl : Nat} {own : Bool} {body : FS} (F : Fun K x qual st f fd) (S : FnScope N ps (defScope st)) (hnp : ps.length = np) (hnl : N.length = np + nl)
    (hb : ∀ (cdv : Value) (A : Around) (outer : List Env) (s : Shared) (H : Hp) (E : XK), (A.deeper (envOfC qual (defScope st) s.heap.objs.size f cdv)).guards = some [] → Room k (A.deeper (envOfC qual (defScope st) s.heap.objs.size f cdv)) → PSs3 K (cxOf CX0 P w K mg base N qual (defScope st) f cdv A outer s H E).nox (defBody st) body) : FnOkG P w K mg base (k + 1) f fd ps (sp3 K (fdef own np nl body)) := by
  have arity : ∀ {ws : List W3} {S0 : List MO} {r}, fdef own np nl body ws S0 = some r → ws.length = np ∧ (body (ws.map some ++ List.replicate nl none) S0).bind (ret3 own S0) = some r := fun {ws S0 r} e => by
    unfold fdef at e
    by_cases z : ws.length = np
    · rw [if_pos z] at e; exact ⟨z, e⟩
    · rw [if_neg z] at e; cases e
  refine fn_okG F S (fun vs H Q E h => ?_) fun cdv A outer s H vs Q E hgd hr h => ?_
  · obtain ⟨A, S0, ws, w, S', _, _, r, e, _⟩ := h
    rw [r.len, (arity e).1, hnp]
  · obtain ⟨B, S0, ws, w, S', rfl, R, r, e, q⟩ := h
    obtain ⟨hl, e⟩ := arity e
    obtain ⟨o, e1, e2⟩ := Option.bind_eq_some_iff.mp e
    refine ⟨_, (hb cdv A outer s B.H E hgd hr).p, B, S0, _, o, rfl, R, ?_, e1, ret_nx R e2 q⟩
    have z := sr3_start r nl
    have ez : N.length - vs.length = nl := by rw [r.len, hl]; omega
    unfold L2.start
    rw [ez]; exact z
theorem FnOkG.imp {k : Nat} {f : Addr} {fd : FuncData} {ps : List Str} {sp sp' : Sp} (F : FnOkG P w K mg base k f fd ps sp) (h : ∀ vs H Q E, sp' vs H Q E → sp vs H Q E) : FnOkG P w K mg base k f fd ps sp' :=
  ⟨fun A outer s H args us vs Q E hg hr he hb hv hs => F.run A outer s H args us vs Q E hg hr he hb hv (h _ _ _ _ hs)⟩
theorem law3G {k : Nat} {f : Addr} {fd : FuncData} {x : Str} {f3 : F3} (F : FnOkG P w K mg base k f fd [x] (sp3 K f3)) (h : ∀ ns : List Int, ns.length ≤ 63 → ∃ S, f3 [.sc ns] [] = some (.d (.bool true), S)) : FnOkG P w K mg base k f fd [x] (spLaw3 K) :=
  F.imp fun vs H Q E hh => by
    obtain ⟨a, ns, rfl, hS, hl, q⟩ := hh
    obtain ⟨S, e⟩ := h ns hl
    refine ⟨⟨H, H, []⟩, [], [.sc ns], .d (.bool true), S, rfl, ⟨Same.refl _, .nil, rfl, fun i o a e => by simp at e⟩, .cons ⟨a, rfl, hS⟩ .nil, e, fun B v n R r => ?_⟩
    cases Da.bool_inv r
    exact q B.H
end
/-! ### the law's call -/
theorem law_callG {P : Program} {w : World} {K : PySem.W.Frag} {mg mb : Str → Option Value} {k : Nat} {fa a : Addr} {fd : FuncData} {x : Str} {sp : Sp} {s₁ : Shared} {vs : List Value} {ns : List Int}
    (KX : K.In s₁.heap) (hns : s₁.heap.Ns mainGlobals mg) (hb : s₁.heap.Ns builtinsNs mb) (hbb : ∀ x : Str, x ≠ "__name__" → mb x = bootBuiltins x) (hlim : s₁.heap.NoLimit) (hg : s₁.gens = #[])
    (ha : s₁.heap.get? a = some { cls := .type "list", data := .seq vs.toArray }) (hi : IntsAre vs ns) (hl : ns.length ≤ sizeLine) (hr : Room k callerA)
    (F : ∀ base : Heap, K.In base → base.Ns mainGlobals mg → FnOkG P w K mg base k fa fd [x] sp) (hbind : ∀ (s : Shared) (u : Value), BindsTo s fd ⟨[u], []⟩ [(x, u)])
    (hsp : ∀ H : Hp, Only H → SqL K H a (ns.map V.int) → sp [.ref a] H (fun v _ => v = .bl true) fun _ _ _ => False) :
    codeAny (model P w) callerA (.call (.ref fa) ⟨[.ref a], []⟩) (fun r s' => r = .ok (.ret (.bool true)) ∧ OldK s₁.heap s'.heap ∧ s'.os = s₁.os ∧ AllBare s'.gens) s₁ := by
  have rv := vals_ints hi
  have core : ∀ H : Hp, Only H → SqL K H a (ns.map V.int) → HOk P w H s₁.heap → (∀ b, H b ≠ none → b = a) → (H a ≠ none → K.lookup a = none) →
      codeAny (model P w) callerA (.call (.ref fa) ⟨[.ref a], []⟩) (fun r s' => r = .ok (.ret (.bool true)) ∧ OldK s₁.heap s'.heap ∧ s'.os = s₁.os ∧ AllBare s'.gens) s₁ := by
    intro H hO hS hok hA hK
    -- what is tracked is the script alone
    have only : ∀ {b : Addr}, b ≠ a → H b = none := fun {b} hb => Classical.byContradiction fun z => hb (hA b z)
    have back : ∀ {b : Addr} {o : Obj}, s₁.heap.get? b = some o → H b = none → (hidT s₁.heap H).get? b = some o := fun e n => hidT_get e n
    have ns1 : ∀ {b : Addr} {m : Str → Option Value}, s₁.heap.Ns b m → (hidT s₁.heap H).Ns b m := fun {b m} ⟨o, es, ep, e, d, r⟩ => ⟨o, es, ep, back e (only fun z => by
      subst z
      rw [ha] at e; cases e
      have d' : Data.seq vs.toArray _ = Data.dict es ep := d
      cases d'), d, r⟩
    have hKb : K.In (hidT s₁.heap H) := fun b o e => back (KX b o e) (Classical.byContradiction fun z => by
      have e' := hA b z
      subst e'
      rw [hK z] at e; cases e)
    have hM : Mod K mg (hidT s₁.heap H) := ⟨hKb, ns1 hns, ⟨mb, ns1 hb, hbb⟩, let ⟨mc, h1, h2⟩ := hlim; ⟨mc, ns1 h1, h2⟩⟩
    have e0 : Env0 P w K mg (hidT s₁.heap H) callerA [] s₁ H := ⟨rfl, hM, fun b o e => of_hidT e, Nat.le_of_eq (hidT_size _ _), trivial, fun b hb => absurd (show b ∈ ([] : List Addr) from hb) (by simp), hok, .of_eq hg⟩
    refine codeAny_mono ((F _ hKb (ns1 hns)).run callerA [] s₁ H ⟨[.ref a], []⟩ [.ref a] [.ref a] _ _ rfl hr e0 (hbind s₁ (.ref a)) (.cons rfl .nil) (hsp H hO hS)) fun r s' h => ?_
    cases r with
    | error e => exact False.elim h
    | ok fl =>
      cases fl with
      | next => exact False.elim h
      | brk => exact False.elim h
      | cont => exact False.elim h
      | ret u =>
        obtain ⟨v, H', os, bare, un, hok', r', q⟩ := h
        have q' : v = .bl true := q
        subst q'
        obtain rfl : u = Value.bool true := r'
        refine ⟨rfl, OldK.of_keep fun b o e => ?_, os, bare⟩
        cases q : H b with
        | none => exact un.keep b o e q (by intro z; exact absurd (show b ∈ ([] : List Addr) from z) (by simp)) (by simp)
        | some u =>
          rcases hO b with z | ⟨ob, xs, z⟩
          · rw [q] at z; cases z
          · obtain ⟨e1, _⟩ := hok b _ z
            obtain ⟨e2, _⟩ := hok' b _ (un.frzs b ob _ z)
            rw [e] at e1; cases e1
            exact e2
  have lenV := hi.length
  cases hk : K.lookup a with
  | some o =>
    have e := KX a o hk
    rw [ha] at e
    cases e
    refine core (fun _ => none) (fun _ => .inl rfl) (.inr ⟨_, vs.toArray, _, hk, rfl, rfl, rfl, by rw [List.size_toArray, lenV]; exact hl, by simpa using rv⟩) (fun b u z => by have z' : (none : Option HO) = some u := z; cases z') (fun b z => absurd rfl z) fun z => absurd rfl z
  | none =>
    have one : ∀ {b : Addr}, b ≠ a → (fun b => if b = a then some (HO.frz { cls := .type "list", data := .seq vs.toArray } (.lst (ns.map V.int))) else none) b = none := fun h => if_neg h
    refine core (fun b => if b = a then some (.frz { cls := .type "list", data := .seq vs.toArray } (.lst (ns.map V.int))) else none) (fun b => ?_) (.inl (.inr ⟨{ cls := .type "list", data := .seq vs.toArray }, if_pos rfl⟩)) (fun b u z => ?_) (fun b z => Classical.byContradiction fun hb => z (one hb)) fun _ => hk
    · by_cases hb : b = a
      · exact .inr ⟨_, _, if_pos hb⟩
      · exact .inl (one hb)
    · by_cases hb : b = a
      · have z' := (if_pos hb).symm.trans z
        cases z'
        subst hb
        exact ⟨ha, by rw [List.length_map]; exact hl, vs, _, rv, ha⟩
      · have z' := (one hb).symm.trans z
        cases z'
theorem walk_ofG {l : PySem.W.OpenLaw} {n k : Nat} {q : Program} {loose : List Str} {XP : (Str → Option Value) → Heap → Prop} {YP : World → Heap → Prop} {d : DefRec} {K : Params → PySem.W.Frag} {sp : World → Sp} {x : Str}
    (hn : l.most = some n) (hn2 : n ≤ sizeLine) (hdf : d.params.defaults = []) (hr : Room k callerA) (hY : ∀ (w : World) (h : Heap), YP w h → (K w.params).In h)
    (F : ∀ (w : World) (mg : Str → Option Value) (fa : Addr) (h : Heap), (K w.params).In h → h.Ns mainGlobals mg → mg d.name = some (.ref fa) →
      ∃ fd : FuncData, (∀ (s : Shared) (u : Value), BindsTo s fd ⟨[u], []⟩ [(x, u)]) ∧ ∀ base : Heap, (K w.params).In base → base.Ns mainGlobals mg → FnOkG l.prog w (K w.params) mg base k fa fd [x] (sp w))
    (hsp : ∀ (w : World) (H : Hp) (a : Addr) (ns : List Int), ns.length ≤ n → Only H → SqL (K w.params) H a (ns.map V.int) → sp w [.ref a] H (fun v _ => v = .bl true) fun _ _ _ => False) :
    PySem.W.WalkO q loose XP YP l.row.toRowW d [] (fun f vs => PySem.call f vs) := by
  refine Att.attach_call hn hdf fun w s₀ s₁ mg mb fa o pm cd doc a vs ns G Y ho hd hcd hmg hobj hints hlen hg => ?_
  have KX := hY w _ Y
  obtain ⟨fd, hb, hF⟩ := F w mg fa _ KX G.T.g hmg
  exact law_callG KX G.T.g G.T.b G.T.builtins G.T.nolimit hg hobj hints (Nat.le_trans hlen hn2) hr hF hb fun H hO hS => hsp w H a ns hlen hO hS
/-! ### repr(x) of data -/
def rRepr (K : PySem.W.Frag) : List V → Hp → VK → Prop := fun vs H Q => ∃ (a : Addr) (d : PyData), vs = [.ref a] ∧ Dp K H (.ref a) d ∧ d.showable = true ∧ d.hasDict = false ∧ d.depth ≤ 20 ∧ d.shown.length ≤ sizeLine ∧ Q (.str d.shown) H
def reprD : PyData → Option PyData := fun d => match d with
  | .list xs => if (PyData.list xs).showable = true ∧ (PyData.list xs).hasDict = false ∧ (PyData.list xs).depth ≤ 20 ∧ (PyData.list xs).shown.length ≤ sizeLine then some (.str (PyData.list xs).shown) else none
  | _ => none
section
variable {K : PySem.W.Frag} {X : Cx}
theorem cr_repr (hK : X.K = K) (hgd : X.A.guards = some []) (hu : X.A.units + 64 < cLine) : CallR X (.builtin "repr") (rRepr K) := by
  subst hK
  intro pins s σ H vs us Q I r h
  obtain ⟨a, d, rfl, dp, h1, h2, h3, h4, q⟩ := h
  obtain ⟨u, rfl, ru⟩ := vals1 r
  obtain rfl : u = Value.ref a := ru
  obtain ⟨as, rd⟩ := Dp.reads I d (.ref a) (.ref a) dp rfl
  exact repr_of_reads' rd h1 (fun z => by rw [h2] at z; cases z) hgd (by omega) (fun _ _ e => e) (fun h' u tk hk => ⟨.str d.shown, H, I.kept hk, ⟨u, rfl⟩, q⟩) h4
theorem ck_repr : CkOk K (rRepr K) (g1 reprD) := ck1 fun A S v x d Q R h e q => by
  unfold reprD at e
  split at e
  · split at e
    · rename_i z
      cases e
      have h0 := h
      cases h with
      | lst e2 t => exact ⟨_, _, rfl, h0, z.1, z.2.1, z.2.2.1, z.2.2.2, q A _ (Nx.refl A) R (Da.str _)⟩
    · cases e
  · cases e
end
end EA
namespace EA
open PySem PySem.Spec PyProof.Rows L2
noncomputable def f3_counted : Nat → F3
  | 0 => fun _ _ => none
  | n + 1 => fdef false 3 1
      (sSeq (sIf (tCmp gIs (eVar 0) (eD (.bool false)))
        (sRt (eD (.int (0))))
        sNx)
        (sSeq (sIf (tCmp gIs (eVar 0) (eD (.bool true)))
        (sRt (eOp gShl (eD (.int (1))) (eOp gSub (eB gLen (aCons (eVar 1) aNil)) (eVar 2))))
        sNx)
        (sSeq (sSet 3 (eCall (f3_counted n) (aCons (eCall f3_side_of (aCons (eVar 0) (aCons (eOp gIx (eVar 1) (eVar 2)) (aCons (eD (.bool true)) aNil)))) (aCons (eVar 1) (aCons (eOp gAdd (eVar 2) (eD (.int (1)))) aNil)))))
        (sRt (eOp gAdd (eVar 3) (eCall (f3_counted n) (aCons (eCall f3_side_of (aCons (eVar 0) (aCons (eOp gIx (eVar 1) (eVar 2)) (aCons (eD (.bool false)) aNil)))) (aCons (eVar 1) (aCons (eOp gAdd (eVar 2) (eD (.int (1)))) aNil)))))))))
noncomputable def f3_count_settings : F3 := fdef false 2 0
  (sRt (eCall (f3_counted 60) (aCons (eVar 0) (aCons (eNd (nB gSS (aCons (eVar 1) aNil))) (aCons (eD (.int (0))) aNil)))))
noncomputable def f3_all_settings : FGn := fgenL 1 4 1
  (sSeq (sSet 1 (eNo (nLst (aCons (eTup aNil) aNil))))
  (sFor (iSq (eNd (nB gSS (aCons (eVar 0) aNil)))) (gNm 2)
  (sSet 1 (eNo (nLc2 [3, 4] [4] (iSq (eVar 1)) (gNm 3) tYes3 (iSq (eTup (aCons (eTup aNil) (aCons (eTup (aCons (eVar 2) aNil)) aNil)))) (gNm 4) tYes3 (eOp gAdd (eVar 3) (eVar 4)))))))
noncomputable def f3_grown : Nat → F3
  | 0 => fun _ _ => none
  | n + 1 => fdef false 3 3
      (sSeq (sIf (tNt (tTr (eVar 0)))
        (sRt (eD (.bool false)))
        sNx)
        (sSeq (sIf (tCmp gEq (eVar 2) (eB gLen (aCons (eVar 1) aNil)))
        (sRt (eD (.bool true)))
        sNx)
        (sSeq (sSet 3 (eNd (nLc [4] (iSq (eVar 0)) (gNm 4) (tCmp gIn (eOp gIx (eVar 1) (eVar 2)) (eVar 4)) (eVar 4))))
        (sSeq (sSet 5 (eNd (nLc [4] (iSq (eVar 0)) (gNm 4) (tCmp gNin (eOp gIx (eVar 1) (eVar 2)) (eVar 4)) (eVar 4))))
        (sRt (eCall f3_formed (aCons (eOp gIx (eVar 1) (eVar 2)) (aCons (eCall (f3_grown n) (aCons (eVar 3) (aCons (eVar 1) (aCons (eOp gAdd (eVar 2) (eD (.int (1)))) aNil)))) (aCons (eCall (f3_grown n) (aCons (eVar 5) (aCons (eVar 1) (aCons (eOp gAdd (eVar 2) (eD (.int (1)))) aNil)))) aNil)))))))))
noncomputable def f3_from_settings : F3 := fdef false 2 0
  (sRt (eCall (f3_grown 60) (aCons (eNd (nB gLst4 (aCons (eVar 0) aNil))) (aCons (eNd (nB gSS (aCons (eVar 1) aNil))) (aCons (eD (.int (0))) aNil)))))
noncomputable def f3_strewn : F3 := fdef false 2 1
  (sSeq (sSet 2 (eCall f3_shuffled (aCons (eVar 0) (aCons (eOp gAdd (eNd (nB gLst4 (aCons (eVar 1) aNil))) (eNd (nB gLst4 (aCons (eSl (eVar 1) oNone (oSome (eCall f3_take (aCons (eVar 0) (aCons (eD (.int (3))) aNil))))) aNil)))) aNil))))
  (sSeq (sIf (tCmp gEq (eCall f3_take (aCons (eVar 0) (aCons (eD (.int (2))) aNil))) (eD (.int (0))))
  (sRt (eB gTupOf (aCons (eVar 2) aNil)))
  sNx)
  (sRt (eVar 2))))
local macro_rules | `(tactic| walk_at "ix") => `(tactic| first | rfl | exact atI_cons0 | exact atI_map0)
local macro_rules | `(tactic| walk_at "st") => `(tactic| first | assumption | rfl | exact get_set (by assumption) | exact get_set (get_set (by assumption)) | exact get_last | exact get_setlast | exact get_setapp (by assumption) | exact get_app (by assumption) | exact get_app (get_set (by assumption)))
local macro_rules | `(tactic| walk_at "tk") => `(tactic| first | exact List.take_length | exact take_set | exact take_set2 | exact take_set3 | exact take_app | exact take_aset | exact take_setapp | rfl)
local macro_rules | `(tactic| walk_at "sd") => `(tactic| first | omega | assumption | decide)
local macro_rules | `(tactic| walk_at "wpx") => `(tactic| first
  | with_reducible refine ite2 (fun _ => ?_) (fun z => absurd rfl z)
  | with_reducible refine ite2 (fun z => absurd z Bool.false_ne_true) (fun _ => ?_)
  | ((with_reducible refine gate_wp ?_); (first
    | ((with_reducible apply wp_viewr); (walk_at "st")) | ((with_reducible apply wp_lat); (walk_at "st"))
    | ((with_reducible refine gate_eq ?_); (first | with_reducible refine wp_geqs ?_ | with_reducible refine wp_geqb ?_ | with_reducible refine wp_geq_nil ?_))
    | ((with_reducible refine gate_ne ?_); (first | with_reducible refine wp_gnes ?_ | with_reducible refine wp_gneb ?_ | with_reducible refine wp_gne_nil ?_))
    | ((with_reducible refine gate_ix ?_); (first | ((with_reducible apply wp_ixd); (walk_at "ix")) | ((with_reducible apply wp_ixt); (walk_at "ix")) | ((with_reducible apply wp_ixr); (walk_at "st"); (walk_at "ix"))))
    | ((with_reducible apply wp_trur); (walk_at "st"))
    | ((with_reducible refine wp_l4s ?_ ?_); (first | omega | assumption | decide +kernel)) | with_reducible refine wp_l4 ?_ | ((with_reducible apply wp_l3r); (walk_at "st"))
    | ((with_reducible refine wp_mod ?_ ?_); (walk_at "sd")) | ((with_reducible refine wp_fdiv ?_ ?_); (walk_at "sd")) | ((with_reducible refine wp_mulr ?_ ?_); (walk_at "sd")) | ((with_reducible refine wp_mull ?_ ?_); (walk_at "sd")) | ((with_reducible refine wp_pow ?_ ?_); (walk_at "sd"))
    | ((with_reducible apply wp_lenr); (walk_at "st"))
    | ((with_reducible refine wp_gis ?_ ?_); rfl) | ((with_reducible refine wp_gisn ?_ ?_); rfl)
    | ((with_reducible refine gate_isi ?_); (first | ((with_reducible refine isi_t (r := true) ?_ ?_); (decide +kernel)) | ((with_reducible refine isi_t (r := false) ?_ ?_); (decide +kernel)) | ((with_reducible refine isi_b (r := true) ?_ ?_); (decide +kernel)) | ((with_reducible refine isi_b (r := false) ?_ ?_); (decide +kernel)) | ((with_reducible refine isi_i (r := true) ?_ ?_); (decide +kernel)) | ((with_reducible refine isi_i (r := false) ?_ ?_); (decide +kernel)) | ((with_reducible refine isi_s (r := true) ?_ ?_); (decide +kernel)) | ((with_reducible refine isi_s (r := false) ?_ ?_); (decide +kernel)) | ((with_reducible refine isi_l (r := true) ?_ ?_); (decide +kernel)) | ((with_reducible refine isi_l (r := false) ?_ ?_); (decide +kernel)) | ((with_reducible refine isi_n (r := true) ?_ ?_); (decide +kernel)) | ((with_reducible refine isi_n (r := false) ?_ ?_); (decide +kernel))))
    | ((with_reducible apply wp_tupr); (walk_at "st"))))
  | ((with_reducible refine gate_rq ?_); (first | ((with_reducible apply rq_dt); (walk_at "tk")) | ((with_reducible apply rq_nxt); (walk_at "tk"))))
  | ((with_reducible apply fz_r); (walk_at "st")) | ((with_reducible apply sq_r); (walk_at "st"))
  | ((with_reducible apply atSet_i); (walk_at "st"); rfl) | ((with_reducible apply atLst_i); (walk_at "st")) | ((with_reducible apply nowLst_i); (walk_at "st"))
  | ((with_reducible refine rng1_i ?_ ?_); (walk_at "sd")) | ((with_reducible refine rng2_i ?_ ?_); (walk_at "sd")))
local macro_rules | `(tactic| walk_at "wp") => `(tactic| first
  | with_reducible refine step_of ?_ | ((with_reducible apply wp_var); rfl) | walk_at "wpx")
local macro_rules | `(tactic| walk_at "fdef") => `(tactic| (refine wp_fdef rfl ?_; simp only [List.map_cons, List.map_nil, List.replicate_succ, List.replicate_zero, List.cons_append, List.nil_append]))
/-! ### lists in a drawn order, some twice -/
/-- a list or a tuple of these -/
def Sq (x : PyData) (ds : List PyData) : Prop := x = .list ds ∨ x = .tuple ds
section
variable {S : List MO} {h : Nat} {o : List PyData} {Q : W3 → List MO → Prop}
theorem strewn3 {ds : List PyData} (hl : ds.length ≤ 400) (hh : S[h]? = some (.lst o)) (ho : HandO o) (q : ∀ (x : PyData) (es o' : List PyData), Sq x es → (∃ k, es.Perm (ds ++ ds.take k)) → HandO o' → Q (.d x) (S.set h (.lst o'))) : Wp2 (f3_strewn [.r h, .d (.list ds)] S) Q := by
  unfold f3_strewn
  walk_at "fdef"
  repeat walk_at "wp"
  refine take3 hh ho (by decide) (by decide) fun v o1 v0 v1 ho1 => ?_
  have hh1 : (S.set h (.lst o1))[h]? = some (.lst o1) := get_set hh
  obtain ⟨v, rfl⟩ : ∃ k : Nat, v = (k : Int) := ⟨v.toNat, by omega⟩
  repeat walk_at "wp"
  rw [cutD_to]
  repeat walk_at "wp"
  refine wp_addl (by rw [List.length_take]; omega) ?_
  repeat walk_at "wp"
  refine shuffled3 hh1 ho1 (by rw [List.length_append, List.length_take]; omega) fun es o2 pm ho2 => ?_
  rw [List.set_set]
  have hh2 : (S.set h (.lst o2))[h]? = some (.lst o2) := get_set hh
  repeat walk_at "wp"
  refine take3 hh2 ho2 (by decide) (by decide) fun u o3 u0 u1 ho3 => ?_
  rw [List.set_set]
  repeat walk_at "wp"
  refine ite2 (fun c => ?_) (fun c => ?_)
  · repeat walk_at "wp"
    exact q _ es o3 (.inr rfl) ⟨v, pm⟩ ho3
  · repeat walk_at "wp"
    exact q _ es o3 (.inl rfl) ⟨v, pm⟩ ho3
end
/-- texts in any order, some twice -/
def Str2 (x : PyData) (ns : List Str) : Prop := ∃ ss : List Str, Sq x (ss.map .str) ∧ (∀ s, s ∈ ss ↔ s ∈ ns) ∧ ss.length ≤ 2000
theorem str2_of {x : PyData} {es : List PyData} {ns : List Str} (h : Sq x es) (p : ∃ k, es.Perm (ns.map .str ++ (ns.map .str).take k)) (hl : ns.length ≤ 900) : Str2 x ns := by
  obtain ⟨k, p⟩ := p
  obtain ⟨ss, rfl, pm⟩ := perm_map_inv p (m := ns ++ ns.take k) (by rw [List.map_append, List.map_take])
  refine ⟨ss, h, fun s => ?_, ?_⟩
  · rw [pm.mem_iff, List.mem_append]
    exact ⟨fun h => h.elim id List.mem_of_mem_take, .inl⟩
  · rw [pm.length_eq, List.length_append, List.length_take]; omega
theorem ss_of {x : PyData} {ns : List Str} {S : List MO} (hn : ns.Pairwise slt) (h : Str2 x ns) : gSS S [.d x] = some (ns.map .str) := by
  obtain ⟨ss, hx, hm, hl⟩ := h
  have e0 : sset ltS ss = ns := sset_of strictS (hn.imp fun h => decide_eq_true h) fun s => (hm s).symm
  have e1 : ssD (ss.map .str) = some (ns.map .str) := by rw [ssD_strs hl, e0]
  rcases hx with rfl | rfl
  · exact e1
  · exact e1
/-! ### all settings -/
theorem wp_twoN {α : Type} {ok : List MO → Bool} {g g1 : FG} {t t1 : FT} {it1 : FI} {e : FE} {vs1 : List Nat} {sl : Sl} {S : List MO} {QN : List PyData → List MO → Prop} {ws : List W3} (xs : List α) (w : α → W3) (L : α → List PyData) (hws : ws = xs.map w) (hok : ok S = true) : (∀ x ∈ xs, Wp2 (g (w x) sl S) fun p1 p2 => Wp2 (t p1 p2) fun b S1 => b = true ∧ Wp2 (it1 p1 S1) fun j S2 => Wp2 (cLoop j.ok g1 t1 e (wipe3 p1 vs1) j.ws S2) fun ys S3 => ys = L x ∧ S3 = S) →
    QN (xs.flatMap L) S → Wp2 (cLoop2 ok g t it1 g1 t1 e vs1 sl ws S) QN := by
  subst hws
  suffices k : ∀ (xs : List α), (∀ x ∈ xs, Wp2 (g (w x) sl S) fun p1 p2 => Wp2 (t p1 p2) fun b S1 => b = true ∧ Wp2 (it1 p1 S1) fun j S2 => Wp2 (cLoop j.ok g1 t1 e (wipe3 p1 vs1) j.ws S2) fun ys S3 => ys = L x ∧ S3 = S) → cLoop2 ok g t it1 g1 t1 e vs1 sl (xs.map w) S = some (xs.flatMap L, S) from
    fun h q => wp2_eq (k xs h) q
  intro xs
  induction xs with
  | nil => intro _; rw [List.map_nil, cLoop2, if_pos hok]; rfl
  | cons x r ih =>
    intro h
    obtain ⟨⟨p1, p2⟩, e1, ⟨b, S1⟩, e2, hb, ⟨j, S2⟩, e3, ⟨ys, S3⟩, e4, h5, h6⟩ := h x List.mem_cons_self
    dsimp only at hb e2 e3 e4 h5 h6
    subst hb h5 h6
    rw [List.map_cons, cLoop2, if_pos hok, e1]
    simp only [Option.bind_some, e2, if_true, e3, e4]
    rw [ih fun y hy => h y (List.mem_cons_of_mem _ hy)]
    rfl
theorem wp_nlcN {it it1 : FI} {g g1 : FG} {t t1 : FT} {e : FE} {vs vs1 : List Nat} {sl : Sl} {S : List MO} {QN : List PyData → List MO → Prop} (h : Wp2 (it sl S) fun j S1 => Wp2 (cLoop2 j.ok g t it1 g1 t1 e vs1 (wipe3 sl vs) j.ws S1) fun ys S2 => ys.length ≤ 100000 ∧ QN ys S2) : Wp2 (nLc2 vs vs1 it g t it1 g1 t1 e sl S) QN := by
  obtain ⟨⟨j, S1⟩, e1, ⟨ys, S2⟩, e2, h1, q⟩ := h
  dsimp only at e2 h1 q
  refine wp_eq (a := (ys, S2)) ?_ q
  unfold nLc2
  rw [e1]
  simp only [Option.bind_some, e2]
  rw [if_pos h1]
theorem wp_fgen {np nl iy : Nat} {pre : FS} {ws : List W3} {S : List MO} {Q : List PyData → List MO → Prop} (hl : ws.length = np) (h : Wp (pre (ws.map some ++ List.replicate nl none) S) fun o => Wp2 (retG iy o) Q) : Wp2 (fgenL np nl iy pre ws S) Q := by
  unfold fgenL
  rw [if_pos hl]
  exact wp_bind.mpr h
theorem rg_nx {iy i : Nat} {sl : Sl} {S : List MO} {ds : List PyData} {Q : List PyData → List MO → Prop} (h : sl[iy]? = some (some (.r i))) (e : S[i]? = some (.lst ds)) (q : Q ds S) : Wp2 (retG iy (.nx sl S)) Q := by
  refine wp_eq (a := (ds, S)) ?_ q
  unfold retG
  dsimp only
  rw [h]
  dsimp only
  rw [e]
theorem range_two {α : Type} (g : Nat → α) : ∀ M : Nat, (List.range (2 * M)).map g = (List.range M).flatMap fun j => [g (2 * j), g (2 * j + 1)]
  | 0 => rfl
  | M + 1 => by
    rw [show 2 * (M + 1) = 2 * M + 1 + 1 by omega, List.range_succ, List.range_succ, List.map_append, List.map_append, range_two g M, List.range_succ (n := M), List.flatMap_append, List.append_assoc]; rfl
theorem sets_two {pre : List Str} {a : Str} (h : a ∉ pre) : sets (pre ++ [a]) = (sets pre).flatMap fun s => [s, s ++ [a]] := by
  rw [sets_snoc h, range_two, sets_len]
  unfold sets
  rw [List.flatMap_map]
  congr 1
  funext j
  rw [show 2 * j / 2 = j by omega, show (2 * j + 1) / 2 = j by omega, if_neg (show ¬ 2 * j % 2 = 1 by omega), if_pos (show (2 * j + 1) % 2 = 1 by omega), List.append_nil]
theorem all_settings3 {ns : List Str} {x : PyData} {S : List MO} (hn : NS ns) (hx : Str2 x ns) : ∃ T, f3_all_settings [.d x] S = some ((sets ns).map tupS, S ++ T) := by
  suffices h : Wp2 (f3_all_settings [.d x] S) fun a b => a = (sets ns).map tupS ∧ ∃ T, b = S ++ T by
    obtain ⟨⟨a, b⟩, e, h1, T, h2⟩ := h
    dsimp only at h1 h2
    subst h1 h2
    exact ⟨T, e⟩
  have few := hn.few
  unfold f3_all_settings
  refine wp_fgen rfl ?_
  simp only [List.map_cons, List.map_nil, List.replicate_succ, List.replicate_zero, List.cons_append, List.nil_append]
  repeat walk_at "wp"
  refine wp_eq (ss_of hn.srt hx) ?_
  repeat walk_at "wp"
  refine wp_loop (n := 0) (fun i sl S' => ∃ (T : List MO) (a b c : Option W3), sl = [some (.d x), some (.r (S ++ T).length), a, b, c] ∧ S' = S ++ T ++ [.lst ((sets (ns.take i)).map tupS)]) ⟨[], none, none, none, by rw [List.append_nil]; rfl, by rw [List.append_nil]; rfl⟩ (fun _ _ _ _ => rfl) (fun i w sl S' hw hi hp => ?_) (fun sl S' hp => ?_)
  · obtain ⟨T, a0, b, c, rfl, rfl⟩ := hp
    obtain ⟨d, hd, rfl⟩ := ws_get hw
    rw [List.getElem?_map, Nat.sub_zero] at hd
    obtain ⟨a, ha, rfl⟩ := Option.map_eq_some_iff.mp hd
    have hlt : i < ns.length := (List.getElem?_eq_some_iff.mp ha).1
    have et : ns.take (i + 1) = ns.take i ++ [a] := by rw [List.take_succ, ha]; rfl
    have na : a ∉ ns.take i := fun m => by
      have nd := hn.nd
      rw [← List.take_append_drop (i + 1) ns, et] at nd
      exact (List.nodup_append.mp (List.nodup_append.mp nd).1).2.2 _ m _ (by simp) rfl
    have hsz : (sets (ns.take i)).length ≤ 4096 := by
      rw [sets_len, List.length_take]
      exact Nat.le_trans (Nat.pow_le_pow_right (by decide) (show min i ns.length ≤ 12 by omega)) (by decide)
    have hLl : ∀ r ∈ sets (ns.take i), r.length ≤ 12 := fun r hr => by
      obtain ⟨k, _, rfl⟩ := List.mem_map.mp hr
      refine Nat.le_trans (List.length_filter_le _ _) ?_
      rw [List.length_take]; omega
    rw [et, sets_two na]
    generalize sets (ns.take i) = L at hsz hLl ⊢
    have hS : (S ++ T ++ [MO.lst (L.map tupS)])[(S ++ T).length]? = some (.lst (L.map tupS)) := List.getElem?_concat_length
    generalize hS' : S ++ T ++ [MO.lst (L.map tupS)] = S1 at hS ⊢
    repeat walk_at "wp"
    refine wp_nlcN ?_
    repeat walk_at "wp"
    refine wp_twoN L (fun s => .d (tupS s)) (fun s => [tupS s, tupS (s ++ [a])]) (by rw [List.map_map]; rfl) (seqOk_r hS) (fun s hs => ?_) ?_
    · have hrl := hLl s hs
      repeat walk_at "wp"
      refine ⟨rfl, ?_⟩
      repeat walk_at "wp"
      refine wp_all [[], [a]] (fun m => .d (tupS m)) (fun m => tupS (s ++ m)) rfl rfl (fun m hm => ?_) ?_ gnm_st
      · have hml : m.length ≤ 1 := by
          simp only [List.mem_cons, List.not_mem_nil, or_false] at hm
          rcases hm with rfl | rfl
          · exact Nat.zero_le _
          · exact Nat.le_refl _
        repeat walk_at "wp"
        refine wp_addt (by rw [List.length_map, List.length_map]; omega) ?_
        rw [← List.map_append]
        exact ⟨rfl, rfl⟩
      · rw [List.map_cons, List.map_cons, List.map_nil, List.append_nil]
        exact ⟨rfl, rfl⟩
    · have fl : ∀ l : List (List Str), (l.flatMap fun s => [tupS s, tupS (s ++ [a])]) = (l.flatMap fun s => [s, s ++ [a]]).map tupS := fun l => by
        rw [List.map_flatMap]; rfl
      have ll : ∀ l : List (List Str), (l.flatMap fun s => [s, s ++ [a]]).length = 2 * l.length := fun l => by
        induction l with
        | nil => rfl
        | cons y r ih =>
          rw [List.flatMap_cons, List.length_append, ih]
          show 2 + 2 * r.length = 2 * (r.length + 1)
          omega
      rw [fl]
      refine ⟨by rw [List.length_map, ll]; omega, ?_⟩
      repeat walk_at "wp"
      refine ⟨T ++ [.lst (L.map tupS)], some (.d (.str a)), b, c, ?_, by rw [← hS', List.append_assoc S T]⟩
      rw [← hS', List.append_assoc S T]
      rfl
  · obtain ⟨T, a0, b, c, rfl, rfl⟩ := hp
    rw [List.length_map, List.length_map, Nat.zero_add, List.take_length]
    refine rg_nx rfl (List.getElem?_concat_length) ⟨rfl, _, List.append_assoc _ _ _⟩
end EA
namespace EA
open PySem PySem.Spec PyProof.Rows L2
local macro_rules | `(tactic| walk_at "ix") => `(tactic| first | rfl | exact atI_cons0 | exact atI_map0)
local macro_rules | `(tactic| walk_at "st") => `(tactic| first | assumption | rfl | exact get_set (by assumption) | exact get_set (get_set (by assumption)) | exact get_last | exact get_setlast | exact get_setapp (by assumption) | exact get_app (by assumption) | exact get_app (get_set (by assumption)))
local macro_rules | `(tactic| walk_at "tk") => `(tactic| first | exact List.take_length | exact take_set | exact take_set2 | exact take_set3 | exact take_app | exact take_aset | exact take_setapp | rfl)
local macro_rules | `(tactic| walk_at "sd") => `(tactic| first | omega | assumption | decide)
local macro_rules | `(tactic| walk_at "wpx") => `(tactic| first
  | with_reducible refine ite2 (fun _ => ?_) (fun z => absurd rfl z)
  | with_reducible refine ite2 (fun z => absurd z Bool.false_ne_true) (fun _ => ?_)
  | ((with_reducible refine gate_wp ?_); (first
    | ((with_reducible apply wp_viewr); (walk_at "st")) | ((with_reducible apply wp_lat); (walk_at "st"))
    | ((with_reducible refine gate_eq ?_); (first | with_reducible refine wp_geqs ?_ | with_reducible refine wp_geqb ?_ | with_reducible refine wp_geq_nil ?_))
    | ((with_reducible refine gate_ne ?_); (first | with_reducible refine wp_gnes ?_ | with_reducible refine wp_gneb ?_ | with_reducible refine wp_gne_nil ?_))
    | ((with_reducible refine gate_ix ?_); (first | ((with_reducible apply wp_ixd); (walk_at "ix")) | ((with_reducible apply wp_ixt); (walk_at "ix")) | ((with_reducible apply wp_ixr); (walk_at "st"); (walk_at "ix"))))
    | ((with_reducible apply wp_trur); (walk_at "st"))
    | ((with_reducible refine wp_l4s ?_ ?_); (first | omega | assumption | decide +kernel)) | with_reducible refine wp_l4 ?_ | ((with_reducible apply wp_l3r); (walk_at "st"))
    | ((with_reducible refine wp_mod ?_ ?_); (walk_at "sd")) | ((with_reducible refine wp_fdiv ?_ ?_); (walk_at "sd")) | ((with_reducible refine wp_mulr ?_ ?_); (walk_at "sd")) | ((with_reducible refine wp_mull ?_ ?_); (walk_at "sd")) | ((with_reducible refine wp_pow ?_ ?_); (walk_at "sd"))
    | ((with_reducible apply wp_lenr); (walk_at "st"))
    | ((with_reducible refine wp_gis ?_ ?_); rfl) | ((with_reducible refine wp_gisn ?_ ?_); rfl)
    | ((with_reducible refine gate_isi ?_); (first | ((with_reducible refine isi_t (r := true) ?_ ?_); (decide +kernel)) | ((with_reducible refine isi_t (r := false) ?_ ?_); (decide +kernel)) | ((with_reducible refine isi_b (r := true) ?_ ?_); (decide +kernel)) | ((with_reducible refine isi_b (r := false) ?_ ?_); (decide +kernel)) | ((with_reducible refine isi_i (r := true) ?_ ?_); (decide +kernel)) | ((with_reducible refine isi_i (r := false) ?_ ?_); (decide +kernel)) | ((with_reducible refine isi_s (r := true) ?_ ?_); (decide +kernel)) | ((with_reducible refine isi_s (r := false) ?_ ?_); (decide +kernel)) | ((with_reducible refine isi_l (r := true) ?_ ?_); (decide +kernel)) | ((with_reducible refine isi_l (r := false) ?_ ?_); (decide +kernel)) | ((with_reducible refine isi_n (r := true) ?_ ?_); (decide +kernel)) | ((with_reducible refine isi_n (r := false) ?_ ?_); (decide +kernel))))
    | ((with_reducible apply wp_tupr); (walk_at "st"))))
  | ((with_reducible refine gate_rq ?_); (first | ((with_reducible apply rq_dt); (walk_at "tk")) | ((with_reducible apply rq_nxt); (walk_at "tk"))))
  | ((with_reducible apply fz_r); (walk_at "st")) | ((with_reducible apply sq_r); (walk_at "st"))
  | ((with_reducible apply atSet_i); (walk_at "st"); rfl) | ((with_reducible apply atLst_i); (walk_at "st")) | ((with_reducible apply nowLst_i); (walk_at "st"))
  | ((with_reducible refine rng1_i ?_ ?_); (walk_at "sd")) | ((with_reducible refine rng2_i ?_ ?_); (walk_at "sd")))
local macro_rules | `(tactic| walk_at "wp") => `(tactic| first
  | with_reducible refine step_of ?_ | ((with_reducible apply wp_var); rfl) | walk_at "wpx")
local macro_rules | `(tactic| walk_at "fdef") => `(tactic| (refine wp_fdef rfl ?_; simp only [List.map_cons, List.map_nil, List.replicate_succ, List.replicate_zero, List.cons_append, List.nil_append]))
/-! ### how many settings -/
def cn : List Str → C → Nat
  | [], c => if c.ev (fun _ => false) = true then 1 else 0
  | x :: xs, c => cn xs (c.side x true) + cn xs (c.side x false)
theorem cn_b (v : Bool) : ∀ ms : List Str, cn ms (.b v) = if v = true then 2 ^ ms.length else 0
  | [] => rfl
  | x :: xs => by
    show cn xs (.b v) + cn xs (.b v) = _
    rw [cn_b v xs, List.length_cons, Nat.pow_succ]
    cases v
    · rfl
    · show 2 ^ xs.length + 2 ^ xs.length = 2 ^ xs.length * 2
      omega
theorem oc_side {y : Str} {ys : List Str} {c : C} (hn : NS (y :: ys)) (hc : OC (y :: ys) c) (o : Bool) : OC ys (c.side y o) :=
  OC.sides (pre := []) hn hc (fun s x z e => by
    subst e
    have hs : s ∈ y :: ys := hc.vars s List.mem_cons_self
    rcases List.mem_cons.mp hs with rfl | hs
    · exact slt_irrefl _
    · exact slt_asymm ((List.pairwise_cons.mp hn.srt).1 s hs)) o
theorem side_vars {c : C} {s : Str} {o : Bool} {q : Str} (h : q ∉ c.vars) : q ∉ (c.side s o).vars := by
  cases c with
  | b v => exact h
  | nd t x y =>
    have h : q ∉ t :: (x.vars ++ y.vars) := h
    have es : (C.nd t x y).side s o = if t = s then (if o = true then x else y) else .nd t x y := rfl
    rw [es]
    by_cases e : t = s
    · rw [if_pos e]
      cases o
      · exact fun m => h (List.mem_cons_of_mem _ (List.mem_append_right _ m))
      · exact fun m => h (List.mem_cons_of_mem _ (List.mem_append_left _ m))
    · rw [if_neg e]; exact h
theorem side_same {c : C} {s : Str} {o : Bool} (h : s ∉ c.vars) : c.side s o = c := by
  cases c with
  | b v => rfl
  | nd t x y =>
    unfold C.side
    exact if_neg fun e => h (by rw [e]; exact List.mem_cons_self)
theorem cn_ins {q : Str} {post : List Str} : ∀ {pre : List Str} {c : C}, q ∉ c.vars → cn (pre ++ q :: post) c = 2 * cn (pre ++ post) c
  | [], c, h => by
    show cn post (c.side q true) + cn post (c.side q false) = 2 * cn post c
    rw [side_same h, side_same h]; omega
  | x :: xs, c, h => by
    show cn (xs ++ q :: post) (c.side x true) + cn (xs ++ q :: post) (c.side x false) = 2 * (cn (xs ++ post) (c.side x true) + cn (xs ++ post) (c.side x false))
    rw [cn_ins (side_vars h), cn_ins (side_vars h)]; omega
theorem cn_count : ∀ {ms : List Str} {c : C}, NS ms → OC ms c → cn ms c = ((List.range (2 ^ ms.length)).filter fun k => c.ev (asg ms k)).length
  | [], c, _, hc => by
    obtain ⟨v, rfl⟩ := hc.bool_of
    cases v <;> rfl
  | x :: xs, c, hn, hc => by
    have hn' : NS xs := NS.suf (pre := [x]) hn
    have nx : x ∉ xs := (List.nodup_cons.mp hn.nd).1
    have o1 := oc_side hn hc true
    have o0 := oc_side hn hc false
    show cn xs (c.side x true) + cn xs (c.side x false) = _
    rw [cn_count hn' o1, cn_count hn' o0, List.length_cons, Nat.pow_succ, show 2 ^ xs.length * 2 = 2 ^ xs.length + 2 ^ xs.length by omega, List.range_add, List.filter_append, List.length_append, List.filter_map, List.length_map, Nat.add_comm]
    congr 2
    · refine List.filter_congr fun k hk => ?_
      have hk := List.mem_range.mp hk
      have hf : asg (x :: xs) k x = false := by rw [asg_lo hk, if_pos rfl]
      rw [C.ev_side _ x c, hf]
      exact (ev_lo o0 nx hk).symm
    · refine List.filter_congr fun k hk => ?_
      have hk := List.mem_range.mp hk
      have hf : asg (x :: xs) (2 ^ xs.length + k) x = true := by rw [asg_hi hk, if_pos rfl]
      show _ = c.ev (asg (x :: xs) (2 ^ xs.length + k))
      rw [C.ev_side _ x c, hf]
      exact (ev_hi o1 nx hk).symm
theorem counted3 : ∀ (n : Nat) {ns : List Str} {c : C} {at_ : Nat} {S : List MO}, NS ns → at_ ≤ ns.length → OC (ns.drop at_) c → ns.length - at_ < n → f3_counted n [.d c.enc, .d (strsD ns), .d (.int (at_ : Nat))] S = some (.d (.int (cn (ns.drop at_) c : Nat)), S)
  | 0, _, _, _, _, _, _, _, h => absurd h (Nat.not_lt_zero _)
  | n + 1, ns, c, at_, S, hn, ha, hc, hl => by
    have few := hn.few
    refine eq_of ?_
    unfold f3_counted
    cases c with
    | b v =>
      simp only [C.enc]
      cases v with
      | false =>
        walk_at "fdef"
        repeat walk_at "wp"
        rw [cn_b]
        exact ⟨rfl, rfl⟩
      | true =>
        walk_at "fdef"
        repeat walk_at "wp"
        refine wp_eq (gI_ok (decide_eq_true ⟨by rw [List.length_map]; omega, by rw [List.length_map]; omega, by decide⟩)) ?_
        repeat walk_at "wp"
        rw [cn_b, if_pos rfl, List.length_drop]
        refine ⟨?_, rfl⟩
        rw [List.length_map, Int.one_mul, show (((ns.length : Nat) : Int) - (at_ : Nat)).toNat = ns.length - at_ by omega]
        push_cast
        rfl
    | nd t x y =>
      cases e : ns.drop at_ with
      | nil =>
        rw [e] at hc
        obtain ⟨v, hv⟩ := hc.bool_of
        cases hv
      | cons z zs =>
        have hlt : at_ < ns.length := by
          have := congrArg List.length e
          rw [List.length_drop, List.length_cons] at this; omega
        have hz : ns[at_]? = some z := by
          have := congrArg (·[0]?) e
          simpa using this
        have ed : ns.drop (at_ + 1) = zs := by rw [← List.drop_drop, e]; rfl
        have hs : NS (z :: zs) := by
          have h : NS (ns.take at_ ++ ns.drop at_) := by rw [List.take_append_drop]; exact hn
          rw [← e]; exact h.suf
        rw [e] at hc
        have o1 := oc_side hs hc true
        have o0 := oc_side hs hc false
        have hix : atI (ns.map PyData.str) (at_ : Int) = some (.str z) := atI_at (by rw [List.getElem?_map, hz]; rfl)
        have r1 := counted3 n (S := S) hn (show at_ + 1 ≤ ns.length by omega) (by rw [ed]; exact o1) (by omega)
        have r0 := counted3 n (S := S) hn (show at_ + 1 ≤ ns.length by omega) (by rw [ed]; exact o0) (by omega)
        rw [ed] at r1 r0
        have ei : (at_ : Int) + 1 = ((at_ + 1 : Nat) : Int) := by omega
        have ec : (C.nd t x y).enc = .tuple [.str t, x.enc, y.enc] := rfl
        have sd := fun o => side3 (S := S) (c := .nd t x y) (s := z) (o := o)
        rw [ec] at sd ⊢
        walk_at "fdef"
        repeat walk_at "wp"
        refine wp_ixd hix ?_
        repeat walk_at "wp"
        refine wp2_eq (sd true) ?_
        repeat walk_at "wp"
        rw [ei]
        refine wp2_eq r1 ?_
        repeat walk_at "wp"
        refine wp_ixd hix ?_
        repeat walk_at "wp"
        refine wp2_eq (sd false) ?_
        repeat walk_at "wp"
        rw [ei]
        refine wp2_eq r0 ?_
        repeat walk_at "wp"
        refine ⟨?_, rfl⟩
        show _ = W3.d (.int ((cn zs ((C.nd t x y).side z true) + cn zs ((C.nd t x y).side z false) : Nat) : Int))
        push_cast
        rfl
theorem count_settings3 {ns : List Str} {c : C} {x : PyData} {S : List MO} (hn : NS ns) (hc : OC ns c) (hx : Str2 x ns) : f3_count_settings [.d c.enc, .d x] S = some (.d (.int (cn ns c : Nat)), S) := by
  have few := hn.few
  refine eq_of ?_
  unfold f3_count_settings
  walk_at "fdef"
  repeat walk_at "wp"
  refine wp_eq (ss_of hn.srt hx) ?_
  repeat walk_at "wp"
  refine wp2_eq (counted3 60 (at_ := 0) hn (Nat.zero_le _) hc (by omega)) ?_
  repeat walk_at "wp"
  exact ⟨rfl, rfl⟩
end EA
namespace EA
open PySem PySem.Spec PyProof.Rows L2
local macro_rules | `(tactic| walk_at "ix") => `(tactic| first | rfl | exact atI_cons0 | exact atI_map0)
local macro_rules | `(tactic| walk_at "st") => `(tactic| first | assumption | rfl | exact get_set (by assumption) | exact get_set (get_set (by assumption)) | exact get_last | exact get_setlast | exact get_setapp (by assumption) | exact get_app (by assumption) | exact get_app (get_set (by assumption)))
local macro_rules | `(tactic| walk_at "tk") => `(tactic| first | exact List.take_length | exact take_set | exact take_set2 | exact take_set3 | exact take_app | exact take_aset | exact take_setapp | rfl)
local macro_rules | `(tactic| walk_at "sd") => `(tactic| first | omega | assumption | decide)
local macro_rules | `(tactic| walk_at "wpx") => `(tactic| first
  | with_reducible refine ite2 (fun _ => ?_) (fun z => absurd rfl z)
  | with_reducible refine ite2 (fun z => absurd z Bool.false_ne_true) (fun _ => ?_)
  | ((with_reducible refine gate_wp ?_); (first
    | ((with_reducible apply wp_viewr); (walk_at "st")) | ((with_reducible apply wp_lat); (walk_at "st"))
    | ((with_reducible refine gate_eq ?_); (first | with_reducible refine wp_geqs ?_ | with_reducible refine wp_geqb ?_ | with_reducible refine wp_geq_nil ?_))
    | ((with_reducible refine gate_ne ?_); (first | with_reducible refine wp_gnes ?_ | with_reducible refine wp_gneb ?_ | with_reducible refine wp_gne_nil ?_))
    | ((with_reducible refine gate_ix ?_); (first | ((with_reducible apply wp_ixd); (walk_at "ix")) | ((with_reducible apply wp_ixt); (walk_at "ix")) | ((with_reducible apply wp_ixr); (walk_at "st"); (walk_at "ix"))))
    | ((with_reducible apply wp_trur); (walk_at "st"))
    | ((with_reducible refine wp_l4s ?_ ?_); (first | omega | assumption | decide +kernel)) | with_reducible refine wp_l4 ?_ | ((with_reducible apply wp_l3r); (walk_at "st"))
    | ((with_reducible refine wp_mod ?_ ?_); (walk_at "sd")) | ((with_reducible refine wp_fdiv ?_ ?_); (walk_at "sd")) | ((with_reducible refine wp_mulr ?_ ?_); (walk_at "sd")) | ((with_reducible refine wp_mull ?_ ?_); (walk_at "sd")) | ((with_reducible refine wp_pow ?_ ?_); (walk_at "sd"))
    | ((with_reducible apply wp_lenr); (walk_at "st"))
    | ((with_reducible refine wp_gis ?_ ?_); rfl) | ((with_reducible refine wp_gisn ?_ ?_); rfl)
    | ((with_reducible refine gate_isi ?_); (first | ((with_reducible refine isi_t (r := true) ?_ ?_); (decide +kernel)) | ((with_reducible refine isi_t (r := false) ?_ ?_); (decide +kernel)) | ((with_reducible refine isi_b (r := true) ?_ ?_); (decide +kernel)) | ((with_reducible refine isi_b (r := false) ?_ ?_); (decide +kernel)) | ((with_reducible refine isi_i (r := true) ?_ ?_); (decide +kernel)) | ((with_reducible refine isi_i (r := false) ?_ ?_); (decide +kernel)) | ((with_reducible refine isi_s (r := true) ?_ ?_); (decide +kernel)) | ((with_reducible refine isi_s (r := false) ?_ ?_); (decide +kernel)) | ((with_reducible refine isi_l (r := true) ?_ ?_); (decide +kernel)) | ((with_reducible refine isi_l (r := false) ?_ ?_); (decide +kernel)) | ((with_reducible refine isi_n (r := true) ?_ ?_); (decide +kernel)) | ((with_reducible refine isi_n (r := false) ?_ ?_); (decide +kernel))))
    | ((with_reducible apply wp_tupr); (walk_at "st"))))
  | ((with_reducible refine gate_rq ?_); (first | ((with_reducible apply rq_dt); (walk_at "tk")) | ((with_reducible apply rq_nxt); (walk_at "tk"))))
  | ((with_reducible apply fz_r); (walk_at "st")) | ((with_reducible apply sq_r); (walk_at "st"))
  | ((with_reducible apply atSet_i); (walk_at "st"); rfl) | ((with_reducible apply atLst_i); (walk_at "st")) | ((with_reducible apply nowLst_i); (walk_at "st"))
  | ((with_reducible refine rng1_i ?_ ?_); (walk_at "sd")) | ((with_reducible refine rng2_i ?_ ?_); (walk_at "sd")))
local macro_rules | `(tactic| walk_at "wp") => `(tactic| first
  | with_reducible refine step_of ?_ | ((with_reducible apply wp_var); rfl) | walk_at "wpx")
local macro_rules | `(tactic| walk_at "fdef") => `(tactic| (refine wp_fdef rfl ?_; simp only [List.map_cons, List.map_nil, List.replicate_succ, List.replicate_zero, List.cons_append, List.nil_append]))
/-! ### a condition grown from settings -/
/-- the setting p agrees with f at these switches -/
def agr (ms : List Str) (f : Str → Bool) (ss : List Str) : Bool := ms.all fun s => f s == decide (s ∈ ss)
theorem agr_cons {z : Str} {zs : List Str} {f : Str → Bool} {ss : List Str} : agr (z :: zs) f ss = ((f z == decide (z ∈ ss)) && agr zs f ss) := rfl
theorem any_filter2 {α : Type} (p q : α → Bool) : ∀ l : List α, (l.filter p).any q = l.any fun a => p a && q a
  | [] => rfl
  | x :: l => by
    rw [List.filter_cons, List.any_cons]
    cases e : p x with
    | true => rw [if_pos rfl, List.any_cons, any_filter2 p q l]; rfl
    | false => rw [if_neg (by decide), any_filter2 p q l]; rfl
theorem grownS3 : ∀ (n : Nat) {ns : List Str} {ps : List (PyData × List Str)} {at_ : Nat} {S : List MO}, NS ns → at_ ≤ ns.length → ns.length - at_ < n → ps.length ≤ 5000 → (∀ p ∈ ps, Sq p.1 (p.2.map .str)) →
    ∃ c, OC (ns.drop at_) c ∧ (∀ f, c.ev f = ps.any fun p => agr (ns.drop at_) f p.2) ∧ f3_grown n [.d (.list (ps.map (·.1))), .d (strsD ns), .d (.int (at_ : Nat))] S = some (.d c.enc, S)
  | 0, _, _, _, _, _, _, h, _, _ => absurd h (Nat.not_lt_zero _)
  | n + 1, ns, [], at_, S, hn, ha, hl, _, hp => by
    refine ⟨.b false, .leaf _, fun _ => rfl, eq_of ?_⟩
    unfold f3_grown
    walk_at "fdef"
    repeat walk_at "wp"
    exact ⟨rfl, rfl⟩
  | n + 1, ns, p0 :: pr, at_, S, hn, ha, hl, h5, hp => by
    have few := hn.few
    cases e : ns.drop at_ with
    | nil =>
      have hat : at_ = ns.length := by
        have := congrArg List.length e
        rw [List.length_drop, List.length_nil] at this; omega
      refine ⟨.b true, .leaf _, fun _ => rfl, eq_of ?_⟩
      unfold f3_grown
      walk_at "fdef"
      repeat walk_at "wp"
      rw [show (p0.1 :: pr.map (·.1)).isEmpty = false from rfl]
      refine ite2 (fun z => absurd z (by decide)) fun _ => ?_
      repeat walk_at "wp"
      rw [show (((at_ : Nat) : Int) == (((ns.map PyData.str).length : Nat) : Int)) = true by rw [List.length_map, hat]; exact beq_self_eq_true _]
      repeat walk_at "wp"
      exact ⟨rfl, rfl⟩
    | cons z zs =>
      have hlt : at_ < ns.length := by
        have := congrArg List.length e
        rw [List.length_drop, List.length_cons] at this; omega
      have hz : ns[at_]? = some z := by
        have := congrArg (·[0]?) e
        simpa using this
      have ed : ns.drop (at_ + 1) = zs := by rw [← List.drop_drop, e]; rfl
      have hix : atI (ns.map PyData.str) (at_ : Int) = some (.str z) := atI_at (by rw [List.getElem?_map, hz]; rfl)
      have ei : (at_ : Int) + 1 = ((at_ + 1 : Nat) : Int) := by omega
      have lt1 : ∀ q : PyData × List Str → Bool, ((p0 :: pr).filter q).length ≤ 5000 := fun q => Nat.le_trans (List.length_filter_le _ _) h5
      have sq1 : ∀ q : PyData × List Str → Bool, ∀ p ∈ (p0 :: pr).filter q, Sq p.1 (p.2.map .str) := fun q p hm => hp p (List.mem_filter.mp hm).1
      obtain ⟨c1, o1, v1, r1⟩ := grownS3 n (ps := (p0 :: pr).filter fun p => decide (z ∈ p.2)) (S := S) hn (show at_ + 1 ≤ ns.length by omega) (by omega) (lt1 _) (sq1 _)
      obtain ⟨c0, o0, v0, r0⟩ := grownS3 n (ps := (p0 :: pr).filter fun p => !decide (z ∈ p.2)) (S := S) hn (show at_ + 1 ≤ ns.length by omega) (by omega) (lt1 _) (sq1 _)
      rw [ed] at o1 o0 v1 v0
      refine ⟨C.formed z c1 c0, OC.formed o1 o0, fun f => ?_, eq_of ?_⟩
      · rw [C.ev_formed, v1, v0, any_filter2, any_filter2]
        simp only [agr_cons]
        cases f z with
        | true =>
          rw [if_pos rfl]
          congr 1
          funext p
          cases decide (z ∈ p.2) <;> rfl
        | false =>
          rw [if_neg (by decide)]
          congr 1
          funext p
          cases decide (z ∈ p.2) <;> rfl
      · have hl0 : zs.length ≤ 40 := by
          have := congrArg List.length e
          rw [List.length_drop, List.length_cons] at this; omega
        generalize hps : p0 :: pr = ps at *
        unfold f3_grown
        walk_at "fdef"
        have ne : (ps.map (·.1)).isEmpty = false := by rw [← hps]; rfl
        repeat walk_at "wp"
        rw [ne]
        refine ite2 (fun z => absurd z (by decide)) fun _ => ?_
        repeat walk_at "wp"
        rw [show (((at_ : Nat) : Int) == (((ns.map PyData.str).length : Nat) : Int)) = false by rw [List.length_map]; exact beq_eq_false_iff_ne.mpr (by omega)]
        repeat walk_at "wp"
        refine ⟨by rw [List.length_map, List.length_map]; omega, ?_⟩
        refine wp_pure ps (fun p => .d p.1) (fun p => decide (z ∈ p.2)) (·.1) (by rw [List.map_map]; rfl) rfl (fun p hpm => ?_) ?_
        · repeat walk_at "wp"
          refine wp_ixd hix ?_
          repeat walk_at "wp"
          rcases hp p hpm with e1 | e1
          · rw [e1]
            refine wp_gin_sl ?_
            refine ⟨rfl, rfl, fun _ => ?_⟩
            repeat walk_at "wp"
            rw [← e1]
            exact ⟨rfl, rfl⟩
          · rw [e1]
            refine wp_gin_st ?_
            refine ⟨rfl, rfl, fun _ => ?_⟩
            repeat walk_at "wp"
            rw [← e1]
            exact ⟨rfl, rfl⟩
        repeat walk_at "wp"
        refine ⟨by rw [List.length_map, List.length_map]; omega, ?_⟩
        refine wp_pure ps (fun p => .d p.1) (fun p => !decide (z ∈ p.2)) (·.1) (by rw [List.map_map]; rfl) rfl (fun p hpm => ?_) ?_
        · repeat walk_at "wp"
          refine wp_ixd hix ?_
          repeat walk_at "wp"
          rcases hp p hpm with e1 | e1
          · rw [e1]
            refine wp_gnin_sl ?_
            refine ⟨rfl, rfl, fun _ => ?_⟩
            repeat walk_at "wp"
            rw [← e1]
            exact ⟨rfl, rfl⟩
          · rw [e1]
            refine wp_gnin_st ?_
            refine ⟨rfl, rfl, fun _ => ?_⟩
            repeat walk_at "wp"
            rw [← e1]
            exact ⟨rfl, rfl⟩
        repeat walk_at "wp"
        refine wp_ixd hix ?_
        repeat walk_at "wp"
        rw [ei]
        refine wp2_eq r1 ?_
        repeat walk_at "wp"
        rw [ei]
        refine wp2_eq r0 ?_
        repeat walk_at "wp"
        refine wp2_eq (formed3 o1 hl0) ?_
        repeat walk_at "wp"
        exact ⟨rfl, rfl⟩
/-- the whole: x holds the settings in any order, some twice -/
theorem from_settings3 {ns : List Str} {ps : List (PyData × List Str)} {x y : PyData} {S : List MO} (hn : NS ns) (h5 : ps.length ≤ 2000) (hp : ∀ p ∈ ps, Sq p.1 (p.2.map .str)) (hx : ∃ es, Sq x es ∧ ∃ k, es.Perm (ps.map (·.1) ++ (ps.map (·.1)).take k)) (hy : Str2 y ns) :
    ∃ c, OC ns c ∧ (∀ f, c.ev f = ps.any fun p => agr ns f p.2) ∧ f3_from_settings [.d x, .d y] S = some (.d c.enc, S) := by
  have few := hn.few
  obtain ⟨es, hx, k, pm⟩ := hx
  obtain ⟨qs, rfl, pq⟩ := perm_map_inv pm (m := ps ++ ps.take k) (by rw [List.map_append, List.map_take])
  have hql : qs.length ≤ 5000 := by rw [pq.length_eq, List.length_append, List.length_take]; omega
  have hqm : ∀ p, p ∈ qs ↔ p ∈ ps := fun p => by
    rw [pq.mem_iff, List.mem_append]
    exact ⟨fun h => h.elim id List.mem_of_mem_take, .inl⟩
  obtain ⟨c, oc, ev, r⟩ := grownS3 60 (ps := qs) (at_ := 0) (S := S) hn (Nat.zero_le _) (by omega) hql fun p hm => hp p ((hqm p).mp hm)
  refine ⟨c, oc, fun f => ?_, eq_of ?_⟩
  · rw [ev, List.drop_zero, Bool.eq_iff_iff, List.any_eq_true, List.any_eq_true]
    exact ⟨fun ⟨p, h1, h2⟩ => ⟨p, (hqm p).mp h1, h2⟩, fun ⟨p, h1, h2⟩ => ⟨p, (hqm p).mpr h1, h2⟩⟩
  unfold f3_from_settings
  walk_at "fdef"
  repeat walk_at "wp"
  have l4 : gLst3 S [.d x] = some (qs.map (·.1)) := by
    rcases hx with rfl | rfl
    · rfl
    · rfl
  refine wp_eq l4 ?_
  repeat walk_at "wp"
  refine wp_eq (ss_of hn.srt hy) ?_
  repeat walk_at "wp"
  refine wp2_eq r ?_
  repeat walk_at "wp"
  exact ⟨rfl, rfl⟩
end EA
namespace EA
open PySem PySem.Spec PyProof.Rows L2
local macro_rules | `(tactic| walk_at "ix") => `(tactic| first | rfl | exact atI_cons0 | exact atI_map0)
local macro_rules | `(tactic| walk_at "st") => `(tactic| first | assumption | rfl | exact get_set (by assumption) | exact get_set (get_set (by assumption)) | exact get_last | exact get_setlast | exact get_setapp (by assumption) | exact get_app (by assumption) | exact get_app (get_set (by assumption)))
local macro_rules | `(tactic| walk_at "tk") => `(tactic| first | exact List.take_length | exact take_set | exact take_set2 | exact take_set3 | exact take_app | exact take_aset | exact take_setapp | rfl)
local macro_rules | `(tactic| walk_at "sd") => `(tactic| first | omega | assumption | decide)
local macro_rules | `(tactic| walk_at "wpx") => `(tactic| first
  | with_reducible refine ite2 (fun _ => ?_) (fun z => absurd rfl z)
  | with_reducible refine ite2 (fun z => absurd z Bool.false_ne_true) (fun _ => ?_)
  | ((with_reducible refine gate_wp ?_); (first
    | ((with_reducible apply wp_viewr); (walk_at "st")) | ((with_reducible apply wp_lat); (walk_at "st"))
    | ((with_reducible refine gate_eq ?_); (first | with_reducible refine wp_geqs ?_ | with_reducible refine wp_geqb ?_ | with_reducible refine wp_geq_nil ?_))
    | ((with_reducible refine gate_ne ?_); (first | with_reducible refine wp_gnes ?_ | with_reducible refine wp_gneb ?_ | with_reducible refine wp_gne_nil ?_))
    | ((with_reducible refine gate_ix ?_); (first | ((with_reducible apply wp_ixd); (walk_at "ix")) | ((with_reducible apply wp_ixt); (walk_at "ix")) | ((with_reducible apply wp_ixr); (walk_at "st"); (walk_at "ix"))))
    | ((with_reducible apply wp_trur); (walk_at "st"))
    | ((with_reducible refine wp_l4s ?_ ?_); (first | omega | assumption | decide +kernel)) | with_reducible refine wp_l4 ?_ | ((with_reducible apply wp_l3r); (walk_at "st"))
    | ((with_reducible refine wp_mod ?_ ?_); (walk_at "sd")) | ((with_reducible refine wp_fdiv ?_ ?_); (walk_at "sd")) | ((with_reducible refine wp_mulr ?_ ?_); (walk_at "sd")) | ((with_reducible refine wp_mull ?_ ?_); (walk_at "sd")) | ((with_reducible refine wp_pow ?_ ?_); (walk_at "sd"))
    | ((with_reducible apply wp_lenr); (walk_at "st"))
    | ((with_reducible refine wp_gis ?_ ?_); rfl) | ((with_reducible refine wp_gisn ?_ ?_); rfl)
    | ((with_reducible refine gate_isi ?_); (first | ((with_reducible refine isi_t (r := true) ?_ ?_); (decide +kernel)) | ((with_reducible refine isi_t (r := false) ?_ ?_); (decide +kernel)) | ((with_reducible refine isi_b (r := true) ?_ ?_); (decide +kernel)) | ((with_reducible refine isi_b (r := false) ?_ ?_); (decide +kernel)) | ((with_reducible refine isi_i (r := true) ?_ ?_); (decide +kernel)) | ((with_reducible refine isi_i (r := false) ?_ ?_); (decide +kernel)) | ((with_reducible refine isi_s (r := true) ?_ ?_); (decide +kernel)) | ((with_reducible refine isi_s (r := false) ?_ ?_); (decide +kernel)) | ((with_reducible refine isi_l (r := true) ?_ ?_); (decide +kernel)) | ((with_reducible refine isi_l (r := false) ?_ ?_); (decide +kernel)) | ((with_reducible refine isi_n (r := true) ?_ ?_); (decide +kernel)) | ((with_reducible refine isi_n (r := false) ?_ ?_); (decide +kernel))))
    | ((with_reducible apply wp_tupr); (walk_at "st"))))
  | ((with_reducible refine gate_rq ?_); (first | ((with_reducible apply rq_dt); (walk_at "tk")) | ((with_reducible apply rq_nxt); (walk_at "tk"))))
  | ((with_reducible apply fz_r); (walk_at "st")) | ((with_reducible apply sq_r); (walk_at "st"))
  | ((with_reducible apply atSet_i); (walk_at "st"); rfl) | ((with_reducible apply atLst_i); (walk_at "st")) | ((with_reducible apply nowLst_i); (walk_at "st"))
  | ((with_reducible refine rng1_i ?_ ?_); (walk_at "sd")) | ((with_reducible refine rng2_i ?_ ?_); (walk_at "sd")))
local macro_rules | `(tactic| walk_at "wp") => `(tactic| first
  | with_reducible refine step_of ?_ | ((with_reducible apply wp_var); rfl) | walk_at "wpx")
local macro_rules | `(tactic| walk_at "fdef") => `(tactic| (refine wp_fdef rfl ?_; simp only [List.map_cons, List.map_nil, List.replicate_succ, List.replicate_zero, List.cons_append, List.nil_append]))
local macro_rules | `(tactic| walk_at "keq") => `(tactic| first
  | refine wp_geqD (c := false) (.inr (by decide +kernel)) rfl ?_ | refine wp_geqD (c := true) (.inr (by decide +kernel)) rfl ?_)
local macro_rules | `(tactic| walk_at "wk") => `(tactic| first
  | with_reducible refine step_of ?_ | ((with_reducible apply wp_var); rfl)
  | ((with_reducible refine gate_wp ?_); (first
    | with_reducible refine wp_geqsD (c := false) (by decide +kernel) ?_ | with_reducible refine wp_geqsD (c := true) (by decide +kernel) ?_
    | with_reducible refine wp_gnesD (c := false) (by decide +kernel) ?_ | with_reducible refine wp_gnesD (c := true) (by decide +kernel) ?_
    | with_reducible refine wp_gin_lit (c := true) (by decide +kernel) ?_ | with_reducible refine wp_gin_lit (c := false) (by decide +kernel) ?_))
  | with_reducible refine ite_t rfl ?_ | with_reducible refine ite_f rfl ?_
  | walk_at "wpx")
local macro_rules | `(tactic| walk_at "w1") => `(tactic| (fail_if_success (with_reducible refine th_nx ?_)); walk_at "wk")
/-! ### terms -/
inductive Hd where
  | atom (w : Str) (r : List PyData)
  | arrow
  | cell
  | tuple
  | row (w : Str) (ls : List Str) (tl : Option Int)
  | data (d : Str)
inductive Tm where
  | letter (k : Int)
  | node (hd : Hd) (ps : List Tm)
def optI : Option Int → PyData
  | some r => .int r
  | none => .none
def fieldsD (ls : List Str) (ps : List PyData) : List PyData := (ls.zip ps).map fun q => .tuple [.str q.1, q.2]
def Hd.word : Hd → Str
  | .atom w _ => w
  | .arrow => "arrow"
  | .cell => "cell"
  | .tuple => "tuple"
  | .row w _ _ => w
  | .data _ => "data"
def Hd.rest : Hd → List PyData → List PyData
  | .atom _ r, _ => r
  | .arrow, ps => ps
  | .cell, ps => ps
  | .tuple, ps => [.tuple ps]
  | .row _ ls t, ps => [.tuple (fieldsD ls ps), optI t]
  | .data d, ps => [.str d, .tuple ps]
def Hd.build (hd : Hd) (ps : List PyData) : PyData := .tuple (.str hd.word :: hd.rest ps)
/-- n parts; b: a row may stand here -/
def Hd.fits (b : Bool) : Hd → Nat → Prop
  | .atom w r, n => (w = "int" ∨ w = "bool" ∨ w = "hidden" ∨ w = "stone") ∧ n = 0 ∧ ∃ ss : List Str, ss.length ≤ 2 ∧ r = ss.map .str
  | .arrow, n => n = 2
  | .cell, n => n = 1
  | .tuple, n => n ≤ 5
  | .row w ls _, n => (w = "record" ∨ w = "variant" ∨ (b = true ∧ w = "row")) ∧ ls.length = n ∧ n ≤ 5
  | .data _, n => n ≤ 5
def Hd.tail : Hd → Option Int
  | .row _ _ t => t
  | _ => none
def Hd.setTail (t : Option Int) : Hd → Hd
  | .row w ls _ => .row w ls t
  | h => h
def Hd.labels : Hd → List Str
  | .row _ ls _ => ls
  | _ => []
mutual
def Tm.enc : Tm → PyData
  | .letter k => .tuple [.str "letter", .int k]
  | .node hd ps => hd.build (encM ps)
def encM : List Tm → List PyData
  | [] => []
  | p :: ps => p.enc :: encM ps
end
/-- h: as many levels; PL, PR: of the letters, the row letters -/
inductive TOk (PL PR : Int → Prop) : Bool → Nat → Tm → Prop
  | letter {b : Bool} {h : Nat} {k : Int} : PL k → TOk PL PR b h (.letter k)
  | leaf {b : Bool} {h : Nat} {hd : Hd} : hd.fits b 0 → hd.tail = none → TOk PL PR b h (.node hd [])
  | node {b : Bool} {h : Nat} {hd : Hd} {ps : List Tm} : hd.fits b ps.length → (∀ r, hd.tail = some r → PR r) → (∀ p ∈ ps, TOk PL PR false h p) → TOk PL PR b (h + 1) (.node hd ps)
theorem TOk.mono {PL PR : Int → Prop} {b : Bool} {h : Nat} {t : Tm} (o : TOk PL PR b h t) : ∀ {k : Nat}, h ≤ k → TOk PL PR b k t := by
  induction o with
  | letter a => intro k _; exact .letter a
  | leaf a c => intro k _; exact .leaf a c
  | node a c d ih => intro k hk; obtain ⟨k, rfl⟩ : ∃ x, k = x + 1 := ⟨k - 1, by omega⟩; exact .node a c fun p hp => ih p hp (by omega)
theorem TOk.imp {PL PR PL' PR' : Int → Prop} {b : Bool} {h : Nat} {t : Tm} (o : TOk PL PR b h t) (i : ∀ k, PL k → PL' k) (j : ∀ k, PR k → PR' k) : TOk PL' PR' b h t := by
  induction o with
  | letter a => exact .letter (i _ a)
  | leaf a c => exact .leaf a c
  | node a c d ih => exact .node a (fun r e => j r (c r e)) ih
end EA
namespace EA
open PySem PySem.Spec PyProof.Rows L2
local macro_rules | `(tactic| walk_at "ix") => `(tactic| first | rfl | exact atI_cons0 | exact atI_map0)
local macro_rules | `(tactic| walk_at "st") => `(tactic| first | assumption | rfl | exact get_set (by assumption) | exact get_set (get_set (by assumption)) | exact get_last | exact get_setlast | exact get_setapp (by assumption) | exact get_app (by assumption) | exact get_app (get_set (by assumption)))
local macro_rules | `(tactic| walk_at "tk") => `(tactic| first | exact List.take_length | exact take_set | exact take_set2 | exact take_set3 | exact take_app | exact take_aset | exact take_setapp | rfl)
local macro_rules | `(tactic| walk_at "sd") => `(tactic| first | omega | assumption | decide)
local macro_rules | `(tactic| walk_at "wpx") => `(tactic| first
  | with_reducible refine ite2 (fun _ => ?_) (fun z => absurd rfl z)
  | with_reducible refine ite2 (fun z => absurd z Bool.false_ne_true) (fun _ => ?_)
  | ((with_reducible refine gate_wp ?_); (first
    | ((with_reducible apply wp_viewr); (walk_at "st")) | ((with_reducible apply wp_lat); (walk_at "st"))
    | ((with_reducible refine gate_eq ?_); (first | with_reducible refine wp_geqs ?_ | with_reducible refine wp_geqb ?_ | with_reducible refine wp_geq_nil ?_))
    | ((with_reducible refine gate_ne ?_); (first | with_reducible refine wp_gnes ?_ | with_reducible refine wp_gneb ?_ | with_reducible refine wp_gne_nil ?_))
    | ((with_reducible refine gate_ix ?_); (first | ((with_reducible apply wp_ixd); (walk_at "ix")) | ((with_reducible apply wp_ixt); (walk_at "ix")) | ((with_reducible apply wp_ixr); (walk_at "st"); (walk_at "ix"))))
    | ((with_reducible apply wp_trur); (walk_at "st"))
    | ((with_reducible refine wp_l4s ?_ ?_); (first | omega | assumption | decide +kernel)) | with_reducible refine wp_l4 ?_ | ((with_reducible apply wp_l3r); (walk_at "st"))
    | ((with_reducible refine wp_mod ?_ ?_); (walk_at "sd")) | ((with_reducible refine wp_fdiv ?_ ?_); (walk_at "sd")) | ((with_reducible refine wp_mulr ?_ ?_); (walk_at "sd")) | ((with_reducible refine wp_mull ?_ ?_); (walk_at "sd")) | ((with_reducible refine wp_pow ?_ ?_); (walk_at "sd"))
    | ((with_reducible apply wp_lenr); (walk_at "st"))
    | ((with_reducible refine wp_gis ?_ ?_); rfl) | ((with_reducible refine wp_gisn ?_ ?_); rfl)
    | ((with_reducible refine gate_isi ?_); (first | ((with_reducible refine isi_t (r := true) ?_ ?_); (decide +kernel)) | ((with_reducible refine isi_t (r := false) ?_ ?_); (decide +kernel)) | ((with_reducible refine isi_b (r := true) ?_ ?_); (decide +kernel)) | ((with_reducible refine isi_b (r := false) ?_ ?_); (decide +kernel)) | ((with_reducible refine isi_i (r := true) ?_ ?_); (decide +kernel)) | ((with_reducible refine isi_i (r := false) ?_ ?_); (decide +kernel)) | ((with_reducible refine isi_s (r := true) ?_ ?_); (decide +kernel)) | ((with_reducible refine isi_s (r := false) ?_ ?_); (decide +kernel)) | ((with_reducible refine isi_l (r := true) ?_ ?_); (decide +kernel)) | ((with_reducible refine isi_l (r := false) ?_ ?_); (decide +kernel)) | ((with_reducible refine isi_n (r := true) ?_ ?_); (decide +kernel)) | ((with_reducible refine isi_n (r := false) ?_ ?_); (decide +kernel))))
    | ((with_reducible apply wp_tupr); (walk_at "st"))))
  | ((with_reducible refine gate_rq ?_); (first | ((with_reducible apply rq_dt); (walk_at "tk")) | ((with_reducible apply rq_nxt); (walk_at "tk"))))
  | ((with_reducible apply fz_r); (walk_at "st")) | ((with_reducible apply sq_r); (walk_at "st"))
  | ((with_reducible apply atSet_i); (walk_at "st"); rfl) | ((with_reducible apply atLst_i); (walk_at "st")) | ((with_reducible apply nowLst_i); (walk_at "st"))
  | ((with_reducible refine rng1_i ?_ ?_); (walk_at "sd")) | ((with_reducible refine rng2_i ?_ ?_); (walk_at "sd")))
local macro_rules | `(tactic| walk_at "wp") => `(tactic| first
  | with_reducible refine step_of ?_ | ((with_reducible apply wp_var); rfl) | walk_at "wpx")
local macro_rules | `(tactic| walk_at "fdef") => `(tactic| (refine wp_fdef rfl ?_; simp only [List.map_cons, List.map_nil, List.replicate_succ, List.replicate_zero, List.cons_append, List.nil_append]))
local macro_rules | `(tactic| walk_at "keq") => `(tactic| first
  | refine wp_geqD (c := false) (.inr (by decide +kernel)) rfl ?_ | refine wp_geqD (c := true) (.inr (by decide +kernel)) rfl ?_)
local macro_rules | `(tactic| walk_at "wk") => `(tactic| first
  | with_reducible refine step_of ?_ | ((with_reducible apply wp_var); rfl)
  | ((with_reducible refine gate_wp ?_); (first
    | with_reducible refine wp_geqsD (c := false) (by decide +kernel) ?_ | with_reducible refine wp_geqsD (c := true) (by decide +kernel) ?_
    | with_reducible refine wp_gnesD (c := false) (by decide +kernel) ?_ | with_reducible refine wp_gnesD (c := true) (by decide +kernel) ?_
    | with_reducible refine wp_gin_lit (c := true) (by decide +kernel) ?_ | with_reducible refine wp_gin_lit (c := false) (by decide +kernel) ?_))
  | with_reducible refine ite_t rfl ?_ | with_reducible refine ite_f rfl ?_
  | walk_at "wpx")
local macro_rules | `(tactic| walk_at "w1") => `(tactic| (fail_if_success (with_reducible refine th_nx ?_)); walk_at "wk")
end EA
namespace EA
open PySem PySem.Spec PyProof.Rows L2
local macro_rules | `(tactic| walk_at "ix") => `(tactic| first | rfl | exact atI_cons0 | exact atI_map0)
local macro_rules | `(tactic| walk_at "st") => `(tactic| first | assumption | rfl | exact get_set (by assumption) | exact get_set (get_set (by assumption)) | exact get_last | exact get_setlast | exact get_setapp (by assumption) | exact get_app (by assumption) | exact get_app (get_set (by assumption)))
local macro_rules | `(tactic| walk_at "tk") => `(tactic| first | exact List.take_length | exact take_set | exact take_set2 | exact take_set3 | exact take_app | exact take_aset | exact take_setapp | rfl)
local macro_rules | `(tactic| walk_at "sd") => `(tactic| first | omega | assumption | decide)
local macro_rules | `(tactic| walk_at "wpx") => `(tactic| first
  | with_reducible refine ite2 (fun _ => ?_) (fun z => absurd rfl z)
  | with_reducible refine ite2 (fun z => absurd z Bool.false_ne_true) (fun _ => ?_)
  | ((with_reducible refine gate_wp ?_); (first
    | ((with_reducible apply wp_viewr); (walk_at "st")) | ((with_reducible apply wp_lat); (walk_at "st"))
    | ((with_reducible refine gate_eq ?_); (first | with_reducible refine wp_geqs ?_ | with_reducible refine wp_geqb ?_ | with_reducible refine wp_geq_nil ?_))
    | ((with_reducible refine gate_ne ?_); (first | with_reducible refine wp_gnes ?_ | with_reducible refine wp_gneb ?_ | with_reducible refine wp_gne_nil ?_))
    | ((with_reducible refine gate_ix ?_); (first | ((with_reducible apply wp_ixd); (walk_at "ix")) | ((with_reducible apply wp_ixt); (walk_at "ix")) | ((with_reducible apply wp_ixr); (walk_at "st"); (walk_at "ix"))))
    | ((with_reducible apply wp_trur); (walk_at "st"))
    | ((with_reducible refine wp_l4s ?_ ?_); (first | omega | assumption | decide +kernel)) | with_reducible refine wp_l4 ?_ | ((with_reducible apply wp_l3r); (walk_at "st"))
    | ((with_reducible refine wp_mod ?_ ?_); (walk_at "sd")) | ((with_reducible refine wp_fdiv ?_ ?_); (walk_at "sd")) | ((with_reducible refine wp_mulr ?_ ?_); (walk_at "sd")) | ((with_reducible refine wp_mull ?_ ?_); (walk_at "sd")) | ((with_reducible refine wp_pow ?_ ?_); (walk_at "sd"))
    | ((with_reducible apply wp_lenr); (walk_at "st"))
    | ((with_reducible refine wp_gis ?_ ?_); rfl) | ((with_reducible refine wp_gisn ?_ ?_); rfl)
    | ((with_reducible refine gate_isi ?_); (first | ((with_reducible refine isi_t (r := true) ?_ ?_); (decide +kernel)) | ((with_reducible refine isi_t (r := false) ?_ ?_); (decide +kernel)) | ((with_reducible refine isi_b (r := true) ?_ ?_); (decide +kernel)) | ((with_reducible refine isi_b (r := false) ?_ ?_); (decide +kernel)) | ((with_reducible refine isi_i (r := true) ?_ ?_); (decide +kernel)) | ((with_reducible refine isi_i (r := false) ?_ ?_); (decide +kernel)) | ((with_reducible refine isi_s (r := true) ?_ ?_); (decide +kernel)) | ((with_reducible refine isi_s (r := false) ?_ ?_); (decide +kernel)) | ((with_reducible refine isi_l (r := true) ?_ ?_); (decide +kernel)) | ((with_reducible refine isi_l (r := false) ?_ ?_); (decide +kernel)) | ((with_reducible refine isi_n (r := true) ?_ ?_); (decide +kernel)) | ((with_reducible refine isi_n (r := false) ?_ ?_); (decide +kernel))))
    | ((with_reducible apply wp_tupr); (walk_at "st"))))
  | ((with_reducible refine gate_rq ?_); (first | ((with_reducible apply rq_dt); (walk_at "tk")) | ((with_reducible apply rq_nxt); (walk_at "tk"))))
  | ((with_reducible apply fz_r); (walk_at "st")) | ((with_reducible apply sq_r); (walk_at "st"))
  | ((with_reducible apply atSet_i); (walk_at "st"); rfl) | ((with_reducible apply atLst_i); (walk_at "st")) | ((with_reducible apply nowLst_i); (walk_at "st"))
  | ((with_reducible refine rng1_i ?_ ?_); (walk_at "sd")) | ((with_reducible refine rng2_i ?_ ?_); (walk_at "sd")))
local macro_rules | `(tactic| walk_at "wp") => `(tactic| first
  | with_reducible refine step_of ?_ | ((with_reducible apply wp_var); rfl) | walk_at "wpx")
local macro_rules | `(tactic| walk_at "fdef") => `(tactic| (refine wp_fdef rfl ?_; simp only [List.map_cons, List.map_nil, List.replicate_succ, List.replicate_zero, List.cons_append, List.nil_append]))
local macro_rules | `(tactic| walk_at "keq") => `(tactic| first
  | refine wp_geqD (c := false) (.inr (by decide +kernel)) rfl ?_ | refine wp_geqD (c := true) (.inr (by decide +kernel)) rfl ?_)
local macro_rules | `(tactic| walk_at "wk") => `(tactic| first
  | with_reducible refine step_of ?_ | ((with_reducible apply wp_var); rfl)
  | ((with_reducible refine gate_wp ?_); (first
    | with_reducible refine wp_geqsD (c := false) (by decide +kernel) ?_ | with_reducible refine wp_geqsD (c := true) (by decide +kernel) ?_
    | with_reducible refine wp_gnesD (c := false) (by decide +kernel) ?_ | with_reducible refine wp_gnesD (c := true) (by decide +kernel) ?_
    | with_reducible refine wp_gin_lit (c := true) (by decide +kernel) ?_ | with_reducible refine wp_gin_lit (c := false) (by decide +kernel) ?_))
  | with_reducible refine ite_t rfl ?_ | with_reducible refine ite_f rfl ?_
  | walk_at "wpx")
local macro_rules | `(tactic| walk_at "w1") => `(tactic| (fail_if_success (with_reducible refine th_nx ?_)); walk_at "wk")
/-! ### of the law -/
end EA
namespace EA
open PySem PySem.Spec PyProof.Rows L2
local macro_rules | `(tactic| walk_at "ix") => `(tactic| first | rfl | exact atI_cons0 | exact atI_map0)
local macro_rules | `(tactic| walk_at "st") => `(tactic| first | assumption | rfl | exact get_set (by assumption) | exact get_set (get_set (by assumption)) | exact get_last | exact get_setlast | exact get_setapp (by assumption) | exact get_app (by assumption) | exact get_app (get_set (by assumption)))
local macro_rules | `(tactic| walk_at "tk") => `(tactic| first | exact List.take_length | exact take_set | exact take_set2 | exact take_set3 | exact take_app | exact take_aset | exact take_setapp | rfl)
local macro_rules | `(tactic| walk_at "sd") => `(tactic| first | omega | assumption | decide)
local macro_rules | `(tactic| walk_at "wpx") => `(tactic| first
  | with_reducible refine ite2 (fun _ => ?_) (fun z => absurd rfl z)
  | with_reducible refine ite2 (fun z => absurd z Bool.false_ne_true) (fun _ => ?_)
  | ((with_reducible refine gate_wp ?_); (first
    | ((with_reducible apply wp_viewr); (walk_at "st")) | ((with_reducible apply wp_lat); (walk_at "st"))
    | ((with_reducible refine gate_eq ?_); (first | with_reducible refine wp_geqs ?_ | with_reducible refine wp_geqb ?_ | with_reducible refine wp_geq_nil ?_))
    | ((with_reducible refine gate_ne ?_); (first | with_reducible refine wp_gnes ?_ | with_reducible refine wp_gneb ?_ | with_reducible refine wp_gne_nil ?_))
    | ((with_reducible refine gate_ix ?_); (first | ((with_reducible apply wp_ixd); (walk_at "ix")) | ((with_reducible apply wp_ixt); (walk_at "ix")) | ((with_reducible apply wp_ixr); (walk_at "st"); (walk_at "ix"))))
    | ((with_reducible apply wp_trur); (walk_at "st"))
    | ((with_reducible refine wp_l4s ?_ ?_); (first | omega | assumption | decide +kernel)) | with_reducible refine wp_l4 ?_ | ((with_reducible apply wp_l3r); (walk_at "st"))
    | ((with_reducible refine wp_mod ?_ ?_); (walk_at "sd")) | ((with_reducible refine wp_fdiv ?_ ?_); (walk_at "sd")) | ((with_reducible refine wp_mulr ?_ ?_); (walk_at "sd")) | ((with_reducible refine wp_mull ?_ ?_); (walk_at "sd")) | ((with_reducible refine wp_pow ?_ ?_); (walk_at "sd"))
    | ((with_reducible apply wp_lenr); (walk_at "st"))
    | ((with_reducible refine wp_gis ?_ ?_); rfl) | ((with_reducible refine wp_gisn ?_ ?_); rfl)
    | ((with_reducible refine gate_isi ?_); (first | ((with_reducible refine isi_t (r := true) ?_ ?_); (decide +kernel)) | ((with_reducible refine isi_t (r := false) ?_ ?_); (decide +kernel)) | ((with_reducible refine isi_b (r := true) ?_ ?_); (decide +kernel)) | ((with_reducible refine isi_b (r := false) ?_ ?_); (decide +kernel)) | ((with_reducible refine isi_i (r := true) ?_ ?_); (decide +kernel)) | ((with_reducible refine isi_i (r := false) ?_ ?_); (decide +kernel)) | ((with_reducible refine isi_s (r := true) ?_ ?_); (decide +kernel)) | ((with_reducible refine isi_s (r := false) ?_ ?_); (decide +kernel)) | ((with_reducible refine isi_l (r := true) ?_ ?_); (decide +kernel)) | ((with_reducible refine isi_l (r := false) ?_ ?_); (decide +kernel)) | ((with_reducible refine isi_n (r := true) ?_ ?_); (decide +kernel)) | ((with_reducible refine isi_n (r := false) ?_ ?_); (decide +kernel))))
    | ((with_reducible apply wp_tupr); (walk_at "st"))))
  | ((with_reducible refine gate_rq ?_); (first | ((with_reducible apply rq_dt); (walk_at "tk")) | ((with_reducible apply rq_nxt); (walk_at "tk"))))
  | ((with_reducible apply fz_r); (walk_at "st")) | ((with_reducible apply sq_r); (walk_at "st"))
  | ((with_reducible apply atSet_i); (walk_at "st"); rfl) | ((with_reducible apply atLst_i); (walk_at "st")) | ((with_reducible apply nowLst_i); (walk_at "st"))
  | ((with_reducible refine rng1_i ?_ ?_); (walk_at "sd")) | ((with_reducible refine rng2_i ?_ ?_); (walk_at "sd")))
local macro_rules | `(tactic| walk_at "wp") => `(tactic| first
  | with_reducible refine step_of ?_ | ((with_reducible apply wp_var); rfl) | walk_at "wpx")
local macro_rules | `(tactic| walk_at "fdef") => `(tactic| (refine wp_fdef rfl ?_; simp only [List.map_cons, List.map_nil, List.replicate_succ, List.replicate_zero, List.cons_append, List.nil_append]))
local macro_rules | `(tactic| walk_at "keq") => `(tactic| first
  | refine wp_geqD (c := false) (.inr (by decide +kernel)) rfl ?_ | refine wp_geqD (c := true) (.inr (by decide +kernel)) rfl ?_)
local macro_rules | `(tactic| walk_at "wk") => `(tactic| first
  | with_reducible refine step_of ?_ | ((with_reducible apply wp_var); rfl)
  | ((with_reducible refine gate_wp ?_); (first
    | with_reducible refine wp_geqsD (c := false) (by decide +kernel) ?_ | with_reducible refine wp_geqsD (c := true) (by decide +kernel) ?_
    | with_reducible refine wp_gnesD (c := false) (by decide +kernel) ?_ | with_reducible refine wp_gnesD (c := true) (by decide +kernel) ?_
    | with_reducible refine wp_gin_lit (c := true) (by decide +kernel) ?_ | with_reducible refine wp_gin_lit (c := false) (by decide +kernel) ?_))
  | with_reducible refine ite_t rfl ?_ | with_reducible refine ite_f rfl ?_
  | walk_at "wpx")
local macro_rules | `(tactic| walk_at "w1") => `(tactic| (fail_if_success (with_reducible refine th_nx ?_)); walk_at "wk")
/-! ### the labels beside row letters -/
def Hd.bl (r : Int) (hd : Hd) : List Str := if hd.tail = some r then hd.labels else []
abbrev BM := List (Int × List Str)
def lkB : BM → Int → List Str
  | [], _ => []
  | (q, l) :: m, r => if q = r then l else lkB m r
/-- what a walk does to what is told -/
structure BesQ (sn : List (Bool × Int)) (bs : Int → List Str) (m m' : BM) : Prop where
  keys : ∀ r, r ∈ m'.map (·.1) ↔ r ∈ m.map (·.1) ∨ (true, r) ∈ sn
  mem : ∀ r s, s ∈ lkB m' r ↔ s ∈ lkB m r ∨ s ∈ bs r
  len : ∀ r, (lkB m' r).length = (lkB m r).length + (bs r).length
  num : m'.length ≤ m.length + sn.length
theorem BesQ.nil {m : BM} : BesQ [] (fun _ => []) m m := ⟨fun r => by simp, fun r s => by simp, fun r => rfl, Nat.le_refl _⟩
theorem BesQ.trans {s1 s2 : List (Bool × Int)} {b1 b2 : Int → List Str} {m m1 m2 : BM} (h : BesQ s1 b1 m m1) (k : BesQ s2 b2 m1 m2) : BesQ (s1 ++ s2) (fun r => b1 r ++ b2 r) m m2 :=
  ⟨fun r => by rw [k.keys, h.keys, List.mem_append, or_assoc], fun r s => by rw [k.mem, h.mem, List.mem_append, or_assoc], fun r => by rw [k.len, h.len, List.length_append]; omega, by have := h.num; have := k.num; rw [List.length_append]; omega⟩
end EA
namespace EA
open PySem PySem.Spec PyProof.Rows L2
local macro_rules | `(tactic| walk_at "ix") => `(tactic| first | rfl | exact atI_cons0 | exact atI_map0)
local macro_rules | `(tactic| walk_at "st") => `(tactic| first | assumption | rfl | exact get_set (by assumption) | exact get_set (get_set (by assumption)) | exact get_last | exact get_setlast | exact get_setapp (by assumption) | exact get_app (by assumption) | exact get_app (get_set (by assumption)))
local macro_rules | `(tactic| walk_at "tk") => `(tactic| first | exact List.take_length | exact take_set | exact take_set2 | exact take_set3 | exact take_app | exact take_aset | exact take_setapp | rfl)
local macro_rules | `(tactic| walk_at "sd") => `(tactic| first | omega | assumption | decide)
local macro_rules | `(tactic| walk_at "wpx") => `(tactic| first
  | with_reducible refine ite2 (fun _ => ?_) (fun z => absurd rfl z)
  | with_reducible refine ite2 (fun z => absurd z Bool.false_ne_true) (fun _ => ?_)
  | ((with_reducible refine gate_wp ?_); (first
    | ((with_reducible apply wp_viewr); (walk_at "st")) | ((with_reducible apply wp_lat); (walk_at "st"))
    | ((with_reducible refine gate_eq ?_); (first | with_reducible refine wp_geqs ?_ | with_reducible refine wp_geqb ?_ | with_reducible refine wp_geq_nil ?_))
    | ((with_reducible refine gate_ne ?_); (first | with_reducible refine wp_gnes ?_ | with_reducible refine wp_gneb ?_ | with_reducible refine wp_gne_nil ?_))
    | ((with_reducible refine gate_ix ?_); (first | ((with_reducible apply wp_ixd); (walk_at "ix")) | ((with_reducible apply wp_ixt); (walk_at "ix")) | ((with_reducible apply wp_ixr); (walk_at "st"); (walk_at "ix"))))
    | ((with_reducible apply wp_trur); (walk_at "st"))
    | ((with_reducible refine wp_l4s ?_ ?_); (first | omega | assumption | decide +kernel)) | with_reducible refine wp_l4 ?_ | ((with_reducible apply wp_l3r); (walk_at "st"))
    | ((with_reducible refine wp_mod ?_ ?_); (walk_at "sd")) | ((with_reducible refine wp_fdiv ?_ ?_); (walk_at "sd")) | ((with_reducible refine wp_mulr ?_ ?_); (walk_at "sd")) | ((with_reducible refine wp_mull ?_ ?_); (walk_at "sd")) | ((with_reducible refine wp_pow ?_ ?_); (walk_at "sd"))
    | ((with_reducible apply wp_lenr); (walk_at "st"))
    | ((with_reducible refine wp_gis ?_ ?_); rfl) | ((with_reducible refine wp_gisn ?_ ?_); rfl)
    | ((with_reducible refine gate_isi ?_); (first | ((with_reducible refine isi_t (r := true) ?_ ?_); (decide +kernel)) | ((with_reducible refine isi_t (r := false) ?_ ?_); (decide +kernel)) | ((with_reducible refine isi_b (r := true) ?_ ?_); (decide +kernel)) | ((with_reducible refine isi_b (r := false) ?_ ?_); (decide +kernel)) | ((with_reducible refine isi_i (r := true) ?_ ?_); (decide +kernel)) | ((with_reducible refine isi_i (r := false) ?_ ?_); (decide +kernel)) | ((with_reducible refine isi_s (r := true) ?_ ?_); (decide +kernel)) | ((with_reducible refine isi_s (r := false) ?_ ?_); (decide +kernel)) | ((with_reducible refine isi_l (r := true) ?_ ?_); (decide +kernel)) | ((with_reducible refine isi_l (r := false) ?_ ?_); (decide +kernel)) | ((with_reducible refine isi_n (r := true) ?_ ?_); (decide +kernel)) | ((with_reducible refine isi_n (r := false) ?_ ?_); (decide +kernel))))
    | ((with_reducible apply wp_tupr); (walk_at "st"))))
  | ((with_reducible refine gate_rq ?_); (first | ((with_reducible apply rq_dt); (walk_at "tk")) | ((with_reducible apply rq_nxt); (walk_at "tk"))))
  | ((with_reducible apply fz_r); (walk_at "st")) | ((with_reducible apply sq_r); (walk_at "st"))
  | ((with_reducible apply atSet_i); (walk_at "st"); rfl) | ((with_reducible apply atLst_i); (walk_at "st")) | ((with_reducible apply nowLst_i); (walk_at "st"))
  | ((with_reducible refine rng1_i ?_ ?_); (walk_at "sd")) | ((with_reducible refine rng2_i ?_ ?_); (walk_at "sd")))
local macro_rules | `(tactic| walk_at "wp") => `(tactic| first
  | with_reducible refine step_of ?_ | ((with_reducible apply wp_var); rfl) | walk_at "wpx")
local macro_rules | `(tactic| walk_at "fdef") => `(tactic| (refine wp_fdef rfl ?_; simp only [List.map_cons, List.map_nil, List.replicate_succ, List.replicate_zero, List.cons_append, List.nil_append]))
local macro_rules | `(tactic| walk_at "keq") => `(tactic| first
  | refine wp_geqD (c := false) (.inr (by decide +kernel)) rfl ?_ | refine wp_geqD (c := true) (.inr (by decide +kernel)) rfl ?_)
local macro_rules | `(tactic| walk_at "wk") => `(tactic| first
  | with_reducible refine step_of ?_ | ((with_reducible apply wp_var); rfl)
  | ((with_reducible refine gate_wp ?_); (first
    | with_reducible refine wp_geqsD (c := false) (by decide +kernel) ?_ | with_reducible refine wp_geqsD (c := true) (by decide +kernel) ?_
    | with_reducible refine wp_gnesD (c := false) (by decide +kernel) ?_ | with_reducible refine wp_gnesD (c := true) (by decide +kernel) ?_
    | with_reducible refine wp_gin_lit (c := true) (by decide +kernel) ?_ | with_reducible refine wp_gin_lit (c := false) (by decide +kernel) ?_))
  | with_reducible refine ite_t rfl ?_ | with_reducible refine ite_f rfl ?_
  | walk_at "wpx")
local macro_rules | `(tactic| walk_at "w1") => `(tactic| (fail_if_success (with_reducible refine th_nx ?_)); walk_at "wk")
end EA
namespace EA
open PySem PySem.Spec PyProof.Rows L2
local macro_rules | `(tactic| walk_at "ix") => `(tactic| first | rfl | exact atI_cons0 | exact atI_map0)
local macro_rules | `(tactic| walk_at "st") => `(tactic| first | assumption | rfl | exact get_set (by assumption) | exact get_set (get_set (by assumption)) | exact get_last | exact get_setlast | exact get_setapp (by assumption) | exact get_app (by assumption) | exact get_app (get_set (by assumption)))
local macro_rules | `(tactic| walk_at "tk") => `(tactic| first | exact List.take_length | exact take_set | exact take_set2 | exact take_set3 | exact take_app | exact take_aset | exact take_setapp | rfl)
local macro_rules | `(tactic| walk_at "sd") => `(tactic| first | omega | assumption | decide)
local macro_rules | `(tactic| walk_at "wpx") => `(tactic| first
  | with_reducible refine ite2 (fun _ => ?_) (fun z => absurd rfl z)
  | with_reducible refine ite2 (fun z => absurd z Bool.false_ne_true) (fun _ => ?_)
  | ((with_reducible refine gate_wp ?_); (first
    | ((with_reducible apply wp_viewr); (walk_at "st")) | ((with_reducible apply wp_lat); (walk_at "st"))
    | ((with_reducible refine gate_eq ?_); (first | with_reducible refine wp_geqs ?_ | with_reducible refine wp_geqb ?_ | with_reducible refine wp_geq_nil ?_))
    | ((with_reducible refine gate_ne ?_); (first | with_reducible refine wp_gnes ?_ | with_reducible refine wp_gneb ?_ | with_reducible refine wp_gne_nil ?_))
    | ((with_reducible refine gate_ix ?_); (first | ((with_reducible apply wp_ixd); (walk_at "ix")) | ((with_reducible apply wp_ixt); (walk_at "ix")) | ((with_reducible apply wp_ixr); (walk_at "st"); (walk_at "ix"))))
    | ((with_reducible apply wp_trur); (walk_at "st"))
    | ((with_reducible refine wp_l4s ?_ ?_); (first | omega | assumption | decide +kernel)) | with_reducible refine wp_l4 ?_ | ((with_reducible apply wp_l3r); (walk_at "st"))
    | ((with_reducible refine wp_mod ?_ ?_); (walk_at "sd")) | ((with_reducible refine wp_fdiv ?_ ?_); (walk_at "sd")) | ((with_reducible refine wp_mulr ?_ ?_); (walk_at "sd")) | ((with_reducible refine wp_mull ?_ ?_); (walk_at "sd")) | ((with_reducible refine wp_pow ?_ ?_); (walk_at "sd"))
    | ((with_reducible apply wp_lenr); (walk_at "st"))
    | ((with_reducible refine wp_gis ?_ ?_); rfl) | ((with_reducible refine wp_gisn ?_ ?_); rfl)
    | ((with_reducible refine gate_isi ?_); (first | ((with_reducible refine isi_t (r := true) ?_ ?_); (decide +kernel)) | ((with_reducible refine isi_t (r := false) ?_ ?_); (decide +kernel)) | ((with_reducible refine isi_b (r := true) ?_ ?_); (decide +kernel)) | ((with_reducible refine isi_b (r := false) ?_ ?_); (decide +kernel)) | ((with_reducible refine isi_i (r := true) ?_ ?_); (decide +kernel)) | ((with_reducible refine isi_i (r := false) ?_ ?_); (decide +kernel)) | ((with_reducible refine isi_s (r := true) ?_ ?_); (decide +kernel)) | ((with_reducible refine isi_s (r := false) ?_ ?_); (decide +kernel)) | ((with_reducible refine isi_l (r := true) ?_ ?_); (decide +kernel)) | ((with_reducible refine isi_l (r := false) ?_ ?_); (decide +kernel)) | ((with_reducible refine isi_n (r := true) ?_ ?_); (decide +kernel)) | ((with_reducible refine isi_n (r := false) ?_ ?_); (decide +kernel))))
    | ((with_reducible apply wp_tupr); (walk_at "st"))))
  | ((with_reducible refine gate_rq ?_); (first | ((with_reducible apply rq_dt); (walk_at "tk")) | ((with_reducible apply rq_nxt); (walk_at "tk"))))
  | ((with_reducible apply fz_r); (walk_at "st")) | ((with_reducible apply sq_r); (walk_at "st"))
  | ((with_reducible apply atSet_i); (walk_at "st"); rfl) | ((with_reducible apply atLst_i); (walk_at "st")) | ((with_reducible apply nowLst_i); (walk_at "st"))
  | ((with_reducible refine rng1_i ?_ ?_); (walk_at "sd")) | ((with_reducible refine rng2_i ?_ ?_); (walk_at "sd")))
local macro_rules | `(tactic| walk_at "wp") => `(tactic| first
  | with_reducible refine step_of ?_ | ((with_reducible apply wp_var); rfl) | walk_at "wpx")
local macro_rules | `(tactic| walk_at "fdef") => `(tactic| (refine wp_fdef rfl ?_; simp only [List.map_cons, List.map_nil, List.replicate_succ, List.replicate_zero, List.cons_append, List.nil_append]))
local macro_rules | `(tactic| walk_at "keq") => `(tactic| first
  | refine wp_geqD (c := false) (.inr (by decide +kernel)) rfl ?_ | refine wp_geqD (c := true) (.inr (by decide +kernel)) rfl ?_)
local macro_rules | `(tactic| walk_at "wk") => `(tactic| first
  | with_reducible refine step_of ?_ | ((with_reducible apply wp_var); rfl)
  | ((with_reducible refine gate_wp ?_); (first
    | with_reducible refine wp_geqsD (c := false) (by decide +kernel) ?_ | with_reducible refine wp_geqsD (c := true) (by decide +kernel) ?_
    | with_reducible refine wp_gnesD (c := false) (by decide +kernel) ?_ | with_reducible refine wp_gnesD (c := true) (by decide +kernel) ?_
    | with_reducible refine wp_gin_lit (c := true) (by decide +kernel) ?_ | with_reducible refine wp_gin_lit (c := false) (by decide +kernel) ?_))
  | with_reducible refine ite_t rfl ?_ | with_reducible refine ite_f rfl ?_
  | walk_at "wpx")
local macro_rules | `(tactic| walk_at "w1") => `(tactic| (fail_if_success (with_reducible refine th_nx ?_)); walk_at "wk")
/-! ### other numbers -/
mutual
def Tm.mp (φ ψ : Int → Int) : Tm → Tm
  | .letter k => .letter (φ k)
  | .node hd ps => .node (hd.setTail (hd.tail.map ψ)) (mpM φ ψ ps)
def mpM (φ ψ : Int → Int) : List Tm → List Tm
  | [] => []
  | p :: ps => p.mp φ ψ :: mpM φ ψ ps
end
theorem mpM_map (φ ψ : Int → Int) : ∀ ps : List Tm, mpM φ ψ ps = ps.map (Tm.mp φ ψ)
  | [] => rfl
  | p :: ps => by rw [mpM, mpM_map φ ψ ps]; rfl
theorem Tm.mp_node {φ ψ : Int → Int} {hd : Hd} {ps : List Tm} : (Tm.node hd ps).mp φ ψ = .node (hd.setTail (hd.tail.map ψ)) (ps.map (Tm.mp φ ψ)) := by rw [Tm.mp, mpM_map]
theorem Hd.tail_set {hd : Hd} {ψ : Int → Int} : (hd.setTail (hd.tail.map ψ)).tail = hd.tail.map ψ := by cases hd <;> rfl
theorem Hd.fits_set {b : Bool} {hd : Hd} {n : Nat} {u : Option Int} (h : hd.fits b n) : (hd.setTail u).fits b n := by cases hd <;> exact h
theorem TOk.mp {PL PR PL' PR' : Int → Prop} {φ ψ : Int → Int} {b : Bool} {h : Nat} {t : Tm} (o : TOk PL PR b h t) (i : ∀ k, PL k → PL' (φ k)) (j : ∀ k, PR k → PR' (ψ k)) : TOk PL' PR' b h (t.mp φ ψ) := by
  induction o with
  | letter a => rw [Tm.mp]; exact .letter (i _ a)
  | leaf a c => rw [Tm.mp_node]; exact .leaf (Hd.fits_set a) (by rw [Hd.tail_set, c]; rfl)
  | node a c d ih =>
    rw [Tm.mp_node]
    refine .node (by rw [List.length_map]; exact Hd.fits_set a) (fun r e => ?_) (fun p hp => ?_)
    · rw [Hd.tail_set] at e
      obtain ⟨q, e1, rfl⟩ := Option.map_eq_some_iff.mp e
      exact j q (c q e1)
    · obtain ⟨q, hq, rfl⟩ := List.mem_map.mp hp
      exact ih q hq
end EA
namespace EA
open PySem PySem.Spec PyProof.Rows L2
local macro_rules | `(tactic| walk_at "ix") => `(tactic| first | rfl | exact atI_cons0 | exact atI_map0)
local macro_rules | `(tactic| walk_at "st") => `(tactic| first | assumption | rfl | exact get_set (by assumption) | exact get_set (get_set (by assumption)) | exact get_last | exact get_setlast | exact get_setapp (by assumption) | exact get_app (by assumption) | exact get_app (get_set (by assumption)))
local macro_rules | `(tactic| walk_at "tk") => `(tactic| first | exact List.take_length | exact take_set | exact take_set2 | exact take_set3 | exact take_app | exact take_aset | exact take_setapp | rfl)
local macro_rules | `(tactic| walk_at "sd") => `(tactic| first | omega | assumption | decide)
local macro_rules | `(tactic| walk_at "wpx") => `(tactic| first
  | with_reducible refine ite2 (fun _ => ?_) (fun z => absurd rfl z)
  | with_reducible refine ite2 (fun z => absurd z Bool.false_ne_true) (fun _ => ?_)
  | ((with_reducible refine gate_wp ?_); (first
    | ((with_reducible apply wp_viewr); (walk_at "st")) | ((with_reducible apply wp_lat); (walk_at "st"))
    | ((with_reducible refine gate_eq ?_); (first | with_reducible refine wp_geqs ?_ | with_reducible refine wp_geqb ?_ | with_reducible refine wp_geq_nil ?_))
    | ((with_reducible refine gate_ne ?_); (first | with_reducible refine wp_gnes ?_ | with_reducible refine wp_gneb ?_ | with_reducible refine wp_gne_nil ?_))
    | ((with_reducible refine gate_ix ?_); (first | ((with_reducible apply wp_ixd); (walk_at "ix")) | ((with_reducible apply wp_ixt); (walk_at "ix")) | ((with_reducible apply wp_ixr); (walk_at "st"); (walk_at "ix"))))
    | ((with_reducible apply wp_trur); (walk_at "st"))
    | ((with_reducible refine wp_l4s ?_ ?_); (first | omega | assumption | decide +kernel)) | with_reducible refine wp_l4 ?_ | ((with_reducible apply wp_l3r); (walk_at "st"))
    | ((with_reducible refine wp_mod ?_ ?_); (walk_at "sd")) | ((with_reducible refine wp_fdiv ?_ ?_); (walk_at "sd")) | ((with_reducible refine wp_mulr ?_ ?_); (walk_at "sd")) | ((with_reducible refine wp_mull ?_ ?_); (walk_at "sd")) | ((with_reducible refine wp_pow ?_ ?_); (walk_at "sd"))
    | ((with_reducible apply wp_lenr); (walk_at "st"))
    | ((with_reducible refine wp_gis ?_ ?_); rfl) | ((with_reducible refine wp_gisn ?_ ?_); rfl)
    | ((with_reducible refine gate_isi ?_); (first | ((with_reducible refine isi_t (r := true) ?_ ?_); (decide +kernel)) | ((with_reducible refine isi_t (r := false) ?_ ?_); (decide +kernel)) | ((with_reducible refine isi_b (r := true) ?_ ?_); (decide +kernel)) | ((with_reducible refine isi_b (r := false) ?_ ?_); (decide +kernel)) | ((with_reducible refine isi_i (r := true) ?_ ?_); (decide +kernel)) | ((with_reducible refine isi_i (r := false) ?_ ?_); (decide +kernel)) | ((with_reducible refine isi_s (r := true) ?_ ?_); (decide +kernel)) | ((with_reducible refine isi_s (r := false) ?_ ?_); (decide +kernel)) | ((with_reducible refine isi_l (r := true) ?_ ?_); (decide +kernel)) | ((with_reducible refine isi_l (r := false) ?_ ?_); (decide +kernel)) | ((with_reducible refine isi_n (r := true) ?_ ?_); (decide +kernel)) | ((with_reducible refine isi_n (r := false) ?_ ?_); (decide +kernel))))
    | ((with_reducible apply wp_tupr); (walk_at "st"))))
  | ((with_reducible refine gate_rq ?_); (first | ((with_reducible apply rq_dt); (walk_at "tk")) | ((with_reducible apply rq_nxt); (walk_at "tk"))))
  | ((with_reducible apply fz_r); (walk_at "st")) | ((with_reducible apply sq_r); (walk_at "st"))
  | ((with_reducible apply atSet_i); (walk_at "st"); rfl) | ((with_reducible apply atLst_i); (walk_at "st")) | ((with_reducible apply nowLst_i); (walk_at "st"))
  | ((with_reducible refine rng1_i ?_ ?_); (walk_at "sd")) | ((with_reducible refine rng2_i ?_ ?_); (walk_at "sd")))
local macro_rules | `(tactic| walk_at "wp") => `(tactic| first
  | with_reducible refine step_of ?_ | ((with_reducible apply wp_var); rfl) | walk_at "wpx")
local macro_rules | `(tactic| walk_at "fdef") => `(tactic| (refine wp_fdef rfl ?_; simp only [List.map_cons, List.map_nil, List.replicate_succ, List.replicate_zero, List.cons_append, List.nil_append]))
local macro_rules | `(tactic| walk_at "keq") => `(tactic| first
  | refine wp_geqD (c := false) (.inr (by decide +kernel)) rfl ?_ | refine wp_geqD (c := true) (.inr (by decide +kernel)) rfl ?_)
local macro_rules | `(tactic| walk_at "wk") => `(tactic| first
  | with_reducible refine step_of ?_ | ((with_reducible apply wp_var); rfl)
  | ((with_reducible refine gate_wp ?_); (first
    | with_reducible refine wp_geqsD (c := false) (by decide +kernel) ?_ | with_reducible refine wp_geqsD (c := true) (by decide +kernel) ?_
    | with_reducible refine wp_gnesD (c := false) (by decide +kernel) ?_ | with_reducible refine wp_gnesD (c := true) (by decide +kernel) ?_
    | with_reducible refine wp_gin_lit (c := true) (by decide +kernel) ?_ | with_reducible refine wp_gin_lit (c := false) (by decide +kernel) ?_))
  | with_reducible refine ite_t rfl ?_ | with_reducible refine ite_f rfl ?_
  | walk_at "wpx")
local macro_rules | `(tactic| walk_at "w1") => `(tactic| (fail_if_success (with_reducible refine th_nx ?_)); walk_at "wk")
/-! ### schemes -/
/-! ### of the program -/
/-! ### the same scheme for other numbers -/
end EA
namespace EA
open PySem PySem.Spec PyProof.Rows L2
local macro_rules | `(tactic| walk_at "ix") => `(tactic| first | rfl | exact atI_cons0 | exact atI_map0)
local macro_rules | `(tactic| walk_at "st") => `(tactic| first | assumption | rfl | exact get_set (by assumption) | exact get_set (get_set (by assumption)) | exact get_last | exact get_setlast | exact get_setapp (by assumption) | exact get_app (by assumption) | exact get_app (get_set (by assumption)))
local macro_rules | `(tactic| walk_at "tk") => `(tactic| first | exact List.take_length | exact take_set | exact take_set2 | exact take_set3 | exact take_app | exact take_aset | exact take_setapp | rfl)
local macro_rules | `(tactic| walk_at "sd") => `(tactic| first | omega | assumption | decide)
local macro_rules | `(tactic| walk_at "wpx") => `(tactic| first
  | with_reducible refine ite2 (fun _ => ?_) (fun z => absurd rfl z)
  | with_reducible refine ite2 (fun z => absurd z Bool.false_ne_true) (fun _ => ?_)
  | ((with_reducible refine gate_wp ?_); (first
    | ((with_reducible apply wp_viewr); (walk_at "st")) | ((with_reducible apply wp_lat); (walk_at "st"))
    | ((with_reducible refine gate_eq ?_); (first | with_reducible refine wp_geqs ?_ | with_reducible refine wp_geqb ?_ | with_reducible refine wp_geq_nil ?_))
    | ((with_reducible refine gate_ne ?_); (first | with_reducible refine wp_gnes ?_ | with_reducible refine wp_gneb ?_ | with_reducible refine wp_gne_nil ?_))
    | ((with_reducible refine gate_ix ?_); (first | ((with_reducible apply wp_ixd); (walk_at "ix")) | ((with_reducible apply wp_ixt); (walk_at "ix")) | ((with_reducible apply wp_ixr); (walk_at "st"); (walk_at "ix"))))
    | ((with_reducible apply wp_trur); (walk_at "st"))
    | ((with_reducible refine wp_l4s ?_ ?_); (first | omega | assumption | decide +kernel)) | with_reducible refine wp_l4 ?_ | ((with_reducible apply wp_l3r); (walk_at "st"))
    | ((with_reducible refine wp_mod ?_ ?_); (walk_at "sd")) | ((with_reducible refine wp_fdiv ?_ ?_); (walk_at "sd")) | ((with_reducible refine wp_mulr ?_ ?_); (walk_at "sd")) | ((with_reducible refine wp_mull ?_ ?_); (walk_at "sd")) | ((with_reducible refine wp_pow ?_ ?_); (walk_at "sd"))
    | ((with_reducible apply wp_lenr); (walk_at "st"))
    | ((with_reducible refine wp_gis ?_ ?_); rfl) | ((with_reducible refine wp_gisn ?_ ?_); rfl)
    | ((with_reducible refine gate_isi ?_); (first | ((with_reducible refine isi_t (r := true) ?_ ?_); (decide +kernel)) | ((with_reducible refine isi_t (r := false) ?_ ?_); (decide +kernel)) | ((with_reducible refine isi_b (r := true) ?_ ?_); (decide +kernel)) | ((with_reducible refine isi_b (r := false) ?_ ?_); (decide +kernel)) | ((with_reducible refine isi_i (r := true) ?_ ?_); (decide +kernel)) | ((with_reducible refine isi_i (r := false) ?_ ?_); (decide +kernel)) | ((with_reducible refine isi_s (r := true) ?_ ?_); (decide +kernel)) | ((with_reducible refine isi_s (r := false) ?_ ?_); (decide +kernel)) | ((with_reducible refine isi_l (r := true) ?_ ?_); (decide +kernel)) | ((with_reducible refine isi_l (r := false) ?_ ?_); (decide +kernel)) | ((with_reducible refine isi_n (r := true) ?_ ?_); (decide +kernel)) | ((with_reducible refine isi_n (r := false) ?_ ?_); (decide +kernel))))
    | ((with_reducible apply wp_tupr); (walk_at "st"))))
  | ((with_reducible refine gate_rq ?_); (first | ((with_reducible apply rq_dt); (walk_at "tk")) | ((with_reducible apply rq_nxt); (walk_at "tk"))))
  | ((with_reducible apply fz_r); (walk_at "st")) | ((with_reducible apply sq_r); (walk_at "st"))
  | ((with_reducible apply atSet_i); (walk_at "st"); rfl) | ((with_reducible apply atLst_i); (walk_at "st")) | ((with_reducible apply nowLst_i); (walk_at "st"))
  | ((with_reducible refine rng1_i ?_ ?_); (walk_at "sd")) | ((with_reducible refine rng2_i ?_ ?_); (walk_at "sd")))
local macro_rules | `(tactic| walk_at "wp") => `(tactic| first
  | with_reducible refine step_of ?_ | ((with_reducible apply wp_var); rfl) | walk_at "wpx")
local macro_rules | `(tactic| walk_at "fdef") => `(tactic| (refine wp_fdef rfl ?_; simp only [List.map_cons, List.map_nil, List.replicate_succ, List.replicate_zero, List.cons_append, List.nil_append]))
local macro_rules | `(tactic| walk_at "keq") => `(tactic| first
  | refine wp_geqD (c := false) (.inr (by decide +kernel)) rfl ?_ | refine wp_geqD (c := true) (.inr (by decide +kernel)) rfl ?_)
local macro_rules | `(tactic| walk_at "wk") => `(tactic| first
  | with_reducible refine step_of ?_ | ((with_reducible apply wp_var); rfl)
  | ((with_reducible refine gate_wp ?_); (first
    | with_reducible refine wp_geqsD (c := false) (by decide +kernel) ?_ | with_reducible refine wp_geqsD (c := true) (by decide +kernel) ?_
    | with_reducible refine wp_gnesD (c := false) (by decide +kernel) ?_ | with_reducible refine wp_gnesD (c := true) (by decide +kernel) ?_
    | with_reducible refine wp_gin_lit (c := true) (by decide +kernel) ?_ | with_reducible refine wp_gin_lit (c := false) (by decide +kernel) ?_))
  | with_reducible refine ite_t rfl ?_ | with_reducible refine ite_f rfl ?_
  | walk_at "wpx")
local macro_rules | `(tactic| walk_at "w1") => `(tactic| (fail_if_success (with_reducible refine th_nx ?_)); walk_at "wk")
inductive SD : Nat → PyData → Prop
  | int {h : Nat} (i : Int) : SD h (.int i)
  | str {h : Nat} (x : Str) : SD h (.str x)
  | bool {h : Nat} (b : Bool) : SD h (.bool b)
  | none {h : Nat} : SD h .none
  | tup {h : Nat} {xs : List PyData} : xs.length ≤ 90000 → (∀ x ∈ xs, SD h x) → SD (h + 1) (.tuple xs)
theorem SD.mono {h : Nat} {d : PyData} (o : SD h d) : ∀ {k : Nat}, h ≤ k → SD k d := by
  induction o with
  | int i => intro k _; exact .int i
  | str i => intro k _; exact .str i
  | bool i => intro k _; exact .bool i
  | none => intro k _; exact .none
  | tup a b ih => intro k hk; obtain ⟨k, rfl⟩ : ∃ x, k = x + 1 := ⟨k - 1, by omega⟩; exact .tup a fun x hx => ih x hx (by omega)
end EA
namespace EA
open PySem PySem.Spec PyProof.Rows L2
local macro_rules | `(tactic| walk_at "ix") => `(tactic| first | rfl | exact atI_cons0 | exact atI_map0)
local macro_rules | `(tactic| walk_at "st") => `(tactic| first | assumption | rfl | exact get_set (by assumption) | exact get_set (get_set (by assumption)) | exact get_last | exact get_setlast | exact get_setapp (by assumption) | exact get_app (by assumption) | exact get_app (get_set (by assumption)))
local macro_rules | `(tactic| walk_at "tk") => `(tactic| first | exact List.take_length | exact take_set | exact take_set2 | exact take_set3 | exact take_app | exact take_aset | exact take_setapp | rfl)
local macro_rules | `(tactic| walk_at "sd") => `(tactic| first | omega | assumption | decide)
local macro_rules | `(tactic| walk_at "wpx") => `(tactic| first
  | with_reducible refine ite2 (fun _ => ?_) (fun z => absurd rfl z)
  | with_reducible refine ite2 (fun z => absurd z Bool.false_ne_true) (fun _ => ?_)
  | ((with_reducible refine gate_wp ?_); (first
    | ((with_reducible apply wp_viewr); (walk_at "st")) | ((with_reducible apply wp_lat); (walk_at "st"))
    | ((with_reducible refine gate_eq ?_); (first | with_reducible refine wp_geqs ?_ | with_reducible refine wp_geqb ?_ | with_reducible refine wp_geq_nil ?_))
    | ((with_reducible refine gate_ne ?_); (first | with_reducible refine wp_gnes ?_ | with_reducible refine wp_gneb ?_ | with_reducible refine wp_gne_nil ?_))
    | ((with_reducible refine gate_ix ?_); (first | ((with_reducible apply wp_ixd); (walk_at "ix")) | ((with_reducible apply wp_ixt); (walk_at "ix")) | ((with_reducible apply wp_ixr); (walk_at "st"); (walk_at "ix"))))
    | ((with_reducible apply wp_trur); (walk_at "st"))
    | ((with_reducible refine wp_l4s ?_ ?_); (first | omega | assumption | decide +kernel)) | with_reducible refine wp_l4 ?_ | ((with_reducible apply wp_l3r); (walk_at "st"))
    | ((with_reducible refine wp_mod ?_ ?_); (walk_at "sd")) | ((with_reducible refine wp_fdiv ?_ ?_); (walk_at "sd")) | ((with_reducible refine wp_mulr ?_ ?_); (walk_at "sd")) | ((with_reducible refine wp_mull ?_ ?_); (walk_at "sd")) | ((with_reducible refine wp_pow ?_ ?_); (walk_at "sd"))
    | ((with_reducible apply wp_lenr); (walk_at "st"))
    | ((with_reducible refine wp_gis ?_ ?_); rfl) | ((with_reducible refine wp_gisn ?_ ?_); rfl)
    | ((with_reducible refine gate_isi ?_); (first | ((with_reducible refine isi_t (r := true) ?_ ?_); (decide +kernel)) | ((with_reducible refine isi_t (r := false) ?_ ?_); (decide +kernel)) | ((with_reducible refine isi_b (r := true) ?_ ?_); (decide +kernel)) | ((with_reducible refine isi_b (r := false) ?_ ?_); (decide +kernel)) | ((with_reducible refine isi_i (r := true) ?_ ?_); (decide +kernel)) | ((with_reducible refine isi_i (r := false) ?_ ?_); (decide +kernel)) | ((with_reducible refine isi_s (r := true) ?_ ?_); (decide +kernel)) | ((with_reducible refine isi_s (r := false) ?_ ?_); (decide +kernel)) | ((with_reducible refine isi_l (r := true) ?_ ?_); (decide +kernel)) | ((with_reducible refine isi_l (r := false) ?_ ?_); (decide +kernel)) | ((with_reducible refine isi_n (r := true) ?_ ?_); (decide +kernel)) | ((with_reducible refine isi_n (r := false) ?_ ?_); (decide +kernel))))
    | ((with_reducible apply wp_tupr); (walk_at "st"))))
  | ((with_reducible refine gate_rq ?_); (first | ((with_reducible apply rq_dt); (walk_at "tk")) | ((with_reducible apply rq_nxt); (walk_at "tk"))))
  | ((with_reducible apply fz_r); (walk_at "st")) | ((with_reducible apply sq_r); (walk_at "st"))
  | ((with_reducible apply atSet_i); (walk_at "st"); rfl) | ((with_reducible apply atLst_i); (walk_at "st")) | ((with_reducible apply nowLst_i); (walk_at "st"))
  | ((with_reducible refine rng1_i ?_ ?_); (walk_at "sd")) | ((with_reducible refine rng2_i ?_ ?_); (walk_at "sd")))
local macro_rules | `(tactic| walk_at "wp") => `(tactic| first
  | with_reducible refine step_of ?_ | ((with_reducible apply wp_var); rfl) | walk_at "wpx")
local macro_rules | `(tactic| walk_at "fdef") => `(tactic| (refine wp_fdef rfl ?_; simp only [List.map_cons, List.map_nil, List.replicate_succ, List.replicate_zero, List.cons_append, List.nil_append]))
local macro_rules | `(tactic| walk_at "keq") => `(tactic| first
  | refine wp_geqD (c := false) (.inr (by decide +kernel)) rfl ?_ | refine wp_geqD (c := true) (.inr (by decide +kernel)) rfl ?_)
local macro_rules | `(tactic| walk_at "wk") => `(tactic| first
  | with_reducible refine step_of ?_ | ((with_reducible apply wp_var); rfl)
  | ((with_reducible refine gate_wp ?_); (first
    | with_reducible refine wp_geqsD (c := false) (by decide +kernel) ?_ | with_reducible refine wp_geqsD (c := true) (by decide +kernel) ?_
    | with_reducible refine wp_gnesD (c := false) (by decide +kernel) ?_ | with_reducible refine wp_gnesD (c := true) (by decide +kernel) ?_
    | with_reducible refine wp_gin_lit (c := true) (by decide +kernel) ?_ | with_reducible refine wp_gin_lit (c := false) (by decide +kernel) ?_))
  | with_reducible refine ite_t rfl ?_ | with_reducible refine ite_f rfl ?_
  | walk_at "wpx")
local macro_rules | `(tactic| walk_at "w1") => `(tactic| (fail_if_success (with_reducible refine th_nx ?_)); walk_at "wk")
noncomputable def f3_some : F3 := fdef false 2 2
  (sSeq (sSet 2 (eNo (nLst aNil)))
  (sSeq (sFor (iSq (eVar 1)) (gNm 3)
  (sIf (tCmp gEq (eCall f3_take (aCons (eVar 0) (aCons (eD (.int (2))) aNil))) (eD (.int (1))))
  (sEx (eM mApp (eVar 2) (aCons (eVar 3) aNil)))
  sNx))
  (sRt (eVar 2))))
noncomputable def f3_tmay : F3 := fdef false 1 0
  (sRt (eAn (eCmp gGt (eRG (eVar 0) "left") (eD (.int (0)))) (eCmp gGt (eRG (eVar 0) "letters") (eD (.int (0))))))
noncomputable def f3_tletter : F3 := fdef false 1 0
  (sSeq (sRS (eVar 0) "left" (eOp gSub (eRG (eVar 0) "left") (eD (.int (1)))))
  (sRt (eTup (aCons (eD (.str "letter")) (aCons (eCall f3_take (aCons (eRG (eVar 0) "hand") (aCons (eRG (eVar 0) "letters") aNil))) aNil)))))
noncomputable def f3_tatom : F3 := fdef false 1 2
  (sSeq (sSet 1 (eRG (eVar 0) "hand"))
  (sSeq (sSet 2 (eCall f3_take (aCons (eVar 1) (aCons (eD (.int (6))) aNil))))
  (sSeq (sIf (tCmp gLt (eVar 2) (eD (.int (2))))
  (sRt (eTup (aCons (eD (.str "int")) aNil)))
  sNx)
  (sSeq (sIf (tCmp gEq (eVar 2) (eD (.int (2))))
  (sRt (eTup (aCons (eD (.str "bool")) aNil)))
  sNx)
  (sSeq (sIf (tCmp gEq (eVar 2) (eD (.int (3))))
  (sRt (eTup (aCons (eD (.str "hidden")) (aCons (eOp gAdd (eD (.str "m")) (eB (g1 strD) (aCons (eCall f3_take (aCons (eVar 1) (aCons (eD (.int (2))) aNil))) aNil))) (aCons (eOp gAdd (eD (.str "t")) (eB (g1 strD) (aCons (eCall f3_take (aCons (eVar 1) (aCons (eD (.int (2))) aNil))) aNil))) aNil)))))
  sNx)
  (sSeq (sIf (tCmp gEq (eVar 2) (eD (.int (4))))
  (sRt (eTup (aCons (eD (.str "stone")) (aCons (eOp gIx (eNd (nLst (aCons (eD (.str "a")) (aCons (eD (.str "a.b")) (aCons (eD (.str "a.b2")) aNil))))) (eCall f3_take (aCons (eVar 1) (aCons (eD (.int (3))) aNil)))) aNil))))
  sNx)
  (sRt (eTup (aCons (eD (.str "data")) (aCons (eD (.str "d")) (aCons (eTup aNil) aNil)))))))))))
noncomputable def f3_ttail : F3 := fdef false 1 0
  (sSeq (sIf (tOr3 (tCmp gEq (eB gLen (aCons (eRG (eVar 0) "beside") aNil)) (eD (.int (0)))) (tOr3 (tCmp gLe (eRG (eVar 0) "left") (eD (.int (0)))) (tCmp gEq (eCall f3_take (aCons (eRG (eVar 0) "hand") (aCons (eD (.int (3))) aNil))) (eD (.int (0))))))
  (sRt (eD .none))
  sNx)
  (sSeq (sRS (eVar 0) "left" (eOp gSub (eRG (eVar 0) "left") (eD (.int (1)))))
  (sRt (eCall f3_take (aCons (eRG (eVar 0) "hand") (aCons (eB gLen (aCons (eRG (eVar 0) "beside") aNil)) aNil))))))
mutual
noncomputable def f3_trow : Nat → F3
  | 0 => fun _ _ => none
  | n + 1 => fdef false 3 4
      (sSeq (sSet 3 (eCall f3_ttail (aCons (eVar 0) aNil)))
        (sSeq (sSet 4 (eRG (eVar 0) "labels"))
        (sSeq (sIf (tCmp gIsN (eVar 3) (eD .none))
        (sSet 4 (eOp gIx (eRG (eVar 0) "beside") (eVar 3)))
        sNx)
        (sSeq (sSet 5 (eNo (nLst aNil)))
        (sSeq (sFor (iSq (eCall f3_some (aCons (eRG (eVar 0) "hand") (aCons (eVar 4) aNil)))) (gNm 6)
        (sEx (eM mApp (eVar 5) (aCons (eTup (aCons (eVar 6) (aCons (eCall (f3_tdrawn n) (aCons (eVar 0) (aCons (eOp gSub (eVar 2) (eD (.int (1)))) aNil))) aNil))) aNil))))
        (sRt (eTup (aCons (eVar 1) (aCons (eB gTupOf (aCons (eVar 5) aNil)) (aCons (eVar 3) aNil))))))))))
noncomputable def f3_tdrawn : Nat → F3
  | 0 => fun _ _ => none
  | n + 1 => fdef false 2 4
      (sSeq (sSet 2 (eRG (eVar 0) "hand"))
        (sSeq (sRS (eVar 0) "words" (eOp gSub (eRG (eVar 0) "words") (eD (.int (1)))))
        (sSeq (sSet 3 (eCall f3_take (aCons (eVar 2) (aCons (eD (.int (16))) aNil))))
        (sSeq (sIf (tAn (tCmp gLt (eVar 3) (eD (.int (5)))) (tTr (eCall f3_tmay (aCons (eVar 0) aNil))))
        (sRt (eCall f3_tletter (aCons (eVar 0) aNil)))
        sNx)
        (sSeq (sIf (tOr3 (tCmp gLe (eVar 1) (eD (.int (0)))) (tOr3 (tCmp gLt (eVar 3) (eD (.int (7)))) (tCmp gLe (eRG (eVar 0) "words") (eD (.int (0))))))
        (sRt (eCall f3_tatom (aCons (eVar 0) aNil)))
        sNx)
        (sSeq (sIf (tCmp gLt (eVar 3) (eD (.int (9))))
        (sRt (eTup (aCons (eD (.str "arrow")) (aCons (eCall (f3_tdrawn n) (aCons (eVar 0) (aCons (eOp gSub (eVar 1) (eD (.int (1)))) aNil))) (aCons (eCall (f3_tdrawn n) (aCons (eVar 0) (aCons (eOp gSub (eVar 1) (eD (.int (1)))) aNil))) aNil)))))
        sNx)
        (sSeq (sIf (tCmp gEq (eVar 3) (eD (.int (9))))
        (sRt (eTup (aCons (eD (.str "tuple")) (aCons (eB gTupOf (aCons (eNd (nLc [4] (iR1 (aCons (eOp gAdd (eD (.int (2))) (eCall f3_take (aCons (eVar 2) (aCons (eD (.int (3))) aNil)))) aNil)) (gNm 4) tYes3 (eCall (f3_tdrawn n) (aCons (eVar 0) (aCons (eOp gSub (eVar 1) (eD (.int (1)))) aNil))))) aNil)) aNil))))
        sNx)
        (sSeq (sIf (tCmp gLt (eVar 3) (eD (.int (14))))
        (sRt (eCall (f3_trow n) (aCons (eVar 0) (aCons (eOp gIx (eNd (nLst (aCons (eD (.str "record")) (aCons (eD (.str "variant")) aNil)))) (eCall f3_take (aCons (eVar 2) (aCons (eD (.int (2))) aNil)))) (aCons (eVar 1) aNil)))))
        sNx)
        (sSeq (sIf (tCmp gEq (eVar 3) (eD (.int (14))))
        (sSeq (sSet 5 (eOp gIx (eNd (nLst (aCons (eD (.str "d")) (aCons (eD (.str "d2")) aNil)))) (eCall f3_take (aCons (eVar 2) (aCons (eD (.int (2))) aNil)))))
        (sRt (eTup (aCons (eD (.str "data")) (aCons (eVar 5) (aCons (eB gTupOf (aCons (eNd (nLc [4] (iR1 (aCons (eCall f3_take (aCons (eVar 2) (aCons (eD (.int (3))) aNil))) aNil)) (gNm 4) tYes3 (eCall (f3_tdrawn n) (aCons (eVar 0) (aCons (eOp gSub (eVar 1) (eD (.int (1)))) aNil))))) aNil)) aNil))))))
        sNx)
        (sRt (eTup (aCons (eD (.str "cell")) (aCons (eCall (f3_tdrawn n) (aCons (eVar 0) (aCons (eOp gSub (eVar 1) (eD (.int (1)))) aNil))) aNil)))))))))))))
end
/-! ### the world -/
abbrev wdR (left words L : Int) (labels : List Str) : List (Str × W3) := [("hand", .r 0), ("left", .d (.int left)), ("words", .d (.int words)), ("letters", .d (.int L)), ("labels", .d (.list (labels.map .str))), ("beside", .r 1)]
def strsL (l : List Str) : PyData := .list (l.map .str)
def Ws (L : Int) (labels : List Str) (bs : List (List Str)) (o : List PyData) (left words : Int) (T : List MO) : List MO := .lst o :: .lst (bs.map strsL) :: .rcd (wdR left words L labels) :: T
section
variable {L : Int} {labels : List Str} {bs : List (List Str)} {o : List PyData} {left words : Int} {T : List MO} {sl : Sl} {Q : W3 → List MO → Prop}
theorem wrg_hand (h : sl[0]?.join = some (.r 2)) (q : Q (.r 0) (Ws L labels bs o left words T)) : Wp2 (eRG (eVar 0) "hand" sl (Ws L labels bs o left words T)) Q := wp_rg (wp_var h ⟨_, _, rfl, rfl, q⟩)
theorem wrg_left (h : sl[0]?.join = some (.r 2)) (q : Q (.d (.int left)) (Ws L labels bs o left words T)) : Wp2 (eRG (eVar 0) "left" sl (Ws L labels bs o left words T)) Q := wp_rg (wp_var h ⟨_, _, rfl, rfl, q⟩)
theorem wrg_words (h : sl[0]?.join = some (.r 2)) (q : Q (.d (.int words)) (Ws L labels bs o left words T)) : Wp2 (eRG (eVar 0) "words" sl (Ws L labels bs o left words T)) Q := wp_rg (wp_var h ⟨_, _, rfl, rfl, q⟩)
theorem wrg_letters (h : sl[0]?.join = some (.r 2)) (q : Q (.d (.int L)) (Ws L labels bs o left words T)) : Wp2 (eRG (eVar 0) "letters" sl (Ws L labels bs o left words T)) Q := wp_rg (wp_var h ⟨_, _, rfl, rfl, q⟩)
theorem wrg_labels (h : sl[0]?.join = some (.r 2)) (q : Q (.d (.list (labels.map .str))) (Ws L labels bs o left words T)) : Wp2 (eRG (eVar 0) "labels" sl (Ws L labels bs o left words T)) Q := wp_rg (wp_var h ⟨_, _, rfl, rfl, q⟩)
theorem wrg_beside (h : sl[0]?.join = some (.r 2)) (q : Q (.r 1) (Ws L labels bs o left words T)) : Wp2 (eRG (eVar 0) "beside" sl (Ws L labels bs o left words T)) Q := wp_rg (wp_var h ⟨_, _, rfl, rfl, q⟩)
theorem rq_dW {own : Bool} {Se : List MO} {x : PyData} [CutR Se (Ws L labels bs o left words T)] (e : T.length + 3 = Se.length) (h : Q (.d x) (Ws L labels bs o left words T)) : retQ own Se Q (.rt (.d x) (Ws L labels bs o left words T)) := rq_dt (by
  rw [List.take_of_length_le]
  rw [← e]; exact Nat.le_refl _) h
instance ws_cut {o' : List PyData} {left' words' : Int} : CutR (Ws L labels bs o left words T) (Ws L labels bs o' left' words' T) := ⟨fun i u hi e => by
  match i with
  | 0 => cases e; exact .inl trivial
  | 1 => exact .inr e
  | 2 => cases e; exact .inl trivial
  | i + 3 => exact .inr e⟩
end
local macro_rules | `(tactic| walk_at "rg") => `(tactic| first
  | ((with_reducible apply wrg_hand); rfl) | ((with_reducible apply wrg_left); rfl) | ((with_reducible apply wrg_words); rfl) | ((with_reducible apply wrg_letters); rfl) | ((with_reducible apply wrg_labels); rfl) | ((with_reducible apply wrg_beside); rfl)
  | ((with_reducible refine rq_dW ?_ ?_); rfl)
  | walk_at "wk")
local macro_rules | `(tactic| walk_at "r1") => `(tactic| (fail_if_success (with_reducible refine th_nx ?_)); walk_at "rg")
abbrev PLt (L : Int) (k : Int) : Prop := 0 ≤ k ∧ k < L
/-! ### terms drawn -/
def Drawn (L : Int) (labels : List Str) (bs : List (List Str)) (n : Nat) : Prop := ∀ (d : Int) (T : List MO) (o : List PyData) (left words : Int) (Q : W3 → List MO → Prop), 2 * d.toNat + 1 ≤ n → HandO o →
  (∀ (t : Tm) (o' : List PyData) (left' words' : Int), TOk (PLt L) (PLt bs.length) false d.toNat t → HandO o' → Q (.d t.enc) (Ws L labels bs o' left' words' T)) → Wp2 (f3_tdrawn n [.r 2, .d (.int d)] (Ws L labels bs o left words T)) Q
end EA
namespace EA
open PySem PySem.Spec PyProof.Rows L2
local macro_rules | `(tactic| walk_at "ix") => `(tactic| first | rfl | exact atI_cons0 | exact atI_map0)
local macro_rules | `(tactic| walk_at "st") => `(tactic| first | assumption | rfl | exact get_set (by assumption) | exact get_set (get_set (by assumption)) | exact get_last | exact get_setlast | exact get_setapp (by assumption) | exact get_app (by assumption) | exact get_app (get_set (by assumption)))
local macro_rules | `(tactic| walk_at "tk") => `(tactic| first | exact List.take_length | exact take_set | exact take_set2 | exact take_set3 | exact take_app | exact take_aset | exact take_setapp | rfl)
local macro_rules | `(tactic| walk_at "sd") => `(tactic| first | omega | assumption | decide)
local macro_rules | `(tactic| walk_at "wpx") => `(tactic| first
  | with_reducible refine ite2 (fun _ => ?_) (fun z => absurd rfl z)
  | with_reducible refine ite2 (fun z => absurd z Bool.false_ne_true) (fun _ => ?_)
  | ((with_reducible refine gate_wp ?_); (first
    | ((with_reducible apply wp_viewr); (walk_at "st")) | ((with_reducible apply wp_lat); (walk_at "st"))
    | ((with_reducible refine gate_eq ?_); (first | with_reducible refine wp_geqs ?_ | with_reducible refine wp_geqb ?_ | with_reducible refine wp_geq_nil ?_))
    | ((with_reducible refine gate_ne ?_); (first | with_reducible refine wp_gnes ?_ | with_reducible refine wp_gneb ?_ | with_reducible refine wp_gne_nil ?_))
    | ((with_reducible refine gate_ix ?_); (first | ((with_reducible apply wp_ixd); (walk_at "ix")) | ((with_reducible apply wp_ixt); (walk_at "ix")) | ((with_reducible apply wp_ixr); (walk_at "st"); (walk_at "ix"))))
    | ((with_reducible apply wp_trur); (walk_at "st"))
    | ((with_reducible refine wp_l4s ?_ ?_); (first | omega | assumption | decide +kernel)) | with_reducible refine wp_l4 ?_ | ((with_reducible apply wp_l3r); (walk_at "st"))
    | ((with_reducible refine wp_mod ?_ ?_); (walk_at "sd")) | ((with_reducible refine wp_fdiv ?_ ?_); (walk_at "sd")) | ((with_reducible refine wp_mulr ?_ ?_); (walk_at "sd")) | ((with_reducible refine wp_mull ?_ ?_); (walk_at "sd")) | ((with_reducible refine wp_pow ?_ ?_); (walk_at "sd"))
    | ((with_reducible apply wp_lenr); (walk_at "st"))
    | ((with_reducible refine wp_gis ?_ ?_); rfl) | ((with_reducible refine wp_gisn ?_ ?_); rfl)
    | ((with_reducible refine gate_isi ?_); (first | ((with_reducible refine isi_t (r := true) ?_ ?_); (decide +kernel)) | ((with_reducible refine isi_t (r := false) ?_ ?_); (decide +kernel)) | ((with_reducible refine isi_b (r := true) ?_ ?_); (decide +kernel)) | ((with_reducible refine isi_b (r := false) ?_ ?_); (decide +kernel)) | ((with_reducible refine isi_i (r := true) ?_ ?_); (decide +kernel)) | ((with_reducible refine isi_i (r := false) ?_ ?_); (decide +kernel)) | ((with_reducible refine isi_s (r := true) ?_ ?_); (decide +kernel)) | ((with_reducible refine isi_s (r := false) ?_ ?_); (decide +kernel)) | ((with_reducible refine isi_l (r := true) ?_ ?_); (decide +kernel)) | ((with_reducible refine isi_l (r := false) ?_ ?_); (decide +kernel)) | ((with_reducible refine isi_n (r := true) ?_ ?_); (decide +kernel)) | ((with_reducible refine isi_n (r := false) ?_ ?_); (decide +kernel))))
    | ((with_reducible apply wp_tupr); (walk_at "st"))))
  | ((with_reducible refine gate_rq ?_); (first | ((with_reducible apply rq_dt); (walk_at "tk")) | ((with_reducible apply rq_nxt); (walk_at "tk"))))
  | ((with_reducible apply fz_r); (walk_at "st")) | ((with_reducible apply sq_r); (walk_at "st"))
  | ((with_reducible apply atSet_i); (walk_at "st"); rfl) | ((with_reducible apply atLst_i); (walk_at "st")) | ((with_reducible apply nowLst_i); (walk_at "st"))
  | ((with_reducible refine rng1_i ?_ ?_); (walk_at "sd")) | ((with_reducible refine rng2_i ?_ ?_); (walk_at "sd")))
local macro_rules | `(tactic| walk_at "wp") => `(tactic| first
  | with_reducible refine step_of ?_ | ((with_reducible apply wp_var); rfl) | walk_at "wpx")
local macro_rules | `(tactic| walk_at "fdef") => `(tactic| (refine wp_fdef rfl ?_; simp only [List.map_cons, List.map_nil, List.replicate_succ, List.replicate_zero, List.cons_append, List.nil_append]))
local macro_rules | `(tactic| walk_at "keq") => `(tactic| first
  | refine wp_geqD (c := false) (.inr (by decide +kernel)) rfl ?_ | refine wp_geqD (c := true) (.inr (by decide +kernel)) rfl ?_)
local macro_rules | `(tactic| walk_at "wk") => `(tactic| first
  | with_reducible refine step_of ?_ | ((with_reducible apply wp_var); rfl)
  | ((with_reducible refine gate_wp ?_); (first
    | with_reducible refine wp_geqsD (c := false) (by decide +kernel) ?_ | with_reducible refine wp_geqsD (c := true) (by decide +kernel) ?_
    | with_reducible refine wp_gnesD (c := false) (by decide +kernel) ?_ | with_reducible refine wp_gnesD (c := true) (by decide +kernel) ?_
    | with_reducible refine wp_gin_lit (c := true) (by decide +kernel) ?_ | with_reducible refine wp_gin_lit (c := false) (by decide +kernel) ?_))
  | with_reducible refine ite_t rfl ?_ | with_reducible refine ite_f rfl ?_
  | walk_at "wpx")
local macro_rules | `(tactic| walk_at "w1") => `(tactic| (fail_if_success (with_reducible refine th_nx ?_)); walk_at "wk")
local macro_rules | `(tactic| walk_at "rg") => `(tactic| first
  | ((with_reducible apply wrg_hand); rfl) | ((with_reducible apply wrg_left); rfl) | ((with_reducible apply wrg_words); rfl) | ((with_reducible apply wrg_letters); rfl) | ((with_reducible apply wrg_labels); rfl) | ((with_reducible apply wrg_beside); rfl)
  | ((with_reducible refine rq_dW ?_ ?_); rfl)
  | walk_at "wk")
local macro_rules | `(tactic| walk_at "r1") => `(tactic| (fail_if_success (with_reducible refine th_nx ?_)); walk_at "rg")
end EA
namespace EA
open PySem PySem.Spec PyProof.Rows L2
local macro_rules | `(tactic| walk_at "ix") => `(tactic| first | rfl | exact atI_cons0 | exact atI_map0)
local macro_rules | `(tactic| walk_at "st") => `(tactic| first | assumption | rfl | exact get_set (by assumption) | exact get_set (get_set (by assumption)) | exact get_last | exact get_setlast | exact get_setapp (by assumption) | exact get_app (by assumption) | exact get_app (get_set (by assumption)))
local macro_rules | `(tactic| walk_at "tk") => `(tactic| first | exact List.take_length | exact take_set | exact take_set2 | exact take_set3 | exact take_app | exact take_aset | exact take_setapp | rfl)
local macro_rules | `(tactic| walk_at "sd") => `(tactic| first | omega | assumption | decide)
local macro_rules | `(tactic| walk_at "wpx") => `(tactic| first
  | with_reducible refine ite2 (fun _ => ?_) (fun z => absurd rfl z)
  | with_reducible refine ite2 (fun z => absurd z Bool.false_ne_true) (fun _ => ?_)
  | ((with_reducible refine gate_wp ?_); (first
    | ((with_reducible apply wp_viewr); (walk_at "st")) | ((with_reducible apply wp_lat); (walk_at "st"))
    | ((with_reducible refine gate_eq ?_); (first | with_reducible refine wp_geqs ?_ | with_reducible refine wp_geqb ?_ | with_reducible refine wp_geq_nil ?_))
    | ((with_reducible refine gate_ne ?_); (first | with_reducible refine wp_gnes ?_ | with_reducible refine wp_gneb ?_ | with_reducible refine wp_gne_nil ?_))
    | ((with_reducible refine gate_ix ?_); (first | ((with_reducible apply wp_ixd); (walk_at "ix")) | ((with_reducible apply wp_ixt); (walk_at "ix")) | ((with_reducible apply wp_ixr); (walk_at "st"); (walk_at "ix"))))
    | ((with_reducible apply wp_trur); (walk_at "st"))
    | ((with_reducible refine wp_l4s ?_ ?_); (first | omega | assumption | decide +kernel)) | with_reducible refine wp_l4 ?_ | ((with_reducible apply wp_l3r); (walk_at "st"))
    | ((with_reducible refine wp_mod ?_ ?_); (walk_at "sd")) | ((with_reducible refine wp_fdiv ?_ ?_); (walk_at "sd")) | ((with_reducible refine wp_mulr ?_ ?_); (walk_at "sd")) | ((with_reducible refine wp_mull ?_ ?_); (walk_at "sd")) | ((with_reducible refine wp_pow ?_ ?_); (walk_at "sd"))
    | ((with_reducible apply wp_lenr); (walk_at "st"))
    | ((with_reducible refine wp_gis ?_ ?_); rfl) | ((with_reducible refine wp_gisn ?_ ?_); rfl)
    | ((with_reducible refine gate_isi ?_); (first | ((with_reducible refine isi_t (r := true) ?_ ?_); (decide +kernel)) | ((with_reducible refine isi_t (r := false) ?_ ?_); (decide +kernel)) | ((with_reducible refine isi_b (r := true) ?_ ?_); (decide +kernel)) | ((with_reducible refine isi_b (r := false) ?_ ?_); (decide +kernel)) | ((with_reducible refine isi_i (r := true) ?_ ?_); (decide +kernel)) | ((with_reducible refine isi_i (r := false) ?_ ?_); (decide +kernel)) | ((with_reducible refine isi_s (r := true) ?_ ?_); (decide +kernel)) | ((with_reducible refine isi_s (r := false) ?_ ?_); (decide +kernel)) | ((with_reducible refine isi_l (r := true) ?_ ?_); (decide +kernel)) | ((with_reducible refine isi_l (r := false) ?_ ?_); (decide +kernel)) | ((with_reducible refine isi_n (r := true) ?_ ?_); (decide +kernel)) | ((with_reducible refine isi_n (r := false) ?_ ?_); (decide +kernel))))
    | ((with_reducible apply wp_tupr); (walk_at "st"))))
  | ((with_reducible refine gate_rq ?_); (first | ((with_reducible apply rq_dt); (walk_at "tk")) | ((with_reducible apply rq_nxt); (walk_at "tk"))))
  | ((with_reducible apply fz_r); (walk_at "st")) | ((with_reducible apply sq_r); (walk_at "st"))
  | ((with_reducible apply atSet_i); (walk_at "st"); rfl) | ((with_reducible apply atLst_i); (walk_at "st")) | ((with_reducible apply nowLst_i); (walk_at "st"))
  | ((with_reducible refine rng1_i ?_ ?_); (walk_at "sd")) | ((with_reducible refine rng2_i ?_ ?_); (walk_at "sd")))
local macro_rules | `(tactic| walk_at "wp") => `(tactic| first
  | with_reducible refine step_of ?_ | ((with_reducible apply wp_var); rfl) | walk_at "wpx")
local macro_rules | `(tactic| walk_at "fdef") => `(tactic| (refine wp_fdef rfl ?_; simp only [List.map_cons, List.map_nil, List.replicate_succ, List.replicate_zero, List.cons_append, List.nil_append]))
local macro_rules | `(tactic| walk_at "keq") => `(tactic| first
  | refine wp_geqD (c := false) (.inr (by decide +kernel)) rfl ?_ | refine wp_geqD (c := true) (.inr (by decide +kernel)) rfl ?_)
local macro_rules | `(tactic| walk_at "wk") => `(tactic| first
  | with_reducible refine step_of ?_ | ((with_reducible apply wp_var); rfl)
  | ((with_reducible refine gate_wp ?_); (first
    | with_reducible refine wp_geqsD (c := false) (by decide +kernel) ?_ | with_reducible refine wp_geqsD (c := true) (by decide +kernel) ?_
    | with_reducible refine wp_gnesD (c := false) (by decide +kernel) ?_ | with_reducible refine wp_gnesD (c := true) (by decide +kernel) ?_
    | with_reducible refine wp_gin_lit (c := true) (by decide +kernel) ?_ | with_reducible refine wp_gin_lit (c := false) (by decide +kernel) ?_))
  | with_reducible refine ite_t rfl ?_ | with_reducible refine ite_f rfl ?_
  | walk_at "wpx")
local macro_rules | `(tactic| walk_at "w1") => `(tactic| (fail_if_success (with_reducible refine th_nx ?_)); walk_at "wk")
/-! ### numberings -/
end EA
namespace EA
open PySem PySem.Spec PyProof.Rows L2
local macro_rules | `(tactic| walk_at "ix") => `(tactic| first | rfl | exact atI_cons0 | exact atI_map0)
local macro_rules | `(tactic| walk_at "st") => `(tactic| first | assumption | rfl | exact get_set (by assumption) | exact get_set (get_set (by assumption)) | exact get_last | exact get_setlast | exact get_setapp (by assumption) | exact get_app (by assumption) | exact get_app (get_set (by assumption)))
local macro_rules | `(tactic| walk_at "tk") => `(tactic| first | exact List.take_length | exact take_set | exact take_set2 | exact take_set3 | exact take_app | exact take_aset | exact take_setapp | rfl)
local macro_rules | `(tactic| walk_at "sd") => `(tactic| first | omega | assumption | decide)
local macro_rules | `(tactic| walk_at "wpx") => `(tactic| first
  | with_reducible refine ite2 (fun _ => ?_) (fun z => absurd rfl z)
  | with_reducible refine ite2 (fun z => absurd z Bool.false_ne_true) (fun _ => ?_)
  | ((with_reducible refine gate_wp ?_); (first
    | ((with_reducible apply wp_viewr); (walk_at "st")) | ((with_reducible apply wp_lat); (walk_at "st"))
    | ((with_reducible refine gate_eq ?_); (first | with_reducible refine wp_geqs ?_ | with_reducible refine wp_geqb ?_ | with_reducible refine wp_geq_nil ?_))
    | ((with_reducible refine gate_ne ?_); (first | with_reducible refine wp_gnes ?_ | with_reducible refine wp_gneb ?_ | with_reducible refine wp_gne_nil ?_))
    | ((with_reducible refine gate_ix ?_); (first | ((with_reducible apply wp_ixd); (walk_at "ix")) | ((with_reducible apply wp_ixt); (walk_at "ix")) | ((with_reducible apply wp_ixr); (walk_at "st"); (walk_at "ix"))))
    | ((with_reducible apply wp_trur); (walk_at "st"))
    | ((with_reducible refine wp_l4s ?_ ?_); (first | omega | assumption | decide +kernel)) | with_reducible refine wp_l4 ?_ | ((with_reducible apply wp_l3r); (walk_at "st"))
    | ((with_reducible refine wp_mod ?_ ?_); (walk_at "sd")) | ((with_reducible refine wp_fdiv ?_ ?_); (walk_at "sd")) | ((with_reducible refine wp_mulr ?_ ?_); (walk_at "sd")) | ((with_reducible refine wp_mull ?_ ?_); (walk_at "sd")) | ((with_reducible refine wp_pow ?_ ?_); (walk_at "sd"))
    | ((with_reducible apply wp_lenr); (walk_at "st"))
    | ((with_reducible refine wp_gis ?_ ?_); rfl) | ((with_reducible refine wp_gisn ?_ ?_); rfl)
    | ((with_reducible refine gate_isi ?_); (first | ((with_reducible refine isi_t (r := true) ?_ ?_); (decide +kernel)) | ((with_reducible refine isi_t (r := false) ?_ ?_); (decide +kernel)) | ((with_reducible refine isi_b (r := true) ?_ ?_); (decide +kernel)) | ((with_reducible refine isi_b (r := false) ?_ ?_); (decide +kernel)) | ((with_reducible refine isi_i (r := true) ?_ ?_); (decide +kernel)) | ((with_reducible refine isi_i (r := false) ?_ ?_); (decide +kernel)) | ((with_reducible refine isi_s (r := true) ?_ ?_); (decide +kernel)) | ((with_reducible refine isi_s (r := false) ?_ ?_); (decide +kernel)) | ((with_reducible refine isi_l (r := true) ?_ ?_); (decide +kernel)) | ((with_reducible refine isi_l (r := false) ?_ ?_); (decide +kernel)) | ((with_reducible refine isi_n (r := true) ?_ ?_); (decide +kernel)) | ((with_reducible refine isi_n (r := false) ?_ ?_); (decide +kernel))))
    | ((with_reducible apply wp_tupr); (walk_at "st"))))
  | ((with_reducible refine gate_rq ?_); (first | ((with_reducible apply rq_dt); (walk_at "tk")) | ((with_reducible apply rq_nxt); (walk_at "tk"))))
  | ((with_reducible apply fz_r); (walk_at "st")) | ((with_reducible apply sq_r); (walk_at "st"))
  | ((with_reducible apply atSet_i); (walk_at "st"); rfl) | ((with_reducible apply atLst_i); (walk_at "st")) | ((with_reducible apply nowLst_i); (walk_at "st"))
  | ((with_reducible refine rng1_i ?_ ?_); (walk_at "sd")) | ((with_reducible refine rng2_i ?_ ?_); (walk_at "sd")))
local macro_rules | `(tactic| walk_at "wp") => `(tactic| first
  | with_reducible refine step_of ?_ | ((with_reducible apply wp_var); rfl) | walk_at "wpx")
local macro_rules | `(tactic| walk_at "fdef") => `(tactic| (refine wp_fdef rfl ?_; simp only [List.map_cons, List.map_nil, List.replicate_succ, List.replicate_zero, List.cons_append, List.nil_append]))
local macro_rules | `(tactic| walk_at "keq") => `(tactic| first
  | refine wp_geqD (c := false) (.inr (by decide +kernel)) rfl ?_ | refine wp_geqD (c := true) (.inr (by decide +kernel)) rfl ?_)
local macro_rules | `(tactic| walk_at "wk") => `(tactic| first
  | with_reducible refine step_of ?_ | ((with_reducible apply wp_var); rfl)
  | ((with_reducible refine gate_wp ?_); (first
    | with_reducible refine wp_geqsD (c := false) (by decide +kernel) ?_ | with_reducible refine wp_geqsD (c := true) (by decide +kernel) ?_
    | with_reducible refine wp_gnesD (c := false) (by decide +kernel) ?_ | with_reducible refine wp_gnesD (c := true) (by decide +kernel) ?_
    | with_reducible refine wp_gin_lit (c := true) (by decide +kernel) ?_ | with_reducible refine wp_gin_lit (c := false) (by decide +kernel) ?_))
  | with_reducible refine ite_t rfl ?_ | with_reducible refine ite_f rfl ?_
  | walk_at "wpx")
local macro_rules | `(tactic| walk_at "w1") => `(tactic| (fail_if_success (with_reducible refine th_nx ?_)); walk_at "wk")
/-! ### dicts of lists of texts -/
end EA
namespace EA
open PySem PySem.Spec PyProof.Rows L2
/-! ### rules for S28, S30, S31: sorting by the first, d.pop, d.setdefault, displays with number keys -/
section
variable {sl : Sl} {S : List MO} {Q : W3 → List MO → Prop} {QN : List PyData → List MO → Prop} {QK : List (Key × PyData) → List MO → Prop}
theorem wp_id {fs : List (Int × FE)} (h : Wp2 (idF fs sl S) fun kvs S1 => ((kvs.map (·.1)).Nodup ∧ kvs.length ≤ 15) ∧ Q (.r S1.length) (S1 ++ [.dic kvs])) : Wp2 (eID fs sl S) Q := by
  obtain ⟨⟨kvs, S1⟩, e, z, q⟩ := h
  refine ⟨(.r S1.length, S1 ++ [.dic kvs]), ?_, q⟩
  unfold eID
  rw [e]
  exact if_pos z
theorem wp_id0 (q : QK [] S) : Wp2 (idF [] sl S) QK := ⟨([], S), rfl, q⟩
theorem wp_id1 {k : Int} {f : FE} {r : List (Int × FE)} (h : Wp2 (f sl S) fun p1 p2 => ∃ x, p1 = .d x ∧ Wp2 (idF r sl p2) fun q1 q2 => QK ((.inl k, x) :: q1) q2) : Wp2 (idF ((k, f) :: r) sl S) QK := by
  obtain ⟨⟨p1, p2⟩, e1, x, h1, ⟨q1, q2⟩, e2, q⟩ := h
  dsimp only at h1 e2 q
  subst h1
  refine ⟨((.inl k, x) :: q1, q2), ?_, q⟩
  unfold idF
  rw [e1]
  simp only [Option.bind_some, e2, Option.map_some]
instance st_id0 : Step (Wp2 (idF [] sl S) QK) (QK [] S) := ⟨wp_id0⟩
instance st_id1 {k : Int} {f : FE} {r : List (Int × FE)} : Step (Wp2 (idF ((k, f) :: r) sl S) QK) (Wp2 (f sl S) fun p1 p2 => ∃ x, p1 = .d x ∧ Wp2 (idF r sl p2) fun q1 q2 => QK ((.inl k, x) :: q1) q2) := ⟨wp_id1⟩
instance st_id {fs : List (Int × FE)} : Step (Wp2 (eID fs sl S) Q) (Wp2 (idF fs sl S) fun kvs S1 => ((kvs.map (·.1)).Nodup ∧ kvs.length ≤ 15) ∧ Q (.r S1.length) (S1 ++ [.dic kvs])) := ⟨wp_id⟩
end
/-! ### a dict without a key -/
end EA
namespace EA
open PySem PySem.Spec PyProof.Rows L2
/-! ### rules for instances: fields, methods, their making; calls by keyword -/
def InsF (n : Str) (w : W3) (S : List MO) (f : Str) (K : W3 → Prop) : Prop := ∃ kvs x, insAt S n w = some kvs ∧ kvs.lookup f = some x ∧ K x
def InsP (n : Str) (w : W3) (S : List MO) (f : Str) (v : W3) (K : List MO → Prop) : Prop := ∃ kvs, insAt S n w = some kvs ∧ kvs.length < 900 ∧ K (setAt S w (.ins n (fput f v kvs)))
def InsM (n : Str) (w : W3) (S : List MO) (m : Str) (G : Prop) : Prop := ∃ kvs, insAt S n w = some kvs ∧ kvs.lookup m = none ∧ G
def NonW (w : W3) (G : Prop) : Prop := w = .d .none ∧ G
theorem nonW_i {G : Prop} (g : G) : NonW (.d .none) G := ⟨rfl, g⟩
section
variable {sl : Sl} {S : List MO} {Q : W3 → List MO → Prop} {QS : Out → Prop} {n f m : Str} {f3 : F3} {o v : FE} {a k : FA}
theorem wp_fg (h : Wp2 (o sl S) fun p1 p2 => InsF n p1 p2 f fun w => Q w p2) : Wp2 (eFG n o f sl S) Q := wp_bind.mpr (Wp.imp h fun p ⟨kvs, x, e1, e2, q⟩ => wp_bind.mpr (wp_eq e1 (wp_map.mpr (wp_eq e2 q))))
theorem wp_fs (h : Wp2 (v sl S) fun p1 p2 => Wp2 (o sl p2) fun q1 q2 => InsP n q1 q2 f p1 fun S' => QS (.nx sl S')) : Wp (sFS n o f v sl S) QS := wp_bind.mpr (Wp.imp h fun p h => wp_bind.mpr (Wp.imp h fun q ⟨kvs, e1, e2, q⟩ => wp_bind.mpr (wp_eq e1 (by
  rw [if_pos e2]
  exact wp_some.mpr q))))
theorem wp_fa (h : Wp2 (o sl S) fun p1 p2 => InsF n p1 p2 f fun x => IntW x fun i => Wp2 (v sl p2) fun q1 q2 => IntW q1 fun j => InsP n p1 q2 f (.d (.int (i + j))) fun S' => QS (.nx sl S')) : Wp (sFA n o f v sl S) QS := wp_bind.mpr (Wp.imp h fun p ⟨kvs, x, e1, e2, i, e3, h⟩ => wp_bind.mpr (wp_eq e1 (by
  rw [e2, e3]
  exact wp_bind.mpr (Wp.imp h fun q ⟨j, e4, kv2, e5, e6, q⟩ => by
    dsimp only at e4 e5 q ⊢
    rw [e4]
    exact wp_bind.mpr (wp_eq e5 (by rw [if_pos e6]; exact wp_some.mpr q))))))
theorem wp_mt (h : Wp2 (o sl S) fun p1 p2 => InsM n p1 p2 m (Wp2 (a sl p2) fun u1 u2 => Wp2 (f3 (p1 :: u1) u2) Q)) : Wp2 (eMt n m f3 o a sl S) Q := wp_bind.mpr (Wp.imp h fun p ⟨kvs, e1, e2, h⟩ => wp_bind.mpr (wp_eq e1 (by
  rw [if_pos e2]
  exact wp_bind.mpr h)))
theorem wp_mk (h : Wp2 (a sl S) fun p1 p2 => Wp2 (f3 (.r p2.length :: p1) (p2 ++ [.ins n []])) fun q1 q2 => NonW q1 (Q (.r p2.length) q2)) : Wp2 (eMk n f3 a sl S) Q := wp_bind.mpr (Wp.imp h fun p h => wp_bind.mpr (Wp.imp h fun q ⟨e, q⟩ => by
  rw [e]
  exact wp_some.mpr q))
theorem wp_callK {mm nn : Nat} (h : Wp2 (a sl S) fun p1 p2 => Wp2 (k sl p2) fun q1 q2 => (p1.length = mm ∧ q1.length = nn) ∧ Wp2 (f3 (p1 ++ q1) q2) Q) : Wp2 (eCallK mm nn f3 a k sl S) Q := wp_bind.mpr (Wp.imp h fun p h => wp_bind.mpr (Wp.imp h fun q ⟨e, q⟩ => by
  rw [if_pos e]
  exact q))
instance st_fg : Step (Wp2 (eFG n o f sl S) Q) (Wp2 (o sl S) fun p1 p2 => InsF n p1 p2 f fun w => Q w p2) := ⟨wp_fg⟩
instance st_fs : Step (Wp (sFS n o f v sl S) QS) (Wp2 (v sl S) fun p1 p2 => Wp2 (o sl p2) fun q1 q2 => InsP n q1 q2 f p1 fun S' => QS (.nx sl S')) := ⟨wp_fs⟩
instance st_fa : Step (Wp (sFA n o f v sl S) QS) (Wp2 (o sl S) fun p1 p2 => InsF n p1 p2 f fun x => IntW x fun i => Wp2 (v sl p2) fun q1 q2 => IntW q1 fun j => InsP n p1 q2 f (.d (.int (i + j))) fun S' => QS (.nx sl S')) := ⟨wp_fa⟩
instance st_mt : Step (Wp2 (eMt n m f3 o a sl S) Q) (Wp2 (o sl S) fun p1 p2 => InsM n p1 p2 m (Wp2 (a sl p2) fun u1 u2 => Wp2 (f3 (p1 :: u1) u2) Q)) := ⟨wp_mt⟩
instance st_mk : Step (Wp2 (eMk n f3 a sl S) Q) (Wp2 (a sl S) fun p1 p2 => Wp2 (f3 (.r p2.length :: p1) (p2 ++ [.ins n []])) fun q1 q2 => NonW q1 (Q (.r p2.length) q2)) := ⟨wp_mk⟩
instance st_nonW {G : Prop} : Step (NonW (.d .none) G) G := ⟨nonW_i⟩
instance st_callK {mm nn : Nat} : Step (Wp2 (eCallK mm nn f3 a k sl S) Q) (Wp2 (a sl S) fun p1 p2 => Wp2 (k sl p2) fun q1 q2 => (p1.length = mm ∧ q1.length = nn) ∧ Wp2 (f3 (p1 ++ q1) q2) Q) := ⟨wp_callK⟩
end
/-! a prefix of the store -/
end EA
namespace EA
open PySem PySem.Spec PyProof.Rows L2
local macro_rules | `(tactic| walk_at "ix") => `(tactic| first | rfl | exact atI_cons0 | exact atI_map0)
local macro_rules | `(tactic| walk_at "st") => `(tactic| first | assumption | rfl | exact get_set (by assumption) | exact get_set (get_set (by assumption)) | exact get_last | exact get_setlast | exact get_setapp (by assumption) | exact get_app (by assumption) | exact get_app (get_set (by assumption)))
local macro_rules | `(tactic| walk_at "tk") => `(tactic| first | exact List.take_length | exact take_set | exact take_set2 | exact take_set3 | exact take_app | exact take_aset | exact take_setapp | rfl)
local macro_rules | `(tactic| walk_at "sd") => `(tactic| first | omega | assumption | decide)
local macro_rules | `(tactic| walk_at "wpx") => `(tactic| first
  | with_reducible refine ite2 (fun _ => ?_) (fun z => absurd rfl z)
  | with_reducible refine ite2 (fun z => absurd z Bool.false_ne_true) (fun _ => ?_)
  | ((with_reducible refine gate_wp ?_); (first
    | ((with_reducible apply wp_viewr); (walk_at "st")) | ((with_reducible apply wp_lat); (walk_at "st"))
    | ((with_reducible refine gate_eq ?_); (first | with_reducible refine wp_geqs ?_ | with_reducible refine wp_geqb ?_ | with_reducible refine wp_geq_nil ?_))
    | ((with_reducible refine gate_ne ?_); (first | with_reducible refine wp_gnes ?_ | with_reducible refine wp_gneb ?_ | with_reducible refine wp_gne_nil ?_))
    | ((with_reducible refine gate_ix ?_); (first | ((with_reducible apply wp_ixd); (walk_at "ix")) | ((with_reducible apply wp_ixt); (walk_at "ix")) | ((with_reducible apply wp_ixr); (walk_at "st"); (walk_at "ix"))))
    | ((with_reducible apply wp_trur); (walk_at "st"))
    | ((with_reducible refine wp_l4s ?_ ?_); (first | omega | assumption | decide +kernel)) | with_reducible refine wp_l4 ?_ | ((with_reducible apply wp_l3r); (walk_at "st"))
    | ((with_reducible refine wp_mod ?_ ?_); (walk_at "sd")) | ((with_reducible refine wp_fdiv ?_ ?_); (walk_at "sd")) | ((with_reducible refine wp_mulr ?_ ?_); (walk_at "sd")) | ((with_reducible refine wp_mull ?_ ?_); (walk_at "sd")) | ((with_reducible refine wp_pow ?_ ?_); (walk_at "sd"))
    | ((with_reducible apply wp_lenr); (walk_at "st"))
    | ((with_reducible refine wp_gis ?_ ?_); rfl) | ((with_reducible refine wp_gisn ?_ ?_); rfl)
    | ((with_reducible refine gate_isi ?_); (first | ((with_reducible refine isi_t (r := true) ?_ ?_); (decide +kernel)) | ((with_reducible refine isi_t (r := false) ?_ ?_); (decide +kernel)) | ((with_reducible refine isi_b (r := true) ?_ ?_); (decide +kernel)) | ((with_reducible refine isi_b (r := false) ?_ ?_); (decide +kernel)) | ((with_reducible refine isi_i (r := true) ?_ ?_); (decide +kernel)) | ((with_reducible refine isi_i (r := false) ?_ ?_); (decide +kernel)) | ((with_reducible refine isi_s (r := true) ?_ ?_); (decide +kernel)) | ((with_reducible refine isi_s (r := false) ?_ ?_); (decide +kernel)) | ((with_reducible refine isi_l (r := true) ?_ ?_); (decide +kernel)) | ((with_reducible refine isi_l (r := false) ?_ ?_); (decide +kernel)) | ((with_reducible refine isi_n (r := true) ?_ ?_); (decide +kernel)) | ((with_reducible refine isi_n (r := false) ?_ ?_); (decide +kernel))))
    | ((with_reducible apply wp_tupr); (walk_at "st"))))
  | ((with_reducible refine gate_rq ?_); (first | ((with_reducible apply rq_dt); (walk_at "tk")) | ((with_reducible apply rq_nxt); (walk_at "tk"))))
  | ((with_reducible apply fz_r); (walk_at "st")) | ((with_reducible apply sq_r); (walk_at "st"))
  | ((with_reducible apply atSet_i); (walk_at "st"); rfl) | ((with_reducible apply atLst_i); (walk_at "st")) | ((with_reducible apply nowLst_i); (walk_at "st"))
  | ((with_reducible refine rng1_i ?_ ?_); (walk_at "sd")) | ((with_reducible refine rng2_i ?_ ?_); (walk_at "sd")))
local macro_rules | `(tactic| walk_at "wp") => `(tactic| first
  | with_reducible refine step_of ?_ | ((with_reducible apply wp_var); rfl) | walk_at "wpx")
local macro_rules | `(tactic| walk_at "fdef") => `(tactic| (refine wp_fdef rfl ?_; simp only [List.map_cons, List.map_nil, List.replicate_succ, List.replicate_zero, List.cons_append, List.nil_append]))
theorem enc_gd : ∀ c : C, gdD c.enc = true
  | .b _ => rfl
  | .nd s x y => by
    show (decide (3 ≤ 5000) && (gdD (.str s) && (gdD x.enc && (gdD y.enc && true)))) = true
    rw [enc_gd x, enc_gd y]; rfl
end EA
namespace EA
open PySem PySem.Spec PyProof.Rows L2
local macro_rules | `(tactic| walk_at "ix") => `(tactic| first | rfl | exact atI_cons0 | exact atI_map0)
local macro_rules | `(tactic| walk_at "st") => `(tactic| first | assumption | rfl | exact get_set (by assumption) | exact get_set (get_set (by assumption)) | exact get_last | exact get_setlast | exact get_setapp (by assumption) | exact get_app (by assumption) | exact get_app (get_set (by assumption)))
local macro_rules | `(tactic| walk_at "tk") => `(tactic| first | exact List.take_length | exact take_set | exact take_set2 | exact take_set3 | exact take_app | exact take_aset | exact take_setapp | rfl)
local macro_rules | `(tactic| walk_at "sd") => `(tactic| first | omega | assumption | decide)
local macro_rules | `(tactic| walk_at "wpx") => `(tactic| first
  | with_reducible refine ite2 (fun _ => ?_) (fun z => absurd rfl z)
  | with_reducible refine ite2 (fun z => absurd z Bool.false_ne_true) (fun _ => ?_)
  | ((with_reducible refine gate_wp ?_); (first
    | ((with_reducible apply wp_viewr); (walk_at "st")) | ((with_reducible apply wp_lat); (walk_at "st"))
    | ((with_reducible refine gate_eq ?_); (first | with_reducible refine wp_geqs ?_ | with_reducible refine wp_geqb ?_ | with_reducible refine wp_geq_nil ?_))
    | ((with_reducible refine gate_ne ?_); (first | with_reducible refine wp_gnes ?_ | with_reducible refine wp_gneb ?_ | with_reducible refine wp_gne_nil ?_))
    | ((with_reducible refine gate_ix ?_); (first | ((with_reducible apply wp_ixd); (walk_at "ix")) | ((with_reducible apply wp_ixt); (walk_at "ix")) | ((with_reducible apply wp_ixr); (walk_at "st"); (walk_at "ix"))))
    | ((with_reducible apply wp_trur); (walk_at "st"))
    | ((with_reducible refine wp_l4s ?_ ?_); (first | omega | assumption | decide +kernel)) | with_reducible refine wp_l4 ?_ | ((with_reducible apply wp_l3r); (walk_at "st"))
    | ((with_reducible refine wp_mod ?_ ?_); (walk_at "sd")) | ((with_reducible refine wp_fdiv ?_ ?_); (walk_at "sd")) | ((with_reducible refine wp_mulr ?_ ?_); (walk_at "sd")) | ((with_reducible refine wp_mull ?_ ?_); (walk_at "sd")) | ((with_reducible refine wp_pow ?_ ?_); (walk_at "sd"))
    | ((with_reducible apply wp_lenr); (walk_at "st"))
    | ((with_reducible refine wp_gis ?_ ?_); rfl) | ((with_reducible refine wp_gisn ?_ ?_); rfl)
    | ((with_reducible refine gate_isi ?_); (first | ((with_reducible refine isi_t (r := true) ?_ ?_); (decide +kernel)) | ((with_reducible refine isi_t (r := false) ?_ ?_); (decide +kernel)) | ((with_reducible refine isi_b (r := true) ?_ ?_); (decide +kernel)) | ((with_reducible refine isi_b (r := false) ?_ ?_); (decide +kernel)) | ((with_reducible refine isi_i (r := true) ?_ ?_); (decide +kernel)) | ((with_reducible refine isi_i (r := false) ?_ ?_); (decide +kernel)) | ((with_reducible refine isi_s (r := true) ?_ ?_); (decide +kernel)) | ((with_reducible refine isi_s (r := false) ?_ ?_); (decide +kernel)) | ((with_reducible refine isi_l (r := true) ?_ ?_); (decide +kernel)) | ((with_reducible refine isi_l (r := false) ?_ ?_); (decide +kernel)) | ((with_reducible refine isi_n (r := true) ?_ ?_); (decide +kernel)) | ((with_reducible refine isi_n (r := false) ?_ ?_); (decide +kernel))))
    | ((with_reducible apply wp_tupr); (walk_at "st"))))
  | ((with_reducible refine gate_rq ?_); (first | ((with_reducible apply rq_dt); (walk_at "tk")) | ((with_reducible apply rq_nxt); (walk_at "tk"))))
  | ((with_reducible apply fz_r); (walk_at "st")) | ((with_reducible apply sq_r); (walk_at "st"))
  | ((with_reducible apply atSet_i); (walk_at "st"); rfl) | ((with_reducible apply atLst_i); (walk_at "st")) | ((with_reducible apply nowLst_i); (walk_at "st"))
  | ((with_reducible refine rng1_i ?_ ?_); (walk_at "sd")) | ((with_reducible refine rng2_i ?_ ?_); (walk_at "sd")))
local macro_rules | `(tactic| walk_at "wp") => `(tactic| first
  | with_reducible refine step_of ?_ | ((with_reducible apply wp_var); rfl) | walk_at "wpx")
local macro_rules | `(tactic| walk_at "fdef") => `(tactic| (refine wp_fdef rfl ?_; simp only [List.map_cons, List.map_nil, List.replicate_succ, List.replicate_zero, List.cons_append, List.nil_append]))
/-! ### what repr asks of the data -/
def Okn (s : Str) : Prop := PyData.strOk s = true ∧ s.length ≤ 100
theorem strs_show : ∀ ss : List Str, PyData.showableAll (ss.map .str) = true
  | [] => rfl
  | s :: ss => by
    show (PyData.showable (.str s) && PyData.showableAll (ss.map .str)) = true
    rw [strs_show ss]; rfl
theorem strs_nodict : ∀ ss : List Str, PyData.hasDictAll (ss.map .str) = false
  | [] => rfl
  | s :: ss => by
    show (PyData.hasDict (.str s) || PyData.hasDictAll (ss.map .str)) = false
    rw [strs_nodict ss]; rfl
theorem strs_short : ∀ {ss : List Str}, (∀ s ∈ ss, Okn s) → PyData.leavesShortAll 8 (ss.map .str) = true
  | [], _ => rfl
  | s :: ss, h => by
    show (PyData.leavesShort 8 (.str s) && PyData.leavesShortAll 8 (ss.map .str)) = true
    rw [strs_short fun x hx => h x (List.mem_cons_of_mem _ hx), Bool.and_true]
    have h1 : s.cps.all (· < 0x110000) = true := (h s List.mem_cons_self).1
    simp only [PyData.leavesShort, List.all_eq_true, decide_eq_true_eq]
    intro c hc
    have h2 := Array.all_eq_true'.mp h1 c (Array.mem_def.mpr hc)
    have h3 : c < 0x110000 := of_decide_eq_true h2
    exact Nat.lt_trans h3 (by decide)
theorem strs_weight : ∀ {ss : List Str}, (∀ s ∈ ss, Okn s) → PyData.weightAll (ss.map .str) ≤ 102 * ss.length
  | [], _ => Nat.le_refl _
  | s :: ss, h => by
    have h1 := strs_weight fun x hx => h x (List.mem_cons_of_mem _ hx)
    have h2 : s.cps.size ≤ 100 := (h s List.mem_cons_self).2
    have e : PyData.weightAll ((s :: ss).map .str) = (PyData.str s).weight + 1 + PyData.weightAll (ss.map .str) := rfl
    have e2 : (PyData.str s).weight ≤ s.cps.size + 1 := by
      simp only [PyData.weight]
      omega
    rw [e, List.length_cons]; omega
theorem strs_depth : ∀ ss : List Str, PyData.depthAll (ss.map .str) ≤ 1
  | [] => Nat.zero_le _
  | s :: ss => by
    show max (PyData.depth (.str s)) (PyData.depthAll (ss.map .str)) ≤ 1
    have := strs_depth ss
    have : PyData.depth (.str s) ≤ 1 := by rw [PyData.depth]; decide
    omega
/-- settings as they are handed in -/
structure Hin (p : PyData × List Str) : Prop where
  sq : Sq p.1 (p.2.map .str)
  ok : ∀ s ∈ p.2, Okn s
  few : p.2.length ≤ 20
theorem Hin.show {p : PyData × List Str} (h : Hin p) : p.1.showable = true ∧ p.1.hasDict = false ∧ p.1.leavesShort 8 = true ∧ p.1.weight ≤ 2100 ∧ p.1.depth ≤ 3 := by
  have w := strs_weight h.ok
  have d := strs_depth p.2
  have f := h.few
  rcases h.sq with e | e
  · rw [e]
    refine ⟨strs_show _, strs_nodict _, strs_short h.ok, ?_, ?_⟩
    · simp only [PyData.weight]; omega
    · simp only [PyData.depth]; omega
  · rw [e]
    refine ⟨strs_show _, strs_nodict _, strs_short h.ok, ?_, ?_⟩
    · simp only [PyData.weight]; omega
    · simp only [PyData.depth]; omega
theorem hin_all : ∀ {ps : List (PyData × List Str)}, (∀ p ∈ ps, Hin p) → PyData.showableAll (ps.map (·.1)) = true ∧ PyData.hasDictAll (ps.map (·.1)) = false ∧ PyData.leavesShortAll 8 (ps.map (·.1)) = true ∧ PyData.weightAll (ps.map (·.1)) ≤ 2102 * ps.length ∧ PyData.depthAll (ps.map (·.1)) ≤ 3
  | [], _ => ⟨rfl, rfl, rfl, Nat.le_refl _, Nat.zero_le _⟩
  | p :: ps, h => by
    obtain ⟨a1, a2, a3, a4, a5⟩ := hin_all fun x hx => h x (List.mem_cons_of_mem _ hx)
    obtain ⟨b1, b2, b3, b4, b5⟩ := (h p List.mem_cons_self).show
    refine ⟨?_, ?_, ?_, ?_, ?_⟩
    · show (p.1.showable && _) = true
      rw [b1, a1]; rfl
    · show (p.1.hasDict || _) = false
      rw [b2, a2]; rfl
    · show (p.1.leavesShort 8 && _) = true
      rw [b3, a3]; rfl
    · show p.1.weight + 1 + PyData.weightAll (ps.map (·.1)) ≤ 2102 * (ps.length + 1)
      omega
    · show max p.1.depth (PyData.depthAll (ps.map (·.1))) ≤ 3
      omega
theorem repr_some {ps : List (PyData × List Str)} (h : ∀ p ∈ ps, Hin p) (hl : ps.length ≤ 64) : reprD (.list (ps.map (·.1))) = some (.str (PyData.list (ps.map (·.1))).shown) := by
  obtain ⟨a1, a2, a3, a4, a5⟩ := hin_all h
  refine if_pos ⟨a1, a2, ?_, PyData.shown_fits (B := 8) (Nat.le_refl _) (by decide) a3 ?_⟩
  · simp only [PyData.depth]; omega
  · simp only [PyData.weight]
    have : (2 : Nat) ^ 20 = 1048576 := by decide
    omega
/-! ### data alike -/
theorem gd_strs : ∀ ss : List Str, gdA (ss.map .str) = true
  | [] => rfl
  | s :: ss => by
    show (gdD (.str s) && gdA (ss.map .str)) = true
    rw [gd_strs ss]; rfl
theorem gd_tups : ∀ {L : List (List Str)}, (∀ s ∈ L, s.length ≤ 5000) → gdA (L.map tupS) = true ∧ PyData.depthAll (L.map tupS) ≤ 3
  | [], _ => ⟨rfl, Nat.zero_le _⟩
  | s :: L, h => by
    obtain ⟨h1, h2⟩ := gd_tups fun x hx => h x (List.mem_cons_of_mem _ hx)
    have d := strs_depth s
    refine ⟨?_, ?_⟩
    · show ((decide ((s.map PyData.str).length ≤ 5000) && gdA (s.map .str)) && gdA (L.map tupS)) = true
      rw [gd_strs, h1, List.length_map, decide_eq_true (h s List.mem_cons_self)]; rfl
    · show max (PyData.depth (tupS s)) (PyData.depthAll (L.map tupS)) ≤ 3
      have : PyData.depth (tupS s) ≤ 3 := by
        simp only [PyData.depth]; omega
      omega
theorem gd_sets {L : List (List Str)} (hl : L.length ≤ 5000) (h : ∀ s ∈ L, s.length ≤ 5000) : gdD (.tuple (L.map tupS)) = true ∧ (PyData.tuple (L.map tupS)).depth ≤ 10 := by
  obtain ⟨h1, h2⟩ := gd_tups h
  refine ⟨?_, ?_⟩
  · show (decide ((L.map tupS).length ≤ 5000) && gdA (L.map tupS)) = true
    rw [h1, List.length_map, decide_eq_true hl]; rfl
  · simp only [PyData.depth]; omega
theorem eqv_str2 (x y : Str) : PyData.eqv (.str x) (.str y) = decide (x = y) := by
  have h : PyData.eqv (.str x) (.str y) = (x == y) := rfl
  rw [h]
  by_cases e : x = y
  · subst e; simp
  · simp [e]
theorem eqvAll_strs : ∀ a b : List Str, PyData.eqvAll (a.map .str) (b.map .str) = decide (a = b)
  | [], [] => rfl
  | [], _ :: _ => rfl
  | _ :: _, [] => rfl
  | x :: a, y :: b => by
    show (PyData.eqv (.str x) (.str y) && PyData.eqvAll (a.map .str) (b.map .str)) = _
    rw [eqvAll_strs a b, eqv_str2]
    by_cases e : x = y
    · subst e; simp
    · simp [e]
theorem any_lstS (a : List Str) : ∀ L : List (List Str), ((L.map lstS).any fun y => PyData.eqv y (lstS a)) = decide (a ∈ L)
  | [] => by simp
  | b :: L => by
    rw [List.map_cons, List.any_cons, any_lstS a L, show PyData.eqv (lstS b) (lstS a) = decide (b = a) from eqvAll_strs b a]
    by_cases e : b = a
    · subst e; simp
    · have : a ≠ b := fun z => e z.symm
      simp [e, this]
/-! ### mathematics -/
theorem filter_first {p : Nat → Bool} {k N : Nat} (hk : k < N) (h1 : p k = true) (h0 : ∀ j, j < k → p j = false) : ∃ r, (List.range N).filter p = k :: r := by
  obtain ⟨m, rfl⟩ : ∃ m, N = k + (1 + m) := ⟨N - k - 1, by omega⟩
  rw [List.range_add, List.filter_append, List.filter_eq_nil_iff.mpr fun j hj => by rw [h0 j (List.mem_range.mp hj)]; decide, List.nil_append, List.range_add, List.map_append]
  refine ⟨(((List.range m).map (1 + ·)).map (k + ·)).filter p, ?_⟩
  show ((k + 0) :: (((List.range m).map (1 + ·)).map (k + ·))).filter p = _
  rw [List.filter_cons, Nat.add_zero, if_pos h1]
theorem oc_ins {q : Str} {post : List Str} : ∀ {pre : List Str} {c : C}, OC (pre ++ post) c → OC (pre ++ q :: post) c
  | [], c, h => .skip h
  | x :: xs, c, h => by
    cases h with
    | leaf v => exact .leaf v
    | node ha hb e => exact .node (oc_ins ha) (oc_ins hb) e
    | skip h => exact .skip (oc_ins h)
/-- names and one more -/
structure Wid (q : Str) (ns ws : List Str) : Prop where
  hns : NS ns
  hws : NS ws
  nq : q ∉ ns
  mem : ∀ s, s ∈ ws ↔ s ∈ ns ∨ s = q
theorem Wid.split {q : Str} {ns ws : List Str} (h : Wid q ns ws) : ∃ pre post, ws = pre ++ q :: post ∧ ns = pre ++ post := by
  obtain ⟨pre, post, e⟩ := List.append_of_mem ((h.mem q).mpr (.inr rfl))
  refine ⟨pre, post, e, ?_⟩
  have hs := h.hws.srt
  rw [e] at hs
  have sb : (pre ++ post).Sublist (pre ++ q :: post) := (List.Sublist.refl pre).append (List.sublist_cons_self q post)
  have nd := pw_nodup hs
  refine sorted_uniq h.hns.srt (hs.sublist sb) fun s => ?_
  have hm := h.mem s
  rw [e] at hm
  constructor
  · intro hs
    have ne : s ≠ q := fun z => h.nq (by rw [← z]; exact hs)
    have := hm.mpr (.inl hs)
    rcases List.mem_append.mp this with m | m
    · exact List.mem_append_left _ m
    · rcases List.mem_cons.mp m with m | m
      · exact absurd m ne
      · exact List.mem_append_right _ m
  · intro hs2
    have ne : s ≠ q := fun z => by
      have hs2 := hs2
      rw [z] at hs2
      have := List.nodup_append.mp nd
      rcases List.mem_append.mp hs2 with m | m
      · exact this.2.2 q m q List.mem_cons_self rfl
      · exact (List.nodup_cons.mp this.2.1).1 m
    exact (hm.mp (sb.subset hs2)).resolve_right ne
theorem Wid.filter {q : Str} {ns ws : List Str} (h : Wid q ns ws) (f : Str → Bool) : (ws.filter f).filter (fun s => !(s == q)) = ns.filter f := by
  refine sorted_uniq (h.hws.srt.sublist (List.filter_sublist.trans List.filter_sublist)) (h.hns.srt.sublist List.filter_sublist) fun s => ?_
  rw [List.mem_filter, List.mem_filter, List.mem_filter, h.mem s]
  constructor
  · rintro ⟨⟨h1, h2⟩, h3⟩
    have : s ≠ q := by simpa using h3
    exact ⟨h1.resolve_right this, h2⟩
  · rintro ⟨h1, h2⟩
    have : s ≠ q := fun z => h.nq (by rw [← z]; exact h1)
    exact ⟨⟨.inl h1, h2⟩, by simpa using this⟩
theorem Wid.oc {q : Str} {ns ws : List Str} (h : Wid q ns ws) {c : C} (hc : OC ns c) : OC ws c := by
  obtain ⟨pre, post, e1, e2⟩ := h.split
  rw [e1]
  rw [e2] at hc
  exact oc_ins hc
theorem Wid.cn {q : Str} {ns ws : List Str} (h : Wid q ns ws) {c : C} (hc : OC ns c) : cn ws c = 2 * cn ns c := by
  obtain ⟨pre, post, e1, e2⟩ := h.split
  rw [e1, e2]
  exact cn_ins fun m => h.nq (hc.vars q m)
/-- a setting of these at which the condition holds -/
def goodK (ns : List Str) (c : C) : List Nat := (List.range (2 ^ ns.length)).filter fun k => c.ev (asg ns k)
/-- the settings handed in, one by one -/
def Each (ns : List Str) (G : List Nat) (ps : List (PyData × List Str)) : Prop := ps.length = G.length ∧ ∀ (j : Nat) (p : PyData × List Str), ps[j]? = some p → Hin p ∧ ∃ k : Nat, G[j]? = some k ∧ ∀ s, s ∈ p.2 ↔ s ∈ ns.filter (asg ns k)
theorem Each.hin {ns : List Str} {G : List Nat} {ps : List (PyData × List Str)} (h : Each ns G ps) : ∀ p ∈ ps, Hin p := fun p hp => by
  obtain ⟨j, hj, e⟩ := List.getElem_of_mem hp
  exact (h.2 j p (by rw [List.getElem?_eq_getElem hj, e])).1
theorem Each.to {ns : List Str} {G : List Nat} {ps : List (PyData × List Str)} (h : Each ns G ps) : ∀ p ∈ ps, ∃ k ∈ G, ∀ s, s ∈ p.2 ↔ s ∈ ns.filter (asg ns k) := fun p hp => by
  obtain ⟨j, hj, e⟩ := List.getElem_of_mem hp
  obtain ⟨_, k, hk, q⟩ := h.2 j p (by rw [List.getElem?_eq_getElem hj, e])
  exact ⟨k, List.mem_of_getElem? hk, q⟩
theorem Each.of {ns : List Str} {G : List Nat} {ps : List (PyData × List Str)} (h : Each ns G ps) : ∀ k ∈ G, ∃ p ∈ ps, ∀ s, s ∈ p.2 ↔ s ∈ ns.filter (asg ns k) := fun k hk => by
  obtain ⟨j, hj, e⟩ := List.getElem_of_mem hk
  have hj2 : j < ps.length := by rw [h.1]; exact hj
  obtain ⟨_, k', hk', q⟩ := h.2 j _ (List.getElem?_eq_getElem hj2)
  rw [List.getElem?_eq_getElem hj, e] at hk'
  cases hk'
  exact ⟨_, List.getElem_mem hj2, q⟩
theorem agr_iff {ms : List Str} {f : Str → Bool} {ss : List Str} : agr ms f ss = true ↔ ∀ s ∈ ms, f s = true ↔ s ∈ ss := by
  unfold agr
  rw [List.all_eq_true]
  constructor
  · intro h s hs
    have := h s hs
    cases e : f s with
    | true =>
      rw [e] at this
      simp at this
      exact ⟨fun _ => this, fun _ => rfl⟩
    | false =>
      rw [e] at this
      simp at this
      exact ⟨fun z => absurd z Bool.false_ne_true, fun z => absurd z this⟩
  · intro h s hs
    have := h s hs
    cases e : f s with
    | true => simp [this.mp e]
    | false =>
      have : s ∉ ss := fun z => by rw [this.mpr z] at e; cases e
      simp [this]
/-- the condition at the settings at which it holds is itself -/
theorem back_same {ns : List Str} {c d : C} {ps : List (PyData × List Str)} (hn : NS ns) (hc : OC ns c) (hd : OC ns d) (he : Each ns (goodK ns c) ps) (ev : ∀ f, d.ev f = ps.any fun p => agr ns f p.2) : d = c := by
  refine OC.uniq hn.nd hd hc fun f => ?_
  have ef : c.ev f = c.ev (asg ns (idx ns f)) := ev_idx hc hn.nd f
  have ix : idx ns f < 2 ^ ns.length := idx_lt ns f
  have ei : ∀ s ∈ ns, asg ns (idx ns f) s = f s := fun s hs => asg_idx hn.nd s hs
  rw [ev, Bool.eq_iff_iff, List.any_eq_true]
  constructor
  · rintro ⟨p, hp, a⟩
    obtain ⟨k, hk, hm⟩ := he.to p hp
    have a := agr_iff.mp a
    have hk2 := List.mem_filter.mp hk
    have : c.ev f = c.ev (asg ns k) := C.ev_congr c fun s hs => by
      have hs := hc.vars s hs
      have := a s hs
      rw [hm s, List.mem_filter] at this
      rw [Bool.eq_iff_iff]
      exact this.trans ⟨fun h => h.2, fun h => ⟨hs, h⟩⟩
    rw [this]; exact hk2.2
  · intro e
    obtain ⟨p, hp, hm⟩ := he.of (idx ns f) (List.mem_filter.mpr ⟨List.mem_range.mpr ix, by rw [← ef]; exact e⟩)
    refine ⟨p, hp, agr_iff.mpr fun s hs => ?_⟩
    rw [hm s, List.mem_filter, ei s hs]
    exact ⟨fun h => ⟨hs, h⟩, fun h => h.2⟩
/-- over one more switch: where it is off, and the rest is one of the settings -/
theorem back_wide {q : Str} {ns ws : List Str} {c : C} {ps : List (PyData × List Str)} (h : Wid q ns ws) (he : Each ns (goodK ns c) ps) (f : Str → Bool) :
    (ps.any fun p => agr ws f p.2) = (!(decide (q ∈ ws.filter f)) && decide ((ws.filter f).filter (fun s => !(s == q)) ∈ (goodK ns c).map fun k => ns.filter (asg ns k))) := by
  have hq : q ∈ ws := (h.mem q).mpr (.inr rfl)
  rw [h.filter, Bool.eq_iff_iff, List.any_eq_true, Bool.and_eq_true, Bool.not_eq_true', decide_eq_false_iff_not, decide_eq_true_eq, List.mem_map]
  constructor
  · rintro ⟨p, hp, a⟩
    obtain ⟨k, hk, hm⟩ := he.to p hp
    have a := agr_iff.mp a
    refine ⟨fun z => ?_, k, hk, ?_⟩
    · have := (a q hq).mp (List.mem_filter.mp z).2
      exact h.nq (List.mem_filter.mp ((hm q).mp this)).1
    · refine List.filter_congr fun s hs => ?_
      have := a s ((h.mem s).mpr (.inl hs))
      rw [hm s, List.mem_filter] at this
      rw [Bool.eq_iff_iff]
      exact (this.trans ⟨fun h => h.2, fun h => ⟨hs, h⟩⟩).symm
  · rintro ⟨hnq, k, hk, e⟩
    obtain ⟨p, hp, hm⟩ := he.of k hk
    refine ⟨p, hp, agr_iff.mpr fun s hs => ?_⟩
    rw [hm s, e, List.mem_filter]
    rcases (h.mem s).mp hs with m | m
    · exact ⟨fun h => ⟨m, h⟩, fun h => h.2⟩
    · subst m
      exact ⟨fun z => absurd (List.mem_filter.mpr ⟨hs, z⟩) hnq, fun z => absurd z.1 h.nq⟩
end EA
namespace EA
open PySem PySem.Spec PyProof.Rows L2
noncomputable def f3_law : F3 := fdef false 1 17
  (sSeq (sSet 1 (eCall f3_hand (aCons (eVar 0) aNil)))
  (sSeq (sSet 2 (eCall f3_switch_names (aCons (eVar 1) (aCons (eCall f3_take (aCons (eVar 1) (aCons (eD (.int (6))) aNil))) aNil))))
  (sSeq (sSet 3 (eCall f3_settings (aCons (eVar 2) aNil)))
  (sSeq (sSet 4 (eCall f3_bits (aCons (eVar 1) (aCons (eB gLen (aCons (eVar 3) aNil)) aNil))))
  (sSeq (sSet 5 (eCall (f3_form 60) (aCons (eVar 2) (aCons (eVar 4) aNil))))
  (sSeq (sSet 6 (eNd (nLcG f3_all_settings (aCons (eCall f3_strewn (aCons (eVar 1) (aCons (eVar 2) aNil))) aNil))))
  (sSeq (sIf (tNt (tTr (eCall (f3_alike 60) (aCons (eB gTupOf (aCons (eVar 6) aNil)) (aCons (eB gTupOf (aCons (eNd (nLc [7] (iSq (eVar 3)) (gNm 7) tYes3 (eB gTupOf (aCons (eVar 7) aNil)))) aNil)) aNil)))))
  (sRt (eD (.bool false)))
  sNx)
  (sSeq (sSet 8 (eNd (nLc [9] (iR1 (aCons (eB gLen (aCons (eVar 3) aNil)) aNil)) (gNm 9) (tTr (eOp gIx (eVar 4) (eVar 9))) (eOp gIx (eVar 3) (eVar 9)))))
  (sSeq (sIf (tNt (tTr (eCall (f3_alike 60) (aCons (eCall f3_count_settings (aCons (eVar 5) (aCons (eCall f3_strewn (aCons (eVar 1) (aCons (eVar 2) aNil))) aNil))) (aCons (eB gLen (aCons (eVar 8) aNil)) aNil)))))
  (sRt (eD (.bool false)))
  sNx)
  (sSeq (sSet 10 (eCall f3_first_setting (aCons (eVar 5) aNil)))
  (sSeq (sIf (tAn (tCmp gEq (eB gLen (aCons (eVar 8) aNil)) (eD (.int (0)))) (tCmp gIsN (eVar 10) (eD .none)))
  (sRt (eD (.bool false)))
  sNx)
  (sSeq (sIf (tAn (tCmp gGt (eB gLen (aCons (eVar 8) aNil)) (eD (.int (0)))) (tNt (tTr (eCall (f3_alike 60) (aCons (eVar 10) (aCons (eB gTupOf (aCons (eOp gIx (eVar 8) (eD (.int (0)))) aNil)) aNil))))))
  (sRt (eD (.bool false)))
  sNx)
  (sSeq (sSet 11 (eNd (nLc [7] (iSq (eVar 8)) (gNm 7) tYes3 (eCall f3_strewn (aCons (eVar 1) (aCons (eVar 7) aNil))))))
  (sSeq (sSet 12 (eB (g1 reprD) (aCons (eVar 11) aNil)))
  (sSeq (sSet 13 (eCall f3_from_settings (aCons (eCall f3_strewn (aCons (eVar 1) (aCons (eVar 11) aNil))) (aCons (eCall f3_strewn (aCons (eVar 1) (aCons (eVar 2) aNil))) aNil))))
  (sSeq (sIf (tOr3 (tCmp gNe (eB (g1 reprD) (aCons (eVar 11) aNil)) (eVar 12)) (tNt (tTr (eCall (f3_alike 60) (aCons (eVar 13) (aCons (eVar 5) aNil))))))
  (sRt (eD (.bool false)))
  sNx)
  (sSeq (sSet 14 (eNd (nB gSorted (aCons (eOp gAdd (eVar 2) (eNd (nLst (aCons (eD (.str "Q9")) aNil)))) aNil))))
  (sSeq (sIf (tNt (tTr (eCall (f3_alike 60) (aCons (eCall f3_count_settings (aCons (eVar 5) (aCons (eCall f3_strewn (aCons (eVar 1) (aCons (eVar 14) aNil))) aNil))) (aCons (eOp gMul (eD (.int (2))) (eB gLen (aCons (eVar 8) aNil))) aNil)))))
  (sRt (eD (.bool false)))
  sNx)
  (sSeq (sSet 15 (eNo (nLst aNil)))
  (sSeq (sFor (iSq (eCall f3_settings (aCons (eVar 14) aNil))) (gNm 7)
  (sSeq (sSet 16 (eNd (nLc [17] (iSq (eVar 7)) (gNm 17) (tCmp gNe (eVar 17) (eD (.str "Q9"))) (eVar 17))))
  (sEx (eM mApp (eVar 15) (aCons (eAn (eCmp gNin (eD (.str "Q9")) (eVar 7)) (eCmp gIn (eVar 16) (eVar 8))) aNil)))))
  (sRt (eCall (f3_alike 60) (aCons (eCall f3_from_settings (aCons (eVar 11) (aCons (eCall f3_strewn (aCons (eVar 1) (aCons (eVar 14) aNil))) aNil))) (aCons (eCall (f3_form 60) (aCons (eVar 14) (aCons (eVar 15) aNil))) aNil))))))))))))))))))))))))
local macro_rules | `(tactic| walk_at "ix") => `(tactic| first | rfl | exact atI_cons0 | exact atI_map0)
local macro_rules | `(tactic| walk_at "st") => `(tactic| first | assumption | rfl | exact get_set (by assumption) | exact get_set (get_set (by assumption)) | exact get_last | exact get_setlast | exact get_setapp (by assumption) | exact get_app (by assumption) | exact get_app (get_set (by assumption)))
local macro_rules | `(tactic| walk_at "tk") => `(tactic| first | exact List.take_length | exact take_set | exact take_set2 | exact take_set3 | exact take_app | exact take_aset | exact take_setapp | rfl)
local macro_rules | `(tactic| walk_at "sd") => `(tactic| first | omega | assumption | decide)
local macro_rules | `(tactic| walk_at "wpx") => `(tactic| first
  | with_reducible refine ite2 (fun _ => ?_) (fun z => absurd rfl z)
  | with_reducible refine ite2 (fun z => absurd z Bool.false_ne_true) (fun _ => ?_)
  | ((with_reducible refine gate_wp ?_); (first
    | ((with_reducible apply wp_viewr); (walk_at "st")) | ((with_reducible apply wp_lat); (walk_at "st"))
    | ((with_reducible refine gate_eq ?_); (first | with_reducible refine wp_geqs ?_ | with_reducible refine wp_geqb ?_ | with_reducible refine wp_geq_nil ?_))
    | ((with_reducible refine gate_ne ?_); (first | with_reducible refine wp_gnes ?_ | with_reducible refine wp_gneb ?_ | with_reducible refine wp_gne_nil ?_))
    | ((with_reducible refine gate_ix ?_); (first | ((with_reducible apply wp_ixd); (walk_at "ix")) | ((with_reducible apply wp_ixt); (walk_at "ix")) | ((with_reducible apply wp_ixr); (walk_at "st"); (walk_at "ix"))))
    | ((with_reducible apply wp_trur); (walk_at "st"))
    | ((with_reducible refine wp_l4s ?_ ?_); (first | omega | assumption | decide +kernel)) | with_reducible refine wp_l4 ?_ | ((with_reducible apply wp_l3r); (walk_at "st"))
    | ((with_reducible refine wp_mod ?_ ?_); (walk_at "sd")) | ((with_reducible refine wp_fdiv ?_ ?_); (walk_at "sd")) | ((with_reducible refine wp_mulr ?_ ?_); (walk_at "sd")) | ((with_reducible refine wp_mull ?_ ?_); (walk_at "sd")) | ((with_reducible refine wp_pow ?_ ?_); (walk_at "sd"))
    | ((with_reducible apply wp_lenr); (walk_at "st"))
    | ((with_reducible refine wp_gis ?_ ?_); rfl) | ((with_reducible refine wp_gisn ?_ ?_); rfl)
    | ((with_reducible refine gate_isi ?_); (first | ((with_reducible refine isi_t (r := true) ?_ ?_); (decide +kernel)) | ((with_reducible refine isi_t (r := false) ?_ ?_); (decide +kernel)) | ((with_reducible refine isi_b (r := true) ?_ ?_); (decide +kernel)) | ((with_reducible refine isi_b (r := false) ?_ ?_); (decide +kernel)) | ((with_reducible refine isi_i (r := true) ?_ ?_); (decide +kernel)) | ((with_reducible refine isi_i (r := false) ?_ ?_); (decide +kernel)) | ((with_reducible refine isi_s (r := true) ?_ ?_); (decide +kernel)) | ((with_reducible refine isi_s (r := false) ?_ ?_); (decide +kernel)) | ((with_reducible refine isi_l (r := true) ?_ ?_); (decide +kernel)) | ((with_reducible refine isi_l (r := false) ?_ ?_); (decide +kernel)) | ((with_reducible refine isi_n (r := true) ?_ ?_); (decide +kernel)) | ((with_reducible refine isi_n (r := false) ?_ ?_); (decide +kernel))))
    | ((with_reducible apply wp_tupr); (walk_at "st"))))
  | ((with_reducible refine gate_rq ?_); (first | ((with_reducible apply rq_dt); (walk_at "tk")) | ((with_reducible apply rq_nxt); (walk_at "tk"))))
  | ((with_reducible apply fz_r); (walk_at "st")) | ((with_reducible apply sq_r); (walk_at "st"))
  | ((with_reducible apply atSet_i); (walk_at "st"); rfl) | ((with_reducible apply atLst_i); (walk_at "st")) | ((with_reducible apply nowLst_i); (walk_at "st"))
  | ((with_reducible refine rng1_i ?_ ?_); (walk_at "sd")) | ((with_reducible refine rng2_i ?_ ?_); (walk_at "sd")))
local macro_rules | `(tactic| walk_at "wp") => `(tactic| first
  | with_reducible refine step_of ?_ | ((with_reducible apply wp_var); rfl) | walk_at "wpx")
local macro_rules | `(tactic| walk_at "fdef") => `(tactic| (refine wp_fdef rfl ?_; simp only [List.map_cons, List.map_nil, List.replicate_succ, List.replicate_zero, List.cons_append, List.nil_append]))
/-- the condition of a row that is still a list of the store -/
theorem formR3 {n : Nat} {s : Str} {ns : List Str} {bs : List Bool} {i : Nat} {S : List MO} (h : ns.length < n) (hn : NS (s :: ns)) (hb : bs.length = 2 ^ (s :: ns).length) (hi : S[i]? = some (.lst (bs.map .bool))) : f3_form (n + 1) [.d (strsD (s :: ns)), .r i] S = some (.d (frm (s :: ns) bs).enc, S) := by
  have nn : NS ns := NS.suf (pre := [s]) hn
  have few := hn.few
  rw [List.length_cons] at few
  have p := Nat.two_pow_pos ns.length
  have hb' := hb
  rw [List.length_cons, Nat.pow_succ] at hb'
  have e1 := form3 n (ns := ns) (bs := bs.take (bs.length / 2)) (S := S) (by omega) nn (by rw [List.length_take]; omega)
  have e2 := form3 n (ns := ns) (bs := bs.drop (bs.length / 2)) (S := S) (by omega) nn (by rw [List.length_drop]; omega)
  have o2 := (frm_rep (ns := ns) (bs := bs.drop (bs.length / 2)) nn.nd (by rw [List.length_drop]; omega)).oc
  refine eq_of ?_
  unfold f3_form
  walk_at "fdef"
  repeat walk_at "wp"
  have n1 : (((((s :: ns).map PyData.str).length : Nat) : Int) == 0) = false := beq_eq_false_iff_ne.mpr (by rw [List.length_map, List.length_cons]; omega)
  have hh : ((bs.map PyData.bool).length : Int) / 2 = ((bs.length / 2 : Nat) : Int) := by rw [List.length_map]; omega
  have t0 : cutD (bs.map PyData.bool) none (some (((bs.map PyData.bool).length : Int) / 2)) = (bs.take (bs.length / 2)).map PyData.bool := by rw [hh, cutD_to, List.map_take]
  have t1 : cutD (bs.map PyData.bool) (some (((bs.map PyData.bool).length : Int) / 2)) none = (bs.drop (bs.length / 2)).map PyData.bool := by rw [hh, cutD_from, List.map_drop]
  have t2 : cutD ((s :: ns).map PyData.str) (some 1) none = ns.map PyData.str := cutD_from _ 1
  rw [n1]
  repeat walk_at "wp"
  rw [t0, t2]
  refine wp2_eq e1 ?_
  repeat walk_at "wp"
  rw [t1, t2]
  refine wp2_eq e2 ?_
  repeat walk_at "wp"
  refine wp_ceq o2 (by omega) ?_
  repeat walk_at "wp"
  show if decide (frm ns (bs.drop (bs.length / 2)) = frm ns (bs.take (bs.length / 2))) = true then _ else _
  have ef : (frm (s :: ns) bs).enc = if frm ns (bs.drop (bs.length / 2)) = frm ns (bs.take (bs.length / 2)) then (frm ns (bs.drop (bs.length / 2))).enc else .tuple [.str s, (frm ns (bs.drop (bs.length / 2))).enc, (frm ns (bs.take (bs.length / 2))).enc] := formed_enc _ _ _
  rw [ef]
  refine ite2 (fun h => ?_) (fun h => ?_)
  · repeat walk_at "wp"
    rw [if_pos (of_decide_eq_true h)]
    exact ⟨rfl, rfl⟩
  · repeat walk_at "wp"
    rw [if_neg (fun z => h (decide_eq_true z))]
    exact ⟨rfl, rfl⟩
theorem wp_nlcg {f : FGn} {a : FA} {sl : Sl} {S : List MO} {QN : List PyData → List MO → Prop} (h : Wp2 (a sl S) fun p1 p2 => Wp2 (f p1 p2) QN) : Wp2 (nLcG f a sl S) QN := wp_bind.mpr h
theorem first_none {S : List MO} : f3_first_setting [.d (.bool false)] S = some (.d .none, S) := by
  refine eq_of ?_
  unfold f3_first_setting
  walk_at "fdef"
  repeat walk_at "wp"
  exact ⟨rfl, rfl⟩
theorem wp_nxt {f : FS} {sl : Sl} {S : List MO} {QS : Out → Prop} (h : Wp (f sl S) fun o => o = .nx sl S) (q : QS (.nx sl S)) : Wp (f sl S) QS := h.imp fun o e => by rw [e]; exact q
/-- the least setting as it is told -/
theorem first_told {ns : List Str} {c : C} (hn : NS ns) (hc : OC ns c) : ∃ w : PyData, (∀ S, f3_first_setting [.d c.enc] S = some (.d w, S)) ∧ ((goodK ns c = [] ∧ w = .none) ∨ ∃ k r, goodK ns c = k :: r ∧ w = tupS (ns.filter (asg ns k))) := by
  by_cases e : c = .b false
  · subst e
    refine ⟨.none, fun S => first_none, .inl ⟨?_, rfl⟩⟩
    exact List.filter_eq_nil_iff.mpr fun k _ => Bool.false_ne_true
  · obtain ⟨k, hk, h1, h0, ef⟩ := fst1_at hc hn.nd e
    obtain ⟨r, er⟩ := filter_first hk h1 h0
    exact ⟨_, fun S => first_setting3 hn hc e, .inr ⟨k, r, er, by rw [← ef]⟩⟩
theorem hin_of {x : PyData} {es : List PyData} {L : List Str} (h : Sq x es) (p : ∃ k, es.Perm (L.map .str ++ (L.map .str).take k)) (hL : ∀ s ∈ L, Okn s) (hl : L.length ≤ 10) : ∃ ss, Hin (x, ss) ∧ ∀ s, s ∈ ss ↔ s ∈ L := by
  obtain ⟨k, p⟩ := p
  obtain ⟨ss, rfl, pm⟩ := perm_map_inv p (m := L ++ L.take k) (by rw [List.map_append, List.map_take])
  have hm : ∀ s, s ∈ ss ↔ s ∈ L := fun s => by
    rw [pm.mem_iff, List.mem_append]
    exact ⟨fun h => h.elim id List.mem_of_mem_take, .inl⟩
  refine ⟨ss, ⟨h, fun s hs => hL s ((hm s).mp hs), ?_⟩, hm⟩
  show ss.length ≤ 20
  rw [pm.length_eq, List.length_append, List.length_take]; omega
theorem wp_gin_ll {a : List Str} {L : List (List Str)} {PB : Bool → Prop} (h : PB (decide (a ∈ L))) : Wp (gIn (lstS a) (.list (L.map lstS))) PB := by
  have hd : (lstS a).depth ≤ 40 := by
    have := strs_depth a
    simp only [PyData.depth]; omega
  exact wp_eq (if_pos (.inr hd)) (by rw [any_lstS]; exact h)
/-- is the setting, without q, one of these -/
def spB (q : Str) (L : List (List Str)) (s : List Str) : Bool := !(decide (q ∈ s)) && decide (s.filter (fun x => !(x == q)) ∈ L)
theorem law01 (ns0 : List Int) (hl : ns0.length ≤ 63) : ∃ S, f3_law [.sc ns0] [] = some (.d (.bool true), S) := by
  suffices h : Wp2 (f3_law [.sc ns0] []) fun a b => a = .d (.bool true) by
    obtain ⟨⟨a, b⟩, e, h1⟩ := h
    dsimp only at h1
    subst h1
    exact ⟨b, e⟩
  unfold f3_law
  walk_at "fdef"
  repeat walk_at "wp"
  refine hand3 hl fun o ho => ?_
  rw [show ([] : List MO).length = 0 from rfl, show ([] : List MO) ++ [MO.lst o] = [.lst o] from rfl]
  repeat walk_at "wp"
  refine take3 (h := 0) (by rfl) ho (by decide) (by decide) fun n o1 n0 n1 ho1 => ?_
  obtain ⟨n, rfl⟩ : ∃ k : Nat, n = (k : Int) := ⟨n.toNat, by omega⟩
  rw [show ([MO.lst o]).set 0 (MO.lst o1) = [.lst o1] from rfl]
  repeat walk_at "wp"
  refine switch_names3 (S := [.lst o1]) (h := 0) rfl ho1 (by omega) fun ns o2 hn hnl h9 ho2 => ?_
  have hM : 2 ^ ns.length ≤ 32 := Nat.le_trans (Nat.pow_le_pow_right (by decide) (show ns.length ≤ 5 by omega)) (by decide)
  have few : ns.length < 60 := by omega
  have n5 : ns.length ≤ 5 := by omega
  rw [show ([MO.lst o1]).set 0 (MO.lst o2) = [.lst o2] from rfl]
  repeat walk_at "wp"
  refine wp2_eq (settingsL3 hn) ?_
  repeat walk_at "wp"
  rw [show ((List.map lstS (sets ns)).length : Int) = ((2 ^ ns.length : Nat) : Int) by rw [List.length_map, sets_len]]
  refine bits3 (S := [.lst o2]) (h := 0) (by omega) rfl ho2 fun bs o3 hb ho3 => ?_
  rw [show ([MO.lst o2]).set 0 (MO.lst o3) = [.lst o3] from rfl]
  have rp := frm_rep (ns := ns) (bs := bs) hn.nd hb
  repeat walk_at "wp"
  refine wp2_eq (form3 60 few hn hb) ?_
  have hc := rp.oc
  have hat := rp.at_
  generalize frm ns bs = c at hc hat ⊢
  repeat walk_at "wp"
  refine wp_nlcg ?_
  repeat walk_at "wp"
  have ln : ∀ L : List Str, L.length ≤ 300 → (L.map PyData.str).length ≤ 400 := fun L h => by rw [List.length_map]; omega
  refine strewn3 (S := [.lst o3]) (h := 0) (ln ns (by omega)) rfl ho3 fun x4 es4 o4 sq4 pm4 ho4 => ?_
  have st4 := str2_of sq4 pm4 (by omega)
  clear sq4 pm4
  rw [show ([MO.lst o3]).set 0 (MO.lst o4) = [.lst o4] from rfl]
  repeat walk_at "wp"
  obtain ⟨T, eT⟩ := all_settings3 (S := [.lst o4]) hn st4
  refine wp2_eq eT ?_
  rw [show [MO.lst o4] ++ T = .lst o4 :: T from rfl]
  have rset : ∀ a b : List PyData, (MO.lst a :: T).set 0 (.lst b) = .lst b :: T := fun _ _ => rfl
  have setsL : (sets ns).length ≤ 32 := by rw [sets_len]; exact hM
  have setsE : ∀ s ∈ sets ns, s.length ≤ 5 := fun s hs => by
    obtain ⟨k, _, rfl⟩ := List.mem_map.mp hs
    exact Nat.le_trans (List.length_filter_le _ _) n5
  repeat walk_at "wp"
  refine ⟨by rw [List.length_map, List.length_map]; omega, ?_⟩
  refine wp_all (sets ns) (fun s => .d (lstS s)) (fun s => tupS s) (by rw [List.map_map]; rfl) rfl (fun s hs => ?_) ?_ gnm_st
  · repeat walk_at "wp"
    exact ⟨rfl, rfl⟩
  repeat walk_at "wp"
  obtain ⟨gd1, gd2⟩ := gd_sets (L := sets ns) (by omega) fun s hs => by have := setsE s hs; omega
  refine wp2_eq (alike3 60 gd1 (by omega)) ?_
  repeat walk_at "wp"
  refine ite2 (fun z => absurd z (by decide)) fun _ => ?_
  repeat walk_at "wp"
  rw [show ((List.map lstS (sets ns)).length : Int) = ((2 ^ ns.length : Nat) : Int) by rw [List.length_map, sets_len]]
  refine rng1_i ⟨by have := Int.natCast_nonneg (2 ^ ns.length); omega, by omega⟩ ?_
  refine ⟨by rw [intsW_len]; omega, ?_⟩
  have hrg : intsW 0 ((2 ^ ns.length : Nat) : Int).toNat = (List.range (2 ^ ns.length)).map fun j => W3.d (.int (j : Nat)) := by
    rw [show ((2 ^ ns.length : Nat) : Int).toNat = ((List.range (2 ^ ns.length)).length : Int).toNat by rw [List.length_range], intsW_of List.length_range]
  refine wp_pure (List.range (2 ^ ns.length)) (fun k => .d (.int (k : Nat))) (fun k => c.ev (asg ns k)) (fun k => lstS (ns.filter (asg ns k))) hrg rfl (fun k hk => ?_) ?_
  · have hk := List.mem_range.mp hk
    repeat walk_at "wp"
    refine wp_ixd (d := .bool (c.ev (asg ns k))) (atI_at (by rw [List.getElem?_map, hat k hk]; rfl)) ?_
    repeat walk_at "wp"
    refine ⟨rfl, rfl, fun _ => ?_⟩
    repeat walk_at "wp"
    refine wp_ixd (d := lstS (ns.filter (asg ns k))) (atI_at (by rw [List.getElem?_map, sets_at hk]; rfl)) ?_
    repeat walk_at "wp"
    exact ⟨rfl, rfl⟩
  rw [show (List.range (2 ^ ns.length)).filter (fun k => c.ev (asg ns k)) = goodK ns c from rfl]
  have cnG : cn ns c = (goodK ns c).length := cn_count hn hc
  have gL : (goodK ns c).length ≤ 32 := Nat.le_trans (List.length_filter_le _ _) (by rw [List.length_range]; exact hM)
  repeat walk_at "wp"
  refine strewn3 (S := .lst o4 :: T) (h := 0) (ln ns (by omega)) rfl ho4 fun x5 es5 o5 sq5 pm5 ho5 => ?_
  have st5 := str2_of sq5 pm5 (by omega)
  clear sq5 pm5
  rw [rset]
  repeat walk_at "wp"
  refine wp2_eq (count_settings3 hn hc st5) ?_
  repeat walk_at "wp"
  rw [cnG, List.length_map]
  refine wp2_eq (alike3 60 (d := .int ((goodK ns c).length : Nat)) rfl (by rw [PyData.depth]; decide)) ?_
  repeat walk_at "wp"
  refine ite2 (fun z => absurd z (by decide)) fun _ => ?_
  repeat walk_at "wp"
  obtain ⟨w, ew, hw⟩ := first_told hn hc
  refine wp2_eq (ew _) ?_
  refine th_nx ?_
  refine wp_seq ?_
  refine wp_nxt ?_ (th_nx ?_)
  · rcases hw with ⟨e1, rfl⟩ | ⟨k, r, e1, rfl⟩
    · rw [e1]
      repeat walk_at "wp"
      rfl
    · rw [e1]
      repeat walk_at "wp"
      refine ite2 (fun z => absurd (beq_iff_eq.mp z) (by rw [List.length_map, List.length_cons]; omega)) fun _ => ?_
      repeat walk_at "wp"
      rfl
  refine wp_seq ?_
  refine wp_nxt ?_ (th_nx ?_)
  · rcases hw with ⟨e1, rfl⟩ | ⟨k, r, e1, rfl⟩
    · rw [e1]
      repeat walk_at "wp"
      refine ite2 (fun z => absurd (of_decide_eq_true z) (by rw [List.length_map, List.length_nil]; omega)) fun _ => ?_
      repeat walk_at "wp"
      rfl
    · rw [e1]
      repeat walk_at "wp"
      refine ite2 (fun _ => ?_) fun z => absurd (decide_eq_true (by rw [List.length_map, List.length_cons]; omega)) z
      repeat walk_at "wp"
      obtain ⟨gd3, gd4⟩ := gd_tups (L := [ns.filter (asg ns k)]) (fun s hs => by
        rw [List.mem_singleton] at hs
        subst hs
        exact Nat.le_trans (List.length_filter_le _ _) (by omega))
      have gd5 : gdD (tupS (ns.filter (asg ns k))) = true := by
        have : (gdD (tupS (ns.filter (asg ns k))) && true) = true := gd3
        rwa [Bool.and_true] at this
      have gd6 : (tupS (ns.filter (asg ns k))).depth ≤ 3 := by
        have h : max (tupS (ns.filter (asg ns k))).depth 0 ≤ 3 := gd4
        omega
      refine wp2_eq (alike3 60 gd5 (by omega)) ?_
      repeat walk_at "wp"
      refine ite2 (fun z => absurd z (by decide)) fun _ => ?_
      repeat walk_at "wp"
      rfl
  clear hw ew
  repeat walk_at "wp"
  refine ⟨by rw [List.length_map, List.length_map]; omega, ?_⟩
  refine wp_comp (n := 0) (acc := []) (fun i acc S' => ∃ (ps : List (PyData × List Str)) (o' : List PyData), acc = ps.map (·.1) ∧ S' = .lst o' :: T ∧ HandO o' ∧ ps.length = i ∧ ∀ (j : Nat) (p : PyData × List Str), ps[j]? = some p → Hin p ∧ ∃ k : Nat, (goodK ns c)[j]? = some k ∧ ∀ s, s ∈ p.2 ↔ s ∈ ns.filter (asg ns k))
    ⟨[], o5, rfl, rfl, ho5, rfl, fun j p e => by simp at e⟩ (fun _ _ _ _ => rfl) (fun i w acc S' hw hi hp => ?_) (fun ys S' hp => ?_)
  · obtain ⟨ps, o', rfl, rfl, ho', hpl, hps⟩ := hp
    obtain ⟨d, hd, rfl⟩ := ws_get hw
    rw [List.getElem?_map, Nat.sub_zero] at hd
    obtain ⟨k, hk, rfl⟩ := Option.map_eq_some_iff.mp hd
    have hfl : (ns.filter (asg ns k)).length ≤ 5 := Nat.le_trans (List.length_filter_le _ _) n5
    repeat walk_at "wp"
    refine strewn3 (S := .lst o' :: T) (h := 0) (ln _ (by omega)) rfl ho' fun x6 es6 o6 sq6 pm6 ho6 => ?_
    rw [rset]
    obtain ⟨ss, h1, h2⟩ := hin_of sq6 pm6 (fun s hs => hn.ok s (List.mem_filter.mp hs).1) (by omega)
    repeat walk_at "wp"
    refine ⟨ps ++ [(x6, ss)], o6, by rw [List.map_append]; rfl, rfl, ho6, by rw [List.length_append, hpl]; rfl, fun j p e => ?_⟩
    by_cases hj : j < ps.length
    · rw [List.getElem?_append_left hj] at e
      exact hps j p e
    · rw [List.getElem?_append_right (by omega)] at e
      have hj2 : j - ps.length = 0 := by
        have := (List.getElem?_eq_some_iff.mp e).1
        rw [List.length_singleton] at this; omega
      rw [hj2] at e
      cases e
      rw [show j = i by omega]
      exact ⟨h1, k, hk, h2⟩
  obtain ⟨ps, o6, hys, rfl, ho6, hpl, hps⟩ := hp
  rw [List.nil_append] at hys
  subst hys
  rw [List.length_map, List.length_map, Nat.zero_add] at hpl
  have ea : Each ns (goodK ns c) ps := ⟨hpl, hps⟩
  clear hps
  have pl : ps.length ≤ 32 := by omega
  have rpr := repr_some ea.hin (by omega)
  have rprS : ∀ S, g1 reprD S [.d (.list (ps.map (·.1)))] = some (.str (PyData.list (ps.map (·.1))).shown) := fun S => rpr
  repeat walk_at "wp"
  refine wp_eq (rprS _) ?_
  repeat walk_at "wp"
  refine strewn3 (S := .lst o6 :: T) (h := 0) (by rw [List.length_map]; omega) rfl ho6 fun x7 es7 o7 sq7 pm7 ho7 => ?_
  rw [rset]
  repeat walk_at "wp"
  refine strewn3 (S := .lst o7 :: T) (h := 0) (ln ns (by omega)) rfl ho7 fun x8 es8 o8 sq8 pm8 ho8 => ?_
  have st8 := str2_of sq8 pm8 (by omega)
  clear sq8 pm8
  rw [rset]
  repeat walk_at "wp"
  obtain ⟨d, hd, ev, ed⟩ := from_settings3 (S := .lst o8 :: T) hn (show ps.length ≤ 2000 by omega) (fun p hp => (ea.hin p hp).sq) ⟨es7, sq7, pm7⟩ st8
  have edc : d = c := back_same hn hc hd ea ev
  subst edc
  clear ev
  refine wp2_eq ed ?_
  clear sq7 pm7
  refine th_nx ?_
  refine wp_seq ?_
  refine wp_nxt ?_ (th_nx ?_)
  · repeat walk_at "wp"
    refine wp_eq (rprS _) ?_
    repeat walk_at "wp"
    refine ite2 (fun z => absurd z (by rw [beq_self_eq_true]; decide)) fun _ => ?_
    repeat walk_at "wp"
    refine wp2_eq (alike3 60 (enc_gd _) (Nat.lt_of_le_of_lt (C.depth_le hc) few)) ?_
    repeat walk_at "wp"
    refine ite2 (fun z => absurd z (by decide)) fun _ => ?_
    repeat walk_at "wp"
    rfl
  repeat walk_at "wp"
  refine wp_addl (by rw [List.length_map]; show _ + 1 ≤ _; omega) ?_
  rw [show ns.map PyData.str ++ [.str (Str.ofString "Q9")] = (ns ++ [Str.ofString "Q9"]).map .str by rw [List.map_append]; rfl]
  have hq9 : Okn (Str.ofString "Q9") := by
    unfold Okn
    exact ⟨by decide +kernel, by decide +kernel⟩
  generalize Str.ofString "Q9" = q at h9 hq9 ⊢
  repeat walk_at "wp"
  refine wp_sort_strs (List.nodup_append.mpr ⟨hn.nd, List.pairwise_singleton _ _, fun a ha b hb => by
    rw [List.mem_singleton] at hb
    subst hb
    exact fun z => h9 (by rw [← z]; exact ha)⟩) fun ws pmw srw => ?_
  have hwm : ∀ s, s ∈ ws ↔ s ∈ ns ∨ s = q := fun s => by rw [pmw.mem_iff, List.mem_append, List.mem_singleton]
  have hwl : ws.length = ns.length + 1 := by rw [pmw.length_eq, List.length_append]; rfl
  have wid : Wid q ns ws := ⟨hn, ⟨srw, fun s hs => by
    rcases (hwm s).mp hs with m | m
    · exact hn.ok s m
    · subst m; exact hq9, by omega⟩, h9, hwm⟩
  clear pmw srw
  repeat walk_at "wp"
  refine strewn3 (S := .lst o8 :: T) (h := 0) (ln ws (by omega)) rfl ho8 fun x9 es9 o9 sq9 pm9 ho9 => ?_
  have st9 := str2_of sq9 pm9 (by omega)
  clear sq9 pm9
  rw [rset]
  repeat walk_at "wp"
  refine wp2_eq (count_settings3 wid.hws (wid.oc hc) st9) ?_
  repeat walk_at "wp"
  have e2 : ((cn ws d : Nat) : Int) = 2 * ((((goodK ns d).map fun k => lstS (ns.filter (asg ns k))).length : Nat) : Int) := by
    rw [wid.cn hc, cnG, List.length_map]; push_cast; rfl
  rw [e2]
  refine wp2_eq (alike3 60 (d := .int (2 * ((((goodK ns d).map fun k => lstS (ns.filter (asg ns k))).length : Nat) : Int))) rfl (by rw [PyData.depth]; decide)) ?_
  clear e2
  repeat walk_at "wp"
  refine ite2 (fun z => absurd z (by decide)) fun _ => ?_
  repeat walk_at "wp"
  refine wp2_eq (settingsL3 wid.hws) ?_
  repeat walk_at "wp"
  have wM : 2 ^ ws.length ≤ 64 := Nat.le_trans (Nat.pow_le_pow_right (by decide) (show ws.length ≤ 6 by omega)) (by decide)
  have wsL : (sets ws).length ≤ 64 := by rw [sets_len]; exact wM
  have wsE : ∀ s ∈ sets ws, s.length ≤ 6 := fun s hs => by
    obtain ⟨k, _, rfl⟩ := List.mem_map.mp hs
    exact Nat.le_trans (List.length_filter_le _ _) (by omega)
  refine wp_loop (n := 0) (fun i sl S' => ∃ (a7 a16 : Option W3), sl = [some (.sc ns0), some (.r 0), some (.d (strsD ns)), some (.d (.list ((sets ns).map lstS))), some (.d (.list (bs.map .bool))), some (.d d.enc), some (.d (.list ((sets ns).map tupS))), a7, some (.d (.list ((goodK ns d).map fun k => lstS (ns.filter (asg ns k))))), none, some (.d w), some (.d (.list (ps.map (·.1)))), some (.d (.str (PyData.list (ps.map (·.1))).shown)), some (.d d.enc), some (.d (strsD ws)), some (.r (MO.lst o9 :: T).length), a16, none] ∧
      S' = (MO.lst o9 :: T) ++ [.lst (((sets ws).take i).map fun s => .bool (spB q ((goodK ns d).map fun k => ns.filter (asg ns k)) s))])
    ⟨none, none, rfl, rfl⟩ (fun _ _ _ _ => rfl) (fun i w' sl S' hw hi hp => ?_) (fun sl S' hp => ?_)
  · obtain ⟨a7, a16, rfl, rfl⟩ := hp
    obtain ⟨dd, hdd, rfl⟩ := ws_get hw
    rw [List.getElem?_map, Nat.sub_zero] at hdd
    obtain ⟨s, hs, rfl⟩ := Option.map_eq_some_iff.mp hdd
    have hsl := wsE s (List.mem_of_getElem? hs)
    have hlt : i < (sets ws).length := (List.getElem?_eq_some_iff.mp hs).1
    have et : (sets ws).take (i + 1) = (sets ws).take i ++ [s] := by rw [List.take_succ, hs]; rfl
    rw [et, List.map_append]
    have old : (((sets ws).take i).map fun s => PyData.bool (spB q ((goodK ns d).map fun k => ns.filter (asg ns k)) s)).length ≤ 64 := by
      rw [List.length_map, List.length_take]; omega
    generalize (((sets ws).take i).map fun s => PyData.bool (spB q ((goodK ns d).map fun k => ns.filter (asg ns k)) s)) = acc at old ⊢
    have gl : ((MO.lst o9 :: T) ++ [MO.lst acc])[(MO.lst o9 :: T).length]? = some (.lst acc) := get_last
    have gs : ∀ y, ((MO.lst o9 :: T) ++ [MO.lst acc]).set (MO.lst o9 :: T).length (.lst y) = (MO.lst o9 :: T) ++ [.lst y] := fun y => set_last
    generalize hA : (MO.lst o9 :: T) = A at gl gs ⊢
    repeat walk_at "wp"
    refine ⟨by rw [List.length_map, List.length_map]; omega, ?_⟩
    refine wp_pure s (fun x => .d (.str x)) (fun x => !(x == q)) (fun x => .str x) (by rw [List.map_map]; rfl) rfl (fun x hx => ?_) ?_
    · repeat walk_at "wp"
      refine ⟨rfl, rfl, fun _ => ?_⟩
      repeat walk_at "wp"
      exact ⟨rfl, rfl⟩
    repeat walk_at "wp"
    refine wp_gnin_sl ?_
    have es : spB q ((goodK ns d).map fun k => ns.filter (asg ns k)) s = (!(decide (q ∈ s)) && decide (s.filter (fun x => !(x == q)) ∈ (goodK ns d).map fun k => ns.filter (asg ns k))) := rfl
    rw [List.map_cons, List.map_nil, es]
    clear es
    cases decide (q ∈ s) with
    | true =>
      repeat walk_at "wp"
      refine ite2 (fun z => absurd z (by decide)) fun _ => ?_
      repeat walk_at "wp"
      refine wp_app (by omega) ?_
      repeat walk_at "wp"
      refine ⟨_, _, rfl, ?_⟩
      exact gs _
    | false =>
      repeat walk_at "wp"
      repeat walk_at "wp"
      rw [show ((goodK ns d).map fun k => lstS (ns.filter (asg ns k))) = ((goodK ns d).map fun k => ns.filter (asg ns k)).map lstS by rw [List.map_map]; rfl]
      refine wp_gin_ll ?_
      repeat walk_at "wp"
      refine wp_app (by omega) ?_
      repeat walk_at "wp"
      refine ⟨_, _, by rw [List.map_map]; rfl, ?_⟩
      exact gs _
  obtain ⟨a7, a16, rfl, rfl⟩ := hp
  rw [List.length_map, List.length_map, Nat.zero_add, List.take_length]
  have eb : ((sets ws).map fun s => PyData.bool (spB q ((goodK ns d).map fun k => ns.filter (asg ns k)) s)) = ((sets ws).map fun s => spB q ((goodK ns d).map fun k => ns.filter (asg ns k)) s).map .bool := by rw [List.map_map]; rfl
  rw [eb]
  have wbl : ((sets ws).map fun s => spB q ((goodK ns d).map fun k => ns.filter (asg ns k)) s).length = 2 ^ ws.length := by rw [List.length_map, sets_len]
  have wba : ∀ k, k < 2 ^ ws.length → ((sets ws).map fun s => spB q ((goodK ns d).map fun k => ns.filter (asg ns k)) s)[k]? = some (ps.any fun p => agr ws (asg ws k) p.2) := fun k hk => by
    rw [List.getElem?_map, sets_at hk, back_wide wid ea (asg ws k)]; rfl
  clear eb
  generalize ((sets ws).map fun s => spB q ((goodK ns d).map fun k => ns.filter (asg ns k)) s) = wb at wbl wba ⊢
  have gl : ((MO.lst o9 :: T) ++ [MO.lst (wb.map .bool)])[(MO.lst o9 :: T).length]? = some (.lst (wb.map .bool)) := get_last
  repeat walk_at "wp"
  refine strewn3 (S := (MO.lst o9 :: T) ++ [MO.lst (wb.map .bool)]) (h := 0) (ln ws (by omega)) rfl ho9 fun x10 es10 o10 sq10 pm10 ho10 => ?_
  have st10 := str2_of sq10 pm10 (by omega)
  clear sq10 pm10
  have gl2 : (((MO.lst o9 :: T) ++ [MO.lst (wb.map .bool)]).set 0 (.lst o10))[(MO.lst o9 :: T).length]? = some (.lst (wb.map .bool)) := by
    rw [List.getElem?_set_ne (by rw [List.length_cons]; omega)]; exact gl
  generalize ((MO.lst o9 :: T) ++ [MO.lst (wb.map .bool)]).set 0 (.lst o10) = S10 at gl2 ⊢
  repeat walk_at "wp"
  obtain ⟨d2, hd2, ev2, ed2⟩ := from_settings3 (S := S10) wid.hws (show ps.length ≤ 2000 by omega) (fun p hp => (ea.hin p hp).sq) (x := .list (ps.map (·.1))) ⟨_, .inl rfl, 0, by rw [List.take_zero, List.append_nil]⟩ st10
  refine wp2_eq ed2 ?_
  repeat walk_at "wp"
  have e12 : d2 = frm ws wb := ((frm_rep wid.hws.nd wbl).all wid.hws.nd hd2 fun k hk => by
    have h1 := (frm_rep wid.hws.nd wbl).at_ k hk
    rw [wba k hk] at h1
    rw [← Option.some.inj h1, ev2]).symm
  have ef : f3_form 60 [.d (strsD ws), .r (MO.lst o9 :: T).length] S10 = some (.d (frm ws wb).enc, S10) := by
    cases hws : ws with
    | nil => rw [hws] at hwl; simp at hwl
    | cons z zs =>
      have h1 := wid.hws
      rw [hws] at h1 wbl hwl
      rw [List.length_cons] at hwl
      exact formR3 (by omega) h1 wbl gl2
  rw [e12]
  rw [e12] at hd2
  refine wp2_eq ef ?_
  repeat walk_at "wp"
  refine wp2_eq (alike3 60 (enc_gd _) (Nat.lt_of_le_of_lt (C.depth_le hd2) (by omega))) ?_
  haveI : CutR [] S10 := ⟨fun i o hi e => absurd hi (Nat.not_lt_zero _)⟩
  repeat walk_at "wp"
  rfl
end EA
namespace EA
open PySem PySem.Spec PyProof.Rows L2
def topS (i : Nat) : Stmt := PySem.Challenge.pw_eacharm_k01_settings_of_a_condition.main.body.getD i (.Pass ⟨0, 0, 0, 0⟩)
abbrev s_formed : Stmt := topS 1
theorem sc_formed : FnScope ["switch", "on", "off"] ["switch", "on", "off"] (defScope s_formed) := ⟨rfl, rfl, rfl, by decide +kernel, rfl, by decide +kernel, by decide +kernel⟩
abbrev s_side_of : Stmt := topS 2
theorem sc_side_of : FnScope ["condition", "switch", "on"] ["condition", "switch", "on"] (defScope s_side_of) := ⟨rfl, rfl, rfl, by decide +kernel, rfl, by decide +kernel, by decide +kernel⟩
abbrev s_counted : Stmt := topS 3
theorem sc_counted : FnScope ["condition", "ordered", "at", "on"] ["condition", "ordered", "at"] (defScope s_counted) := ⟨rfl, rfl, rfl, by decide +kernel, rfl, by decide +kernel, by decide +kernel⟩
abbrev s_count_settings : Stmt := topS 4
theorem sc_count_settings : FnScope ["condition", "switches"] ["condition", "switches"] (defScope s_count_settings) := ⟨rfl, rfl, rfl, by decide +kernel, rfl, by decide +kernel, by decide +kernel⟩
abbrev s_first_setting : Stmt := topS 5
theorem sc_first_setting : FnScope ["condition", "found"] ["condition"] (defScope s_first_setting) := ⟨rfl, rfl, rfl, by decide +kernel, rfl, by decide +kernel, by decide +kernel⟩
abbrev s_all_settings : Stmt := topS 6
theorem sc_all_settings : GScope ["switches", "settings", "switch", "setting", "more"] ["switches"] (defScope s_all_settings) := ⟨rfl, rfl, rfl, by decide +kernel, rfl, by decide +kernel, by decide +kernel⟩
abbrev s_grown : Stmt := topS 7
theorem sc_grown : FnScope ["settings", "ordered", "at", "on", "setting", "off"] ["settings", "ordered", "at"] (defScope s_grown) := ⟨rfl, rfl, rfl, by decide +kernel, rfl, by decide +kernel, by decide +kernel⟩
abbrev s_from_settings : Stmt := topS 8
theorem sc_from_settings : FnScope ["settings", "switches"] ["settings", "switches"] (defScope s_from_settings) := ⟨rfl, rfl, rfl, by decide +kernel, rfl, by decide +kernel, by decide +kernel⟩
abbrev s_stirred : Stmt := topS 10
theorem sc_stirred : FnScope ["_law_number", "_law_turn", "_law_once", "_law_twice"] ["_law_number", "_law_turn"] (defScope s_stirred) := ⟨rfl, rfl, rfl, by decide +kernel, rfl, by decide +kernel, by decide +kernel⟩
abbrev s_take : Stmt := topS 11
theorem sc_take : FnScope ["_law_hand_here", "_law_many", "_law_cell", "_law_rest"] ["_law_hand_here", "_law_many"] (defScope s_take) := ⟨rfl, rfl, rfl, by decide +kernel, rfl, by decide +kernel, by decide +kernel⟩
abbrev s_shuffled : Stmt := topS 12
theorem sc_shuffled : FnScope ["_law_hand_here", "_law_things", "_law_left", "_law_k"] ["_law_hand_here", "_law_things"] (defScope s_shuffled) := ⟨rfl, rfl, rfl, by decide +kernel, rfl, by decide +kernel, by decide +kernel⟩
abbrev s_hand : Stmt := topS 13
theorem sc_hand : FnScope ["_law_script", "_law_total", "_law_cells", "_law_cell"] ["_law_script"] (defScope s_hand) := ⟨rfl, rfl, rfl, by decide +kernel, rfl, by decide +kernel, by decide +kernel⟩
abbrev s_switch_names : Stmt := topS 14
theorem sc_switch_names : FnScope ["_law_hand_here", "_law_many", "_law_told", "_law_k", "_law_turn", "_law_middle", "_law_j"] ["_law_hand_here", "_law_many"] (defScope s_switch_names) := ⟨rfl, rfl, rfl, by decide +kernel, rfl, by decide +kernel, by decide +kernel⟩
abbrev s_settings : Stmt := topS 15
theorem sc_settings : FnScope ["_law_names", "_law_told", "_law_switch", "_law_row"] ["_law_names"] (defScope s_settings) := ⟨rfl, rfl, rfl, by decide +kernel, rfl, by decide +kernel, by decide +kernel⟩
abbrev s_bits : Stmt := topS 16
theorem sc_bits : FnScope ["_law_hand_here", "_law_many", "_law_turn", "_law_one", "_law_k"] ["_law_hand_here", "_law_many"] (defScope s_bits) := ⟨rfl, rfl, rfl, by decide +kernel, rfl, by decide +kernel, by decide +kernel⟩
abbrev s_form : Stmt := topS 17
theorem sc_form : FnScope ["_law_names", "_law_bits_here", "_law_half", "_law_off", "_law_on"] ["_law_names", "_law_bits_here"] (defScope s_form) := ⟨rfl, rfl, rfl, by decide +kernel, rfl, by decide +kernel, by decide +kernel⟩
abbrev s_whole : Stmt := topS 18
theorem sc_whole : FnScope ["_law_thing"] ["_law_thing"] (defScope s_whole) := ⟨rfl, rfl, rfl, by decide +kernel, rfl, by decide +kernel, by decide +kernel⟩
abbrev s_alike : Stmt := topS 19
theorem sc_alike : FnScope ["_law_told", "_law_due", "_law_k"] ["_law_told", "_law_due"] (defScope s_alike) := ⟨rfl, rfl, rfl, by decide +kernel, rfl, by decide +kernel, by decide +kernel⟩
abbrev s_strewn : Stmt := topS 20
theorem sc_strewn : FnScope ["_law_hand_here", "_law_things", "_law_told"] ["_law_hand_here", "_law_things"] (defScope s_strewn) := ⟨rfl, rfl, rfl, by decide +kernel, rfl, by decide +kernel, by decide +kernel⟩
abbrev s_law : Stmt := topS 21
theorem sc_law : FnScope ["_law_script", "_law_hand_here", "_law_names", "_law_settings_here", "_law_row", "_law_condition", "_law_told", "_law_setting", "_law_good", "_law_k", "_law_first", "_law_listed", "_law_kept", "_law_back", "_law_wider", "_law_spread", "_law_inner", "_law_switch"] ["_law_script"] (defScope s_law) := ⟨rfl, rfl, rfl, by decide +kernel, rfl, by decide +kernel, by decide +kernel⟩
structure Tp (K : PySem.W.Frag) (mg : Str → Option Value) where
  a_formed : Addr
  d_formed : FuncData
  F_formed : Fun K "formed" "formed" s_formed a_formed d_formed
  g_formed : mg "formed" = some (.ref a_formed)
  b_formed : Binds K d_formed ["switch", "on", "off"] []
  a_side_of : Addr
  d_side_of : FuncData
  F_side_of : Fun K "side_of" "side_of" s_side_of a_side_of d_side_of
  g_side_of : mg "side_of" = some (.ref a_side_of)
  b_side_of : Binds K d_side_of ["condition", "switch", "on"] []
  a_counted : Addr
  d_counted : FuncData
  F_counted : Fun K "counted" "counted" s_counted a_counted d_counted
  g_counted : mg "counted" = some (.ref a_counted)
  b_counted : Binds K d_counted ["condition", "ordered", "at"] []
  a_count_settings : Addr
  d_count_settings : FuncData
  F_count_settings : Fun K "count_settings" "count_settings" s_count_settings a_count_settings d_count_settings
  g_count_settings : mg "count_settings" = some (.ref a_count_settings)
  b_count_settings : Binds K d_count_settings ["condition", "switches"] []
  a_first_setting : Addr
  d_first_setting : FuncData
  F_first_setting : Fun K "first_setting" "first_setting" s_first_setting a_first_setting d_first_setting
  g_first_setting : mg "first_setting" = some (.ref a_first_setting)
  b_first_setting : Binds K d_first_setting ["condition"] []
  a_all_settings : Addr
  d_all_settings : FuncData
  F_all_settings : Fun K "all_settings" "all_settings" s_all_settings a_all_settings d_all_settings
  g_all_settings : mg "all_settings" = some (.ref a_all_settings)
  b_all_settings : Binds K d_all_settings ["switches"] []
  a_grown : Addr
  d_grown : FuncData
  F_grown : Fun K "grown" "grown" s_grown a_grown d_grown
  g_grown : mg "grown" = some (.ref a_grown)
  b_grown : Binds K d_grown ["settings", "ordered", "at"] []
  a_from_settings : Addr
  d_from_settings : FuncData
  F_from_settings : Fun K "from_settings" "from_settings" s_from_settings a_from_settings d_from_settings
  g_from_settings : mg "from_settings" = some (.ref a_from_settings)
  b_from_settings : Binds K d_from_settings ["settings", "switches"] []
  a_stirred : Addr
  d_stirred : FuncData
  F_stirred : Fun K "_law_stirred" "_law_stirred" s_stirred a_stirred d_stirred
  g_stirred : mg "_law_stirred" = some (.ref a_stirred)
  b_stirred : Binds K d_stirred ["_law_number", "_law_turn"] []
  a_take : Addr
  d_take : FuncData
  F_take : Fun K "_law_take" "_law_take" s_take a_take d_take
  g_take : mg "_law_take" = some (.ref a_take)
  b_take : Binds K d_take ["_law_hand_here", "_law_many"] []
  a_shuffled : Addr
  d_shuffled : FuncData
  F_shuffled : Fun K "_law_shuffled" "_law_shuffled" s_shuffled a_shuffled d_shuffled
  g_shuffled : mg "_law_shuffled" = some (.ref a_shuffled)
  b_shuffled : Binds K d_shuffled ["_law_hand_here", "_law_things"] []
  a_hand : Addr
  d_hand : FuncData
  F_hand : Fun K "_law_hand" "_law_hand" s_hand a_hand d_hand
  g_hand : mg "_law_hand" = some (.ref a_hand)
  b_hand : Binds K d_hand ["_law_script"] []
  a_switch_names : Addr
  d_switch_names : FuncData
  F_switch_names : Fun K "_law_switch_names" "_law_switch_names" s_switch_names a_switch_names d_switch_names
  g_switch_names : mg "_law_switch_names" = some (.ref a_switch_names)
  b_switch_names : Binds K d_switch_names ["_law_hand_here", "_law_many"] []
  a_settings : Addr
  d_settings : FuncData
  F_settings : Fun K "_law_settings" "_law_settings" s_settings a_settings d_settings
  g_settings : mg "_law_settings" = some (.ref a_settings)
  b_settings : Binds K d_settings ["_law_names"] []
  a_bits : Addr
  d_bits : FuncData
  F_bits : Fun K "_law_bits" "_law_bits" s_bits a_bits d_bits
  g_bits : mg "_law_bits" = some (.ref a_bits)
  b_bits : Binds K d_bits ["_law_hand_here", "_law_many"] []
  a_form : Addr
  d_form : FuncData
  F_form : Fun K "_law_form" "_law_form" s_form a_form d_form
  g_form : mg "_law_form" = some (.ref a_form)
  b_form : Binds K d_form ["_law_names", "_law_bits_here"] []
  a_whole : Addr
  d_whole : FuncData
  F_whole : Fun K "_law_whole" "_law_whole" s_whole a_whole d_whole
  g_whole : mg "_law_whole" = some (.ref a_whole)
  b_whole : Binds K d_whole ["_law_thing"] []
  a_alike : Addr
  d_alike : FuncData
  F_alike : Fun K "_law_alike" "_law_alike" s_alike a_alike d_alike
  g_alike : mg "_law_alike" = some (.ref a_alike)
  b_alike : Binds K d_alike ["_law_told", "_law_due"] []
  a_strewn : Addr
  d_strewn : FuncData
  F_strewn : Fun K "_law_strewn" "_law_strewn" s_strewn a_strewn d_strewn
  g_strewn : mg "_law_strewn" = some (.ref a_strewn)
  b_strewn : Binds K d_strewn ["_law_hand_here", "_law_things"] []
  a_law : Addr
  d_law : FuncData
  F_law : Fun K "law" "law" s_law a_law d_law
  g_law : mg "law" = some (.ref a_law)
  b_law : Binds K d_law ["_law_script"] []
  z_abs : mg "abs" = none
  z_bool : mg "bool" = none
  z_int : mg "int" = none
  z_isinstance : mg "isinstance" = none
  z_len : mg "len" = none
  z_list : mg "list" = none
  z_range : mg "range" = none
  z_repr : mg "repr" = none
  z_reversed : mg "reversed" = none
  z_set : mg "set" = none
  z_sorted : mg "sorted" = none
  z_str : mg "str" = none
  z_tuple : mg "tuple" = none
section
variable {P : Program} {w : World} {K : PySem.W.Frag} {mg : Str → Option Value} {base : Heap}
theorem ok3_formed (T : Tp K mg) : FnOk P w K mg base CX0 1 T.a_formed T.d_formed ["switch", "on", "off"] (sp3 K f3_formed) := by
  refine fn3 T.F_formed sc_formed rfl rfl fun cdv A outer s H E hr => ?_
  have hu64 := hr.units
  have hu1 := hr.units1
  have hu65 := hr.units65
  exact (b_cons (s_if (t_cmp rfl (op_gEq hu64) (v3 1) (v3 2) (nomark _))
  (b_one (s_ret (v3 1)))
  b_nil)
  (b_one (s_ret (e_tup (a_cons (v3 0) (a_cons (v3 1) (a_cons (v3 2) a_nil)))))))
theorem ok3_side_of (T : Tp K mg) : FnOk P w K mg base CX0 1 T.a_side_of T.d_side_of ["condition", "switch", "on"] (sp3 K f3_side_of) := by
  refine fn3 T.F_side_of sc_side_of rfl rfl fun cdv A outer s H E hr => ?_
  have hu64 := hr.units
  have hu1 := hr.units1
  have hu65 := hr.units65
  exact (b_cons (s_if (t_w (w_or (t_tr rfl (e_cB (isiK3 rfl) ck_isi (by rfl) T.z_isinstance (by decide +kernel) (a_cons (v3 0) (a_cons (e_ty (by rfl) T.z_bool (by decide +kernel)) a_nil))) (by intro _; rfl)) (w_or1 (t_cmp rfl (op_gNe hu64) (e_ix (ix_sq rfl) ok_ix (v3 0) e_int (fun _ _ => rfl)) (v3 1) (nomark _)))))
  (b_one (s_ret (v3 0)))
  b_nil)
  (b_one (s_ret (e_if (t_tr rfl (v3 2) (by intro _; rfl)) (e_ix (ix_sq rfl) ok_ix (v3 0) e_int (fun _ _ => rfl)) (e_ix (ix_sq rfl) ok_ix (v3 0) e_int (fun _ _ => rfl))))))
theorem ok3_counted (T : Tp K mg) : ∀ n, FnOk P w K mg base CX0 (n + 2) T.a_counted T.d_counted ["condition", "ordered", "at"] (sp3 K (f3_counted n))
  | 0 => fn3_none
  | n + 1 => by
    have G_side_of := ok3_side_of (P := P) (w := w) (base := base) T
    have G_counted := ok3_counted T n
    show FnOk P w K mg base CX0 (n + 2 + 1) T.a_counted T.d_counted ["condition", "ordered", "at"] (sp3 K (fdef false 3 1 _))
    refine fn3 T.F_counted sc_counted rfl rfl fun cdv A outer s H E hr => ?_
    have hu64 := hr.units
    have hu1 := hr.units1
    have hu65 := hr.units65
    exact (b_cons (s_if (t_cmp rfl op_gIs (v3 0) e_bl (nomark _))
  (b_one (s_ret e_int))
  b_nil)
  (b_cons (s_if (t_cmp rfl op_gIs (v3 0) e_bl (nomark _))
  (b_one (s_ret (e_op op_shl ok_shl e_int (e_op op_sub ok_sub (e_cB (lenK3 rfl) ck_len (by rfl) T.z_len (by decide +kernel) (a_cons (v3 1) a_nil)) (v3 2)))))
  b_nil)
  (b_cons (s_set (i := 3) sc_counted.nd rfl (Or.inl rfl) (e_call rfl G_counted (hr.mono (by omega)) (by rfl) T.g_counted T.F_counted.kp T.b_counted (a_cons (e_call rfl G_side_of (hr.mono (by omega)) (by rfl) T.g_side_of T.F_side_of.kp T.b_side_of (a_cons (v3 0) (a_cons (e_ix (ix_sq rfl) ok_ix (v3 1) (v3 2) (fun _ _ => rfl)) (a_cons e_bl a_nil)))) (a_cons (v3 1) (a_cons (e_op (op_ad rfl) ok_add (v3 2) e_int) a_nil)))))
  (b_one (s_ret (e_op (op_ad rfl) ok_add (v3 3) (e_call rfl G_counted (hr.mono (by omega)) (by rfl) T.g_counted T.F_counted.kp T.b_counted (a_cons (e_call rfl G_side_of (hr.mono (by omega)) (by rfl) T.g_side_of T.F_side_of.kp T.b_side_of (a_cons (v3 0) (a_cons (e_ix (ix_sq rfl) ok_ix (v3 1) (v3 2) (fun _ _ => rfl)) (a_cons e_bl a_nil)))) (a_cons (v3 1) (a_cons (e_op (op_ad rfl) ok_add (v3 2) e_int) a_nil))))))))))
theorem ok3_count_settings (T : Tp K mg) : FnOk P w K mg base CX0 63 T.a_count_settings T.d_count_settings ["condition", "switches"] (sp3 K f3_count_settings) := by
  have G_counted := ok3_counted (P := P) (w := w) (base := base) T 60
  refine fn3 T.F_count_settings sc_count_settings rfl rfl fun cdv A outer s H E hr => ?_
  have hu64 := hr.units
  have hu1 := hr.units1
  have hu65 := hr.units65
  exact (b_one (s_ret (e_call rfl G_counted (hr.mono (by omega)) (by rfl) T.g_counted T.F_counted.kp T.b_counted (a_cons (v3 0) (a_cons (e_nd (n_ss rfl rfl rfl rfl hu64 (by rfl) T.z_sorted (by rfl) T.z_set (a_cons (v3 1) a_nil))) (a_cons e_int a_nil))))))
theorem ok3_first_setting (T : Tp K mg) : FnOk P w K mg base CX0 1 T.a_first_setting T.d_first_setting ["condition"] (sp3 K f3_first_setting) := by
  refine fn3 T.F_first_setting sc_first_setting rfl rfl fun cdv A outer s H E hr => ?_
  have hu64 := hr.units
  have hu1 := hr.units1
  have hu65 := hr.units65
  exact (b_cons (s_if (t_cmp rfl op_gIs (v3 0) e_bl (nomark _))
  (b_one (s_ret e_non))
  b_nil)
  (b_cons (s_set (i := 1) sc_first_setting.nd rfl (Or.inl rfl) (e_no (n_lst a_nil)))
  (b_cons (s_while PassesOwn.never (t_not (t_tr rfl (e_cB (isiK3 rfl) ck_isi (by rfl) T.z_isinstance (by decide +kernel) (a_cons (v3 0) (a_cons (e_ty (by rfl) T.z_bool (by decide +kernel)) a_nil))) (by intro _; rfl)))
  (b_one (s_if (t_cmp rfl op_gIs (e_ix (ix_sq rfl) ok_ix (v3 0) e_int (fun _ _ => rfl)) e_bl (nomark _))
  (b_cons (s_expr (e_m rfl PySem.F.slot_list_append PySem.F.type_list_append mt_append mk_app (v3 1) (a_cons (e_ix (ix_sq rfl) ok_ix (v3 0) e_int (fun _ _ => rfl)) a_nil)))
  (b_one (s_set (i := 0) sc_first_setting.nd rfl (Or.inl rfl) (e_ix (ix_sq rfl) ok_ix (v3 0) e_int (fun _ _ => rfl)))))
  (b_one (s_set (i := 0) sc_first_setting.nd rfl (Or.inl rfl) (e_ix (ix_sq rfl) ok_ix (v3 0) e_int (fun _ _ => rfl)))))))
  (b_one (s_ret (e_cT (tupK3 rfl) ck_tupOf (by rfl) T.z_tuple (by decide +kernel) (a_cons (v3 1) a_nil)))))))
theorem ok3_all_settings (T : Tp K mg) : LFn P w K mg base 1 T.a_all_settings T.d_all_settings ["switches"] (spL K f3_all_settings) := by
  refine fnL (pre := (defBody s_all_settings).dropLast) (x := "setting") (y := "settings") T.F_all_settings sc_all_settings rfl rfl rfl rfl rfl (by decide) (by decide) rfl fun cdv A outer s H pn hr => ?_
  have hu64 := hr.units
  have hu1 := hr.units1
  have hu65 := hr.units65
  exact (b_cons (s_set (i := 1) sc_all_settings.nd rfl (Or.inl rfl) (e_no (n_lst (a_cons (e_tup a_nil) a_nil))))
  (b_one (s_for PassesOwn.never rfl (i_sq rfl (e_nd (n_ss rfl rfl rfl rfl hu64 (by rfl) T.z_sorted (by rfl) T.z_set (a_cons (v3 0) a_nil)))) (g_name (i := 2) sc_all_settings.nd rfl (Or.inr rfl))
  (b_one (s_setLc2 (i := 1) (own := [("setting", 3), ("more", 4)]) (vs := [3, 4]) (vs1 := [4]) eNo (.inr rfl) rfl sc_all_settings.nd rfl rfl (sw_true rfl rfl rfl (by decide +kernel)) (i_sq rfl (v3 1)) (blkOk_by (own := [("setting", 3), ("more", 4)]) (N := ["switches", "settings", "switch", "setting", "more"]) (sc := defScope s_all_settings) (scope := { kind := PySem.ScopeKind.function, names := [ (PySem.Str.ofString ".0", PySem.NameKind.local), (PySem.Str.ofString "setting", PySem.NameKind.local), (PySem.Str.ofString "more", PySem.NameKind.local), (PySem.Str.ofString "switch", PySem.NameKind.free)], isGenerator := false, isCoroutine := false, more := [] : PySem.Scope }) (by decide +kernel)) rfl (by decide) (by decide) (by decide) (fun _ _ _ _ _ => (g_name (i := 3) sc_all_settings.nd rfl (Or.inl rfl) (Or.inr rfl))) (fun _ _ _ _ _ => t_nil) (fun _ _ _ _ _ => (i_sq rfl (e_tup (a_cons (e_tup a_nil) (a_cons (e_tup (a_cons (v3 2) a_nil)) a_nil))))) (fun _ _ _ _ _ => (g_name (i := 4) sc_all_settings.nd rfl (Or.inl rfl) (Or.inr rfl))) (fun _ _ _ _ _ => t_nil) (fun _ _ _ _ _ => (e_op (op_ad rfl) ok_add (v3 3) (v3 4))))))))
theorem ok3_grown (T : Tp K mg) : ∀ n, FnOk P w K mg base CX0 (n + 2) T.a_grown T.d_grown ["settings", "ordered", "at"] (sp3 K (f3_grown n))
  | 0 => fn3_none
  | n + 1 => by
    have G_formed := ok3_formed (P := P) (w := w) (base := base) T
    have G_grown := ok3_grown T n
    show FnOk P w K mg base CX0 (n + 2 + 1) T.a_grown T.d_grown ["settings", "ordered", "at"] (sp3 K (fdef false 3 3 _))
    refine fn3 T.F_grown sc_grown rfl rfl fun cdv A outer s H E hr => ?_
    have hu64 := hr.units
    have hu1 := hr.units1
    have hu65 := hr.units65
    exact (b_cons (s_if (t_not (t_tr rfl (v3 0) (by intro _; rfl)))
  (b_one (s_ret e_bl))
  b_nil)
  (b_cons (s_if (t_cmp rfl (op_gEq hu64) (v3 2) (e_cB (lenK3 rfl) ck_len (by rfl) T.z_len (by decide +kernel) (a_cons (v3 1) a_nil)) (nomark _))
  (b_one (s_ret e_bl))
  b_nil)
  (b_cons (s_setLc (i := 3) (own := [("setting", 4)]) (vs := [4]) eNd (.inl rfl) rfl sc_grown.nd rfl rfl (sw_true rfl rfl rfl (by decide +kernel)) (i_sq rfl (v3 0)) (blkOk_by (own := [("setting", 4)]) (N := ["settings", "ordered", "at", "on", "setting", "off"]) (sc := defScope s_grown) (scope := { kind := PySem.ScopeKind.function, names := [ (PySem.Str.ofString ".0", PySem.NameKind.local), (PySem.Str.ofString "setting", PySem.NameKind.local), (PySem.Str.ofString "at", PySem.NameKind.free), (PySem.Str.ofString "ordered", PySem.NameKind.free)], isGenerator := false, isCoroutine := false, more := [] : PySem.Scope }) (by decide +kernel)) rfl (by decide) (fun _ _ _ _ _ => (g_name (i := 4) sc_grown.nd rfl (Or.inl rfl) (Or.inr rfl))) (fun _ _ _ _ _ => (t_one (t_cmp rfl (op_gIn hu64) (e_ix (ix_sq rfl) ok_ix (v3 1) (v3 2) (fun _ _ => rfl)) (v3 4) (by rfl)))) (fun _ _ _ _ _ => (v3 4)))
  (b_cons (s_setLc (i := 5) (own := [("setting", 4)]) (vs := [4]) eNd (.inl rfl) rfl sc_grown.nd rfl rfl (sw_true rfl rfl rfl (by decide +kernel)) (i_sq rfl (v3 0)) (blkOk_by (own := [("setting", 4)]) (N := ["settings", "ordered", "at", "on", "setting", "off"]) (sc := defScope s_grown) (scope := { kind := PySem.ScopeKind.function, names := [ (PySem.Str.ofString ".0", PySem.NameKind.local), (PySem.Str.ofString "setting", PySem.NameKind.local), (PySem.Str.ofString "at", PySem.NameKind.free), (PySem.Str.ofString "ordered", PySem.NameKind.free)], isGenerator := false, isCoroutine := false, more := [] : PySem.Scope }) (by decide +kernel)) rfl (by decide) (fun _ _ _ _ _ => (g_name (i := 4) sc_grown.nd rfl (Or.inl rfl) (Or.inr rfl))) (fun _ _ _ _ _ => (t_one (t_cmp rfl (op_gNin hu64) (e_ix (ix_sq rfl) ok_ix (v3 1) (v3 2) (fun _ _ => rfl)) (v3 4) (by rfl)))) (fun _ _ _ _ _ => (v3 4)))
  (b_one (s_ret (e_call rfl G_formed (hr.mono (by omega)) (by rfl) T.g_formed T.F_formed.kp T.b_formed (a_cons (e_ix (ix_sq rfl) ok_ix (v3 1) (v3 2) (fun _ _ => rfl)) (a_cons (e_call rfl G_grown (hr.mono (by omega)) (by rfl) T.g_grown T.F_grown.kp T.b_grown (a_cons (v3 3) (a_cons (v3 1) (a_cons (e_op (op_ad rfl) ok_add (v3 2) e_int) a_nil)))) (a_cons (e_call rfl G_grown (hr.mono (by omega)) (by rfl) T.g_grown T.F_grown.kp T.b_grown (a_cons (v3 5) (a_cons (v3 1) (a_cons (e_op (op_ad rfl) ok_add (v3 2) e_int) a_nil)))) a_nil))))))))))
theorem ok3_from_settings (T : Tp K mg) : FnOk P w K mg base CX0 63 T.a_from_settings T.d_from_settings ["settings", "switches"] (sp3 K f3_from_settings) := by
  have G_grown := ok3_grown (P := P) (w := w) (base := base) T 60
  refine fn3 T.F_from_settings sc_from_settings rfl rfl fun cdv A outer s H E hr => ?_
  have hu64 := hr.units
  have hu1 := hr.units1
  have hu65 := hr.units65
  exact (b_one (s_ret (e_call rfl G_grown (hr.mono (by omega)) (by rfl) T.g_grown T.F_grown.kp T.b_grown (a_cons (e_nd (n_cT (cr_lst4 rfl rfl) nk_lst4 (by rfl) T.z_list (by decide +kernel) (a_cons (v3 0) a_nil))) (a_cons (e_nd (n_ss rfl rfl rfl rfl hu64 (by rfl) T.z_sorted (by rfl) T.z_set (a_cons (v3 1) a_nil))) (a_cons e_int a_nil))))))
theorem ok3_stirred (T : Tp K mg) : FnOk P w K mg base CX0 1 T.a_stirred T.d_stirred ["_law_number", "_law_turn"] (sp3 K f3_stirred) := by
  refine fn3 T.F_stirred sc_stirred rfl rfl fun cdv A outer s H E hr => ?_
  have hu64 := hr.units
  have hu1 := hr.units1
  have hu65 := hr.units65
  exact (b_cons (s_set (i := 2) sc_stirred.nd rfl (Or.inl rfl) (e_op op_mod ok_mod (e_cT int1_3 ck_int (by rfl) T.z_int (by decide +kernel) (a_cons (e_op (op_ad rfl) ok_add (e_op (op_ad rfl) ok_add (e_op op_mul3 ok_mul (v3 0) e_int) (e_op op_mul3 ok_mul (v3 1) e_int)) e_int) a_nil)) e_int))
  (b_cons (s_set (i := 3) sc_stirred.nd rfl (Or.inl rfl) (e_op op_mod ok_mod (e_cT int1_3 ck_int (by rfl) T.z_int (by decide +kernel) (a_cons (e_op (op_ad rfl) ok_add (e_op (op_ad rfl) ok_add (e_op op_mul3 ok_mul (v3 2) (v3 2)) (e_op op_mul3 ok_mul (v3 1) e_int)) (e_op op_fdiv ok_fdiv (v3 2) e_int)) a_nil)) e_int))
  (b_one (s_ret (e_op op_fdiv ok_fdiv (e_cT int1_3 ck_int (by rfl) T.z_int (by decide +kernel) (a_cons (e_op op_mod ok_mod (e_cT int1_3 ck_int (by rfl) T.z_int (by decide +kernel) (a_cons (e_op (op_ad rfl) ok_add (e_op op_mul3 ok_mul (v3 3) e_int) (e_op op_fdiv ok_fdiv (v3 2) e_int)) a_nil)) e_int) a_nil)) e_int)))))
theorem ok3_take (T : Tp K mg) : FnOk P w K mg base CX0 2 T.a_take T.d_take ["_law_hand_here", "_law_many"] (sp3 K f3_take) := by
  have G_stirred := ok3_stirred (P := P) (w := w) (base := base) T
  refine fn3 T.F_take sc_take rfl rfl fun cdv A outer s H E hr => ?_
  have hu64 := hr.units
  have hu1 := hr.units1
  have hu65 := hr.units65
  exact (b_cons (s_if (t_w (w_and (t_cmp rfl (op_gEq hu64) (e_ix (ix_sq rfl) ok_ix (v3 0) e_int (fun _ _ => rfl)) e_int (nomark _)) (w_and1 (t_cmp rfl (op_gLt hu64) (e_ix (ix_sq rfl) ok_ix (v3 0) e_int (fun _ _ => rfl)) (e_cB (lenK3 rfl) ck_len (by rfl) T.z_len (by decide +kernel) (a_cons (e_ix (ix_sq rfl) ok_ix (v3 0) e_int (fun _ _ => rfl)) a_nil)) (nomark _)))))
  (b_cons (s_set (i := 2) sc_take.nd rfl (Or.inl rfl) (e_ix (ix_sq rfl) ok_ix (e_ix (ix_sq rfl) ok_ix (v3 0) e_int (fun _ _ => rfl)) (e_ix (ix_sq rfl) ok_ix (v3 0) e_int (fun _ _ => rfl)) (fun _ _ => rfl)))
  (b_cons (s_asg (e_op (op_ad rfl) ok_add (e_ix (ix_sq rfl) ok_ix (v3 0) e_int (fun _ _ => rfl)) e_int) (g_sub (v3 0) e_int))
  (b_cons (s_if (t_cmp rfl (op_gLt hu64) (v3 2) (e_op op_pow ok_pow e_int e_int) (nomark _))
  (b_one (s_ret (e_op op_mod ok_mod (e_cT int1_3 ck_int (by rfl) T.z_int (by decide +kernel) (a_cons (e_call rfl G_stirred (hr.mono (by omega)) (by rfl) T.g_stirred T.F_stirred.kp T.b_stirred (a_cons (e_op op_mod ok_mod (e_cT int1_3 ck_int (by rfl) T.z_int (by decide +kernel) (a_cons (v3 2) a_nil)) e_int) (a_cons (e_ix (ix_sq rfl) ok_ix (v3 0) e_int (fun _ _ => rfl)) a_nil))) a_nil)) (v3 1))))
  b_nil)
  (b_one (s_asg (v3 2) (g_sub (v3 0) e_int))))))
  b_nil)
  (b_cons (s_if (t_cmp rfl (op_gGt hu64) (e_ix (ix_sq rfl) ok_ix (v3 0) e_int (fun _ _ => rfl)) e_int (nomark _))
  (b_cons (s_set (i := 3) sc_take.nd rfl (Or.inl rfl) (e_ix (ix_sq rfl) ok_ix (v3 0) e_int (fun _ _ => rfl)))
  (b_cons (s_asg (e_op op_fdiv ok_fdiv (e_cT int1_3 ck_int (by rfl) T.z_int (by decide +kernel) (a_cons (v3 3) a_nil)) (v3 1)) (g_sub (v3 0) e_int))
  (b_one (s_ret (e_op op_mod ok_mod (e_cT int1_3 ck_int (by rfl) T.z_int (by decide +kernel) (a_cons (v3 3) a_nil)) (v3 1))))))
  b_nil)
  (b_cons (s_asg (e_op op_mod ok_mod (e_cT int1_3 ck_int (by rfl) T.z_int (by decide +kernel) (a_cons (e_op (op_ad rfl) ok_add (e_ix (ix_sq rfl) ok_ix (v3 0) e_int (fun _ _ => rfl)) e_int) a_nil)) e_int) (g_sub (v3 0) e_int))
  (b_one (s_ret (e_op op_mod ok_mod (e_cT int1_3 ck_int (by rfl) T.z_int (by decide +kernel) (a_cons (e_call rfl G_stirred (hr.mono (by omega)) (by rfl) T.g_stirred T.F_stirred.kp T.b_stirred (a_cons (e_ix (ix_sq rfl) ok_ix (v3 0) e_int (fun _ _ => rfl)) (a_cons (e_ix (ix_sq rfl) ok_ix (v3 0) e_int (fun _ _ => rfl)) a_nil))) a_nil)) (v3 1)))))))
theorem ok3_shuffled (T : Tp K mg) : FnOk P w K mg base CX0 3 T.a_shuffled T.d_shuffled ["_law_hand_here", "_law_things"] (sp3 K f3_shuffled) := by
  have G_take := ok3_take (P := P) (w := w) (base := base) T
  refine fn3 T.F_shuffled sc_shuffled rfl rfl fun cdv A outer s H E hr => ?_
  have hu64 := hr.units
  have hu1 := hr.units1
  have hu65 := hr.units65
  exact (b_cons (s_set (i := 2) sc_shuffled.nd rfl (Or.inr rfl) (e_no (n_cT (cr_lst4 rfl rfl) nk_lst4 (by rfl) T.z_list (by decide +kernel) (a_cons (v3 1) a_nil))))
  (b_one (s_ret (e_nd (n_lc (own := [("_law_k", 3)]) (vs := [3]) rfl sc_shuffled.nd (i_r1 (by rfl) T.z_range (a_cons (e_cB (lenK3 rfl) ck_len (by rfl) T.z_len (by decide +kernel) (a_cons (v3 2) a_nil)) a_nil)) (blkOk_by (own := [("_law_k", 3)]) (N := ["_law_hand_here", "_law_things", "_law_left", "_law_k"]) (sc := defScope s_shuffled) (scope := { kind := PySem.ScopeKind.function, names := [ (PySem.Str.ofString ".0", PySem.NameKind.local), (PySem.Str.ofString "_law_k", PySem.NameKind.local), (PySem.Str.ofString "_law_take", PySem.NameKind.globalImplicit), (PySem.Str.ofString "len", PySem.NameKind.globalImplicit), (PySem.Str.ofString "_law_hand_here", PySem.NameKind.free), (PySem.Str.ofString "_law_left", PySem.NameKind.free)], isGenerator := false, isCoroutine := false, more := [] : PySem.Scope }) (by decide +kernel)) rfl (by decide) (fun _ _ _ _ _ => (g_name (i := 3) sc_shuffled.nd rfl (Or.inl rfl) (Or.inr rfl))) (fun _ _ _ _ _ => t_nil) (fun _ _ _ _ _ => (e_m rfl PySem.F.slot_list_pop PySem.F.type_list_pop mt_popAt mk_popAt (v3 2) (a_cons (e_call rfl G_take (hr.mono (by omega)) (by rfl) T.g_take T.F_take.kp T.b_take (a_cons (v3 0) (a_cons (e_cB (lenK3 rfl) ck_len (by rfl) T.z_len (by decide +kernel) (a_cons (v3 2) a_nil)) a_nil))) a_nil))))))))
theorem ok3_hand (T : Tp K mg) : FnOk P w K mg base CX0 1 T.a_hand T.d_hand ["_law_script"] (sp3 K f3_hand) := by
  refine fn3 T.F_hand sc_hand rfl rfl fun cdv A outer s H E hr => ?_
  have hu64 := hr.units
  have hu1 := hr.units1
  have hu65 := hr.units65
  exact (b_cons (s_set (i := 1) sc_hand.nd rfl (Or.inl rfl) (e_op (op_ad rfl) ok_add (e_op op_mul3 ok_mul (e_cB (lenK3 rfl) ck_len (by rfl) T.z_len (by decide +kernel) (a_cons (v3 0) a_nil)) e_int) e_int))
  (b_cons (s_set (i := 2) sc_hand.nd rfl (Or.inl rfl) (e_no (n_lst a_nil)))
  (b_cons (s_for PassesOwn.never rfl (i_sq rfl (v3 0)) (g_name (i := 3) sc_hand.nd rfl (Or.inl rfl))
  (b_cons (s_set (i := 1) sc_hand.nd rfl (Or.inl rfl) (e_op op_mod ok_mod (e_cT int1_3 ck_int (by rfl) T.z_int (by decide +kernel) (a_cons (e_op (op_ad rfl) ok_add (e_op op_mul3 ok_mul (v3 1) e_int) (e_cT int1_3 ck_int (by rfl) T.z_int (by decide +kernel) (a_cons (v3 3) a_nil))) a_nil)) e_int))
  (b_one (s_expr (e_m rfl PySem.F.slot_list_append PySem.F.type_list_append mt_append mk_app (v3 2) (a_cons (e_cB abs_3 ck_abs (by rfl) T.z_abs (by decide +kernel) (a_cons (e_cT int1_3 ck_int (by rfl) T.z_int (by decide +kernel) (a_cons (v3 3) a_nil)) a_nil)) a_nil))))))
  (b_one (s_ret (e_no (n_lst (a_cons (e_frz (v3 2)) (a_cons e_int (a_cons e_int (a_cons (v3 1) a_nil)))))))))))
theorem ok3_switch_names (T : Tp K mg) : FnOk P w K mg base CX0 3 T.a_switch_names T.d_switch_names ["_law_hand_here", "_law_many"] (sp3 K f3_switch_names) := by
  have G_take := ok3_take (P := P) (w := w) (base := base) T
  refine fn3 T.F_switch_names sc_switch_names rfl rfl fun cdv A outer s H E hr => ?_
  have hu64 := hr.units
  have hu1 := hr.units1
  have hu65 := hr.units65
  exact (b_cons (s_set (i := 2) sc_switch_names.nd rfl (Or.inl rfl) (e_no (n_lst a_nil)))
  (b_cons (s_for PassesOwn.never rfl (i_r1 (by rfl) T.z_range (a_cons (v3 1) a_nil)) (g_name (i := 3) sc_switch_names.nd rfl (Or.inl rfl))
  (b_cons (s_set (i := 4) sc_switch_names.nd rfl (Or.inl rfl) (e_call rfl G_take (hr.mono (by omega)) (by rfl) T.g_take T.F_take.kp T.b_take (a_cons (v3 0) (a_cons e_int a_nil))))
  (b_one (s_if (t_cmp rfl (op_gEq hu64) (v3 4) e_int (nomark _))
  (b_one (s_expr (e_m rfl PySem.F.slot_list_append PySem.F.type_list_append mt_append mk_app (v3 2) (a_cons (e_op (op_ad rfl) ok_add e_str (e_cT str_3 ck_str (by rfl) T.z_str (by decide +kernel) (a_cons (e_op (op_ad rfl) ok_add (v3 3) e_int) a_nil))) a_nil))))
  (b_one (s_if (t_cmp rfl (op_gEq hu64) (v3 4) e_int (nomark _))
  (b_one (s_expr (e_m rfl PySem.F.slot_list_append PySem.F.type_list_append mt_append mk_app (v3 2) (a_cons (e_op (op_ad rfl) ok_add e_str (e_cT str_3 ck_str (by rfl) T.z_str (by decide +kernel) (a_cons (e_op (op_ad rfl) ok_add (v3 3) e_int) a_nil))) a_nil))))
  (b_cons (s_setLc (i := 5) (own := [("_law_j", 6)]) (vs := [6]) eNd (.inl rfl) rfl sc_switch_names.nd rfl rfl (sw_true rfl rfl rfl (by decide +kernel)) (i_r1 (by rfl) T.z_range (a_cons (e_call rfl G_take (hr.mono (by omega)) (by rfl) T.g_take T.F_take.kp T.b_take (a_cons (v3 0) (a_cons e_int a_nil))) a_nil)) (blkOk_by (own := [("_law_j", 6)]) (N := ["_law_hand_here", "_law_many", "_law_told", "_law_k", "_law_turn", "_law_middle", "_law_j"]) (sc := defScope s_switch_names) (scope := { kind := PySem.ScopeKind.function, names := [ (PySem.Str.ofString ".0", PySem.NameKind.local), (PySem.Str.ofString "_law_j", PySem.NameKind.local), (PySem.Str.ofString "_law_take", PySem.NameKind.globalImplicit), (PySem.Str.ofString "_law_hand_here", PySem.NameKind.free)], isGenerator := false, isCoroutine := false, more := [] : PySem.Scope }) (by decide +kernel)) rfl (by decide) (fun _ _ _ _ _ => (g_name (i := 6) sc_switch_names.nd rfl (Or.inl rfl) (Or.inr rfl))) (fun _ _ _ _ _ => t_nil) (fun _ _ _ _ _ => (e_ix (ix_sq rfl) ok_ix e_str (e_call rfl G_take (hr.mono (by omega)) (by rfl) T.g_take T.F_take.kp T.b_take (a_cons (v3 0) (a_cons e_int a_nil))) (fun _ _ => rfl))))
  (b_one (s_expr (e_m rfl PySem.F.slot_list_append PySem.F.type_list_append mt_append mk_app (v3 2) (a_cons (e_op (op_ad rfl) ok_add (e_op (op_ad rfl) ok_add (e_ix (ix_sq rfl) ok_ix e_str (e_call rfl G_take (hr.mono (by omega)) (by rfl) T.g_take T.F_take.kp T.b_take (a_cons (v3 0) (a_cons e_int a_nil))) (fun _ _ => rfl)) (e_join rfl e_str (v3 5))) (e_cT str_3 ck_str (by rfl) T.z_str (by decide +kernel) (a_cons (v3 3) a_nil))) a_nil)))))))))))
  (b_one (s_ret (e_nd (n_cB (sortK3 rfl hu64) nk_sorted (by rfl) T.z_sorted (by decide +kernel) (a_cons (v3 2) a_nil)))))))
theorem ok3_settings (T : Tp K mg) : FnOk P w K mg base CX0 1 T.a_settings T.d_settings ["_law_names"] (sp3 K f3_settings) := by
  refine fn3 T.F_settings sc_settings rfl rfl fun cdv A outer s H E hr => ?_
  have hu64 := hr.units
  have hu1 := hr.units1
  have hu65 := hr.units65
  exact (b_cons (s_set (i := 1) sc_settings.nd rfl (Or.inl rfl) (e_nd (n_lst (a_cons (e_nd (n_lst a_nil)) a_nil))))
  (b_cons (s_for PassesOwn.never rfl (i_rv rfl (by rfl) T.z_reversed (v3 0)) (g_name (i := 2) sc_settings.nd rfl (Or.inr rfl))
  (b_one (s_set (i := 1) sc_settings.nd rfl (Or.inl rfl) (e_op (op_ad rfl) ok_add (v3 1) (e_nd (n_lc (own := [("_law_row", 3)]) (vs := [3]) rfl sc_settings.nd (i_sq rfl (v3 1)) (blkOk_by (own := [("_law_row", 3)]) (N := ["_law_names", "_law_told", "_law_switch", "_law_row"]) (sc := defScope s_settings) (scope := { kind := PySem.ScopeKind.function, names := [ (PySem.Str.ofString ".0", PySem.NameKind.local), (PySem.Str.ofString "_law_row", PySem.NameKind.local), (PySem.Str.ofString "_law_switch", PySem.NameKind.free)], isGenerator := false, isCoroutine := false, more := [] : PySem.Scope }) (by decide +kernel)) rfl (by decide) (fun _ _ _ _ _ => (g_name (i := 3) sc_settings.nd rfl (Or.inl rfl) (Or.inr rfl))) (fun _ _ _ _ _ => t_nil) (fun _ _ _ _ _ => (e_op (op_ad rfl) ok_add (e_nd (n_lst (a_cons (v3 2) a_nil))) (v3 3)))))))))
  (b_one (s_ret (v3 1)))))
theorem ok3_bits (T : Tp K mg) : FnOk P w K mg base CX0 3 T.a_bits T.d_bits ["_law_hand_here", "_law_many"] (sp3 K f3_bits) := by
  have G_take := ok3_take (P := P) (w := w) (base := base) T
  refine fn3 T.F_bits sc_bits rfl rfl fun cdv A outer s H E hr => ?_
  have hu64 := hr.units
  have hu1 := hr.units1
  have hu65 := hr.units65
  exact (b_cons (s_set (i := 2) sc_bits.nd rfl (Or.inl rfl) (e_call rfl G_take (hr.mono (by omega)) (by rfl) T.g_take T.F_take.kp T.b_take (a_cons (v3 0) (a_cons e_int a_nil))))
  (b_cons (s_if (t_cmp rfl (op_gEq hu64) (v3 2) e_int (nomark _))
  (b_cons (s_set (i := 3) sc_bits.nd rfl (Or.inr rfl) (e_cmp rfl (op_gEq hu64) (e_call rfl G_take (hr.mono (by omega)) (by rfl) T.g_take T.F_take.kp T.b_take (a_cons (v3 0) (a_cons e_int a_nil))) e_int (nomark _)))
  (b_one (s_ret (e_nd (n_lc (own := [("_law_k", 4)]) (vs := [4]) rfl sc_bits.nd (i_r1 (by rfl) T.z_range (a_cons (v3 1) a_nil)) (blkOk_by (own := [("_law_k", 4)]) (N := ["_law_hand_here", "_law_many", "_law_turn", "_law_one", "_law_k"]) (sc := defScope s_bits) (scope := { kind := PySem.ScopeKind.function, names := [ (PySem.Str.ofString ".0", PySem.NameKind.local), (PySem.Str.ofString "_law_k", PySem.NameKind.local), (PySem.Str.ofString "_law_one", PySem.NameKind.free)], isGenerator := false, isCoroutine := false, more := [] : PySem.Scope }) (by decide +kernel)) rfl (by decide) (fun _ _ _ _ _ => (g_name (i := 4) sc_bits.nd rfl (Or.inl rfl) (Or.inr rfl))) (fun _ _ _ _ _ => t_nil) (fun _ _ _ _ _ => (v3 3)))))))
  b_nil)
  (b_cons (s_if (t_cmp rfl (op_gEq hu64) (v3 2) e_int (nomark _))
  (b_one (s_ret (e_nd (n_lc (own := [("_law_k", 4)]) (vs := [4]) rfl sc_bits.nd (i_r1 (by rfl) T.z_range (a_cons (v3 1) a_nil)) (blkOk_by (own := [("_law_k", 4)]) (N := ["_law_hand_here", "_law_many", "_law_turn", "_law_one", "_law_k"]) (sc := defScope s_bits) (scope := { kind := PySem.ScopeKind.function, names := [ (PySem.Str.ofString ".0", PySem.NameKind.local), (PySem.Str.ofString "_law_k", PySem.NameKind.local), (PySem.Str.ofString "_law_take", PySem.NameKind.globalImplicit), (PySem.Str.ofString "_law_hand_here", PySem.NameKind.free)], isGenerator := false, isCoroutine := false, more := [] : PySem.Scope }) (by decide +kernel)) rfl (by decide) (fun _ _ _ _ _ => (g_name (i := 4) sc_bits.nd rfl (Or.inl rfl) (Or.inr rfl))) (fun _ _ _ _ _ => t_nil) (fun _ _ _ _ _ => (e_cmp rfl (op_gEq hu64) (e_call rfl G_take (hr.mono (by omega)) (by rfl) T.g_take T.F_take.kp T.b_take (a_cons (v3 0) (a_cons e_int a_nil))) e_int (nomark _)))))))
  b_nil)
  (b_one (s_ret (e_nd (n_lc (own := [("_law_k", 4)]) (vs := [4]) rfl sc_bits.nd (i_r1 (by rfl) T.z_range (a_cons (v3 1) a_nil)) (blkOk_by (own := [("_law_k", 4)]) (N := ["_law_hand_here", "_law_many", "_law_turn", "_law_one", "_law_k"]) (sc := defScope s_bits) (scope := { kind := PySem.ScopeKind.function, names := [ (PySem.Str.ofString ".0", PySem.NameKind.local), (PySem.Str.ofString "_law_k", PySem.NameKind.local), (PySem.Str.ofString "_law_take", PySem.NameKind.globalImplicit), (PySem.Str.ofString "_law_hand_here", PySem.NameKind.free)], isGenerator := false, isCoroutine := false, more := [] : PySem.Scope }) (by decide +kernel)) rfl (by decide) (fun _ _ _ _ _ => (g_name (i := 4) sc_bits.nd rfl (Or.inl rfl) (Or.inr rfl))) (fun _ _ _ _ _ => t_nil) (fun _ _ _ _ _ => (e_cmp rfl (op_gEq hu64) (e_call rfl G_take (hr.mono (by omega)) (by rfl) T.g_take T.F_take.kp T.b_take (a_cons (v3 0) (a_cons e_int a_nil))) e_int (nomark _))))))))))
theorem ok3_form (T : Tp K mg) : ∀ n, FnOk P w K mg base CX0 (n + 1) T.a_form T.d_form ["_law_names", "_law_bits_here"] (sp3 K (f3_form n))
  | 0 => fn3_none
  | n + 1 => by
    have G_form := ok3_form T n
    show FnOk P w K mg base CX0 (n + 1 + 1) T.a_form T.d_form ["_law_names", "_law_bits_here"] (sp3 K (fdef false 2 3 _))
    refine fn3 T.F_form sc_form rfl rfl fun cdv A outer s H E hr => ?_
    have hu64 := hr.units
    have hu1 := hr.units1
    have hu65 := hr.units65
    exact (b_cons (s_if (t_cmp rfl (op_gEq hu64) (e_cB (lenK3 rfl) ck_len (by rfl) T.z_len (by decide +kernel) (a_cons (v3 0) a_nil)) e_int (nomark _))
  (b_one (s_ret (e_ix (ix_sq rfl) ok_ix (v3 1) e_int (fun _ _ => rfl))))
  b_nil)
  (b_cons (s_set (i := 2) sc_form.nd rfl (Or.inl rfl) (e_op op_fdiv ok_fdiv (e_cB (lenK3 rfl) ck_len (by rfl) T.z_len (by decide +kernel) (a_cons (v3 1) a_nil)) e_int))
  (b_cons (s_set (i := 3) sc_form.nd rfl (Or.inl rfl) (e_call rfl G_form (hr.mono (by omega)) (by rfl) T.g_form T.F_form.kp T.b_form (a_cons (e_sl rfl (v3 0) (o_some e_int) o_none) (a_cons (e_sl rfl (v3 1) o_none (o_some (v3 2))) a_nil))))
  (b_cons (s_set (i := 4) sc_form.nd rfl (Or.inl rfl) (e_call rfl G_form (hr.mono (by omega)) (by rfl) T.g_form T.F_form.kp T.b_form (a_cons (e_sl rfl (v3 0) (o_some e_int) o_none) (a_cons (e_sl rfl (v3 1) (o_some (v3 2)) o_none) a_nil))))
  (b_cons (s_if (t_cmp rfl (op_gEq hu64) (v3 4) (v3 3) (nomark _))
  (b_one (s_ret (v3 4)))
  b_nil)
  (b_one (s_ret (e_tup (a_cons (e_ix (ix_sq rfl) ok_ix (v3 0) e_int (fun _ _ => rfl)) (a_cons (v3 4) (a_cons (v3 3) a_nil)))))))))))
theorem ok3_whole (T : Tp K mg) : FnOk P w K mg base CX0 1 T.a_whole T.d_whole ["_law_thing"] (sp3 K f3_whole) := by
  refine fn3 T.F_whole sc_whole rfl rfl fun cdv A outer s H E hr => ?_
  have hu64 := hr.units
  have hu1 := hr.units1
  have hu65 := hr.units65
  exact (b_one (s_ret (e_and (e_cB (isiK3 rfl) ck_isi (by rfl) T.z_isinstance (by decide +kernel) (a_cons (v3 0) (a_cons (e_ty (by rfl) T.z_int (by decide +kernel)) a_nil))) (e_one (e_not rfl (e_cB (isiK3 rfl) ck_isi (by rfl) T.z_isinstance (by decide +kernel) (a_cons (v3 0) (a_cons (e_ty (by rfl) T.z_bool (by decide +kernel)) a_nil))))))))
theorem ok3_alike (T : Tp K mg) : ∀ n, FnOk P w K mg base CX0 (n + 2) T.a_alike T.d_alike ["_law_told", "_law_due"] (sp3 K (f3_alike n))
  | 0 => fn3_none
  | n + 1 => by
    have G_whole := ok3_whole (P := P) (w := w) (base := base) T
    have G_alike := ok3_alike T n
    show FnOk P w K mg base CX0 (n + 2 + 1) T.a_alike T.d_alike ["_law_told", "_law_due"] (sp3 K (fdef false 2 1 _))
    refine fn3 T.F_alike sc_alike rfl rfl fun cdv A outer s H E hr => ?_
    have hu64 := hr.units
    have hu1 := hr.units1
    have hu65 := hr.units65
    exact (b_cons (s_if (t_tr rfl (e_cB (isiK3 rfl) ck_isi (by rfl) T.z_isinstance (by decide +kernel) (a_cons (v3 1) (a_cons (e_ty (by rfl) T.z_bool (by decide +kernel)) a_nil))) (by intro _; rfl))
  (b_one (s_ret (e_and (e_cB (isiK3 rfl) ck_isi (by rfl) T.z_isinstance (by decide +kernel) (a_cons (v3 0) (a_cons (e_ty (by rfl) T.z_bool (by decide +kernel)) a_nil))) (e_one (e_cmp rfl (op_gEq hu64) (v3 0) (v3 1) (nomark _))))))
  b_nil)
  (b_cons (s_if (t_tr rfl (e_cB (isiK3 rfl) ck_isi (by rfl) T.z_isinstance (by decide +kernel) (a_cons (v3 1) (a_cons (e_ty (by rfl) T.z_tuple (by decide +kernel)) a_nil))) (by intro _; rfl))
  (b_cons (s_if (t_w (w_or (t_not (t_tr rfl (e_cB (isiK3 rfl) ck_isi (by rfl) T.z_isinstance (by decide +kernel) (a_cons (v3 0) (a_cons (e_ty (by rfl) T.z_tuple (by decide +kernel)) a_nil))) (by intro _; rfl))) (w_or1 (t_cmp rfl (op_gNe hu64) (e_cB (lenK3 rfl) ck_len (by rfl) T.z_len (by decide +kernel) (a_cons (v3 0) a_nil)) (e_cB (lenK3 rfl) ck_len (by rfl) T.z_len (by decide +kernel) (a_cons (v3 1) a_nil)) (nomark _)))))
  (b_one (s_ret e_bl))
  b_nil)
  (b_one (s_ret (e_cmp rfl (op_gEq hu64) (e_cB (lenK3 rfl) ck_len (by rfl) T.z_len (by decide +kernel) (a_cons (e_nd (n_lc (own := [("_law_k", 2)]) (vs := [2]) rfl sc_alike.nd (i_r1 (by rfl) T.z_range (a_cons (e_cB (lenK3 rfl) ck_len (by rfl) T.z_len (by decide +kernel) (a_cons (v3 1) a_nil)) a_nil)) (blkOk_by (own := [("_law_k", 2)]) (N := ["_law_told", "_law_due", "_law_k"]) (sc := defScope s_alike) (scope := { kind := PySem.ScopeKind.function, names := [ (PySem.Str.ofString ".0", PySem.NameKind.local), (PySem.Str.ofString "_law_k", PySem.NameKind.local), (PySem.Str.ofString "_law_alike", PySem.NameKind.globalImplicit), (PySem.Str.ofString "_law_due", PySem.NameKind.free), (PySem.Str.ofString "_law_told", PySem.NameKind.free)], isGenerator := false, isCoroutine := false, more := [] : PySem.Scope }) (by decide +kernel)) rfl (by decide) (fun _ _ _ _ _ => (g_name (i := 2) sc_alike.nd rfl (Or.inl rfl) (Or.inr rfl))) (fun _ _ _ _ _ => (t_one (t_not (t_tr rfl (e_call rfl G_alike (hr.mono (by omega)) (by rfl) T.g_alike T.F_alike.kp T.b_alike (a_cons (e_ix (ix_sq rfl) ok_ix (v3 0) (v3 2) (fun _ _ => rfl)) (a_cons (e_ix (ix_sq rfl) ok_ix (v3 1) (v3 2) (fun _ _ => rfl)) a_nil))) (by intro _; rfl))))) (fun _ _ _ _ _ => (v3 2)))) a_nil)) e_int (nomark _)))))
  b_nil)
  (b_cons (s_if (t_tr rfl (e_cB (isiK3 rfl) ck_isi (by rfl) T.z_isinstance (by decide +kernel) (a_cons (v3 1) (a_cons (e_ty (by rfl) T.z_int (by decide +kernel)) a_nil))) (by intro _; rfl))
  (b_one (s_ret (e_and (e_call rfl G_whole (hr.mono (by omega)) (by rfl) T.g_whole T.F_whole.kp T.b_whole (a_cons (v3 0) a_nil)) (e_one (e_cmp rfl (op_gEq hu64) (v3 0) (v3 1) (nomark _))))))
  b_nil)
  (b_cons (s_if (t_tr rfl (e_cB (isiK3 rfl) ck_isi (by rfl) T.z_isinstance (by decide +kernel) (a_cons (v3 1) (a_cons (e_ty (by rfl) T.z_str (by decide +kernel)) a_nil))) (by intro _; rfl))
  (b_one (s_ret (e_and (e_cB (isiK3 rfl) ck_isi (by rfl) T.z_isinstance (by decide +kernel) (a_cons (v3 0) (a_cons (e_ty (by rfl) T.z_str (by decide +kernel)) a_nil))) (e_one (e_cmp rfl (op_gEq hu64) (v3 0) (v3 1) (nomark _))))))
  b_nil)
  (b_one (s_ret (e_and (e_cmp rfl op_gIs (v3 1) e_non (nomark _)) (e_one (e_cmp rfl op_gIs (v3 0) e_non (nomark _))))))))))
theorem ok3_strewn (T : Tp K mg) : FnOk P w K mg base CX0 4 T.a_strewn T.d_strewn ["_law_hand_here", "_law_things"] (sp3 K f3_strewn) := by
  have G_shuffled := ok3_shuffled (P := P) (w := w) (base := base) T
  have G_take := ok3_take (P := P) (w := w) (base := base) T
  refine fn3 T.F_strewn sc_strewn rfl rfl fun cdv A outer s H E hr => ?_
  have hu64 := hr.units
  have hu1 := hr.units1
  have hu65 := hr.units65
  exact (b_cons (s_set (i := 2) sc_strewn.nd rfl (Or.inl rfl) (e_call rfl G_shuffled (hr.mono (by omega)) (by rfl) T.g_shuffled T.F_shuffled.kp T.b_shuffled (a_cons (v3 0) (a_cons (e_op (op_ad rfl) ok_add (e_nd (n_cT (cr_lst4 rfl rfl) nk_lst4 (by rfl) T.z_list (by decide +kernel) (a_cons (v3 1) a_nil))) (e_nd (n_cT (cr_lst4 rfl rfl) nk_lst4 (by rfl) T.z_list (by decide +kernel) (a_cons (e_sl rfl (v3 1) o_none (o_some (e_call rfl G_take (hr.mono (by omega)) (by rfl) T.g_take T.F_take.kp T.b_take (a_cons (v3 0) (a_cons e_int a_nil))))) a_nil)))) a_nil))))
  (b_cons (s_if (t_cmp rfl (op_gEq hu64) (e_call rfl G_take (hr.mono (by omega)) (by rfl) T.g_take T.F_take.kp T.b_take (a_cons (v3 0) (a_cons e_int a_nil))) e_int (nomark _))
  (b_one (s_ret (e_cT (tupK3 rfl) ck_tupOf (by rfl) T.z_tuple (by decide +kernel) (a_cons (v3 2) a_nil))))
  b_nil)
  (b_one (s_ret (v3 2)))))
theorem ok3_law (T : Tp K mg) : FnOkG P w K mg base 65 T.a_law T.d_law ["_law_script"] (sp3 K f3_law) := by
  have G_alike := ok3_alike (P := P) (w := w) (base := base) T 60
  have G_bits := ok3_bits (P := P) (w := w) (base := base) T
  have G_form := ok3_form (P := P) (w := w) (base := base) T 60
  have G_hand := ok3_hand (P := P) (w := w) (base := base) T
  have G_settings := ok3_settings (P := P) (w := w) (base := base) T
  have G_strewn := ok3_strewn (P := P) (w := w) (base := base) T
  have G_switch_names := ok3_switch_names (P := P) (w := w) (base := base) T
  have G_take := ok3_take (P := P) (w := w) (base := base) T
  have G_all_settings := ok3_all_settings (P := P) (w := w) (base := base) T
  have G_count_settings := ok3_count_settings (P := P) (w := w) (base := base) T
  have G_first_setting := ok3_first_setting (P := P) (w := w) (base := base) T
  have G_from_settings := ok3_from_settings (P := P) (w := w) (base := base) T
  refine fn3G T.F_law sc_law rfl rfl fun cdv A outer s H E hgd hr => ?_
  have hu64 := hr.units
  have hu1 := hr.units1
  have hu65 := hr.units65
  exact (b_cons (s_set (i := 1) sc_law.nd rfl (Or.inr rfl) (e_call rfl G_hand (hr.mono (by omega)) (by rfl) T.g_hand T.F_hand.kp T.b_hand (a_cons (v3 0) a_nil)))
  (b_cons (s_set (i := 2) sc_law.nd rfl (Or.inl rfl) (e_call rfl G_switch_names (hr.mono (by omega)) (by rfl) T.g_switch_names T.F_switch_names.kp T.b_switch_names (a_cons (v3 1) (a_cons (e_call rfl G_take (hr.mono (by omega)) (by rfl) T.g_take T.F_take.kp T.b_take (a_cons (v3 1) (a_cons e_int a_nil))) a_nil))))
  (b_cons (s_set (i := 3) sc_law.nd rfl (Or.inr rfl) (e_call rfl G_settings (hr.mono (by omega)) (by rfl) T.g_settings T.F_settings.kp T.b_settings (a_cons (v3 2) a_nil)))
  (b_cons (s_set (i := 4) sc_law.nd rfl (Or.inr rfl) (e_call rfl G_bits (hr.mono (by omega)) (by rfl) T.g_bits T.F_bits.kp T.b_bits (a_cons (v3 1) (a_cons (e_cB (lenK3 rfl) ck_len (by rfl) T.z_len (by decide +kernel) (a_cons (v3 3) a_nil)) a_nil))))
  (b_cons (s_set (i := 5) sc_law.nd rfl (Or.inl rfl) (e_call rfl G_form (hr.mono (by omega)) (by rfl) T.g_form T.F_form.kp T.b_form (a_cons (v3 2) (a_cons (v3 4) a_nil))))
  (b_cons (s_setLcG (i := 6) (own := [("_law_setting", 7)]) eNd (.inl rfl) sc_law.nd rfl rfl (sw_true rfl rfl rfl (by decide +kernel)) G_all_settings (hr.mono (by omega)) (by rfl) T.g_all_settings T.F_all_settings.kp T.b_all_settings (a_cons (e_call rfl G_strewn (hr.mono (by omega)) (by rfl) T.g_strewn T.F_strewn.kp T.b_strewn (a_cons (v3 1) (a_cons (v3 2) a_nil))) a_nil) (blkOk_by (own := [("_law_setting", 7)]) (N := ["_law_script", "_law_hand_here", "_law_names", "_law_settings_here", "_law_row", "_law_condition", "_law_told", "_law_setting", "_law_good", "_law_k", "_law_first", "_law_listed", "_law_kept", "_law_back", "_law_wider", "_law_spread", "_law_inner", "_law_switch"]) (sc := defScope s_law) (scope := { kind := PySem.ScopeKind.function, names := [(PySem.Str.ofString ".0", PySem.NameKind.local), (PySem.Str.ofString "_law_setting", PySem.NameKind.local)], isGenerator := false, isCoroutine := false, more := [] : PySem.Scope }) (by decide +kernel)) rfl)
  (b_cons (s_if (t_not (t_tr rfl (e_call rfl G_alike (hr.mono (by omega)) (by rfl) T.g_alike T.F_alike.kp T.b_alike (a_cons (e_cT (tupK3 rfl) ck_tupOf (by rfl) T.z_tuple (by decide +kernel) (a_cons (v3 6) a_nil)) (a_cons (e_cT (tupK3 rfl) ck_tupOf (by rfl) T.z_tuple (by decide +kernel) (a_cons (e_nd (n_lc (own := [("_law_setting", 7)]) (vs := [7]) rfl sc_law.nd (i_sq rfl (v3 3)) (blkOk_by (own := [("_law_setting", 7)]) (N := ["_law_script", "_law_hand_here", "_law_names", "_law_settings_here", "_law_row", "_law_condition", "_law_told", "_law_setting", "_law_good", "_law_k", "_law_first", "_law_listed", "_law_kept", "_law_back", "_law_wider", "_law_spread", "_law_inner", "_law_switch"]) (sc := defScope s_law) (scope := { kind := PySem.ScopeKind.function, names := [ (PySem.Str.ofString ".0", PySem.NameKind.local), (PySem.Str.ofString "_law_setting", PySem.NameKind.local), (PySem.Str.ofString "tuple", PySem.NameKind.globalImplicit)], isGenerator := false, isCoroutine := false, more := [] : PySem.Scope }) (by decide +kernel)) rfl (by decide) (fun _ _ _ _ _ => (g_name (i := 7) sc_law.nd rfl (Or.inl rfl) (Or.inr rfl))) (fun _ _ _ _ _ => t_nil) (fun _ _ _ _ _ => (e_cT (tupK3 rfl) ck_tupOf (by rfl) T.z_tuple (by decide +kernel) (a_cons (v3 7) a_nil))))) a_nil)) a_nil))) (by intro _; rfl)))
  (b_one (s_ret e_bl))
  b_nil)
  (b_cons (s_setLc (i := 8) (own := [("_law_k", 9)]) (vs := [9]) eNd (.inl rfl) rfl sc_law.nd rfl rfl (sw_true rfl rfl rfl (by decide +kernel)) (i_r1 (by rfl) T.z_range (a_cons (e_cB (lenK3 rfl) ck_len (by rfl) T.z_len (by decide +kernel) (a_cons (v3 3) a_nil)) a_nil)) (blkOk_by (own := [("_law_k", 9)]) (N := ["_law_script", "_law_hand_here", "_law_names", "_law_settings_here", "_law_row", "_law_condition", "_law_told", "_law_setting", "_law_good", "_law_k", "_law_first", "_law_listed", "_law_kept", "_law_back", "_law_wider", "_law_spread", "_law_inner", "_law_switch"]) (sc := defScope s_law) (scope := { kind := PySem.ScopeKind.function, names := [ (PySem.Str.ofString ".0", PySem.NameKind.local), (PySem.Str.ofString "_law_k", PySem.NameKind.local), (PySem.Str.ofString "_law_row", PySem.NameKind.free), (PySem.Str.ofString "_law_settings_here", PySem.NameKind.free)], isGenerator := false, isCoroutine := false, more := [] : PySem.Scope }) (by decide +kernel)) rfl (by decide) (fun _ _ _ _ _ => (g_name (i := 9) sc_law.nd rfl (Or.inl rfl) (Or.inr rfl))) (fun _ _ _ _ _ => (t_one (t_tr rfl (e_ix (ix_sq rfl) ok_ix (v3 4) (v3 9) (fun _ _ => rfl)) (by intro _; rfl)))) (fun _ _ _ _ _ => (e_ix (ix_sq rfl) ok_ix (v3 3) (v3 9) (fun _ _ => rfl))))
  (b_cons (s_if (t_not (t_tr rfl (e_call rfl G_alike (hr.mono (by omega)) (by rfl) T.g_alike T.F_alike.kp T.b_alike (a_cons (e_call rfl G_count_settings (hr.mono (by omega)) (by rfl) T.g_count_settings T.F_count_settings.kp T.b_count_settings (a_cons (v3 5) (a_cons (e_call rfl G_strewn (hr.mono (by omega)) (by rfl) T.g_strewn T.F_strewn.kp T.b_strewn (a_cons (v3 1) (a_cons (v3 2) a_nil))) a_nil))) (a_cons (e_cB (lenK3 rfl) ck_len (by rfl) T.z_len (by decide +kernel) (a_cons (v3 8) a_nil)) a_nil))) (by intro _; rfl)))
  (b_one (s_ret e_bl))
  b_nil)
  (b_cons (s_set (i := 10) sc_law.nd rfl (Or.inl rfl) (e_call rfl G_first_setting (hr.mono (by omega)) (by rfl) T.g_first_setting T.F_first_setting.kp T.b_first_setting (a_cons (v3 5) a_nil)))
  (b_cons (s_if (t_w (w_and (t_cmp rfl (op_gEq hu64) (e_cB (lenK3 rfl) ck_len (by rfl) T.z_len (by decide +kernel) (a_cons (v3 8) a_nil)) e_int (nomark _)) (w_and1 (t_cmp rfl op_gIsN (v3 10) e_non (nomark _)))))
  (b_one (s_ret e_bl))
  b_nil)
  (b_cons (s_if (t_w (w_and (t_cmp rfl (op_gGt hu64) (e_cB (lenK3 rfl) ck_len (by rfl) T.z_len (by decide +kernel) (a_cons (v3 8) a_nil)) e_int (nomark _)) (w_and1 (t_not (t_tr rfl (e_call rfl G_alike (hr.mono (by omega)) (by rfl) T.g_alike T.F_alike.kp T.b_alike (a_cons (v3 10) (a_cons (e_cT (tupK3 rfl) ck_tupOf (by rfl) T.z_tuple (by decide +kernel) (a_cons (e_ix (ix_sq rfl) ok_ix (v3 8) e_int (fun _ _ => rfl)) a_nil)) a_nil))) (by intro _; rfl))))))
  (b_one (s_ret e_bl))
  b_nil)
  (b_cons (s_setLc (i := 11) (own := [("_law_setting", 7)]) (vs := [7]) eNd (.inl rfl) rfl sc_law.nd rfl rfl (sw_true rfl rfl rfl (by decide +kernel)) (i_sq rfl (v3 8)) (blkOk_by (own := [("_law_setting", 7)]) (N := ["_law_script", "_law_hand_here", "_law_names", "_law_settings_here", "_law_row", "_law_condition", "_law_told", "_law_setting", "_law_good", "_law_k", "_law_first", "_law_listed", "_law_kept", "_law_back", "_law_wider", "_law_spread", "_law_inner", "_law_switch"]) (sc := defScope s_law) (scope := { kind := PySem.ScopeKind.function, names := [ (PySem.Str.ofString ".0", PySem.NameKind.local), (PySem.Str.ofString "_law_setting", PySem.NameKind.local), (PySem.Str.ofString "_law_strewn", PySem.NameKind.globalImplicit), (PySem.Str.ofString "_law_hand_here", PySem.NameKind.free)], isGenerator := false, isCoroutine := false, more := [] : PySem.Scope }) (by decide +kernel)) rfl (by decide) (fun _ _ _ _ _ => (g_name (i := 7) sc_law.nd rfl (Or.inl rfl) (Or.inr rfl))) (fun _ _ _ _ _ => t_nil) (fun _ _ _ _ _ => (e_call rfl G_strewn (hr.mono (by omega)) (by rfl) T.g_strewn T.F_strewn.kp T.b_strewn (a_cons (v3 1) (a_cons (v3 7) a_nil)))))
  (b_cons (s_set (i := 12) sc_law.nd rfl (Or.inl rfl) (e_cB (cr_repr rfl hgd hu64) ck_repr (by rfl) T.z_repr (by decide +kernel) (a_cons (v3 11) a_nil)))
  (b_cons (s_set (i := 13) sc_law.nd rfl (Or.inl rfl) (e_call rfl G_from_settings (hr.mono (by omega)) (by rfl) T.g_from_settings T.F_from_settings.kp T.b_from_settings (a_cons (e_call rfl G_strewn (hr.mono (by omega)) (by rfl) T.g_strewn T.F_strewn.kp T.b_strewn (a_cons (v3 1) (a_cons (v3 11) a_nil))) (a_cons (e_call rfl G_strewn (hr.mono (by omega)) (by rfl) T.g_strewn T.F_strewn.kp T.b_strewn (a_cons (v3 1) (a_cons (v3 2) a_nil))) a_nil))))
  (b_cons (s_if (t_w (w_or (t_cmp rfl (op_gNe hu64) (e_cB (cr_repr rfl hgd hu64) ck_repr (by rfl) T.z_repr (by decide +kernel) (a_cons (v3 11) a_nil)) (v3 12) (nomark _)) (w_or1 (t_not (t_tr rfl (e_call rfl G_alike (hr.mono (by omega)) (by rfl) T.g_alike T.F_alike.kp T.b_alike (a_cons (v3 13) (a_cons (v3 5) a_nil))) (by intro _; rfl))))))
  (b_one (s_ret e_bl))
  b_nil)
  (b_cons (s_set (i := 14) sc_law.nd rfl (Or.inl rfl) (e_nd (n_cB (sortK3 rfl hu64) nk_sorted (by rfl) T.z_sorted (by decide +kernel) (a_cons (e_op (op_ad rfl) ok_add (v3 2) (e_nd (n_lst (a_cons e_str a_nil)))) a_nil))))
  (b_cons (s_if (t_not (t_tr rfl (e_call rfl G_alike (hr.mono (by omega)) (by rfl) T.g_alike T.F_alike.kp T.b_alike (a_cons (e_call rfl G_count_settings (hr.mono (by omega)) (by rfl) T.g_count_settings T.F_count_settings.kp T.b_count_settings (a_cons (v3 5) (a_cons (e_call rfl G_strewn (hr.mono (by omega)) (by rfl) T.g_strewn T.F_strewn.kp T.b_strewn (a_cons (v3 1) (a_cons (v3 14) a_nil))) a_nil))) (a_cons (e_op op_mul3 ok_mul e_int (e_cB (lenK3 rfl) ck_len (by rfl) T.z_len (by decide +kernel) (a_cons (v3 8) a_nil))) a_nil))) (by intro _; rfl)))
  (b_one (s_ret e_bl))
  b_nil)
  (b_cons (s_set (i := 15) sc_law.nd rfl (Or.inl rfl) (e_no (n_lst a_nil)))
  (b_cons (s_for PassesOwn.never rfl (i_sq rfl (e_call rfl G_settings (hr.mono (by omega)) (by rfl) T.g_settings T.F_settings.kp T.b_settings (a_cons (v3 14) a_nil))) (g_name (i := 7) sc_law.nd rfl (Or.inl rfl))
  (b_cons (s_setLc (i := 16) (own := [("_law_switch", 17)]) (vs := [17]) eNd (.inl rfl) rfl sc_law.nd rfl rfl (sw_true rfl rfl rfl (by decide +kernel)) (i_sq rfl (v3 7)) (blkOk_by (own := [("_law_switch", 17)]) (N := ["_law_script", "_law_hand_here", "_law_names", "_law_settings_here", "_law_row", "_law_condition", "_law_told", "_law_setting", "_law_good", "_law_k", "_law_first", "_law_listed", "_law_kept", "_law_back", "_law_wider", "_law_spread", "_law_inner", "_law_switch"]) (sc := defScope s_law) (scope := { kind := PySem.ScopeKind.function, names := [(PySem.Str.ofString ".0", PySem.NameKind.local), (PySem.Str.ofString "_law_switch", PySem.NameKind.local)], isGenerator := false, isCoroutine := false, more := [] : PySem.Scope }) (by decide +kernel)) rfl (by decide) (fun _ _ _ _ _ => (g_name (i := 17) sc_law.nd rfl (Or.inl rfl) (Or.inr rfl))) (fun _ _ _ _ _ => (t_one (t_cmp rfl (op_gNe hu64) (v3 17) e_str (nomark _)))) (fun _ _ _ _ _ => (v3 17)))
  (b_one (s_expr (e_m rfl PySem.F.slot_list_append PySem.F.type_list_append mt_append mk_app (v3 15) (a_cons (e_and (e_cmp rfl (op_gNin hu64) e_str (v3 7) (by rfl)) (e_one (e_cmp rfl (op_gIn hu64) (v3 16) (v3 8) (by rfl)))) a_nil))))))
  (b_one (s_ret (e_call rfl G_alike (hr.mono (by omega)) (by rfl) T.g_alike T.F_alike.kp T.b_alike (a_cons (e_call rfl G_from_settings (hr.mono (by omega)) (by rfl) T.g_from_settings T.F_from_settings.kp T.b_from_settings (a_cons (v3 11) (a_cons (e_call rfl G_strewn (hr.mono (by omega)) (by rfl) T.g_strewn T.F_strewn.kp T.b_strewn (a_cons (v3 1) (a_cons (v3 14) a_nil))) a_nil))) (a_cons (e_call rfl G_form (hr.mono (by omega)) (by rfl) T.g_form T.F_form.kp T.b_form (a_cons (v3 14) (a_cons (v3 15) a_nil))) a_nil)))))))))))))))))))))))))
theorem ok_law (T : Tp K mg) (h : ∀ ns : List Int, ns.length ≤ 63 → ∃ S, f3_law [.sc ns] [] = some (.d (.bool true), S)) : FnOkG P w K mg base 65 T.a_law T.d_law ["_law_script"] (spLaw3 K) := law3G (ok3_law T) h
end
section
theorem tp_mk {K : PySem.W.Frag} {h : Heap} {mg : Str → Option Value} {fa : Addr} (X : K.In h) (G : h.Ns mainGlobals mg) (hfa : mg "law" = some (.ref fa))
    {f0 : Addr} {od0 an0 : Option Addr} {sl0 : Array (Option Value)} {oc0 kV0 dc0 pm0 cd0 ct0 : Value}
    (a0 : PySem.W.nsIn K mainGlobals "formed" = some (some (.ref f0))) (l0 : K.lookup f0 = some ⟨oc0, od0, .func (PySem.W.fnOf "formed" "formed" (defArgs s_formed) (defBody s_formed) (defScope s_formed) .none kV0 dc0 pm0 an0 cd0 ct0), sl0⟩) (c0 : PySem.W.codeIn K cd0 "formed" = true) (k0 : PySem.W.keepIn K (.ref f0) = true)
    {f1 : Addr} {od1 an1 : Option Addr} {sl1 : Array (Option Value)} {oc1 kV1 dc1 pm1 cd1 ct1 : Value}
    (a1 : PySem.W.nsIn K mainGlobals "side_of" = some (some (.ref f1))) (l1 : K.lookup f1 = some ⟨oc1, od1, .func (PySem.W.fnOf "side_of" "side_of" (defArgs s_side_of) (defBody s_side_of) (defScope s_side_of) .none kV1 dc1 pm1 an1 cd1 ct1), sl1⟩) (c1 : PySem.W.codeIn K cd1 "side_of" = true) (k1 : PySem.W.keepIn K (.ref f1) = true)
    {f2 : Addr} {od2 an2 : Option Addr} {sl2 : Array (Option Value)} {oc2 kV2 dc2 pm2 cd2 ct2 : Value}
    (a2 : PySem.W.nsIn K mainGlobals "counted" = some (some (.ref f2))) (l2 : K.lookup f2 = some ⟨oc2, od2, .func (PySem.W.fnOf "counted" "counted" (defArgs s_counted) (defBody s_counted) (defScope s_counted) .none kV2 dc2 pm2 an2 cd2 ct2), sl2⟩) (c2 : PySem.W.codeIn K cd2 "counted" = true) (k2 : PySem.W.keepIn K (.ref f2) = true)
    {f3 : Addr} {od3 an3 : Option Addr} {sl3 : Array (Option Value)} {oc3 kV3 dc3 pm3 cd3 ct3 : Value}
    (a3 : PySem.W.nsIn K mainGlobals "count_settings" = some (some (.ref f3))) (l3 : K.lookup f3 = some ⟨oc3, od3, .func (PySem.W.fnOf "count_settings" "count_settings" (defArgs s_count_settings) (defBody s_count_settings) (defScope s_count_settings) .none kV3 dc3 pm3 an3 cd3 ct3), sl3⟩) (c3 : PySem.W.codeIn K cd3 "count_settings" = true) (k3 : PySem.W.keepIn K (.ref f3) = true)
    {f4 : Addr} {od4 an4 : Option Addr} {sl4 : Array (Option Value)} {oc4 kV4 dc4 pm4 cd4 ct4 : Value}
    (a4 : PySem.W.nsIn K mainGlobals "first_setting" = some (some (.ref f4))) (l4 : K.lookup f4 = some ⟨oc4, od4, .func (PySem.W.fnOf "first_setting" "first_setting" (defArgs s_first_setting) (defBody s_first_setting) (defScope s_first_setting) .none kV4 dc4 pm4 an4 cd4 ct4), sl4⟩) (c4 : PySem.W.codeIn K cd4 "first_setting" = true) (k4 : PySem.W.keepIn K (.ref f4) = true)
    {f5 : Addr} {od5 an5 : Option Addr} {sl5 : Array (Option Value)} {oc5 kV5 dc5 pm5 cd5 ct5 : Value}
    (a5 : PySem.W.nsIn K mainGlobals "all_settings" = some (some (.ref f5))) (l5 : K.lookup f5 = some ⟨oc5, od5, .func (PySem.W.fnOf "all_settings" "all_settings" (defArgs s_all_settings) (defBody s_all_settings) (defScope s_all_settings) .none kV5 dc5 pm5 an5 cd5 ct5), sl5⟩) (c5 : PySem.W.codeIn K cd5 "all_settings" = true) (k5 : PySem.W.keepIn K (.ref f5) = true)
    {f6 : Addr} {od6 an6 : Option Addr} {sl6 : Array (Option Value)} {oc6 kV6 dc6 pm6 cd6 ct6 : Value}
    (a6 : PySem.W.nsIn K mainGlobals "grown" = some (some (.ref f6))) (l6 : K.lookup f6 = some ⟨oc6, od6, .func (PySem.W.fnOf "grown" "grown" (defArgs s_grown) (defBody s_grown) (defScope s_grown) .none kV6 dc6 pm6 an6 cd6 ct6), sl6⟩) (c6 : PySem.W.codeIn K cd6 "grown" = true) (k6 : PySem.W.keepIn K (.ref f6) = true)
    {f7 : Addr} {od7 an7 : Option Addr} {sl7 : Array (Option Value)} {oc7 kV7 dc7 pm7 cd7 ct7 : Value}
    (a7 : PySem.W.nsIn K mainGlobals "from_settings" = some (some (.ref f7))) (l7 : K.lookup f7 = some ⟨oc7, od7, .func (PySem.W.fnOf "from_settings" "from_settings" (defArgs s_from_settings) (defBody s_from_settings) (defScope s_from_settings) .none kV7 dc7 pm7 an7 cd7 ct7), sl7⟩) (c7 : PySem.W.codeIn K cd7 "from_settings" = true) (k7 : PySem.W.keepIn K (.ref f7) = true)
    {f8 : Addr} {od8 an8 : Option Addr} {sl8 : Array (Option Value)} {oc8 kV8 dc8 pm8 cd8 ct8 : Value}
    (a8 : PySem.W.nsIn K mainGlobals "_law_stirred" = some (some (.ref f8))) (l8 : K.lookup f8 = some ⟨oc8, od8, .func (PySem.W.fnOf "_law_stirred" "_law_stirred" (defArgs s_stirred) (defBody s_stirred) (defScope s_stirred) .none kV8 dc8 pm8 an8 cd8 ct8), sl8⟩) (c8 : PySem.W.codeIn K cd8 "_law_stirred" = true) (k8 : PySem.W.keepIn K (.ref f8) = true)
    {f9 : Addr} {od9 an9 : Option Addr} {sl9 : Array (Option Value)} {oc9 kV9 dc9 pm9 cd9 ct9 : Value}
    (a9 : PySem.W.nsIn K mainGlobals "_law_take" = some (some (.ref f9))) (l9 : K.lookup f9 = some ⟨oc9, od9, .func (PySem.W.fnOf "_law_take" "_law_take" (defArgs s_take) (defBody s_take) (defScope s_take) .none kV9 dc9 pm9 an9 cd9 ct9), sl9⟩) (c9 : PySem.W.codeIn K cd9 "_law_take" = true) (k9 : PySem.W.keepIn K (.ref f9) = true)
    {f10 : Addr} {od10 an10 : Option Addr} {sl10 : Array (Option Value)} {oc10 kV10 dc10 pm10 cd10 ct10 : Value}
    (a10 : PySem.W.nsIn K mainGlobals "_law_shuffled" = some (some (.ref f10))) (l10 : K.lookup f10 = some ⟨oc10, od10, .func (PySem.W.fnOf "_law_shuffled" "_law_shuffled" (defArgs s_shuffled) (defBody s_shuffled) (defScope s_shuffled) .none kV10 dc10 pm10 an10 cd10 ct10), sl10⟩) (c10 : PySem.W.codeIn K cd10 "_law_shuffled" = true) (k10 : PySem.W.keepIn K (.ref f10) = true)
    {f11 : Addr} {od11 an11 : Option Addr} {sl11 : Array (Option Value)} {oc11 kV11 dc11 pm11 cd11 ct11 : Value}
    (a11 : PySem.W.nsIn K mainGlobals "_law_hand" = some (some (.ref f11))) (l11 : K.lookup f11 = some ⟨oc11, od11, .func (PySem.W.fnOf "_law_hand" "_law_hand" (defArgs s_hand) (defBody s_hand) (defScope s_hand) .none kV11 dc11 pm11 an11 cd11 ct11), sl11⟩) (c11 : PySem.W.codeIn K cd11 "_law_hand" = true) (k11 : PySem.W.keepIn K (.ref f11) = true)
    {f12 : Addr} {od12 an12 : Option Addr} {sl12 : Array (Option Value)} {oc12 kV12 dc12 pm12 cd12 ct12 : Value}
    (a12 : PySem.W.nsIn K mainGlobals "_law_switch_names" = some (some (.ref f12))) (l12 : K.lookup f12 = some ⟨oc12, od12, .func (PySem.W.fnOf "_law_switch_names" "_law_switch_names" (defArgs s_switch_names) (defBody s_switch_names) (defScope s_switch_names) .none kV12 dc12 pm12 an12 cd12 ct12), sl12⟩) (c12 : PySem.W.codeIn K cd12 "_law_switch_names" = true) (k12 : PySem.W.keepIn K (.ref f12) = true)
    {f13 : Addr} {od13 an13 : Option Addr} {sl13 : Array (Option Value)} {oc13 kV13 dc13 pm13 cd13 ct13 : Value}
    (a13 : PySem.W.nsIn K mainGlobals "_law_settings" = some (some (.ref f13))) (l13 : K.lookup f13 = some ⟨oc13, od13, .func (PySem.W.fnOf "_law_settings" "_law_settings" (defArgs s_settings) (defBody s_settings) (defScope s_settings) .none kV13 dc13 pm13 an13 cd13 ct13), sl13⟩) (c13 : PySem.W.codeIn K cd13 "_law_settings" = true) (k13 : PySem.W.keepIn K (.ref f13) = true)
    {f14 : Addr} {od14 an14 : Option Addr} {sl14 : Array (Option Value)} {oc14 kV14 dc14 pm14 cd14 ct14 : Value}
    (a14 : PySem.W.nsIn K mainGlobals "_law_bits" = some (some (.ref f14))) (l14 : K.lookup f14 = some ⟨oc14, od14, .func (PySem.W.fnOf "_law_bits" "_law_bits" (defArgs s_bits) (defBody s_bits) (defScope s_bits) .none kV14 dc14 pm14 an14 cd14 ct14), sl14⟩) (c14 : PySem.W.codeIn K cd14 "_law_bits" = true) (k14 : PySem.W.keepIn K (.ref f14) = true)
    {f15 : Addr} {od15 an15 : Option Addr} {sl15 : Array (Option Value)} {oc15 kV15 dc15 pm15 cd15 ct15 : Value}
    (a15 : PySem.W.nsIn K mainGlobals "_law_form" = some (some (.ref f15))) (l15 : K.lookup f15 = some ⟨oc15, od15, .func (PySem.W.fnOf "_law_form" "_law_form" (defArgs s_form) (defBody s_form) (defScope s_form) .none kV15 dc15 pm15 an15 cd15 ct15), sl15⟩) (c15 : PySem.W.codeIn K cd15 "_law_form" = true) (k15 : PySem.W.keepIn K (.ref f15) = true)
    {f16 : Addr} {od16 an16 : Option Addr} {sl16 : Array (Option Value)} {oc16 kV16 dc16 pm16 cd16 ct16 : Value}
    (a16 : PySem.W.nsIn K mainGlobals "_law_whole" = some (some (.ref f16))) (l16 : K.lookup f16 = some ⟨oc16, od16, .func (PySem.W.fnOf "_law_whole" "_law_whole" (defArgs s_whole) (defBody s_whole) (defScope s_whole) .none kV16 dc16 pm16 an16 cd16 ct16), sl16⟩) (c16 : PySem.W.codeIn K cd16 "_law_whole" = true) (k16 : PySem.W.keepIn K (.ref f16) = true)
    {f17 : Addr} {od17 an17 : Option Addr} {sl17 : Array (Option Value)} {oc17 kV17 dc17 pm17 cd17 ct17 : Value}
    (a17 : PySem.W.nsIn K mainGlobals "_law_alike" = some (some (.ref f17))) (l17 : K.lookup f17 = some ⟨oc17, od17, .func (PySem.W.fnOf "_law_alike" "_law_alike" (defArgs s_alike) (defBody s_alike) (defScope s_alike) .none kV17 dc17 pm17 an17 cd17 ct17), sl17⟩) (c17 : PySem.W.codeIn K cd17 "_law_alike" = true) (k17 : PySem.W.keepIn K (.ref f17) = true)
    {f18 : Addr} {od18 an18 : Option Addr} {sl18 : Array (Option Value)} {oc18 kV18 dc18 pm18 cd18 ct18 : Value}
    (a18 : PySem.W.nsIn K mainGlobals "_law_strewn" = some (some (.ref f18))) (l18 : K.lookup f18 = some ⟨oc18, od18, .func (PySem.W.fnOf "_law_strewn" "_law_strewn" (defArgs s_strewn) (defBody s_strewn) (defScope s_strewn) .none kV18 dc18 pm18 an18 cd18 ct18), sl18⟩) (c18 : PySem.W.codeIn K cd18 "_law_strewn" = true) (k18 : PySem.W.keepIn K (.ref f18) = true)
    {f19 : Addr} {od19 an19 : Option Addr} {sl19 : Array (Option Value)} {oc19 kV19 dc19 pm19 cd19 ct19 : Value}
    (a19 : PySem.W.nsIn K mainGlobals "law" = some (some (.ref f19))) (l19 : K.lookup f19 = some ⟨oc19, od19, .func (PySem.W.fnOf "law" "law" (defArgs s_law) (defBody s_law) (defScope s_law) .none kV19 dc19 pm19 an19 cd19 ct19), sl19⟩) (c19 : PySem.W.codeIn K cd19 "law" = true) (k19 : PySem.W.keepIn K (.ref f19) = true)
    (z_abs : PySem.W.nsIn K mainGlobals "abs" = some none)
    (z_bool : PySem.W.nsIn K mainGlobals "bool" = some none)
    (z_int : PySem.W.nsIn K mainGlobals "int" = some none)
    (z_isinstance : PySem.W.nsIn K mainGlobals "isinstance" = some none)
    (z_len : PySem.W.nsIn K mainGlobals "len" = some none)
    (z_list : PySem.W.nsIn K mainGlobals "list" = some none)
    (z_range : PySem.W.nsIn K mainGlobals "range" = some none)
    (z_repr : PySem.W.nsIn K mainGlobals "repr" = some none)
    (z_reversed : PySem.W.nsIn K mainGlobals "reversed" = some none)
    (z_set : PySem.W.nsIn K mainGlobals "set" = some none)
    (z_sorted : PySem.W.nsIn K mainGlobals "sorted" = some none)
    (z_str : PySem.W.nsIn K mainGlobals "str" = some none)
    (z_tuple : PySem.W.nsIn K mainGlobals "tuple" = some none)
    : ∃ T : Tp K mg, T.a_law = fa ∧ ∀ (s : Shared) (v : Value), BindsTo s T.d_law ⟨[v], []⟩ [("_law_script", v)] := by
  have e := hfa.symm.trans (PySem.W.mg_of X G a19)
  cases e
  have F0 := fun_mk (st := s_formed) l0 c0 k0
  have b0 := F0.binds (ps := ["switch", "on", "off"]) fun _ _ _ _ _ _ us hl => match us, hl with | [_, _, _], _ => rfl
  have F1 := fun_mk (st := s_side_of) l1 c1 k1
  have b1 := F1.binds (ps := ["condition", "switch", "on"]) fun _ _ _ _ _ _ us hl => match us, hl with | [_, _, _], _ => rfl
  have F2 := fun_mk (st := s_counted) l2 c2 k2
  have b2 := F2.binds (ps := ["condition", "ordered", "at"]) fun _ _ _ _ _ _ us hl => match us, hl with | [_, _, _], _ => rfl
  have F3 := fun_mk (st := s_count_settings) l3 c3 k3
  have b3 := F3.binds (ps := ["condition", "switches"]) fun _ _ _ _ _ _ us hl => match us, hl with | [_, _], _ => rfl
  have F4 := fun_mk (st := s_first_setting) l4 c4 k4
  have b4 := F4.binds (ps := ["condition"]) fun _ _ _ _ _ _ us hl => match us, hl with | [_], _ => rfl
  have F5 := fun_mk (st := s_all_settings) l5 c5 k5
  have b5 := F5.binds (ps := ["switches"]) fun _ _ _ _ _ _ us hl => match us, hl with | [_], _ => rfl
  have F6 := fun_mk (st := s_grown) l6 c6 k6
  have b6 := F6.binds (ps := ["settings", "ordered", "at"]) fun _ _ _ _ _ _ us hl => match us, hl with | [_, _, _], _ => rfl
  have F7 := fun_mk (st := s_from_settings) l7 c7 k7
  have b7 := F7.binds (ps := ["settings", "switches"]) fun _ _ _ _ _ _ us hl => match us, hl with | [_, _], _ => rfl
  have F8 := fun_mk (st := s_stirred) l8 c8 k8
  have b8 := F8.binds (ps := ["_law_number", "_law_turn"]) fun _ _ _ _ _ _ us hl => match us, hl with | [_, _], _ => rfl
  have F9 := fun_mk (st := s_take) l9 c9 k9
  have b9 := F9.binds (ps := ["_law_hand_here", "_law_many"]) fun _ _ _ _ _ _ us hl => match us, hl with | [_, _], _ => rfl
  have F10 := fun_mk (st := s_shuffled) l10 c10 k10
  have b10 := F10.binds (ps := ["_law_hand_here", "_law_things"]) fun _ _ _ _ _ _ us hl => match us, hl with | [_, _], _ => rfl
  have F11 := fun_mk (st := s_hand) l11 c11 k11
  have b11 := F11.binds (ps := ["_law_script"]) fun _ _ _ _ _ _ us hl => match us, hl with | [_], _ => rfl
  have F12 := fun_mk (st := s_switch_names) l12 c12 k12
  have b12 := F12.binds (ps := ["_law_hand_here", "_law_many"]) fun _ _ _ _ _ _ us hl => match us, hl with | [_, _], _ => rfl
  have F13 := fun_mk (st := s_settings) l13 c13 k13
  have b13 := F13.binds (ps := ["_law_names"]) fun _ _ _ _ _ _ us hl => match us, hl with | [_], _ => rfl
  have F14 := fun_mk (st := s_bits) l14 c14 k14
  have b14 := F14.binds (ps := ["_law_hand_here", "_law_many"]) fun _ _ _ _ _ _ us hl => match us, hl with | [_, _], _ => rfl
  have F15 := fun_mk (st := s_form) l15 c15 k15
  have b15 := F15.binds (ps := ["_law_names", "_law_bits_here"]) fun _ _ _ _ _ _ us hl => match us, hl with | [_, _], _ => rfl
  have F16 := fun_mk (st := s_whole) l16 c16 k16
  have b16 := F16.binds (ps := ["_law_thing"]) fun _ _ _ _ _ _ us hl => match us, hl with | [_], _ => rfl
  have F17 := fun_mk (st := s_alike) l17 c17 k17
  have b17 := F17.binds (ps := ["_law_told", "_law_due"]) fun _ _ _ _ _ _ us hl => match us, hl with | [_, _], _ => rfl
  have F18 := fun_mk (st := s_strewn) l18 c18 k18
  have b18 := F18.binds (ps := ["_law_hand_here", "_law_things"]) fun _ _ _ _ _ _ us hl => match us, hl with | [_, _], _ => rfl
  have F19 := fun_mk (st := s_law) l19 c19 k19
  have b19 := F19.binds (ps := ["_law_script"]) fun _ _ _ _ _ _ us hl => match us, hl with | [_], _ => rfl
  exact ⟨⟨_, _, F0, PySem.W.mg_of X G a0, b0,
    _, _, F1, PySem.W.mg_of X G a1, b1,
    _, _, F2, PySem.W.mg_of X G a2, b2,
    _, _, F3, PySem.W.mg_of X G a3, b3,
    _, _, F4, PySem.W.mg_of X G a4, b4,
    _, _, F5, PySem.W.mg_of X G a5, b5,
    _, _, F6, PySem.W.mg_of X G a6, b6,
    _, _, F7, PySem.W.mg_of X G a7, b7,
    _, _, F8, PySem.W.mg_of X G a8, b8,
    _, _, F9, PySem.W.mg_of X G a9, b9,
    _, _, F10, PySem.W.mg_of X G a10, b10,
    _, _, F11, PySem.W.mg_of X G a11, b11,
    _, _, F12, PySem.W.mg_of X G a12, b12,
    _, _, F13, PySem.W.mg_of X G a13, b13,
    _, _, F14, PySem.W.mg_of X G a14, b14,
    _, _, F15, PySem.W.mg_of X G a15, b15,
    _, _, F16, PySem.W.mg_of X G a16, b16,
    _, _, F17, PySem.W.mg_of X G a17, b17,
    _, _, F18, PySem.W.mg_of X G a18, b18,
    _, _, F19, PySem.W.mg_of X G a19, b19,
    PySem.W.mg_none_of X G z_abs,
    PySem.W.mg_none_of X G z_bool,
    PySem.W.mg_none_of X G z_int,
    PySem.W.mg_none_of X G z_isinstance,
    PySem.W.mg_none_of X G z_len,
    PySem.W.mg_none_of X G z_list,
    PySem.W.mg_none_of X G z_range,
    PySem.W.mg_none_of X G z_repr,
    PySem.W.mg_none_of X G z_reversed,
    PySem.W.mg_none_of X G z_set,
    PySem.W.mg_none_of X G z_sorted,
    PySem.W.mg_none_of X G z_str,
    PySem.W.mg_none_of X G z_tuple⟩, rfl, fun s v => .of_eq rfl⟩
theorem all_mk {P : Program} {w : World} {K : PySem.W.Frag} {h : Heap} {mg : Str → Option Value} {fa : Addr} (X : K.In h) (G : h.Ns mainGlobals mg) (hfa : mg "law" = some (.ref fa))
    {f0 : Addr} {od0 an0 : Option Addr} {sl0 : Array (Option Value)} {oc0 kV0 dc0 pm0 cd0 ct0 : Value}
    (a0 : PySem.W.nsIn K mainGlobals "formed" = some (some (.ref f0))) (l0 : K.lookup f0 = some ⟨oc0, od0, .func (PySem.W.fnOf "formed" "formed" (defArgs s_formed) (defBody s_formed) (defScope s_formed) .none kV0 dc0 pm0 an0 cd0 ct0), sl0⟩) (c0 : PySem.W.codeIn K cd0 "formed" = true) (k0 : PySem.W.keepIn K (.ref f0) = true)
    {f1 : Addr} {od1 an1 : Option Addr} {sl1 : Array (Option Value)} {oc1 kV1 dc1 pm1 cd1 ct1 : Value}
    (a1 : PySem.W.nsIn K mainGlobals "side_of" = some (some (.ref f1))) (l1 : K.lookup f1 = some ⟨oc1, od1, .func (PySem.W.fnOf "side_of" "side_of" (defArgs s_side_of) (defBody s_side_of) (defScope s_side_of) .none kV1 dc1 pm1 an1 cd1 ct1), sl1⟩) (c1 : PySem.W.codeIn K cd1 "side_of" = true) (k1 : PySem.W.keepIn K (.ref f1) = true)
    {f2 : Addr} {od2 an2 : Option Addr} {sl2 : Array (Option Value)} {oc2 kV2 dc2 pm2 cd2 ct2 : Value}
    (a2 : PySem.W.nsIn K mainGlobals "counted" = some (some (.ref f2))) (l2 : K.lookup f2 = some ⟨oc2, od2, .func (PySem.W.fnOf "counted" "counted" (defArgs s_counted) (defBody s_counted) (defScope s_counted) .none kV2 dc2 pm2 an2 cd2 ct2), sl2⟩) (c2 : PySem.W.codeIn K cd2 "counted" = true) (k2 : PySem.W.keepIn K (.ref f2) = true)
    {f3 : Addr} {od3 an3 : Option Addr} {sl3 : Array (Option Value)} {oc3 kV3 dc3 pm3 cd3 ct3 : Value}
    (a3 : PySem.W.nsIn K mainGlobals "count_settings" = some (some (.ref f3))) (l3 : K.lookup f3 = some ⟨oc3, od3, .func (PySem.W.fnOf "count_settings" "count_settings" (defArgs s_count_settings) (defBody s_count_settings) (defScope s_count_settings) .none kV3 dc3 pm3 an3 cd3 ct3), sl3⟩) (c3 : PySem.W.codeIn K cd3 "count_settings" = true) (k3 : PySem.W.keepIn K (.ref f3) = true)
    {f4 : Addr} {od4 an4 : Option Addr} {sl4 : Array (Option Value)} {oc4 kV4 dc4 pm4 cd4 ct4 : Value}
    (a4 : PySem.W.nsIn K mainGlobals "first_setting" = some (some (.ref f4))) (l4 : K.lookup f4 = some ⟨oc4, od4, .func (PySem.W.fnOf "first_setting" "first_setting" (defArgs s_first_setting) (defBody s_first_setting) (defScope s_first_setting) .none kV4 dc4 pm4 an4 cd4 ct4), sl4⟩) (c4 : PySem.W.codeIn K cd4 "first_setting" = true) (k4 : PySem.W.keepIn K (.ref f4) = true)
    {f5 : Addr} {od5 an5 : Option Addr} {sl5 : Array (Option Value)} {oc5 kV5 dc5 pm5 cd5 ct5 : Value}
    (a5 : PySem.W.nsIn K mainGlobals "all_settings" = some (some (.ref f5))) (l5 : K.lookup f5 = some ⟨oc5, od5, .func (PySem.W.fnOf "all_settings" "all_settings" (defArgs s_all_settings) (defBody s_all_settings) (defScope s_all_settings) .none kV5 dc5 pm5 an5 cd5 ct5), sl5⟩) (c5 : PySem.W.codeIn K cd5 "all_settings" = true) (k5 : PySem.W.keepIn K (.ref f5) = true)
    {f6 : Addr} {od6 an6 : Option Addr} {sl6 : Array (Option Value)} {oc6 kV6 dc6 pm6 cd6 ct6 : Value}
    (a6 : PySem.W.nsIn K mainGlobals "grown" = some (some (.ref f6))) (l6 : K.lookup f6 = some ⟨oc6, od6, .func (PySem.W.fnOf "grown" "grown" (defArgs s_grown) (defBody s_grown) (defScope s_grown) .none kV6 dc6 pm6 an6 cd6 ct6), sl6⟩) (c6 : PySem.W.codeIn K cd6 "grown" = true) (k6 : PySem.W.keepIn K (.ref f6) = true)
    {f7 : Addr} {od7 an7 : Option Addr} {sl7 : Array (Option Value)} {oc7 kV7 dc7 pm7 cd7 ct7 : Value}
    (a7 : PySem.W.nsIn K mainGlobals "from_settings" = some (some (.ref f7))) (l7 : K.lookup f7 = some ⟨oc7, od7, .func (PySem.W.fnOf "from_settings" "from_settings" (defArgs s_from_settings) (defBody s_from_settings) (defScope s_from_settings) .none kV7 dc7 pm7 an7 cd7 ct7), sl7⟩) (c7 : PySem.W.codeIn K cd7 "from_settings" = true) (k7 : PySem.W.keepIn K (.ref f7) = true)
    {f8 : Addr} {od8 an8 : Option Addr} {sl8 : Array (Option Value)} {oc8 kV8 dc8 pm8 cd8 ct8 : Value}
    (a8 : PySem.W.nsIn K mainGlobals "_law_stirred" = some (some (.ref f8))) (l8 : K.lookup f8 = some ⟨oc8, od8, .func (PySem.W.fnOf "_law_stirred" "_law_stirred" (defArgs s_stirred) (defBody s_stirred) (defScope s_stirred) .none kV8 dc8 pm8 an8 cd8 ct8), sl8⟩) (c8 : PySem.W.codeIn K cd8 "_law_stirred" = true) (k8 : PySem.W.keepIn K (.ref f8) = true)
    {f9 : Addr} {od9 an9 : Option Addr} {sl9 : Array (Option Value)} {oc9 kV9 dc9 pm9 cd9 ct9 : Value}
    (a9 : PySem.W.nsIn K mainGlobals "_law_take" = some (some (.ref f9))) (l9 : K.lookup f9 = some ⟨oc9, od9, .func (PySem.W.fnOf "_law_take" "_law_take" (defArgs s_take) (defBody s_take) (defScope s_take) .none kV9 dc9 pm9 an9 cd9 ct9), sl9⟩) (c9 : PySem.W.codeIn K cd9 "_law_take" = true) (k9 : PySem.W.keepIn K (.ref f9) = true)
    {f10 : Addr} {od10 an10 : Option Addr} {sl10 : Array (Option Value)} {oc10 kV10 dc10 pm10 cd10 ct10 : Value}
    (a10 : PySem.W.nsIn K mainGlobals "_law_shuffled" = some (some (.ref f10))) (l10 : K.lookup f10 = some ⟨oc10, od10, .func (PySem.W.fnOf "_law_shuffled" "_law_shuffled" (defArgs s_shuffled) (defBody s_shuffled) (defScope s_shuffled) .none kV10 dc10 pm10 an10 cd10 ct10), sl10⟩) (c10 : PySem.W.codeIn K cd10 "_law_shuffled" = true) (k10 : PySem.W.keepIn K (.ref f10) = true)
    {f11 : Addr} {od11 an11 : Option Addr} {sl11 : Array (Option Value)} {oc11 kV11 dc11 pm11 cd11 ct11 : Value}
    (a11 : PySem.W.nsIn K mainGlobals "_law_hand" = some (some (.ref f11))) (l11 : K.lookup f11 = some ⟨oc11, od11, .func (PySem.W.fnOf "_law_hand" "_law_hand" (defArgs s_hand) (defBody s_hand) (defScope s_hand) .none kV11 dc11 pm11 an11 cd11 ct11), sl11⟩) (c11 : PySem.W.codeIn K cd11 "_law_hand" = true) (k11 : PySem.W.keepIn K (.ref f11) = true)
    {f12 : Addr} {od12 an12 : Option Addr} {sl12 : Array (Option Value)} {oc12 kV12 dc12 pm12 cd12 ct12 : Value}
    (a12 : PySem.W.nsIn K mainGlobals "_law_switch_names" = some (some (.ref f12))) (l12 : K.lookup f12 = some ⟨oc12, od12, .func (PySem.W.fnOf "_law_switch_names" "_law_switch_names" (defArgs s_switch_names) (defBody s_switch_names) (defScope s_switch_names) .none kV12 dc12 pm12 an12 cd12 ct12), sl12⟩) (c12 : PySem.W.codeIn K cd12 "_law_switch_names" = true) (k12 : PySem.W.keepIn K (.ref f12) = true)
    {f13 : Addr} {od13 an13 : Option Addr} {sl13 : Array (Option Value)} {oc13 kV13 dc13 pm13 cd13 ct13 : Value}
    (a13 : PySem.W.nsIn K mainGlobals "_law_settings" = some (some (.ref f13))) (l13 : K.lookup f13 = some ⟨oc13, od13, .func (PySem.W.fnOf "_law_settings" "_law_settings" (defArgs s_settings) (defBody s_settings) (defScope s_settings) .none kV13 dc13 pm13 an13 cd13 ct13), sl13⟩) (c13 : PySem.W.codeIn K cd13 "_law_settings" = true) (k13 : PySem.W.keepIn K (.ref f13) = true)
    {f14 : Addr} {od14 an14 : Option Addr} {sl14 : Array (Option Value)} {oc14 kV14 dc14 pm14 cd14 ct14 : Value}
    (a14 : PySem.W.nsIn K mainGlobals "_law_bits" = some (some (.ref f14))) (l14 : K.lookup f14 = some ⟨oc14, od14, .func (PySem.W.fnOf "_law_bits" "_law_bits" (defArgs s_bits) (defBody s_bits) (defScope s_bits) .none kV14 dc14 pm14 an14 cd14 ct14), sl14⟩) (c14 : PySem.W.codeIn K cd14 "_law_bits" = true) (k14 : PySem.W.keepIn K (.ref f14) = true)
    {f15 : Addr} {od15 an15 : Option Addr} {sl15 : Array (Option Value)} {oc15 kV15 dc15 pm15 cd15 ct15 : Value}
    (a15 : PySem.W.nsIn K mainGlobals "_law_form" = some (some (.ref f15))) (l15 : K.lookup f15 = some ⟨oc15, od15, .func (PySem.W.fnOf "_law_form" "_law_form" (defArgs s_form) (defBody s_form) (defScope s_form) .none kV15 dc15 pm15 an15 cd15 ct15), sl15⟩) (c15 : PySem.W.codeIn K cd15 "_law_form" = true) (k15 : PySem.W.keepIn K (.ref f15) = true)
    {f16 : Addr} {od16 an16 : Option Addr} {sl16 : Array (Option Value)} {oc16 kV16 dc16 pm16 cd16 ct16 : Value}
    (a16 : PySem.W.nsIn K mainGlobals "_law_whole" = some (some (.ref f16))) (l16 : K.lookup f16 = some ⟨oc16, od16, .func (PySem.W.fnOf "_law_whole" "_law_whole" (defArgs s_whole) (defBody s_whole) (defScope s_whole) .none kV16 dc16 pm16 an16 cd16 ct16), sl16⟩) (c16 : PySem.W.codeIn K cd16 "_law_whole" = true) (k16 : PySem.W.keepIn K (.ref f16) = true)
    {f17 : Addr} {od17 an17 : Option Addr} {sl17 : Array (Option Value)} {oc17 kV17 dc17 pm17 cd17 ct17 : Value}
    (a17 : PySem.W.nsIn K mainGlobals "_law_alike" = some (some (.ref f17))) (l17 : K.lookup f17 = some ⟨oc17, od17, .func (PySem.W.fnOf "_law_alike" "_law_alike" (defArgs s_alike) (defBody s_alike) (defScope s_alike) .none kV17 dc17 pm17 an17 cd17 ct17), sl17⟩) (c17 : PySem.W.codeIn K cd17 "_law_alike" = true) (k17 : PySem.W.keepIn K (.ref f17) = true)
    {f18 : Addr} {od18 an18 : Option Addr} {sl18 : Array (Option Value)} {oc18 kV18 dc18 pm18 cd18 ct18 : Value}
    (a18 : PySem.W.nsIn K mainGlobals "_law_strewn" = some (some (.ref f18))) (l18 : K.lookup f18 = some ⟨oc18, od18, .func (PySem.W.fnOf "_law_strewn" "_law_strewn" (defArgs s_strewn) (defBody s_strewn) (defScope s_strewn) .none kV18 dc18 pm18 an18 cd18 ct18), sl18⟩) (c18 : PySem.W.codeIn K cd18 "_law_strewn" = true) (k18 : PySem.W.keepIn K (.ref f18) = true)
    {f19 : Addr} {od19 an19 : Option Addr} {sl19 : Array (Option Value)} {oc19 kV19 dc19 pm19 cd19 ct19 : Value}
    (a19 : PySem.W.nsIn K mainGlobals "law" = some (some (.ref f19))) (l19 : K.lookup f19 = some ⟨oc19, od19, .func (PySem.W.fnOf "law" "law" (defArgs s_law) (defBody s_law) (defScope s_law) .none kV19 dc19 pm19 an19 cd19 ct19), sl19⟩) (c19 : PySem.W.codeIn K cd19 "law" = true) (k19 : PySem.W.keepIn K (.ref f19) = true)
    (z_abs : PySem.W.nsIn K mainGlobals "abs" = some none)
    (z_bool : PySem.W.nsIn K mainGlobals "bool" = some none)
    (z_int : PySem.W.nsIn K mainGlobals "int" = some none)
    (z_isinstance : PySem.W.nsIn K mainGlobals "isinstance" = some none)
    (z_len : PySem.W.nsIn K mainGlobals "len" = some none)
    (z_list : PySem.W.nsIn K mainGlobals "list" = some none)
    (z_range : PySem.W.nsIn K mainGlobals "range" = some none)
    (z_repr : PySem.W.nsIn K mainGlobals "repr" = some none)
    (z_reversed : PySem.W.nsIn K mainGlobals "reversed" = some none)
    (z_set : PySem.W.nsIn K mainGlobals "set" = some none)
    (z_sorted : PySem.W.nsIn K mainGlobals "sorted" = some none)
    (z_str : PySem.W.nsIn K mainGlobals "str" = some none)
    (z_tuple : PySem.W.nsIn K mainGlobals "tuple" = some none)
    : ∃ fd : FuncData, (∀ (s : Shared) (v : Value), BindsTo s fd ⟨[v], []⟩ [("_law_script", v)]) ∧ ∀ base : Heap, K.In base → base.Ns mainGlobals mg → FnOkG P w K mg base 65 fa fd ["_law_script"] (spLaw3 K) := by
  obtain ⟨T, e, hb⟩ := tp_mk X G hfa a0 l0 c0 k0 a1 l1 c1 k1 a2 l2 c2 k2 a3 l3 c3 k3 a4 l4 c4 k4 a5 l5 c5 k5 a6 l6 c6 k6 a7 l7 c7 k7 a8 l8 c8 k8 a9 l9 c9 k9 a10 l10 c10 k10 a11 l11 c11 k11 a12 l12 c12 k12 a13 l13 c13 k13 a14 l14 c14 k14 a15 l15 c15 k15 a16 l16 c16 k16 a17 l17 c17 k17 a18 l18 c18 k18 a19 l19 c19 k19 z_abs z_bool z_int z_isinstance z_len z_list z_range z_repr z_reversed z_set z_sorted z_str z_tuple
  subst e
  exact ⟨T.d_law, hb, fun base _ _ => ok_law T law01⟩
end
end EA
open PySem PySem.W PyProof.Rows
set_option maxRecDepth 100000 in
set_option maxHeartbeats 0 in
theorem PySem.Challenge.cw_eacharm_k01_settings_of_a_condition_holds : PySem.Challenge.rw_eacharm_k01_settings_of_a_condition.Holds := by
  w_on; o_law; k_head; (case hw => w_witness2)
  k_fill
  refine EA.walk_ofG (l := PySem.Challenge.rw_eacharm_k01_settings_of_a_condition) (n := 63) (k := 65) (x := "_law_script") (sp := fun w => EA.spLaw3 _) rfl (by decide) rfl ⟨rfl, by decide, by decide⟩ (fun w h Y => PySem.W.kIn_of Y) ?F (fun _ _ a ns hl _ hS => ⟨a, ns, rfl, hS, hl, fun _ => rfl⟩)
  case F =>
    intro w mg fa h KX G hmg
    refine' EA.all_mk KX G hmg ?a0 ?l0 ?c0 ?k0 ?a1 ?l1 ?c1 ?k1 ?a2 ?l2 ?c2 ?k2 ?a3 ?l3 ?c3 ?k3 ?a4 ?l4 ?c4 ?k4 ?a5 ?l5 ?c5 ?k5 ?a6 ?l6 ?c6 ?k6 ?a7 ?l7 ?c7 ?k7 ?a8 ?l8 ?c8 ?k8 ?a9 ?l9 ?c9 ?k9 ?a10 ?l10 ?c10 ?k10 ?a11 ?l11 ?c11 ?k11 ?a12 ?l12 ?c12 ?k12 ?a13 ?l13 ?c13 ?k13 ?a14 ?l14 ?c14 ?k14 ?a15 ?l15 ?c15 ?k15 ?a16 ?l16 ?c16 ?k16 ?a17 ?l17 ?c17 ?k17 ?a18 ?l18 ?c18 ?k18 ?a19 ?l19 ?c19 ?k19 ?z_abs ?z_bool ?z_int ?z_isinstance ?z_len ?z_list ?z_range ?z_repr ?z_reversed ?z_set ?z_sorted ?z_str ?z_tuple
    (case a0 => k_is)
    (case l0 => k_is)
    (case c0 => k_is)
    (case k0 => k_is)
    (case a1 => k_is)
    (case l1 => k_is)
    (case c1 => k_is)
    (case k1 => k_is)
    (case a2 => k_is)
    (case l2 => k_is)
    (case c2 => k_is)
    (case k2 => k_is)
    (case a3 => k_is)
    (case l3 => k_is)
    (case c3 => k_is)
    (case k3 => k_is)
    (case a4 => k_is)
    (case l4 => k_is)
    (case c4 => k_is)
    (case k4 => k_is)
    (case a5 => k_is)
    (case l5 => k_is)
    (case c5 => k_is)
    (case k5 => k_is)
    (case a6 => k_is)
    (case l6 => k_is)
    (case c6 => k_is)
    (case k6 => k_is)
    (case a7 => k_is)
    (case l7 => k_is)
    (case c7 => k_is)
    (case k7 => k_is)
    (case a8 => k_is)
    (case l8 => k_is)
    (case c8 => k_is)
    (case k8 => k_is)
    (case a9 => k_is)
    (case l9 => k_is)
    (case c9 => k_is)
    (case k9 => k_is)
    (case a10 => k_is)
    (case l10 => k_is)
    (case c10 => k_is)
    (case k10 => k_is)
    (case a11 => k_is)
    (case l11 => k_is)
    (case c11 => k_is)
    (case k11 => k_is)
    (case a12 => k_is)
    (case l12 => k_is)
    (case c12 => k_is)
    (case k12 => k_is)
    (case a13 => k_is)
    (case l13 => k_is)
    (case c13 => k_is)
    (case k13 => k_is)
    (case a14 => k_is)
    (case l14 => k_is)
    (case c14 => k_is)
    (case k14 => k_is)
    (case a15 => k_is)
    (case l15 => k_is)
    (case c15 => k_is)
    (case k15 => k_is)
    (case a16 => k_is)
    (case l16 => k_is)
    (case c16 => k_is)
    (case k16 => k_is)
    (case a17 => k_is)
    (case l17 => k_is)
    (case c17 => k_is)
    (case k17 => k_is)
    (case a18 => k_is)
    (case l18 => k_is)
    (case c18 => k_is)
    (case k18 => k_is)
    (case a19 => k_is)
    (case l19 => k_is)
    (case c19 => k_is)
    (case k19 => k_is)
    (case z_abs => k_is)
    (case z_bool => k_is)
    (case z_int => k_is)
    (case z_isinstance => k_is)
    (case z_len => k_is)
    (case z_list => k_is)
    (case z_range => k_is)
    (case z_repr => k_is)
    (case z_reversed => k_is)
    (case z_set => k_is)
    (case z_sorted => k_is)
    (case z_str => k_is)
    (case z_tuple => k_is)
