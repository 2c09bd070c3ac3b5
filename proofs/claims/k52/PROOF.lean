import PyProof.Rows.All
import HandS.ForMost
import HandS.IsInst
import HandS.Flow
import HandS.More
import HandS.TupAny
import HandS.Lambda
import KE.DataEq
import KE.DataCmp
import KE.DataAny
import KE.DataMinMax
import KE.SortData
import HandS.SortRule
import HandS.Wide
import HandS.Strs
import HandS.Set
import HandS.SetFor
import HandS.Text
import HandS.Rev
import HandS.SetBool
import HandS.Deep
import HandS.Dict
import KE.KDictPairs
import Wide.All
import OpenK.AllK
import Wide.FinOn
import PyProof.ZipIter
import KE.KDictZip
import HandS.Zip0
import PyProof.ListNew
import HandS.ListItems
import PyProof.ListStr
import HandS.TupMul
import PyProof.TupleOfGen
import HandS.Defaults
import HandS.Finally
import HandS.Iter
import HandS.DictComp
import HandS.Conv
import HandS.SetKeys
import KE.GoesEnum
import KE.KTurns
import KE.SortKeyHeap
import HandS.EndTab
import PySem.Challenge.RW_eacharm_k52_whole_nested_calls_and_fuel
set_option Elab.async false
set_option linter.all false
set_option maxRecDepth 100000
set_option maxHeartbeats 8000000
namespace EA
open PySem PySem.Spec PyProof.Rows L2
/-! ### tuples that are known to have no dict of their own -/
/-- a tuple of the heap, or of the kept part, without a dict -/
def PlT (K : PySem.W.Frag) (G : Hp) (a : Addr) (xs : List V) : Prop :=
  (∃ o : Obj, G a = some (.frz o (.tup xs)) ∧ o.dict = none) ∨
    ∃ (o : Obj) (its : Array Value) (n : Nat), K.lookup a = some o ∧ o.cls = .type "tuple" ∧ o.data = .seq its n ∧ its.size ≤ sizeLine ∧ Vals xs its.toList ∧ o.dict = none
theorem PlT.sq {K : PySem.W.Frag} {G : Hp} {a : Addr} {xs : List V} (h : PlT K G a xs) : SqT K G a xs := by
  rcases h with ⟨o, h, _⟩ | ⟨o, its, n, h1, h2, h3, h4, h5, _⟩
  · exact .inl (.inr ⟨o, h⟩)
  · exact .inr ⟨o, its, n, h1, h2, h3, h4, h5⟩
theorem PlT.up {K : PySem.W.Frag} {G G' : Hp} {a : Addr} {xs : List V} (e : ∀ b o, G b = some o → G' b = some o) (h : PlT K G a xs) : PlT K G' a xs := by
  rcases h with ⟨o, h, d⟩ | h
  · exact .inl ⟨o, e _ _ h, d⟩
  · exact .inr h
/-- a new tuple -/
abbrev NewT (H : Hp) (xs : List V) (Q : VK) : Prop := ∀ (p : Addr) (o : Obj), o.dict = none → H p = none → Q (.ref p) (upd H p (.frz o (.tup xs)))
section
variable {X : Cx}
theorem laidT {pins : List (Addr × Obj)} {σ : L2.St} {H : Hp} {s : Shared} {xs : List V} {its : List Value} (I : Inv X pins σ H s) (hz : xs.length ≤ sizeLine) (r : Vals xs its) :
    Inv X pins σ (upd H s.heap.objs.size (.frz { cls := .type "tuple", data := .seq its.toArray } (.tup xs))) { s with heap := s.heap.push { cls := .type "tuple", data := .seq its.toArray } } :=
  I.laid (t' := s.toks) (fun b o e => Heap.get?_push_of_some _ e) (Nat.le_refl _) ⟨Heap.get?_push_size _ rfl, hz, its, r, IsTup.new _ _⟩
variable {es : List Expr} {t : TA} {pos : Pos}
def tTupP (t : TA) : TE := fun σ H Q => t σ H fun xs H1 => xs.length ≤ sizeLine ∧ NewT H1 xs Q
theorem pe_tupP {x1} (h : PA X es t) : PE X (.Tuple es x1 pos) (tTupP t) := by
  refine ⟨fun pins s σ H Q I hq => ?_⟩
  refine wpAny_Tuple_spliced (thn (h.run pos pins s σ H _ I hq) fun us s1 ⟨xs, H1, I1, r, z, q⟩ => ⟨by rw [← r.length]; exact z, ?_⟩)
  have hf : H1 s1.heap.objs.size = none := I1.hok.fresh (Nat.le_refl _)
  exact ⟨.ref s1.heap.objs.size, _, laidT I1 z r, rfl, q _ _ rfl hf⟩
/-- t + u -/
def rCatP (K : PySem.W.Frag) : R2 := fun x y H Q => ∃ a b xs ys, x = .ref a ∧ y = .ref b ∧ SqT K H a xs ∧ SqT K H b ys ∧ xs.length + ys.length ≤ sizeLine ∧
  (xs = [] → Q (.ref b) H) ∧ (xs ≠ [] → ys = [] → Q (.ref a) H) ∧ (xs ≠ [] → ys ≠ [] → NewT H (xs ++ ys) Q)
theorem op_catP : OpR X (binaryOp .Add) (rCatP X.K) := by
  intro pins s σ H x y v u Q I rx ry h
  obtain ⟨a, b, xs, ys, rfl, rfl, ha, hb, hz, q0, q1, q2⟩ := h
  cases rx
  cases ry
  obtain ⟨its, r1, p1, _⟩ := I.tuple ha
  obtain ⟨its2, r2, p2, _⟩ := I.tuple hb
  by_cases hx : xs = []
  · subst hx
    cases r1
    exact cat_tup0 p1 p2 ⟨.ref b, H, I, rfl, q0 rfl⟩
  · refine HT.cat_tup p1 p2 (fun z => hx (r1.nil_iff.mp z)) (fun z => ⟨.ref a, H, I, rfl, q1 hx (r2.nil_iff.mp z)⟩) (fun z => ?_) (by rw [← r1.length, ← r2.length]; exact hz)
    exact ⟨.ref s.heap.objs.size, _, laidT I (by rw [List.length_append]; exact hz) (r1.append r2), rfl, q2 hx (fun w => z (r2.nil_iff.mpr w)) _ _ rfl (I.hok.fresh (Nat.le_refl _))⟩
/-- t[lo:hi] -/
def rSlP (K : PySem.W.Frag) : V → Option Int → Option Int → Hp → VK → Prop := fun x lo hi H Q => ∃ a xs, x = .ref a ∧ SqT K H a xs ∧
  (HT.sIx xs.length 0 lo = 0 ∧ HT.sIx xs.length xs.length hi = xs.length → Q (.ref a) H) ∧ (¬ (HT.sIx xs.length 0 lo = 0 ∧ HT.sIx xs.length xs.length hi = xs.length) → NewT H (cutV xs lo hi) Q)
theorem sl_tupP : SlR X (rSlP X.K) := by
  intro pins s σ H x v vl vu lo hi sl Q I rx hs pl pu h
  obtain ⟨a, xs, rfl, hx, q1, q2⟩ := h
  cases rx
  obtain ⟨its, r, ht, hz⟩ := I.tuple hx
  have hlen : its.toArray.size = xs.length := by rw [List.size_toArray]; exact r.length.symm
  refine ⟨"tuple", _, PyProof.Rows.slot_tuple_getitem.lookup, ht.typeIs, ?_⟩
  by_cases hw : HT.sIx xs.length 0 lo = 0 ∧ HT.sIx xs.length xs.length hi = xs.length
  · exact getItem_tuple_whole ht hs pl pu (by rw [hlen]; exact hw) ⟨.ref a, H, I, rfl, q1 hw⟩
  · refine HT.getItem_tuple_cut ht hs pl pu (by rw [hlen]; exact hw) ?_ (by rw [hlen]; exact hz)
    rw [hlen]
    exact ⟨.ref s.heap.objs.size, _, laidT I (Nat.le_trans (cutV_length xs lo hi) hz) ((r.drop (HT.sIx xs.length 0 lo)).take (HT.sIx xs.length xs.length hi - HT.sIx xs.length 0 lo)), rfl, q2 hw _ _ rfl (I.hok.fresh (Nat.le_refl _))⟩
/-- tuple(xs) -/
def rTupP (K : PySem.W.Frag) : List V → Hp → VK → Prop := fun xs H Q => ∃ p ys, xs = [.ref p] ∧ ((SqL K H p ys ∧ NewT H ys Q) ∨ SqT K H p ys ∧ Q (.ref p) H)
theorem call_tupP : CallR X (.type "tuple") (rTupP X.K) := by
  intro pins s σ H xs us Q I r h
  obtain ⟨p, ys, rfl, h⟩ := h
  obtain ⟨u, rfl, rx⟩ := vals1 r
  cases rx
  rcases h with ⟨hq, q⟩ | ⟨hq, q⟩
  · obtain ⟨its, r', pl, hz⟩ := I.list hq
    have hlen := r'.length
    refine call_tuple_list pl.isList (fun h' kp => ?_) (by simp only [List.size_toArray] <;> omega)
    have I1 : Inv X pins σ H { s with heap := h' } := I.kept (t' := s.toks) kp
    exact ⟨.ref h'.objs.size, _, laidT I1 hz r', rfl, q _ _ rfl (I1.hok.fresh (Nat.le_refl _))⟩
  · obtain ⟨its, r', pl, hz⟩ := I.tuple hq
    exact call_tuple_same pl ⟨.ref p, H, I, rfl, q⟩
end
end EA
namespace EA
open PySem PySem.Spec PyProof.Rows L2
/-! ### data, in the part of the heap that stays as it is -/
mutual
inductive Da (K : PySem.W.Frag) (G : Hp) : V → PyData → Prop
  | non : Da K G .non .none
  | bl (b : Bool) : Da K G (.bl b) (.bool b)
  | int (i : Int) : Da K G (.int i) (.int i)
  | str (x : Str) : Da K G (.str x) (.str x)
  | lst {a : Addr} {xs : List V} {ds : List PyData} : G a = some (.lst xs) → DaA K G xs ds → Da K G (.ref a) (.list ds)
  | tup {a : Addr} {xs : List V} {ds : List PyData} : PlT K G a xs → DaA K G xs ds → Da K G (.ref a) (.tuple ds)
inductive DaA (K : PySem.W.Frag) (G : Hp) : List V → List PyData → Prop
  | nil : DaA K G [] []
  | cons {v : V} {vs : List V} {d : PyData} {ds : List PyData} : Da K G v d → DaA K G vs ds → DaA K G (v :: vs) (d :: ds)
end
theorem sqT_up {K : PySem.W.Frag} {H H' : Hp} {a : Addr} {xs : List V} (e : Same H H') (h : SqT K H a xs) : SqT K H' a xs := by
  rcases h with (h | ⟨o, h⟩) | h
  · exact .inl (.inl (e _ _ h))
  · exact .inl (.inr ⟨o, e _ _ h⟩)
  · exact .inr h
section
variable {G G' H : Hp} {K : PySem.W.Frag}
mutual
theorem Da.up (s : Same G G') : ∀ {d : PyData} {v : V}, Da K G v d → Da K G' v d
  | .none, _, .non => .non
  | .bool _, _, .bl b => .bl b
  | .int _, _, .int i => .int i
  | .str _, _, .str x => .str x
  | .list _, _, .lst e h => .lst (s _ _ e) (DaA.up s h)
  | .tuple _, _, .tup e h => .tup (e.up s) (DaA.up s h)
theorem DaA.up (s : Same G G') : ∀ {ds : List PyData} {vs : List V}, DaA K G vs ds → DaA K G' vs ds
  | [], _, .nil => .nil
  | _ :: _, _, .cons h t => .cons (Da.up s h) (DaA.up s t)
end
theorem DaA.len : ∀ {vs : List V} {ds : List PyData}, DaA K G vs ds → vs.length = ds.length
  | _, _, .nil => rfl
  | _, _, .cons _ t => by rw [List.length_cons, List.length_cons, DaA.len t]
theorem DaA.get : ∀ {vs : List V} {ds : List PyData} {i : Nat} {d : PyData}, DaA K G vs ds → ds[i]? = some d → ∃ v, vs[i]? = some v ∧ Da K G v d
  | _, _, _, _, .nil, e => by simp at e
  | _, _, 0, _, .cons h _, e => by simp at e; subst e; exact ⟨_, rfl, h⟩
  | _, _, i + 1, d, .cons _ t, e => by
    obtain ⟨v, h1, h2⟩ := DaA.get (i := i) (d := d) t (by simpa using e)
    exact ⟨v, by simpa using h1, h2⟩
theorem DaA.app : ∀ {vs ws : List V} {ds es : List PyData}, DaA K G vs ds → DaA K G ws es → DaA K G (vs ++ ws) (ds ++ es)
  | _, _, _, _, .nil, h => h
  | _, _, _, _, .cons h t, h2 => .cons h (DaA.app t h2)
theorem DaA.take : ∀ {vs : List V} {ds : List PyData} (n : Nat), DaA K G vs ds → DaA K G (vs.take n) (ds.take n)
  | _, _, 0, _ => .nil
  | _, _, _ + 1, .nil => .nil
  | _, _, n + 1, .cons h t => .cons h (DaA.take n t)
theorem DaA.drop : ∀ {vs : List V} {ds : List PyData} (n : Nat), DaA K G vs ds → DaA K G (vs.drop n) (ds.drop n)
  | _, _, 0, h => h
  | _, _, _ + 1, .nil => .nil
  | _, _, n + 1, .cons _ t => DaA.drop n t
theorem DaA.set {v : V} {d : PyData} (h : Da K G v d) : ∀ {vs : List V} {ds : List PyData} (n : Nat), DaA K G vs ds → DaA K G (vs.set n v) (ds.set n d)
  | _, _, _, .nil => .nil
  | _, _, 0, .cons _ t => .cons h t
  | _, _, n + 1, .cons k t => .cons k (DaA.set h n t)
theorem DaA.ints : ∀ (bs : List Int), DaA K G (bs.map V.int) (bs.map PyData.int)
  | [] => .nil
  | b :: r => .cons (.int b) (DaA.ints r)
theorem Da.list_inv {v : V} {ds : List PyData} (h : Da K G v (.list ds)) : ∃ a xs, v = .ref a ∧ G a = some (.lst xs) ∧ DaA K G xs ds := by
  cases h with
  | lst e t => exact ⟨_, _, rfl, e, t⟩
theorem Da.tup_inv {v : V} {ds : List PyData} (h : Da K G v (.tuple ds)) : ∃ a xs, v = .ref a ∧ SqT K G a xs ∧ DaA K G xs ds := by
  cases h with
  | tup e t => exact ⟨_, _, rfl, e.sq, t⟩
theorem Da.tup_invP {v : V} {ds : List PyData} (h : Da K G v (.tuple ds)) : ∃ a xs, v = .ref a ∧ PlT K G a xs ∧ DaA K G xs ds := by
  cases h with
  | tup e t => exact ⟨_, _, rfl, e, t⟩
theorem Da.int_inv {v : V} {i : Int} (h : Da K G v (.int i)) : v = .int i := by cases h; rfl
theorem Da.bool_inv {v : V} {i : Bool} (h : Da K G v (.bool i)) : v = .bl i := by cases h; rfl
theorem Da.str_inv {v : V} {i : Str} (h : Da K G v (.str i)) : v = .str i := by cases h; rfl
theorem Da.non_inv {v : V} (h : Da K G v .none) : v = .non := by cases h; rfl
end
/-! ### worlds, values, stores -/
/-- the part that stays, the heap, the changeable objects' addresses -/
structure Wd where
  G : Hp
  H : Hp
  ι : List Addr
/-- a value: data, a changeable object of the store, the script, a type -/
inductive W3 where
  | d (x : PyData)
  | r (i : Nat)
  | sc (xs : List Int)
  | ty (n : String)
/-- a changeable object -/
inductive MO where
  | lst (xs : List PyData)
  | dic (kvs : List (Key × PyData))
  | gone
  | rcd (kvs : List (Str × W3))
  | nls (ws : List W3)
  | ndc (kvs : List (Key × W3))
  | ldic (kvs : List (Key × PyData))
  | tab (P : Addr) (q : Str)
  | ins (n : Str) (kvs : List (Str × W3))
/-- the objects that it speaks of stand ahead of place n -/
def MO.inn (n : Nat) : MO → Prop
  | .nls ws => ∀ j, W3.r j ∈ ws → j < n
  | .ndc kvs => ∀ k j, (k, W3.r j) ∈ kvs → j < n
  | .ins _ kvs => ∀ s j, (s, W3.r j) ∈ kvs → j < n
  | _ => True
/-- what a store came to, seen from what it was: it may be cut there -/
def cutRel (S0 S : List MO) : Prop := ∀ (i : Nat) (o : MO), i < S0.length → S[i]? = some o → o.inn S0.length ∨ S0[i]? = some o
noncomputable instance instCutRel (S0 S : List MO) : Decidable (cutRel S0 S) := Classical.propDecidable _
inductive DaK (K : PySem.W.Frag) (G : Hp) : List (Key × V) → List (Key × PyData) → Prop
  | nil : DaK K G [] []
  | cons {k : Key} {v : V} {d : PyData} {vs ds} : Da K G v d → DaK K G vs ds → DaK K G ((k, v) :: vs) ((k, d) :: ds)
theorem DaK.up {K : PySem.W.Frag} {G G' : Hp} (s : Same G G') {vs : List (Key × V)} {ds : List (Key × PyData)} (h : DaK K G vs ds) : DaK K G' vs ds := by
  induction h with
  | nil => exact .nil
  | cons h _ ih => exact .cons (h.up s) ih
def RW (K : PySem.W.Frag) (A : Wd) (v : V) : W3 → Prop
  | .d x => Da K A.G v x
  | .r i => ∃ a, A.ι[i]? = some a ∧ v = .ref a
  | .sc xs => ∃ a, v = .ref a ∧ SqL K A.G a (xs.map V.int)
  | .ty n => v = .ty n
/-- the entries of a dict whose keys are texts: values, also other objects of the store -/
inductive RcA (K : PySem.W.Frag) (A : Wd) : List (Key × V) → List (Str × W3) → Prop
  | nil : RcA K A [] []
  | cons {s : Str} {v : V} {w : W3} {ks : List (Key × V)} {kvs : List (Str × W3)} : RW K A v w → RcA K A ks kvs → RcA K A ((.inr s, v) :: ks) ((s, w) :: kvs)
inductive RWs (K : PySem.W.Frag) (A : Wd) : List V → List W3 → Prop
  | nil : RWs K A [] []
  | cons {v : V} {w : W3} {vs : List V} {ws : List W3} : RW K A v w → RWs K A vs ws → RWs K A (v :: vs) (w :: ws)
/-- the entries of a dict: values, also other objects of the store -/
inductive NdA (K : PySem.W.Frag) (A : Wd) : List (Key × V) → List (Key × W3) → Prop
  | nil : NdA K A [] []
  | cons {k : Key} {v : V} {w : W3} {ks : List (Key × V)} {kvs : List (Key × W3)} : RW K A v w → NdA K A ks kvs → NdA K A ((k, v) :: ks) ((k, w) :: kvs)
/-- the fields of an instance: values, also other objects of the store -/
inductive FsA (K : PySem.W.Frag) (A : Wd) : List (Str × V) → List (Str × W3) → Prop
  | nil : FsA K A [] []
  | cons {s : Str} {v : V} {w : W3} {ks : List (Str × V)} {kvs : List (Str × W3)} : RW K A v w → FsA K A ks kvs → FsA K A ((s, v) :: ks) ((s, w) :: kvs)
/-- the class of that name -/
def clsAt (K : PySem.W.Frag) (n : Str) (C : Addr) : Prop := PySem.W.nsIn K mainGlobals n = some (some (.ref C))
def OR (K : PySem.W.Frag) (A : Wd) (a : Addr) : MO → Prop
  | .lst xs => A.G a = none ∧ ∃ vs, A.H a = some (.lst vs) ∧ DaA K A.G vs xs
  | .dic kvs => A.G a = none ∧ ∃ ks, A.H a = some (.dK ks) ∧ DaK K A.G ks kvs
  | .gone => A.H a ≠ none
  | .rcd kvs => A.G a = none ∧ (∃ i, A.ι[i]? = some a ∧ ∀ s j, (s, W3.r j) ∈ kvs → j < i) ∧ ∃ ks, A.H a = some (.dK ks) ∧ RcA K A ks kvs
  | .ldic kvs => A.G a = none ∧ ∃ od ks, A.H a = some (.frz od (.dK ks)) ∧ DaK K A.G ks kvs
  | .nls ws => A.G a = none ∧ ∃ vs, A.H a = some (.lst vs) ∧ RWs K A vs ws
  | .ndc kvs => A.G a = none ∧ ∃ ks, A.H a = some (.dK ks) ∧ NdA K A ks kvs
  | .tab P q => a = P ∧ A.G a = none ∧ LamX.TabS A.H a q
  | .ins n kvs => A.G a = none ∧ ∃ C dx ks, clsAt K n C ∧ A.H a = some (.ins C dx ks) ∧ FsA K A ks kvs
structure Rl (K : PySem.W.Frag) (A : Wd) (S : List MO) : Prop where
  gh : Same A.G A.H
  nd : A.ι.Nodup
  len : A.ι.length = S.length
  ob : ∀ (i : Nat) (o : MO) (a : Addr), S[i]? = some o → A.ι[i]? = some a → OR K A a o
abbrev Sl := List (Option W3)
structure SR3 (K : PySem.W.Frag) (A : Wd) (σ : L2.St) (sl : Sl) : Prop where
  len : σ.length = sl.length
  at_ : ∀ (i : Nat) (w : W3), sl[i]? = some (some w) → ∃ v, σ[i]? = some (some v) ∧ RW K A v w
/-- no object that is locked -/
def nfz : Option HO → Bool
  | some (.frz _ _) => false
  | some (.ext _) => false
  | some (.tbl _) => false
  | _ => true
/-- from one world to a later one -/
structure Nx (A B : Wd) : Prop where
  gg : Same A.G B.G
  hh : ∀ b o, b ∉ A.ι → A.H b = some o → B.H b = some o
  nw : ∀ b, b ∉ A.ι → A.G b = none → A.H b ≠ none → B.G b = none
  dm : ∀ b, A.H b ≠ none → B.H b ≠ none
  pre : A.ι <+: B.ι
  fr : ∀ x ∈ B.ι, x ∈ A.ι ∨ A.H x = none
  lk : ∀ b od ks, A.H b = some (.frz od (.dK ks)) → B.H b = some (.frz od (.dK ks))
section
variable {K : PySem.W.Frag} {A B C : Wd} {S S' : List MO} {σ : L2.St} {sl : Sl} {v : V} {w : W3}
theorem Nx.refl (A : Wd) : Nx A A := ⟨Same.refl _, fun _ _ _ h => h, fun _ _ h _ => h, fun _ h => h, List.prefix_rfl, fun _ h => .inl h, fun _ _ _ h => h⟩
theorem Nx.trans (a : Nx A B) (b : Nx B C) : Nx A C where
  gg := a.gg.trans b.gg
  hh := fun x o hx e => b.hh x o (fun z => (a.fr x z).elim hx fun n => by rw [n] at e; cases e) (a.hh x o hx e)
  nw := fun x hx g h => b.nw x (fun z => (a.fr x z).elim hx h) (a.nw x hx g h) (a.dm x h)
  dm := fun x h => b.dm x (a.dm x h)
  pre := a.pre.trans b.pre
  fr := fun x hx => (b.fr x hx).elim (fun z => a.fr x z) fun n => .inr (by
    cases e : A.H x with
    | none => rfl
    | some u => exact absurd n (a.dm x (by rw [e]; exact fun z => nomatch z)))
  lk := fun x od ks h => b.lk x od ks (a.lk x od ks h)
theorem ix_pre {α : Type} {l m : List α} (p : l <+: m) {i : Nat} {a : α} (h : l[i]? = some a) : m[i]? = some a := by
  obtain ⟨t, rfl⟩ := p
  rw [List.getElem?_append_left (List.getElem?_eq_some_iff.mp h).1]
  exact h
theorem RW.mono (n : Nx A B) (h : RW K A v w) : RW K B v w := by
  cases w with
  | d x => exact Da.up n.gg h
  | r i => obtain ⟨a, h1, h2⟩ := h; exact ⟨a, ix_pre n.pre h1, h2⟩
  | sc xs => obtain ⟨a, h1, h2⟩ := h; exact ⟨a, h1, n.gg.seq h2⟩
  | ty n => exact h
/-- what a value needs: the frozen part and the store's places -/
structure Nv (A B : Wd) : Prop where
  gg : Same A.G B.G
  pre : A.ι <+: B.ι
/-- what an iterator needs: also that what is locked stays locked -/
structure Nw (A B : Wd) : Prop extends Nv A B where
  lk : ∀ b od ks, A.H b = some (.frz od (.dK ks)) → B.H b = some (.frz od (.dK ks))
instance : Coe (Nw A B) (Nv A B) := ⟨fun n => n.toNv⟩
theorem Nw.trans (a : Nw A B) (b : Nw B C) : Nw A C := ⟨⟨a.gg.trans b.gg, a.pre.trans b.pre⟩, fun x od ks h => b.lk x od ks (a.lk x od ks h)⟩
theorem Nx.toW (n : Nx A B) : Nw A B := ⟨⟨n.gg, n.pre⟩, n.lk⟩
theorem RW.monov (n : Nv A B) (h : RW K A v w) : RW K B v w := by
  cases w with
  | d x => exact Da.up n.gg h
  | r i => obtain ⟨a, h1, h2⟩ := h; exact ⟨a, ix_pre n.pre h1, h2⟩
  | sc xs => obtain ⟨a, h1, h2⟩ := h; exact ⟨a, h1, n.gg.seq h2⟩
  | ty n => exact h
theorem SR3.mono (n : Nx A B) (h : SR3 K A σ sl) : SR3 K B σ sl := ⟨h.len, fun i w e => by
  obtain ⟨v, h1, h2⟩ := h.at_ i w e
  exact ⟨v, h1, h2.mono n⟩⟩
theorem SR3.set (h : SR3 K A σ sl) (i : Nat) (r : RW K A v w) : SR3 K A (σ.set i (some v)) (sl.set i (some w)) := by
  refine ⟨by rw [List.length_set, List.length_set, h.len], fun j u e => ?_⟩
  by_cases hj : i = j
  · subst hj
    have hi : i < sl.length := by have := (List.getElem?_eq_some_iff.mp e).1; rwa [List.length_set] at this
    rw [List.getElem?_set_self hi] at e
    cases e
    exact ⟨v, List.getElem?_set_self (by rw [h.len]; exact hi), r⟩
  · rw [List.getElem?_set_ne hj] at e ⊢
    exact h.at_ j u e
/-- any live object's address is taken -/
theorem Rl.taken (R : Rl K A S) {a : Addr} (h : a ∈ A.ι) : A.H a ≠ none := by
  obtain ⟨i, hi, e⟩ := List.getElem_of_mem h
  have e2 : A.ι[i]? = some a := by rw [List.getElem?_eq_getElem hi, e]
  have hs : i < S.length := by rw [← R.len]; exact hi
  have o := R.ob i S[i] a (List.getElem?_eq_getElem hs) e2
  cases q : S[i] with
  | lst xs => rw [q] at o; obtain ⟨_, vs, h, _⟩ := o; rw [h]; exact fun z => nomatch z
  | dic xs => rw [q] at o; obtain ⟨_, vs, h, _⟩ := o; rw [h]; exact fun z => nomatch z
  | rcd xs => rw [q] at o; obtain ⟨_, _, vs, h, _⟩ := o; rw [h]; exact fun z => nomatch z
  | nls xs => rw [q] at o; obtain ⟨_, vs, h, _⟩ := o; rw [h]; exact fun z => nomatch z
  | ldic xs => rw [q] at o; obtain ⟨_, _, vs, h, _⟩ := o; rw [h]; exact fun z => nomatch z
  | ndc xs => rw [q] at o; obtain ⟨_, vs, h, _⟩ := o; rw [h]; exact fun z => nomatch z
  | tab P x => rw [q] at o; obtain ⟨_, _, ps, h, _⟩ := o; rw [h]; exact fun z => nomatch z
  | ins C xs => rw [q] at o; obtain ⟨_, _, _, vs, _, h, _⟩ := o; rw [h]; exact fun z => nomatch z
  | gone => rw [q] at o; exact o
theorem Rl.new (R : Rl K A S) {p : Addr} (n : A.H p = none) : p ∉ A.ι := fun z => R.taken z n
theorem RcA.monov (n : Nv A B) {ks : List (Key × V)} {kvs : List (Str × W3)} (h : RcA K A ks kvs) : RcA K B ks kvs := by
  induction h with
  | nil => exact .nil
  | cons h _ ih => exact .cons (h.monov n) ih
theorem RWs.monov (n : Nv A B) {vs : List V} {ws : List W3} (h : RWs K A vs ws) : RWs K B vs ws := by
  induction h with
  | nil => exact .nil
  | cons h _ ih => exact .cons (h.monov n) ih
theorem NdA.monov (n : Nv A B) {ks : List (Key × V)} {kvs : List (Key × W3)} (h : NdA K A ks kvs) : NdA K B ks kvs := by
  induction h with
  | nil => exact .nil
  | cons h _ ih => exact .cons (h.monov n) ih
theorem FsA.monov (n : Nv A B) {ks : List (Str × V)} {kvs : List (Str × W3)} (h : FsA K A ks kvs) : FsA K B ks kvs := by
  induction h with
  | nil => exact .nil
  | cons h _ ih => exact .cons (h.monov n) ih
theorem FsA.lt {ks : List (Str × V)} {kvs : List (Str × W3)} (h : FsA K A ks kvs) : ∀ k j, (k, W3.r j) ∈ kvs → j < A.ι.length := by
  induction h with
  | nil => exact fun k j z => nomatch z
  | cons hw _ ih =>
    intro k j z
    rcases List.mem_cons.mp z with z | z
    · cases z
      obtain ⟨a, ha, _⟩ := hw
      exact (List.getElem?_eq_some_iff.mp ha).1
    · exact ih k j z
theorem RWs.lt {vs : List V} {ws : List W3} (h : RWs K A vs ws) : ∀ j, W3.r j ∈ ws → j < A.ι.length := by
  induction h with
  | nil => exact fun j z => nomatch z
  | cons hw _ ih =>
    intro j z
    rcases List.mem_cons.mp z with z | z
    · subst z
      obtain ⟨a, ha, _⟩ := hw
      exact (List.getElem?_eq_some_iff.mp ha).1
    · exact ih j z
theorem NdA.lt {ks : List (Key × V)} {kvs : List (Key × W3)} (h : NdA K A ks kvs) : ∀ k j, (k, W3.r j) ∈ kvs → j < A.ι.length := by
  induction h with
  | nil => exact fun k j z => nomatch z
  | cons hw _ ih =>
    intro k j z
    rcases List.mem_cons.mp z with z | z
    · cases z
      obtain ⟨a, ha, _⟩ := hw
      exact (List.getElem?_eq_some_iff.mp ha).1
    · exact ih k j z
theorem OR.inn {a : Addr} {o : MO} (h : OR K A a o) : o.inn A.ι.length := by
  cases o with
  | nls ws => obtain ⟨_, vs, _, h⟩ := h; exact h.lt
  | ndc ws => obtain ⟨_, vs, _, h⟩ := h; exact h.lt
  | ins C ws => obtain ⟨_, _, dx, vs, _, _, h⟩ := h; exact h.lt
  | _ => trivial
/-- what a world's store was is in order; so what it came to may be cut -/
theorem Rl.cut_ok {S0 : List MO} (R : Rl K A S0) (h : cutRel S0 S) {i : Nat} {o : MO} (hi : i < A.ι.length) (e : S[i]? = some o) : o.inn A.ι.length := by
  have ea : A.ι[i]? = some A.ι[i] := List.getElem?_eq_getElem hi
  rcases h i o (by rw [← R.len]; exact hi) e with h | h
  · rw [R.len]; exact h
  · exact (R.ob i o A.ι[i] h ea).inn
theorem OR.keep {a : Addr} {o : MO} (h : OR K A a o) (gg : Same A.G B.G) (hg : A.G a = none → B.G a = none) (hh : ∀ u, A.H a = some u → B.H a = some u) (hx : ∀ b q, A.H b = some (LamX.CodeO b q) → B.H b = some (LamX.CodeO b q)) (pre : A.ι <+: B.ι := by exact List.prefix_rfl) : OR K B a o := by
  cases o with
  | tab P q =>
    obtain ⟨e, g, ps, h1, h2, h3⟩ := h
    refine ⟨e, hg g, ps, hh _ h1, h2, fun pos cv hc => ?_⟩
    obtain ⟨c, e1, e2⟩ := h3 pos cv hc
    exact ⟨c, e1, hx _ _ e2⟩
  | rcd kvs =>
    obtain ⟨g, ⟨i, h1, h2⟩, ks, h3, h4⟩ := h
    exact ⟨hg g, ⟨i, ix_pre pre h1, h2⟩, ks, hh _ h3, h4.monov ⟨gg, pre⟩⟩
  | nls xs => obtain ⟨g, vs, h1, h2⟩ := h; exact ⟨hg g, vs, hh _ h1, h2.monov ⟨gg, pre⟩⟩
  | ldic xs => obtain ⟨g, od, vs, h1, h2⟩ := h; exact ⟨hg g, od, vs, hh _ h1, h2.up gg⟩
  | ndc xs => obtain ⟨g, vs, h1, h2⟩ := h; exact ⟨hg g, vs, hh _ h1, h2.monov ⟨gg, pre⟩⟩
  | ins n xs => obtain ⟨g, C, dx, vs, h0, h1, h2⟩ := h; exact ⟨hg g, C, dx, vs, h0, hh _ h1, h2.monov ⟨gg, pre⟩⟩
  | lst xs => obtain ⟨g, vs, h1, h2⟩ := h; exact ⟨hg g, vs, hh _ h1, h2.up gg⟩
  | dic xs => obtain ⟨g, vs, h1, h2⟩ := h; exact ⟨hg g, vs, hh _ h1, h2.up gg⟩
  | gone =>
    show B.H a ≠ none
    cases e : A.H a with
    | none => exact absurd e h
    | some u => rw [hh u e]; exact fun z => nomatch z
theorem upd_none {H : Hp} {p b : Addr} {o : HO} (h : upd H p o b = none) : H b = none := by
  by_cases e : b = p
  · subst e; rw [upd_same] at h; cases h
  · rw [upd_ne e] at h; exact h
/-- a new object that is data -/
theorem Nx.dat (R : Rl K A S) {p : Addr} {o : HO} (n : A.H p = none) : Nx A ⟨upd A.G p o, upd A.H p o, A.ι⟩ ∧ Rl K ⟨upd A.G p o, upd A.H p o, A.ι⟩ S := by
  have gp : A.G p = none := R.gh.free n
  refine ⟨⟨fun b u e => ?_, fun b u hb e => ?_, fun b hb g h => ?_, fun b h z => h (upd_none z), List.prefix_rfl, fun _ h => .inl h, fun b od ks e => by
    show upd A.H p o b = _
    rw [upd_ne (ne_of_none e n)]; exact e⟩, ⟨fun b u e => ?_, R.nd, R.len, fun i o a e1 e2 => ?_⟩⟩
  · show upd A.G p o b = _
    rw [upd_ne (ne_of_none e gp)]; exact e
  · show upd A.H p o b = _
    rw [upd_ne (ne_of_none e n)]; exact e
  · show upd A.G p o b = _
    rw [upd_ne (fun e => h (by rw [e]; exact n))]; exact g
  · by_cases z : b = p
    · subst z
      show upd A.H b o b = _
      have e' : upd A.G b o b = some u := e
      rw [upd_same] at e' ⊢; exact e'
    · show upd A.H p o b = _
      have e' : upd A.G p o b = some u := e
      rw [upd_ne z] at e' ⊢; exact R.gh b u e'
  · have ne : a ≠ p := fun z => R.new n (by rw [← z]; exact List.mem_of_getElem? e2)
    refine (R.ob i o a e1 e2).keep (fun b u e => ?_) (fun g => ?_) (fun u h => ?_) fun b φ h => by
      show upd A.H p _ b = _
      rw [upd_ne (ne_of_none h n)]; exact h
    · show upd A.G p _ b = _
      rw [upd_ne (ne_of_none e gp)]; exact e
    · show upd A.G p _ a = _
      rw [upd_ne ne]; exact g
    · show upd A.H p _ a = _
      rw [upd_ne ne]; exact h
/-- a new object that nobody speaks of -/
theorem Nx.junk (R : Rl K A S) {p : Addr} {o : HO} (n : A.H p = none) : Nx A ⟨A.G, upd A.H p o, A.ι⟩ ∧ Rl K ⟨A.G, upd A.H p o, A.ι⟩ S := by
  have gp : A.G p = none := R.gh.free n
  refine ⟨⟨Same.refl _, fun b u hb e => ?_, fun b hb g h => g, fun b h z => h (upd_none z), List.prefix_rfl, fun _ h => .inl h, fun b od ks e => by
    show upd A.H p o b = _
    rw [upd_ne (ne_of_none e n)]; exact e⟩, ⟨fun b u e => ?_, R.nd, R.len, fun i o a e1 e2 => ?_⟩⟩
  · show upd A.H p o b = _
    rw [upd_ne (ne_of_none e n)]; exact e
  · show upd A.H p o b = _
    rw [upd_ne (ne_of_none e gp)]; exact R.gh b u e
  · have ne : a ≠ p := fun z => R.new n (by rw [← z]; exact List.mem_of_getElem? e2)
    refine (R.ob i o a e1 e2).keep (Same.refl _) (fun g => g) (fun u h => ?_) fun b φ h => by
      show upd A.H p _ b = _
      rw [upd_ne (ne_of_none h n)]; exact h
    show upd A.H p _ a = _
    rw [upd_ne ne]; exact h
theorem get_snoc {α : Type} {l : List α} {x a : α} {i : Nat} (h : (l ++ [x])[i]? = some a) : l[i]? = some a ∨ (i = l.length ∧ a = x) := by
  by_cases hi : i < l.length
  · rw [List.getElem?_append_left hi] at h; exact .inl h
  · rw [List.getElem?_append_right (by omega)] at h
    by_cases e : i = l.length
    · subst e
      rw [Nat.sub_self] at h
      exact .inr ⟨rfl, (Option.some.inj h).symm⟩
    · have z : i - l.length ≠ 0 := by omega
      obtain ⟨k, hk⟩ := Nat.exists_eq_succ_of_ne_zero z
      rw [hk] at h
      simp at h
/-- an object that was made since becomes a changeable object of the store -/
theorem Nx.own0g (N : Nx A B) (R : Rl K B S) {p : Addr} {o : MO} (n : A.H p = none) (hp : p ∉ B.ι) (ok : OR K ⟨B.G, B.H, B.ι ++ [p]⟩ p o) : Nx A ⟨B.G, B.H, B.ι ++ [p]⟩ ∧ Rl K ⟨B.G, B.H, B.ι ++ [p]⟩ (S ++ [o]) := by
  refine ⟨⟨N.gg, N.hh, N.nw, N.dm, N.pre.trans (List.prefix_append _ _), fun x hx => ?_, N.lk⟩, ⟨R.gh, ?_, ?_, fun i o' a e1 e2 => ?_⟩⟩
  · rcases List.mem_append.mp hx with hx | hx
    · exact N.fr x hx
    · rw [List.mem_singleton.mp hx]; exact .inr n
  · refine List.nodup_append.mpr ⟨R.nd, by simp, fun a ha b hb e => hp ?_⟩
    rw [List.mem_singleton.mp hb] at e
    rw [← e]; exact ha
  · show (B.ι ++ [p]).length = _
    rw [List.length_append, List.length_append, R.len]; rfl
  · have keep : ∀ {a : Addr} {o : MO}, OR K B a o → OR K ⟨B.G, B.H, B.ι ++ [p]⟩ a o := fun {a o} h => h.keep (Same.refl _) (fun g => g) (fun u h => h) (fun _ _ h => h) (List.prefix_append _ _)
    rcases get_snoc e1 with h1 | ⟨h1, rfl⟩
    · rcases get_snoc e2 with h2 | ⟨h2, _⟩
      · exact keep (R.ob i o' a h1 h2)
      · have := (List.getElem?_eq_some_iff.mp h1).1
        rw [R.len] at h2; omega
    · rcases get_snoc e2 with h2 | ⟨_, rfl⟩
      · have := (List.getElem?_eq_some_iff.mp h2).1
        rw [R.len] at this; omega
      · exact ok
/-- the same, of an object that speaks of no other -/
theorem Nx.own0 (N : Nx A B) (R : Rl K B S) {p : Addr} {o : MO} (n : A.H p = none) (hp : p ∉ B.ι) (ok : OR K B p o) : Nx A ⟨B.G, B.H, B.ι ++ [p]⟩ ∧ Rl K ⟨B.G, B.H, B.ι ++ [p]⟩ (S ++ [o]) :=
  Nx.own0g N R n hp (ok.keep (Same.refl _) (fun g => g) (fun u h => h) (fun _ _ h => h) (List.prefix_append _ _))
/-- a new changeable object -/
theorem Nx.own (R : Rl K A S) {p : Addr} {u : HO} {o : MO} (n : A.H p = none) (ok : OR K ⟨A.G, upd A.H p u, A.ι⟩ p o) : Nx A ⟨A.G, upd A.H p u, A.ι ++ [p]⟩ ∧ Rl K ⟨A.G, upd A.H p u, A.ι ++ [p]⟩ (S ++ [o]) := by
  obtain ⟨N, R'⟩ := Nx.junk R (o := u) n
  exact Nx.own0 N R' n (R.new n) ok
theorem RW.last {p : Addr} {S : List MO} (h : B.ι.length = S.length) : RW K ⟨B.G, B.H, B.ι ++ [p]⟩ (.ref p) (.r S.length) := ⟨p, by
  show (B.ι ++ [p])[S.length]? = _
  rw [← h, List.getElem?_append_right (Nat.le_refl _), Nat.sub_self]; rfl, rfl⟩
/-- an object that was made since becomes data -/
theorem Nx.fix (N : Nx A B) (R : Rl K B S) {p : Addr} {o : HO} (n : A.H p = none) (hp : p ∉ B.ι) (g : B.G p = none) (h : B.H p = some o) : Nx A ⟨upd B.G p o, B.H, B.ι⟩ ∧ Rl K ⟨upd B.G p o, B.H, B.ι⟩ S := by
  have gg : Same B.G (upd B.G p o) := fun b u e => by rw [upd_ne (ne_of_none e g)]; exact e
  refine ⟨⟨N.gg.trans gg, N.hh, fun b hb g' h' => ?_, N.dm, N.pre, N.fr, N.lk⟩, ⟨fun b u e => ?_, R.nd, R.len, fun i o' a e1 e2 => ?_⟩⟩
  · show upd B.G p o b = _
    rw [upd_ne (fun z => h' (by rw [z]; exact n))]; exact N.nw b hb g' h'
  · by_cases z : b = p
    · subst z
      have e' : upd B.G b o b = some u := e
      rw [upd_same] at e'
      cases e'
      exact h
    · have e' : upd B.G p o b = some u := e
      rw [upd_ne z] at e'; exact R.gh b u e'
  · refine (R.ob i o' a e1 e2).keep gg (fun g2 => ?_) (fun u h2 => h2) (fun _ _ h => h)
    show upd B.G p _ a = _
    rw [upd_ne (fun z => hp (by rw [← z]; exact List.mem_of_getElem? e2))]; exact g2
theorem nodup_at {α : Type} {l : List α} (nd : l.Nodup) {i j : Nat} {a : α} (h1 : l[i]? = some a) (h2 : l[j]? = some a) : i = j := by
  obtain ⟨hi, e1⟩ := List.getElem?_eq_some_iff.mp h1
  obtain ⟨hj, e2⟩ := List.getElem?_eq_some_iff.mp h2
  have pw := List.pairwise_iff_getElem.mp nd
  rcases Nat.lt_trichotomy i j with h | h | h
  · exact absurd (e1.trans e2.symm) (pw i j hi hj h)
  · exact h
  · exact absurd (e2.trans e1.symm) (pw j i hj hi h)
/-- a changeable object is changed -/
theorem Nx.wr (R : Rl K A S) {i : Nat} {a : Addr} {u : HO} {o : MO} (ha : A.ι[i]? = some a) (g : A.G a = none) (ok : OR K ⟨A.G, upd A.H a u, A.ι⟩ a o) (hz : nfz (A.H a) = true) : Nx A ⟨A.G, upd A.H a u, A.ι⟩ ∧ Rl K ⟨A.G, upd A.H a u, A.ι⟩ (S.set i o) := by
  have mem : a ∈ A.ι := List.mem_of_getElem? ha
  refine ⟨⟨Same.refl _, fun b u' hb e => ?_, fun b hb g h => g, fun b h z => h (upd_none z), List.prefix_rfl, fun _ h => .inl h, fun b od ks e => by
    show upd A.H a u b = _
    rw [upd_ne (fun z => by rw [z] at e; rw [e] at hz; cases hz)]; exact e⟩, ⟨fun b u' e => ?_, R.nd, by rw [List.length_set]; exact R.len, fun j o' b e1 e2 => ?_⟩⟩
  · show upd A.H a u b = _
    rw [upd_ne (fun z => hb (by rw [z]; exact mem))]; exact e
  · show upd A.H a u b = _
    rw [upd_ne (ne_of_none e g)]; exact R.gh b u' e
  · by_cases hj : i = j
    · subst hj
      have hi : i < S.length := by have := (List.getElem?_eq_some_iff.mp e1).1; rwa [List.length_set] at this
      rw [List.getElem?_set_self hi] at e1
      cases e1
      have e2' : A.ι[i]? = some b := e2
      rw [ha] at e2'
      cases e2'
      exact ok
    · rw [List.getElem?_set_ne hj] at e1
      have ne : b ≠ a := fun z => hj (nodup_at R.nd ha (by rw [← z]; exact e2))
      refine (R.ob j o' b e1 e2).keep (Same.refl _) (fun g => g) (fun u' h => ?_) fun b φ h => by
        show upd A.H a u b = _
        rw [upd_ne (fun z => by rw [z] at h; rw [h] at hz; cases hz)]; exact h
      show upd A.H a u b = _
      rw [upd_ne ne]; exact h
/-- a changeable list becomes data -/
theorem Nx.frz (R : Rl K A S) {i : Nat} {a : Addr} {u : HO} (ha : A.ι[i]? = some a) (g : A.G a = none) (h : A.H a = some u) : Nx A ⟨upd A.G a u, A.H, A.ι⟩ ∧ Rl K ⟨upd A.G a u, A.H, A.ι⟩ (S.set i .gone) := by
  have mem : a ∈ A.ι := List.mem_of_getElem? ha
  have gg : Same A.G (upd A.G a u) := fun b v e => by rw [upd_ne (ne_of_none e g)]; exact e
  refine ⟨⟨gg, fun b u' hb e => e, fun b hb g' h' => ?_, fun b h => h, List.prefix_rfl, fun _ h => .inl h, fun _ _ _ h => h⟩, ⟨fun b u' e => ?_, R.nd, by rw [List.length_set]; exact R.len, fun j o' b e1 e2 => ?_⟩⟩
  · show upd A.G a u b = _
    rw [upd_ne (fun z => hb (by rw [z]; exact mem))]; exact g'
  · by_cases z : b = a
    · subst z
      have e' : upd A.G b u b = some u' := e
      rw [upd_same] at e'
      cases e'
      exact h
    · have e' : upd A.G a u b = some u' := e
      rw [upd_ne z] at e'; exact R.gh b u' e'
  · by_cases hj : i = j
    · subst hj
      have hi : i < S.length := by have := (List.getElem?_eq_some_iff.mp e1).1; rwa [List.length_set] at this
      rw [List.getElem?_set_self hi] at e1
      cases e1
      have e2' : A.ι[i]? = some b := e2
      rw [ha] at e2'
      cases e2'
      show A.H a ≠ none
      rw [h]; exact fun z => nomatch z
    · rw [List.getElem?_set_ne hj] at e1
      have ne : b ≠ a := fun z => hj (nodup_at R.nd ha (by rw [← z]; exact e2))
      refine (R.ob j o' b e1 e2).keep gg (fun g2 => ?_) (fun u' h => h) (fun _ _ h => h)
      show upd A.G a u b = _
      rw [upd_ne ne]; exact g2
theorem rw_cut {v : V} {j : Nat} (pre : A.ι <+: B.ι) (hj : j < A.ι.length) (r : RW K B v (.r j)) : RW K ⟨B.G, B.H, A.ι⟩ v (.r j) := by
  obtain ⟨a, h1, h2⟩ := r
  refine ⟨a, ?_, h2⟩
  show A.ι[j]? = some a
  obtain ⟨t, ht⟩ := pre
  rw [← ht, List.getElem?_append_left hj] at h1
  exact h1
theorem RcA.cut (pre : A.ι <+: B.ι) {ks : List (Key × V)} {kvs : List (Str × W3)} (h : RcA K B ks kvs) : (∀ s j, (s, W3.r j) ∈ kvs → j < A.ι.length) → RcA K ⟨B.G, B.H, A.ι⟩ ks kvs := by
  induction h with
  | nil => exact fun _ => .nil
  | @cons s v w ks kvs hw _ ih =>
    intro hj
    refine .cons ?_ (ih fun s j h => hj s j (List.mem_cons_of_mem _ h))
    cases w with
    | r j => exact rw_cut pre (hj s j List.mem_cons_self) hw
    | d x => exact hw
    | sc x => exact hw
    | ty x => exact hw
theorem RWs.cut (pre : A.ι <+: B.ι) {vs : List V} {ws : List W3} (h : RWs K B vs ws) : (∀ j, W3.r j ∈ ws → j < A.ι.length) → RWs K ⟨B.G, B.H, A.ι⟩ vs ws := by
  induction h with
  | nil => exact fun _ => .nil
  | @cons v w vs ws hw _ ih =>
    intro hj
    refine .cons ?_ (ih fun j h => hj j (List.mem_cons_of_mem _ h))
    cases w with
    | r j => exact rw_cut pre (hj j List.mem_cons_self) hw
    | d x => exact hw
    | sc x => exact hw
    | ty x => exact hw
theorem NdA.cut (pre : A.ι <+: B.ι) {ks : List (Key × V)} {kvs : List (Key × W3)} (h : NdA K B ks kvs) : (∀ k j, (k, W3.r j) ∈ kvs → j < A.ι.length) → NdA K ⟨B.G, B.H, A.ι⟩ ks kvs := by
  induction h with
  | nil => exact fun _ => .nil
  | @cons k v w ks kvs hw _ ih =>
    intro hj
    refine .cons ?_ (ih fun k j h => hj k j (List.mem_cons_of_mem _ h))
    cases w with
    | r j => exact rw_cut pre (hj k j List.mem_cons_self) hw
    | d x => exact hw
    | sc x => exact hw
    | ty x => exact hw
theorem FsA.cut (pre : A.ι <+: B.ι) {ks : List (Str × V)} {kvs : List (Str × W3)} (h : FsA K B ks kvs) : (∀ k j, (k, W3.r j) ∈ kvs → j < A.ι.length) → FsA K ⟨B.G, B.H, A.ι⟩ ks kvs := by
  induction h with
  | nil => exact fun _ => .nil
  | @cons k v w ks kvs hw _ ih =>
    intro hj
    refine .cons ?_ (ih fun k j h => hj k j (List.mem_cons_of_mem _ h))
    cases w with
    | r j => exact rw_cut pre (hj k j List.mem_cons_self) hw
    | d x => exact hw
    | sc x => exact hw
    | ty x => exact hw
/-- it speaks of no other object -/
def MO.flat : MO → Bool
  | .rcd _ => false
  | .nls _ => false
  | .ndc _ => false
  | .ins _ _ => false
  | _ => true
/-- an object that speaks of no other, in a shorter list of places -/
theorem OR.flat {ι' : List Addr} {a : Addr} {o : MO} (hf : o.flat = true) (h : OR K B a o) : OR K ⟨B.G, B.H, ι'⟩ a o := by
  cases o with
  | rcd kvs => cases hf
  | nls kvs => cases hf
  | ndc kvs => cases hf
  | ins C kvs => cases hf
  | lst _ => exact h
  | dic _ => exact h
  | ldic _ => exact h
  | tab _ _ => exact h
  | gone => exact h
theorem OR.cut (pre : A.ι <+: B.ι) (nd : B.ι.Nodup) {i : Nat} {a : Addr} {o : MO} (ha : A.ι[i]? = some a) (hc : o.inn A.ι.length) (h : OR K B a o) : OR K ⟨B.G, B.H, A.ι⟩ a o := by
  cases o with
  | nls ws => obtain ⟨g, vs, h1, h2⟩ := h; exact ⟨g, vs, h1, h2.cut pre hc⟩
  | ndc ws => obtain ⟨g, vs, h1, h2⟩ := h; exact ⟨g, vs, h1, h2.cut pre hc⟩
  | ins n ws => obtain ⟨g, C, dx, vs, h0, h1, h2⟩ := h; exact ⟨g, C, dx, vs, h0, h1, h2.cut pre hc⟩
  | rcd kvs =>
    obtain ⟨g, ⟨j, h1, h2⟩, ks, h3, h4⟩ := h
    have e : j = i := nodup_at nd h1 (ix_pre pre ha)
    subst e
    have hl := (List.getElem?_eq_some_iff.mp ha).1
    exact ⟨g, ⟨j, ha, h2⟩, ks, h3, h4.cut pre fun s k hk => Nat.lt_trans (h2 s k hk) hl⟩
  | lst _ => exact h
  | dic _ => exact h
  | ldic _ => exact h
  | tab _ _ => exact h
  | gone => exact h
/-- the store of the caller, behind the call -/
theorem Nx.cut (N : Nx A B) (R : Rl K B S) (hc : ∀ (i : Nat) (o : MO), i < A.ι.length → S[i]? = some o → o.inn A.ι.length) : Nx A ⟨B.G, B.H, A.ι⟩ ∧ Rl K ⟨B.G, B.H, A.ι⟩ (S.take A.ι.length) := by
  have pl := N.pre.length_le
  refine ⟨⟨N.gg, N.hh, N.nw, N.dm, List.prefix_rfl, fun _ h => .inl h, N.lk⟩, ⟨R.gh, R.nd.sublist N.pre.sublist, ?_, fun i o a e1 e2 => ?_⟩⟩
  · show A.ι.length = _
    rw [List.length_take, ← R.len]; omega
  · have hi : i < A.ι.length := (List.getElem?_eq_some_iff.mp e2).1
    rw [List.getElem?_take_of_lt hi] at e1
    exact (R.ob i o a e1 (ix_pre N.pre e2)).cut N.pre R.nd e2 (hc i o hi e1)
end
end EA
namespace EA
open PySem PySem.Spec PyProof.Rows L2
/-! ### the functions that a text's parts are -/
abbrev FE := Sl → List MO → Option (W3 × List MO)
abbrev FT := Sl → List MO → Option (Bool × List MO)
abbrev FA := Sl → List MO → Option (List W3 × List MO)
/-- a new list -/
abbrev FN := Sl → List MO → Option (List PyData × List MO)
abbrev FO := Sl → List MO → Option (Option Int × List MO)
abbrev FG := W3 → Sl → List MO → Option (Sl × List MO)
inductive Out where
  | nx (sl : Sl) (S : List MO)
  | rt (w : W3) (S : List MO)
  | bk (sl : Sl) (S : List MO)
  | ct (sl : Sl) (S : List MO)
abbrev FS := Sl → List MO → Option Out
abbrev F3 := List W3 → List MO → Option (W3 × List MO)
/-- what a loop walks: the items, and what must stay true of the store -/
structure It3 where
  ws : List W3
  ok : List MO → Bool
abbrev FI := Sl → List MO → Option (It3 × List MO)
section
variable {K : PySem.W.Frag} {A B : Wd}
theorem RWs.mono (n : Nx A B) {vs : List V} {ws : List W3} (h : RWs K A vs ws) : RWs K B vs ws := by
  induction h with
  | nil => exact .nil
  | cons h _ ih => exact .cons (h.mono n) ih
theorem RWs.len {vs : List V} {ws : List W3} (h : RWs K A vs ws) : vs.length = ws.length := by
  induction h with
  | nil => rfl
  | cons h _ ih => rw [List.length_cons, List.length_cons, ih]
theorem RWs.app {vs vs' : List V} {ws ws' : List W3} (h : RWs K A vs ws) (h' : RWs K A vs' ws') : RWs K A (vs ++ vs') (ws ++ ws') := by
  induction h with
  | nil => exact h'
  | cons h _ ih => exact .cons h ih
theorem RWs.of : ∀ {vs : List V} {ds : List PyData}, DaA K A.G vs ds → RWs K A vs (ds.map .d)
  | _, _, .nil => .nil
  | _, _, .cons h t => .cons h (RWs.of t)
end
def teO (K : PySem.W.Frag) (f : FE) : TE := fun σ H Q => ∃ (A : Wd) (S : List MO) (sl : Sl) (w : W3) (S' : List MO), A.H = H ∧ Rl K A S ∧ SR3 K A σ sl ∧ f sl S = some (w, S') ∧ ∀ B v, Nx A B → Rl K B S' → RW K B v w → Q v B.H
def ttO (K : PySem.W.Frag) (f : FT) : TT := fun σ H Q => ∃ (A : Wd) (S : List MO) (sl : Sl) (w : Bool) (S' : List MO), A.H = H ∧ Rl K A S ∧ SR3 K A σ sl ∧ f sl S = some (w, S') ∧ ∀ B, Nx A B → Rl K B S' → Q w B.H
def taO (K : PySem.W.Frag) (f : FA) : TA := fun σ H Q => ∃ (A : Wd) (S : List MO) (sl : Sl) (w : List W3) (S' : List MO), A.H = H ∧ Rl K A S ∧ SR3 K A σ sl ∧ f sl S = some (w, S') ∧ ∀ B v, Nx A B → Rl K B S' → RWs K B v w → Q v B.H
def tnO (K : PySem.W.Frag) (f : FN) : TE := fun σ H Q => ∃ (A : Wd) (S : List MO) (sl : Sl) (w : List PyData) (S' : List MO), A.H = H ∧ Rl K A S ∧ SR3 K A σ sl ∧ f sl S = some (w, S') ∧
  ∀ B vs p, Nx A B → Rl K B S' → A.H p = none → p ∉ B.ι → B.G p = none → B.H p = some (.lst vs) → DaA K B.G vs w → Q (.ref p) B.H
def toO (K : PySem.W.Frag) (f : FO) : TO := fun σ H Q => ∃ (A : Wd) (S : List MO) (sl : Sl) (w : Option Int) (S' : List MO), A.H = H ∧ Rl K A S ∧ SR3 K A σ sl ∧ f sl S = some (w, S') ∧ ∀ B, Nx A B → Rl K B S' → Q w B.H
def tgO (K : PySem.W.Frag) (vs : List Nat) (f : FG) : TG := fun v σ H Q => ∃ (A : Wd) (S : List MO) (sl : Sl) (w : W3) (sl' : Sl) (S' : List MO), A.H = H ∧ Rl K A S ∧ SR3 K A σ sl ∧ RW K A v w ∧ f w sl S = some (sl', S') ∧
  ∀ B σ', Nx A B → Rl K B S' → SR3 K B σ' sl' → (σ'.length = σ.length ∧ ∀ j, j ∉ vs → σ'[j]? = σ[j]?) → Q σ' B.H
def EndsOk (K : PySem.W.Frag) (A : Wd) (D : Ends) : Out → Prop
  | .nx sl S => ∀ B σ', Nx A B → Rl K B S → SR3 K B σ' sl → D.nx σ' B.H
  | .rt w S => ∀ B v, Nx A B → Rl K B S → RW K B v w → D.rt v B.H
  | .bk sl S => ∀ B σ', Nx A B → Rl K B S → SR3 K B σ' sl → D.bk σ' B.H
  | .ct sl S => ∀ B σ', Nx A B → Rl K B S → SR3 K B σ' sl → D.ct σ' B.H
def tsO (K : PySem.W.Frag) (f : FS) : TS := fun D σ H => ∃ (A : Wd) (S : List MO) (sl : Sl) (o : Out), A.H = H ∧ Rl K A S ∧ SR3 K A σ sl ∧ f sl S = some o ∧ EndsOk K A D o
def ItR (K : PySem.W.Frag) (B : Wd) (J : It) (j : It3) : Prop := ∀ C S, Nw B C → Rl K C S → j.ok S = true → ∀ i,
  (∀ w, j.ws[i]? = some w → J.go i C.H ∧ ∀ v H', J.yld i C.H v H' → ∃ C', C'.H = H' ∧ Nx C C' ∧ Rl K C' S ∧ RW K C' v w) ∧ (j.ws.length ≤ i → J.stop i C.H)
def tiO (K : PySem.W.Frag) (f : FI) : TI := fun σ H R => ∃ (A : Wd) (S : List MO) (sl : Sl) (j : It3) (S' : List MO), A.H = H ∧ Rl K A S ∧ SR3 K A σ sl ∧ f sl S = some (j, S') ∧ ∀ B J, Nx A B → Rl K B S' → ItR K B J j → R J B.H
theorem EndsOk.mono {K : PySem.W.Frag} {A B : Wd} {D : Ends} (n : Nx A B) : ∀ {o : Out}, EndsOk K A D o → EndsOk K B D o
  | .nx _ _, h => fun C σ' m => h C σ' (n.trans m)
  | .rt _ _, h => fun C σ' m => h C σ' (n.trans m)
  | .bk _ _, h => fun C σ' m => h C σ' (n.trans m)
  | .ct _ _, h => fun C σ' m => h C σ' (n.trans m)
structure PE3 (K : PySem.W.Frag) (X : Cx) (e : Expr) (f : FE) : Prop where
  p : PE X e (teO K f)
structure PT3 (K : PySem.W.Frag) (X : Cx) (e : Expr) (f : FT) : Prop where
  p : PT X e (ttO K f)
structure PW3 (K : PySem.W.Frag) (X : Cx) (e : Expr) (f : FT) : Prop where
  p : PW X e (ttO K f)
structure PA3 (K : PySem.W.Frag) (X : Cx) (es : List Expr) (f : FA) : Prop where
  p : PA X es (taO K f)
  len : ∀ sl S ws S', f sl S = some (ws, S') → ws.length = es.length
structure PN3 (K : PySem.W.Frag) (X : Cx) (e : Expr) (f : FN) : Prop where
  p : PE X e (tnO K f)
structure PO3 (K : PySem.W.Frag) (X : Cx) (e : Option Expr) (f : FO) : Prop where
  p : PO X e (toO K f)
structure PG3 (K : PySem.W.Frag) (X : Cx) (e : Expr) (vs : List Nat) (f : FG) : Prop where
  p : PG X e (tgO K vs f)
structure PS3 (K : PySem.W.Frag) (X : Cx) (st : Stmt) (f : FS) : Prop where
  p : PS X st (tsO K f)
structure PSs3 (K : PySem.W.Frag) (X : Cx) (st : List Stmt) (f : FS) : Prop where
  p : PSs X st (tsO K f)
structure PI3 (K : PySem.W.Frag) (X : Cx) (tg it : Expr) (f : FI) : Prop where
  p : PI X tg it (tiO K f)
section
variable {K : PySem.W.Frag} {X : Cx} {e : Expr} {es : List Expr} {st : Stmt} {sts : List Stmt}
theorem pe_imp {t t' : TE} (h : PE X e t) (i : ∀ σ H Q, t' σ H Q → t σ H Q) : PE X e t' := ⟨fun pins s σ H Q I q => h.run pins s σ H Q I (i σ H Q q)⟩
theorem pt_imp {t t' : TT} (h : PT X e t) (i : ∀ σ H Q, t' σ H Q → t σ H Q) : PT X e t' := ⟨fun pins s σ H Q I q => h.run pins s σ H Q I (i σ H Q q)⟩
theorem pw_imp {t t' : TT} (h : PW X e t) (i : ∀ σ H Q, t' σ H Q → t σ H Q) : PW X e t' := ⟨fun wh pins s σ H Q I q => h.run wh pins s σ H Q I (i σ H Q q)⟩
theorem pa_imp {t t' : TA} (h : PA X es t) (i : ∀ σ H Q, t' σ H Q → t σ H Q) : PA X es t' := ⟨fun pos pins s σ H Q I q => h.run pos pins s σ H Q I (i σ H Q q)⟩
theorem ps_imp {t t' : TS} (h : PS X st t) (i : ∀ D σ H, t' D σ H → t D σ H) : PS X st t' := ⟨fun pins s σ H D I q => h.run pins s σ H D I (i D σ H q)⟩
theorem pss_imp {t t' : TS} (h : PSs X sts t) (i : ∀ D σ H, t' D σ H → t D σ H) : PSs X sts t' := ⟨fun pins s σ H D I q => h.run pins s σ H D I (i D σ H q)⟩
theorem pi_imp {tg : Expr} {t t' : TI} (h : PI X tg e t) (i : ∀ σ H Q, t' σ H Q → t σ H Q) : PI X tg e t' := ⟨fun pins s σ H Q I q => h.run pins s σ H Q I (i σ H Q q)⟩
end
/-! ### names, constants -/
def eVar (i : Nat) : FE := fun sl S => (sl[i]?.join).map fun w => (w, S)
def eD (x : PyData) : FE := fun _ S => some (.d x, S)
def eTy (n : String) : FE := fun _ S => some (.ty n, S)
/-- a list that is data from here on -/
def eFrz (f : FE) : FE := fun sl S => (f sl S).bind fun p => match p.1 with
  | .r i => match p.2[i]? with
    | some (.lst xs) => some (.d (.list xs), p.2.set i .gone)
    | _ => none
  | w => some (w, p.2)
section
variable {K : PySem.W.Frag} {X : Cx} {e : Expr} {es : List Expr} {pos : Pos}
/-- nothing is made -/
theorem te_c {f : FE} {v : V} {w : W3} (hf : ∀ sl S, f sl S = some (w, S)) (hr : ∀ A, RW K A v w) {σ : L2.St} {H : Hp} {Q : VK} (h : teO K f σ H Q) : tC v σ H Q := by
  obtain ⟨A, S, sl, w', S', rfl, R, s, e, q⟩ := h
  rw [hf] at e
  cases e
  exact q A v (Nx.refl A) R (hr A)
theorem e_var {i : Nat} {x : Str} (hN : X.N[i]? = some x) (hv : Vis X.env.scope x) (hd : (x == ("__debug__" : Str)) = false := by decide) (hcd : (x == ("__classdict__" : Str)) = false := by decide) : PE3 K X (.Name x pos) (eVar i) :=
  ⟨pe_imp (pe_var hN hv hd hcd) fun σ H Q h => by
    obtain ⟨A, S, sl, w, S', rfl, R, s, e, q⟩ := h
    unfold eVar at e
    cases h : sl[i]?.join with
    | none => rw [h] at e; cases e
    | some w2 =>
      rw [h] at e
      cases e
      have h2 : sl[i]? = some (some w) := by
        cases z : sl[i]? with
        | none => rw [z] at h; cases h
        | some z2 => rw [z] at h; exact congrArg some h
      obtain ⟨v, h3, h4⟩ := s.at_ i w h2
      exact ⟨v, h3, q A v (Nx.refl A) R h4⟩⟩
theorem e_int {i : Int} {j} : PE3 K X (.Constant (.int i) j pos) (eD (.int i)) := ⟨pe_imp pe_int fun σ H Q h => te_c (w := .d (.int i)) (fun _ _ => rfl) (fun A => Da.int i) h⟩
theorem e_bl {b : Bool} {j} : PE3 K X (.Constant (.bool b) j pos) (eD (.bool b)) := ⟨pe_imp pe_bl fun σ H Q h => te_c (w := .d (.bool b)) (fun _ _ => rfl) (fun A => Da.bl b) h⟩
theorem e_str {b : Str} {j} : PE3 K X (.Constant (.str b) j pos) (eD (.str b)) := ⟨pe_imp pe_str fun σ H Q h => te_c (w := .d (.str b)) (fun _ _ => rfl) (fun A => Da.str b) h⟩
theorem e_non {j} : PE3 K X (.Constant .none j pos) (eD .none) := ⟨pe_imp pe_non fun σ H Q h => te_c (w := .d .none) (fun _ _ => rfl) (fun A => Da.non) h⟩
theorem e_ty {x : Str} {n : String} (hg : Gl X x) (hm : X.mg x = none) (hv : bootBuiltins x = some (.type n)) (hn : x ≠ "__name__" := by decide) (hd : (x == ("__debug__" : Str)) = false := by decide) : PE3 K X (.Name x pos) (eTy n) :=
  ⟨pe_imp (pe_bltn (v := V.ty n) hg hm hv rfl hn hd) fun σ H Q h => te_c (w := .ty n) (fun _ _ => rfl) (fun A => (rfl : V.ty n = V.ty n)) h⟩
theorem e_frz {f : FE} (h : PE3 K X e f) : PE3 K X e (eFrz f) := ⟨pe_imp h.p fun σ H Q h => by
  obtain ⟨A, S, sl, w, S', rfl, R, s, e, q⟩ := h
  unfold eFrz at e
  obtain ⟨⟨w1, S1⟩, e1, e2⟩ := Option.bind_eq_some_iff.mp e
  refine ⟨A, S, sl, w1, S1, rfl, R, s, e1, fun B v n R' r => ?_⟩
  cases w1 with
  | d x => cases e2; exact q B v n R' r
  | sc x => cases e2; exact q B v n R' r
  | ty x => cases e2; exact q B v n R' r
  | r i =>
    dsimp only at e2
    cases o : S1[i]? with
    | none => rw [o] at e2; cases e2
    | some m =>
      rw [o] at e2
      cases m with
      | gone => cases e2
      | dic _ => cases e2
      | rcd _ => cases e2
      | nls _ => cases e2
      | ldic _ => cases e2
      | tab _ _ => cases e2
      | ins _ _ => cases e2
      | ndc _ => cases e2
      | lst xs =>
        cases e2
        obtain ⟨a, ha, rfl⟩ := r
        obtain ⟨g, vs, hh, hd⟩ := R'.ob i _ a o ha
        obtain ⟨N2, R2⟩ := Nx.frz R' ha g hh
        exact q ⟨upd B.G a (.lst vs), B.H, B.ι⟩ _ (n.trans N2) R2 (Da.lst upd_same (hd.up N2.gg))⟩
/-! ### argument lists, displays -/
def aNil : FA := fun _ S => some ([], S)
def aCons (e : FE) (r : FA) : FA := fun sl S => (e sl S).bind fun p => (r sl p.2).map fun q => (p.1 :: q.1, q.2)
theorem a_nil : PA3 K X [] aNil := ⟨pa_imp pa_nil fun σ H Q h => by
  obtain ⟨A, S, sl, w, S', rfl, R, s, e, q⟩ := h
  cases e
  exact q A [] (Nx.refl A) R .nil, fun sl S ws S' e => by cases e; rfl⟩
theorem a_cons {f : FE} {r : FA} (h : PE3 K X e f) (hr : PA3 K X es r) (hs : starEach (e :: es) X.env = (false, eval e X.env) :: starEach es X.env := by rfl) : PA3 K X (e :: es) (aCons f r) :=
  ⟨pa_imp (pa_cons h.p hr.p hs) fun σ H Q h => by
    obtain ⟨A, S, sl, w, S', rfl, R, s, e, q⟩ := h
    obtain ⟨⟨w1, S1⟩, e1, e2⟩ := Option.bind_eq_some_iff.mp e
    obtain ⟨⟨w2, S2⟩, e3, e4⟩ := Option.map_eq_some_iff.mp e2
    cases e4
    refine ⟨A, S, sl, w1, S1, rfl, R, s, e1, fun B v n R' r => ?_⟩
    exact ⟨B, S1, sl, w2, _, rfl, R', s.mono n, e3, fun C vs n2 R2 r2 => q C (v :: vs) (n.trans n2) R2 (.cons (r.mono n2) r2)⟩, fun sl S ws S' e => by
    obtain ⟨⟨w1, S1⟩, e1, e2⟩ := Option.bind_eq_some_iff.mp e
    obtain ⟨⟨w2, S2⟩, e3, e4⟩ := Option.map_eq_some_iff.mp e2
    cases e4
    rw [List.length_cons, List.length_cons, hr.len _ _ _ _ e3]⟩
/-- all are data -/
def dsOf : List W3 → Option (List PyData)
  | [] => some []
  | .d x :: r => (dsOf r).map (x :: ·)
  | _ :: _ => none
theorem dsOf_daa {A : Wd} : ∀ {ws : List W3} {vs : List V} {ds : List PyData}, RWs K A vs ws → dsOf ws = some ds → DaA K A.G vs ds
  | [], _, _, .nil, e => by cases e; exact .nil
  | .d x :: r, _, _, .cons h t, e => by
    obtain ⟨xs, e1, e2⟩ := Option.map_eq_some_iff.mp e
    cases e2
    exact .cons h (dsOf_daa t e1)
  | .r _ :: _, _, _, .cons h t, e => by cases e
  | .sc _ :: _, _, _, .cons h t, e => by cases e
  | .ty _ :: _, _, _, .cons h t, e => by cases e
def eTup (a : FA) : FE := fun sl S => (a sl S).bind fun p => (dsOf p.1).map fun ds => (.d (.tuple ds), p.2)
def nLst (a : FA) : FN := fun sl S => (a sl S).bind fun p => (dsOf p.1).map fun ds => (ds, p.2)
/-- a new list as data; as a changeable object -/
def eNd (n : FN) : FE := fun sl S => (n sl S).map fun p => (.d (.list p.1), p.2)
def eNo (n : FN) : FE := fun sl S => (n sl S).map fun p => (.r p.2.length, p.2 ++ [.lst p.1])
theorem e_tup {f : FA} {x1} (h : PA3 K X es f) (hn : es.length ≤ 1000 := by decide) : PE3 K X (.Tuple es x1 pos) (eTup f) := ⟨pe_imp (pe_tupP h.p) fun σ H Q h' => by
  obtain ⟨A, S, sl, w, S', rfl, R, s, e, q⟩ := h'
  obtain ⟨⟨w1, S1⟩, e1, e2⟩ := Option.bind_eq_some_iff.mp e
  obtain ⟨ds, e3, e4⟩ := Option.map_eq_some_iff.mp e2
  cases e4
  refine ⟨A, S, sl, w1, _, rfl, R, s, e1, fun B vs n R' r => ⟨?_, fun p o od hp => ?_⟩⟩
  · rw [r.len, h.len _ _ _ _ e1]; exact Nat.le_trans hn (by decide)
  · obtain ⟨n2, R2⟩ := Nx.dat (o := .frz o (.tup vs)) R' hp
    exact q ⟨upd B.G p (.frz o (.tup vs)), upd B.H p (.frz o (.tup vs)), B.ι⟩ _ (n.trans n2) R2 (Da.tup (.inl ⟨o, upd_same, od⟩) ((dsOf_daa r e3).up n2.gg))⟩
theorem n_lst {f : FA} (h : PA3 K X es f) (hn : es.length ≤ 1000 := by decide) : PN3 K X (.List es pos) (nLst f) := ⟨pe_imp (pe_lst h.p) fun σ H Q h' => by
  obtain ⟨A, S, sl, w, S', rfl, R, s, e, q⟩ := h'
  obtain ⟨⟨w1, S1⟩, e1, e2⟩ := Option.bind_eq_some_iff.mp e
  obtain ⟨ds, e3, e4⟩ := Option.map_eq_some_iff.mp e2
  cases e4
  refine ⟨A, S, sl, w1, _, rfl, R, s, e1, fun B vs n R' r => ⟨?_, fun p hp => ?_⟩⟩
  · rw [r.len, h.len _ _ _ _ e1]; exact Nat.le_trans hn (by decide)
  · obtain ⟨n2, R2⟩ := Nx.junk (o := .lst vs) R' hp
    refine q ⟨B.G, upd B.H p (.lst vs), B.ι⟩ vs p (n.trans n2) R2 ?_ (R'.new hp) (R'.gh.free hp) upd_same (dsOf_daa (A := B) r e3)
    cases z : A.H p with
    | none => rfl
    | some u => exact absurd hp (n.dm p (by rw [z]; exact fun k => nomatch k))⟩
theorem e_nd {f : FN} (h : PN3 K X e f) : PE3 K X e (eNd f) := ⟨pe_imp h.p fun σ H Q h' => by
  obtain ⟨A, S, sl, w, S', rfl, R, s, e, q⟩ := h'
  obtain ⟨⟨w1, S1⟩, e1, e2⟩ := Option.map_eq_some_iff.mp e
  cases e2
  refine ⟨A, S, sl, w1, _, rfl, R, s, e1, fun B vs p n R' np ni g hh hd => ?_⟩
  obtain ⟨n2, R2⟩ := Nx.fix n R' np ni g hh
  exact q ⟨upd B.G p (.lst vs), B.H, B.ι⟩ _ n2 R2 (Da.lst upd_same (hd.up (fun b u e => by
    show upd B.G p _ b = _
    rw [upd_ne (ne_of_none e g)]; exact e)))⟩
theorem e_no {f : FN} (h : PN3 K X e f) : PE3 K X e (eNo f) := ⟨pe_imp h.p fun σ H Q h' => by
  obtain ⟨A, S, sl, w, S', rfl, R, s, e, q⟩ := h'
  obtain ⟨⟨w1, S1⟩, e1, e2⟩ := Option.map_eq_some_iff.mp e
  cases e2
  refine ⟨A, S, sl, w1, _, rfl, R, s, e1, fun B vs p n R' np ni g hh hd => ?_⟩
  obtain ⟨n2, R2⟩ := Nx.own0 (o := .lst w1) n R' np ni ⟨g, vs, hh, hd⟩
  exact q ⟨B.G, B.H, B.ι ++ [p]⟩ _ n2 R2 (RW.last R'.len)⟩
end
/-! ### statements -/
def sNx : FS := fun sl S => some (.nx sl S)
def sBk : FS := fun sl S => some (.bk sl S)
def sCt : FS := fun sl S => some (.ct sl S)
def sSeq (f g : FS) : FS := fun sl S => (f sl S).bind fun o => match o with
  | .nx sl' S' => g sl' S'
  | o => some o
def sEx (f : FE) : FS := fun sl S => (f sl S).map fun p => .nx sl p.2
def sRt (f : FE) : FS := fun sl S => (f sl S).map fun p => .rt p.1 p.2
def sRtN : FS := fun sl S => some (.rt (.d .none) S)
def sIf (t : FT) (a b : FS) : FS := fun sl S => (t sl S).bind fun p => if p.1 = true then a sl p.2 else b sl p.2
def sSet (i : Nat) (f : FE) : FS := fun sl S => (f sl S).map fun p => .nx (sl.set i (some p.1)) p.2
def sAsg (f : FE) (g : FG) : FS := fun sl S => (f sl S).bind fun p => (g p.1 sl p.2).map fun q => .nx q.1 q.2
section
variable {K : PySem.W.Frag} {X : Cx} {e : Expr} {es : List Expr} {st : Stmt} {sts : List Stmt} {pos : Pos}
theorem b_nil : PSs3 K X [] sNx := ⟨pss_imp pss_nil fun D σ H h => by
  obtain ⟨A, S, sl, o, rfl, R, s, e, q⟩ := h
  cases e
  exact q A σ (Nx.refl A) R s⟩
theorem b_cons {f g : FS} (h : PS3 K X st f) (hr : PSs3 K X sts g) : PSs3 K X (st :: sts) (sSeq f g) := ⟨pss_imp (pss_cons h.p hr.p) fun D σ H h => by
  obtain ⟨A, S, sl, o, rfl, R, s, e, q⟩ := h
  obtain ⟨o1, e1, e2⟩ := Option.bind_eq_some_iff.mp e
  refine ⟨A, S, sl, o1, rfl, R, s, e1, ?_⟩
  cases o1 with
  | nx sl' S' => exact fun B σ' n R' s' => ⟨B, S', sl', o, rfl, R', s', e2, q.mono n⟩
  | rt w S' => cases e2; exact q
  | bk sl' S' => cases e2; exact q
  | ct sl' S' => cases e2; exact q⟩
theorem b_one {f : FS} (h : PS3 K X st f) : PSs3 K X [st] f := ⟨pss_one h.p⟩
theorem s_expr {f : FE} (h : PE3 K X e f) (hs : swapsWith e none pos.line X.env = pure false := by rfl) : PS3 K X (.Expr e pos) (sEx f) := ⟨ps_imp (ps_expr h.p hs) fun D σ H h => by
  obtain ⟨A, S, sl, o, rfl, R, s, e, q⟩ := h
  obtain ⟨⟨w1, S1⟩, e1, e2⟩ := Option.map_eq_some_iff.mp e
  cases e2
  exact ⟨A, S, sl, w1, S1, rfl, R, s, e1, fun B v n R' r => q B σ n R' (s.mono n)⟩⟩
theorem s_ret {f : FE} (h : PE3 K X e f) : PS3 K X (.Return (some e) pos) (sRt f) := ⟨ps_imp (ps_ret h.p) fun D σ H h => by
  obtain ⟨A, S, sl, o, rfl, R, s, e, q⟩ := h
  obtain ⟨⟨w1, S1⟩, e1, e2⟩ := Option.map_eq_some_iff.mp e
  cases e2
  exact ⟨A, S, sl, w1, S1, rfl, R, s, e1, fun B v n R' r => q B v n R' r⟩⟩
theorem s_retN : PS3 K X (.Return none pos) sRtN := ⟨ps_imp ps_retN fun D σ H h => by
  obtain ⟨A, S, sl, o, rfl, R, s, e, q⟩ := h
  cases e
  exact q A .non (Nx.refl A) R Da.non⟩
theorem s_if {t : FT} {f g : FS} {c : Expr} {a b : List Stmt} (hc : PT3 K X c t) (ha : PSs3 K X a f) (hb : PSs3 K X b g) : PS3 K X (.If c a b pos) (sIf t f g) := ⟨ps_imp (ps_if hc.p ha.p hb.p) fun D σ H h => by
  obtain ⟨A, S, sl, o, rfl, R, s, e, q⟩ := h
  obtain ⟨⟨w1, S1⟩, e1, e2⟩ := Option.bind_eq_some_iff.mp e
  refine ⟨A, S, sl, w1, S1, rfl, R, s, e1, fun B n R' => ?_⟩
  cases w1 with
  | true => exact ⟨B, S1, sl, o, rfl, R', s.mono n, e2, q.mono n⟩
  | false => exact ⟨B, S1, sl, o, rfl, R', s.mono n, e2, q.mono n⟩⟩
theorem s_set {i : Nat} {x : Str} {f : FE} {pos' : Pos} (hN : X.N.Nodup) (hi : X.N[i]? = some x) (hx : Loc X.env.scope x) (h : PE3 K X e f) (hs : swapsWith e (some (.Name x pos')) pos.line X.env = pure false := by rfl)
    (hf : X.fn x = true ∨ X.env.scope.names.lookup x = some .local := by first | exact .inl rfl | exact .inr rfl | assumption) : PS3 K X (.Assign [.Name x pos'] e pos) (sSet i f) := ⟨ps_imp (ps_set hN hi hx h.p hs hf) fun D σ H h => by
  obtain ⟨A, S, sl, o, rfl, R, s, e, q⟩ := h
  obtain ⟨⟨w1, S1⟩, e1, e2⟩ := Option.map_eq_some_iff.mp e
  cases e2
  exact ⟨A, S, sl, w1, S1, rfl, R, s, e1, fun B v n R' r => q B _ n R' ((s.mono n).set i r)⟩⟩
theorem s_asg {f : FE} {g : FG} {vs : List Nat} {tg : Expr} (h : PE3 K X e f) (hg : PG3 K X tg vs g) (hs : swapsWithSole [tg] e pos.line X.env = pure false := by rfl) (hw : swappedStores [tg] e X.env = pure none := by rfl) (h1 : (assignEach [tg] X.env).map (·.2) = [assign tg X.env] := by rfl) : PS3 K X (.Assign [tg] e pos) (sAsg f g) := ⟨ps_imp (ps_asg h.p hg.p hs hw h1) fun D σ H h => by
  obtain ⟨A, S, sl, o, rfl, R, s, e, q⟩ := h
  obtain ⟨⟨w1, S1⟩, e1, e2⟩ := Option.bind_eq_some_iff.mp e
  obtain ⟨⟨sl2, S2⟩, e3, e4⟩ := Option.map_eq_some_iff.mp e2
  cases e4
  refine ⟨A, S, sl, w1, S1, rfl, R, s, e1, fun B v n R' r => ?_⟩
  exact ⟨B, S1, sl, w1, sl2, S2, rfl, R', s.mono n, r, e3, fun C σ' n2 R2 s2 _ => q C σ' (n.trans n2) R2 s2⟩⟩
end
/-! ### targets -/
def gNm (i : Nat) : FG := fun w sl S => some (sl.set i (some w), S)
def gsNil : List PyData → Sl → List MO → Option (Sl × List MO) := fun xs sl S => match xs with
  | [] => some (sl, S)
  | _ => none
def gsCons (g : FG) (r : List PyData → Sl → List MO → Option (Sl × List MO)) : List PyData → Sl → List MO → Option (Sl × List MO) := fun xs sl S => match xs with
  | x :: xs => (g (.d x) sl S).bind fun p => r xs p.1 p.2
  | [] => none
def gTp (r : List PyData → Sl → List MO → Option (Sl × List MO)) : FG := fun w sl S => match w with
  | .d (.tuple xs) => r xs sl S
  | _ => none
def tgsO (K : PySem.W.Frag) (n : Nat) (vs : List Nat) (f : List PyData → Sl → List MO → Option (Sl × List MO)) : TGs := fun v σ H Q => ∃ (A : Wd) (S : List MO) (sl : Sl) (w : List PyData) (sl' : Sl) (S' : List MO), A.H = H ∧ Rl K A S ∧ SR3 K A σ sl ∧ DaA K A.G v w ∧ f w sl S = some (sl', S') ∧
  ∀ B σ', Nx A B → Rl K B S' → SR3 K B σ' sl' → (σ'.length = σ.length ∧ ∀ j, j ∉ vs → σ'[j]? = σ[j]?) → Q σ' B.H
structure PGs3 (K : PySem.W.Frag) (X : Cx) (es : List Expr) (n : Nat) (vs : List Nat) (f : List PyData → Sl → List MO → Option (Sl × List MO)) : Prop where
  p : PGs X es (tgsO K n vs f)
  len : ∀ xs sl S r, f xs sl S = some r → xs.length = n
section
variable {K : PySem.W.Frag} {X : Cx} {e : Expr} {es : List Expr} {pos : Pos}
theorem pg_imp {t t' : TG} (h : PG X e t) (i : ∀ v σ H Q, t' v σ H Q → t v σ H Q) : PG X e t' := ⟨fun pins s σ H v u Q I r q => h.run pins s σ H v u Q I r (i v σ H Q q)⟩
theorem pgs_imp {t t' : TGs} (h : PGs X es t) (i : ∀ v σ H Q, t' v σ H Q → t v σ H Q) : PGs X es t' := ⟨fun pins s σ H v u Q I r q => h.run pins s σ H v u Q I r (i v σ H Q q)⟩
theorem g_name {i : Nat} {x : Str} (hN : X.N.Nodup) (hi : X.N[i]? = some x) (hx : Loc X.env.scope x) (hf : X.fn x = true ∨ X.env.scope.names.lookup x = some .local := by first | exact .inl rfl | exact .inr rfl | assumption) : PG3 K X (.Name x pos) [i] (gNm i) := ⟨pg_imp (pg_name hN hi hx hf) fun v σ H Q h => by
  obtain ⟨A, S, sl, w, sl', S', rfl, R, s, r, e, q⟩ := h
  cases e
  refine q A _ (Nx.refl A) R (s.set i r) ⟨List.length_set, fun j hj => ?_⟩
  rw [List.getElem?_set_ne (fun z => hj (by simp [z]))]⟩
theorem gs_nil : PGs3 K X [] 0 [] gsNil := ⟨pgs_imp pgs_nil fun v σ H Q h => by
  obtain ⟨A, S, sl, w, sl', S', rfl, R, s, r, e, q⟩ := h
  cases w with
  | nil =>
    cases e
    cases r
    exact ⟨rfl, q A _ (Nx.refl A) R s ⟨rfl, fun _ _ => rfl⟩⟩
  | cons _ _ => (cases e), fun xs sl S r e => by
  cases xs with
  | nil => rfl
  | cons _ _ => cases e⟩
theorem gs_cons {g : FG} {r : List PyData → Sl → List MO → Option (Sl × List MO)} {n : Nat} {vs ws : List Nat} (h : PG3 K X e vs g) (hr : PGs3 K X es n ws r) (hs : (assignEach (e :: es) X.env).map (·.2) = assign e X.env :: (assignEach es X.env).map (·.2) := by rfl) : PGs3 K X (e :: es) (n + 1) (vs ++ ws) (gsCons g r) := ⟨pgs_imp (pgs_cons h.p hr.p hs) fun v σ H Q h => by
  obtain ⟨A, S, sl, w, sl', S', rfl, R, s, r, e, q⟩ := h
  cases w with
  | nil => cases e
  | cons x xs =>
    cases r
    rename_i u us hu hus
    obtain ⟨⟨sl1, S1⟩, e1, e2⟩ := Option.bind_eq_some_iff.mp e
    refine ⟨u, us, rfl, A, S, sl, .d x, sl1, S1, rfl, R, s, hu, e1, fun B σ' n1 R' s' k => ?_⟩
    exact ⟨B, S1, sl1, xs, sl', S', rfl, R', s', hus.up n1.gg, e2, fun C σ2 n2 R2 s2 k2 => q C σ2 (n1.trans n2) R2 s2 ⟨k2.1.trans k.1, fun j hj => (k2.2 j fun z => hj (List.mem_append_right _ z)).trans (k.2 j fun z => hj (List.mem_append_left _ z))⟩⟩, fun xs sl S r e => by
  cases xs with
  | nil => cases e
  | cons x xs =>
    obtain ⟨⟨sl1, S1⟩, e1, e2⟩ := Option.bind_eq_some_iff.mp e
    rw [List.length_cons, hr.len _ _ _ _ e2]⟩
theorem g_tup {r : List PyData → Sl → List MO → Option (Sl × List MO)} {n k : Nat} {vs : List Nat} (hK : X.K = K) (hc : X.calm = true) (h : PGs3 K X es n vs r)
    (hn : (assignEach es X.env).length = n := by rfl) (hst : (assignEach es X.env).findIdx? (·.1) = none := by rfl) : PG3 K X (.Tuple es k pos) vs (gTp r) := ⟨pg_imp (pg_tup hc h.p hn hst) fun v σ H Q h' => by
  obtain ⟨A, S, sl, w, sl', S', rfl, R, s, r, e, q⟩ := h'
  cases w with
  | r _ => cases e
  | sc _ => cases e
  | ty _ => cases e
  | d x =>
    cases x with
    | tuple xs =>
      obtain ⟨a, us, rfl, ha, hd⟩ := Da.tup_inv r
      subst hK
      refine ⟨a, us, rfl, sqT_up R.gh ha, by rw [hd.len]; exact h.len _ _ _ _ e, ?_⟩
      exact ⟨A, S, sl, xs, sl', S', rfl, R, s, hd, e, q⟩
    | _ => cases e⟩
end
end EA
namespace EA
open PySem PySem.Spec PyProof.Rows L2
/-! ### for -/
def fLoop (ok : List MO → Bool) (g : FG) (b : FS) : List W3 → Sl → List MO → Option Out
  | [], sl, S => if ok S = true then some (.nx sl S) else none
  | w :: ws, sl, S => if ok S = true then (g w sl S).bind fun p => (b p.1 p.2).bind fun o => match o with
      | .nx sl' S' => fLoop ok g b ws sl' S'
      | .ct sl' S' => fLoop ok g b ws sl' S'
      | .bk sl' S' => some (.nx sl' S')
      | .rt w S' => some (.rt w S') else none
def sFor (it : FI) (g : FG) (b : FS) : FS := fun sl S => (it sl S).bind fun p => fLoop p.1.ok g b p.1.ws sl p.2
theorem fLoop_ok {ok : List MO → Bool} {g : FG} {b : FS} {ws : List W3} {sl : Sl} {S : List MO} {o : Out} (h : fLoop ok g b ws sl S = some o) : ok S = true := by
  cases ws with
  | nil =>
    by_cases z : ok S = true
    · exact z
    · rw [fLoop, if_neg z] at h; cases h
  | cons w ws =>
    by_cases z : ok S = true
    · exact z
    · rw [fLoop, if_neg z] at h; cases h
section
variable {K : PySem.W.Frag} {X : Cx} {e : Expr} {es : List Expr} {st : Stmt} {sts : List Stmt} {pos : Pos}
theorem s_for {iter tg : Expr} {body : List Stmt} {it : FI} {vs : List Nat} {g : FG} {b : FS} (hp : PassesOwn (model X.prog X.w) X.A X.env X.xe) (hc : X.calm = true) (hi : PI3 K X tg iter it) (hg : PG3 K X tg vs g) (hb : PSs3 K X body b)
    (hs : ∀ x, foldedSetIterable iter X.env x = pure x := by intro _; rfl) : PS3 K X (.For tg iter body [] pos) (sFor it g b) := ⟨ps_imp (ps_for hp hc hi.p hg.p hb.p hs) fun D σ H h => by
  obtain ⟨A, S, sl, o, rfl, R, s, e, q⟩ := h
  obtain ⟨⟨j, S1⟩, e1, e2⟩ := Option.bind_eq_some_iff.mp e
  refine ⟨A, S, sl, j, S1, rfl, R, s, e1, fun B J n R' IR => ?_⟩
  refine ⟨fun i m σ H => m = j.ws.length - i ∧ i ≤ j.ws.length ∧ ∃ (C : Wd) (S : List MO) (sl : Sl) (o : Out), C.H = H ∧ Nx B C ∧ Rl K C S ∧ SR3 K C σ sl ∧ fLoop j.ok g b (j.ws.drop i) sl S = some o ∧ EndsOk K C D o,
    ⟨_, rfl, Nat.zero_le _, B, S1, sl, o, rfl, Nx.refl B, R', s.mono n, by rw [List.drop_zero]; exact e2, q.mono n⟩, ?_⟩
  rintro i m σ1 H1 ⟨rfl, hi, C, S2, sl2, o2, rfl, n2, R2, s2, e3, q2⟩
  have hok := fLoop_ok e3
  have ir := IR C S2 n2.toW R2 hok i
  by_cases hlt : i < j.ws.length
  · have hw : j.ws[i]? = some j.ws[i] := List.getElem?_eq_getElem hlt
    obtain ⟨go, step⟩ := ir.1 _ hw
    have hd : j.ws.drop i = j.ws[i] :: j.ws.drop (i + 1) := List.drop_eq_getElem_cons hlt
    rw [hd, fLoop, if_pos hok] at e3
    obtain ⟨⟨sl3, S3⟩, e4, e5⟩ := Option.bind_eq_some_iff.mp e3
    obtain ⟨o3, e6, e7⟩ := Option.bind_eq_some_iff.mp e5
    refine .inr ⟨go, fun σ' H' => ∃ (C : Wd) (S : List MO) (sl : Sl) (o : Out), C.H = H' ∧ Nx B C ∧ Rl K C S ∧ SR3 K C σ' sl ∧ fLoop j.ok g b (j.ws.drop (i + 1)) sl S = some o ∧ EndsOk K C D o, fun σ' H' w => ⟨j.ws.length - (i + 1), by omega, rfl, hlt, w⟩, fun v H' y => ?_⟩
    obtain ⟨C', rfl, n3, R3, r3⟩ := step v H' y
    refine ⟨C', S2, sl2, j.ws[i], sl3, S3, rfl, R3, s2.mono n3, r3, e4, fun E σ' n4 R4 s4 _ => ?_⟩
    have nE : Nx C E := n3.trans n4
    refine ⟨E, S3, sl3, o3, rfl, R4, s4, e6, ?_⟩
    cases o3 with
    | nx sl' S' => exact fun F σ2 n5 R5 s5 => ⟨F, S', sl', o2, rfl, n2.trans (nE.trans n5), R5, s5, e7, q2.mono (nE.trans n5)⟩
    | ct sl' S' => exact fun F σ2 n5 R5 s5 => ⟨F, S', sl', o2, rfl, n2.trans (nE.trans n5), R5, s5, e7, q2.mono (nE.trans n5)⟩
    | bk sl' S' => cases e7; exact fun F σ2 n5 R5 s5 => q2 F σ2 (nE.trans n5) R5 s5
    | rt w S' => cases e7; exact fun F v n5 R5 s5 => q2 F v (nE.trans n5) R5 s5
  · have hz : i = j.ws.length := by omega
    subst hz
    rw [List.drop_length, fLoop, if_pos hok] at e3
    cases e3
    exact .inl ⟨ir.2 (Nat.le_refl _), q2 C σ1 (Nx.refl C) R2 s2⟩⟩
/-! ### while -/
def wRun (t : FT) (b : FS) : Nat → Sl → List MO → Option Out
  | 0, _, _ => none
  | n + 1, sl, S => (t sl S).bind fun p => if p.1 = true then (b sl p.2).bind fun o => match o with
      | .nx sl' S' => wRun t b n sl' S'
      | .ct sl' S' => wRun t b n sl' S'
      | .bk sl' S' => some (.nx sl' S')
      | .rt w S' => some (.rt w S') else some (.nx sl p.2)
open Classical in
noncomputable def sWh (t : FT) (b : FS) : FS := fun sl S => if h : ∃ o, ∃ n, wRun t b n sl S = some o then some (Classical.choose h) else none
theorem wRun_up {t : FT} {b : FS} : ∀ {n : Nat} {sl : Sl} {S : List MO} {o : Out}, wRun t b n sl S = some o → ∀ m, n ≤ m → wRun t b m sl S = some o
  | 0, _, _, _, h, _, _ => by cases h
  | n + 1, sl, S, o, h, m, hm => by
    obtain ⟨m, rfl⟩ : ∃ k, m = k + 1 := ⟨m - 1, by omega⟩
    rw [wRun] at h ⊢
    obtain ⟨p, e1, e2⟩ := Option.bind_eq_some_iff.mp h
    rw [e1]
    show (if p.1 = true then _ else _) = _
    by_cases hp : p.1 = true
    · rw [if_pos hp] at e2 ⊢
      obtain ⟨o1, e3, e4⟩ := Option.bind_eq_some_iff.mp e2
      rw [e3]
      cases o1 with
      | nx sl' S' => exact wRun_up e4 m (by omega)
      | ct sl' S' => exact wRun_up e4 m (by omega)
      | bk sl' S' => exact e4
      | rt w S' => exact e4
    · rw [if_neg hp] at e2 ⊢
      exact e2
theorem sWh_of {t : FT} {b : FS} {n : Nat} {sl : Sl} {S : List MO} {o : Out} (h : wRun t b n sl S = some o) : sWh t b sl S = some o := by
  have ex : ∃ o, ∃ n, wRun t b n sl S = some o := ⟨o, n, h⟩
  unfold sWh
  rw [dif_pos ex]
  obtain ⟨m, hm⟩ := Classical.choose_spec ex
  have a := wRun_up h (n + m) (by omega)
  have b := wRun_up hm (n + m) (by omega)
  exact b.symm.trans a
theorem sWh_inv {t : FT} {b : FS} {sl : Sl} {S : List MO} {o : Out} (h : sWh t b sl S = some o) : ∃ n, wRun t b n sl S = some o := by
  unfold sWh at h
  by_cases ex : ∃ o, ∃ n, wRun t b n sl S = some o
  · rw [dif_pos ex] at h
    obtain ⟨m, hm⟩ := Classical.choose_spec ex
    exact ⟨m, hm.trans h⟩
  · rw [dif_neg ex] at h
    cases h
theorem s_while {c : Expr} {body : List Stmt} {t : FT} {b : FS} (hp : PassesOwn (model X.prog X.w) X.A X.env X.xe) (hc : PT3 K X c t) (hb : PSs3 K X body b) : PS3 K X (.While c body [] pos) (sWh t b) := ⟨ps_imp (ps_while hp hc.p hb.p) fun D σ H h => by
  obtain ⟨A, S, sl, o, rfl, R, s, e, q⟩ := h
  obtain ⟨n0, e0⟩ := sWh_inv e
  refine ⟨fun n σ H => ∃ (C : Wd) (S : List MO) (sl : Sl) (o : Out), C.H = H ∧ Rl K C S ∧ SR3 K C σ sl ∧ wRun t b n sl S = some o ∧ EndsOk K C D o, ⟨n0, A, S, sl, o, rfl, R, s, e0, q⟩, ?_⟩
  rintro n σ1 H1 ⟨C, S1, sl1, o1, rfl, R1, s1, e1, q1⟩
  cases n with
  | zero => cases e1
  | succ n =>
    rw [wRun] at e1
    obtain ⟨⟨b1, S2⟩, e2, e3⟩ := Option.bind_eq_some_iff.mp e1
    refine ⟨C, S1, sl1, b1, S2, rfl, R1, s1, e2, fun E n1 R2 => ?_⟩
    cases b1 with
    | false => cases e3; exact q1 E σ1 n1 R2 (s1.mono n1)
    | true =>
      obtain ⟨o2, e4, e5⟩ := Option.bind_eq_some_iff.mp e3
      refine ⟨fun σ' H' => ∃ (C : Wd) (S : List MO) (sl : Sl) (o : Out), C.H = H' ∧ Rl K C S ∧ SR3 K C σ' sl ∧ wRun t b n sl S = some o ∧ EndsOk K C D o, fun σ' H' w => ⟨n, Nat.lt_succ_self n, w⟩, E, S2, sl1, o2, rfl, R2, s1.mono n1, e4, ?_⟩
      cases o2 with
      | nx sl' S' => exact fun F σ2 n5 R5 s5 => ⟨F, S', sl', o1, rfl, R5, s5, e5, q1.mono (n1.trans n5)⟩
      | ct sl' S' => exact fun F σ2 n5 R5 s5 => ⟨F, S', sl', o1, rfl, R5, s5, e5, q1.mono (n1.trans n5)⟩
      | bk sl' S' => cases e5; exact fun F σ2 n5 R5 s5 => q1 F σ2 (n1.trans n5) R5 s5
      | rt w S' => cases e5; exact fun F v n5 R5 s5 => q1 F v (n1.trans n5) R5 s5⟩
end
/-! ### [e for x in xs if ..] -/
def wipe3 (sl : Sl) : List Nat → Sl
  | [] => sl
  | v :: vs => (wipe3 sl vs).set v none
def cLoop (ok : List MO → Bool) (g : FG) (t : FT) (e : FE) (sl : Sl) : List W3 → List MO → Option (List PyData × List MO)
  | [], S => if ok S = true then some ([], S) else none
  | w :: ws, S => if ok S = true then (g w sl S).bind fun p => (t p.1 p.2).bind fun b => if b.1 = true then (e p.1 b.2).bind fun y => match y.1 with
        | .d x => (cLoop ok g t e sl ws y.2).map fun z => (x :: z.1, z.2)
        | _ => none
      else cLoop ok g t e sl ws b.2
    else none
/-- own: the comprehension's names' slots -/
def nLc (own : List Nat) (it : FI) (g : FG) (t : FT) (e : FE) : FN := fun sl S => (it sl S).bind fun p => if p.1.ws.length ≤ 100000 then cLoop p.1.ok g t e (wipe3 sl own) p.1.ws p.2 else none
def tYes3 : FT := fun _ S => some (true, S)
theorem cLoop_ok {ok : List MO → Bool} {g : FG} {t : FT} {e : FE} {sl : Sl} {ws : List W3} {S : List MO} {o : List PyData × List MO} (h : cLoop ok g t e sl ws S = some o) : ok S = true := by
  cases ws with
  | nil =>
    by_cases z : ok S = true
    · exact z
    · rw [cLoop, if_neg z] at h; cases h
  | cons w ws =>
    by_cases z : ok S = true
    · exact z
    · rw [cLoop, if_neg z] at h; cases h
theorem SR3.weak {K : PySem.W.Frag} {A : Wd} {σ : L2.St} {sl : Sl} (h : SR3 K A σ sl) : ∀ vs : List Nat, SR3 K A (wipe σ vs) (wipe3 sl vs)
  | [] => h
  | v :: vs => by
    have ih := h.weak vs
    refine ⟨?_, fun j u e => ?_⟩
    · show ((wipe σ vs).set v none).length = ((wipe3 sl vs).set v none).length
      rw [List.length_set, List.length_set, ih.len]
    · have e' : ((wipe3 sl vs).set v none)[j]? = some (some u) := e
      show ∃ x, ((wipe σ vs).set v none)[j]? = some (some x) ∧ _
      by_cases hj : v = j
      · subst hj
        have hi : v < (wipe3 sl vs).length := by have := (List.getElem?_eq_some_iff.mp e').1; rwa [List.length_set] at this
        rw [List.getElem?_set_self hi] at e'
        cases e'
      · rw [List.getElem?_set_ne hj] at e' ⊢
        exact ih.at_ j u e'
theorem wipe_get {σ : L2.St} {j : Nat} : ∀ {vs : List Nat}, (wipe σ vs)[j]? = if j ∈ vs then (σ[j]?).map fun _ => none else σ[j]?
  | [] => by simp [wipe]
  | v :: vs => by
    show ((wipe σ vs).set v none)[j]? = _
    by_cases hj : v = j
    · subst hj
      rw [if_pos List.mem_cons_self]
      by_cases hi : v < σ.length
      · rw [List.getElem?_set_self (by rw [wipe_length]; exact hi), List.getElem?_eq_getElem hi]; rfl
      · rw [List.getElem?_eq_none (by rw [List.length_set, wipe_length]; omega), List.getElem?_eq_none (by omega)]; rfl
    · rw [List.getElem?_set_ne hj, wipe_get (vs := vs)]
      by_cases h : j ∈ vs
      · rw [if_pos h, if_pos (List.mem_cons_of_mem _ h)]
      · rw [if_neg h, if_neg fun z => (List.mem_cons.mp z).elim (fun z => hj z.symm) h]
theorem wipe_same {σ σ' : L2.St} {vs ws : List Nat} (hl : σ'.length = σ.length) (h : ∀ j, j ∉ ws → σ'[j]? = (wipe σ vs)[j]?) (hw : ∀ j ∈ ws, j ∈ vs) : wipe σ' vs = wipe σ vs := by
  apply List.ext_getElem?
  intro j
  rw [wipe_get, wipe_get]
  by_cases hj : j ∈ vs
  · rw [if_pos hj, if_pos hj]
    by_cases hi : j < σ.length
    · rw [List.getElem?_eq_getElem hi, List.getElem?_eq_getElem (by rw [hl]; exact hi)]; rfl
    · rw [List.getElem?_eq_none (by omega), List.getElem?_eq_none (by omega)]
  · rw [if_neg hj, if_neg hj, h j fun z => hj (hw j z), wipe_get, if_neg hj]
section
variable {K : PySem.W.Frag} {X : Cx} {e : Expr} {es : List Expr} {pos : Pos}
structure PTs3 (K : PySem.W.Frag) (X : Cx) (ifs : List Expr) (f : FT) : Prop where
  p : PTs X ifs (ttO K f)
theorem t_nil : PTs3 K X [] tYes3 := ⟨⟨fun pins s σ H Q I h => by
  obtain ⟨A, S, sl, w, S', rfl, R, s', e, q⟩ := h
  cases e
  exact (pts_nil (X := X)).run pins s σ _ Q I (q A (Nx.refl A) R)⟩⟩
/-- the comprehension's reading, for a new list at D -/
theorem lc_go {it : FI} {g : FG} {t : FT} {f : FE} {vs ws : List Nat} (hw : ∀ j ∈ ws, j ∈ vs) {σ : L2.St} {H : Hp} {Q : VK} (h : tnO K (nLc vs it g t f) σ H Q) : tLc (tiO K it) (tgO K ws g) (ttO K t) (teO K f) vs σ H Q := by
  obtain ⟨A, S, sl, ys, S', rfl, R, s, e, q⟩ := h
  obtain ⟨⟨j, S1⟩, e1, e2⟩ := Option.bind_eq_some_iff.mp e
  refine ⟨A, S, sl, j, S1, rfl, R, s, e1, fun B J n R' IR D hD => ?_⟩
  have hz : j.ws.length ≤ 100000 := by
    by_cases z : j.ws.length ≤ 100000
    · exact z
    · rw [if_neg z] at e2; cases e2
  rw [if_pos hz] at e2
  have gD : B.G D = none := R'.gh.free hD
  have niD : D ∉ B.ι := R'.new hD
  have aD : A.H D = none := by
    cases z : A.H D with
    | none => rfl
    | some u => exact absurd hD (n.dm D (by rw [z]; exact fun k => nomatch k))
  obtain ⟨nj, Rj⟩ := Nx.junk (o := .lst []) R' hD
  refine ⟨fun i m H => m = j.ws.length - i ∧ i ≤ j.ws.length ∧ ∃ (C : Wd) (S : List MO) (acc : List V) (ds rest : List PyData), C.H = H ∧ Nx B C ∧ Rl K C S ∧ C.G D = none ∧ D ∉ C.ι ∧ C.H D = some (.lst acc) ∧ DaA K C.G acc ds ∧ acc.length ≤ i ∧
      cLoop j.ok g t f (wipe3 sl vs) (j.ws.drop i) S = some (rest, S') ∧ ds ++ rest = ys,
    ⟨_, rfl, Nat.zero_le _, ⟨B.G, upd B.H D (.lst []), B.ι⟩, S1, [], [], ys, rfl, nj, Rj, gD, niD, upd_same, .nil, Nat.le_refl _, by rw [List.drop_zero]; exact e2, rfl⟩, ?_⟩
  rintro i m H1 ⟨rfl, hi, C, S2, acc, ds, rest, rfl, n2, R2, gC, niC, hC, hd, hl, e3, ey⟩
  have hok := cLoop_ok e3
  have ir := IR C S2 n2.toW R2 hok i
  by_cases hlt : i < j.ws.length
  · have hwi : j.ws[i]? = some j.ws[i] := List.getElem?_eq_getElem hlt
    obtain ⟨go, step⟩ := ir.1 _ hwi
    have hdr : j.ws.drop i = j.ws[i] :: j.ws.drop (i + 1) := List.drop_eq_getElem_cons hlt
    rw [hdr, cLoop, if_pos hok] at e3
    obtain ⟨⟨sl3, S3⟩, e4, e5⟩ := Option.bind_eq_some_iff.mp e3
    obtain ⟨⟨b3, S4⟩, e6, e7⟩ := Option.bind_eq_some_iff.mp e5
    refine .inr ⟨go, fun H' => i + 1 ≤ j.ws.length ∧ ∃ (C : Wd) (S : List MO) (acc : List V) (ds rest : List PyData), C.H = H' ∧ Nx B C ∧ Rl K C S ∧ C.G D = none ∧ D ∉ C.ι ∧ C.H D = some (.lst acc) ∧ DaA K C.G acc ds ∧ acc.length ≤ i + 1 ∧
      cLoop j.ok g t f (wipe3 sl vs) (j.ws.drop (i + 1)) S = some (rest, S') ∧ ds ++ rest = ys, fun H' w => ⟨j.ws.length - (i + 1), by omega, rfl, w⟩, fun v H' y => ?_⟩
    obtain ⟨C', rfl, n3, R3, r3⟩ := step v H' y
    -- the list is still there
    have keep : ∀ {E : Wd}, Nx C E → E.G D = none ∧ D ∉ E.ι ∧ E.H D = some (.lst acc) ∧ DaA K E.G acc ds := fun {E} nE =>
      ⟨nE.nw D niC gC (by rw [hC]; exact fun z => nomatch z), fun z => (nE.fr D z).elim niC (fun k => nomatch hC.symm.trans k), nE.hh D _ niC hC, hd.up nE.gg⟩
    refine ⟨C', S2, wipe3 sl vs, j.ws[i], sl3, S3, rfl, R3, ((s.mono n).mono (n2.trans n3)).weak vs, r3, e4, fun E σ' n4 R4 s4 k4 => ⟨?_, ?_⟩⟩
    · exact wipe_same (by rw [k4.1, wipe_length]) k4.2 hw
    · refine ⟨E, S3, sl3, b3, S4, rfl, R4, s4, e6, fun F n5 R5 => ?_⟩
      have nF : Nx C F := (n3.trans n4).trans n5
      cases b3 with
      | false =>
        obtain ⟨g1, g2, g3, g4⟩ := keep nF
        exact ⟨hlt, F, S4, acc, ds, rest, rfl, n2.trans nF, R5, g1, g2, g3, g4, by omega, e7, ey⟩
      | true =>
        obtain ⟨⟨y1, S5⟩, e8, e9⟩ := Option.bind_eq_some_iff.mp e7
        refine ⟨F, S4, sl3, y1, S5, rfl, R5, s4.mono n5, e8, fun L u n6 R6 r6 => ?_⟩
        cases y1 with
        | r _ => cases e9
        | sc _ => cases e9
        | ty _ => cases e9
        | d x =>
          obtain ⟨⟨r2, S6⟩, e10, e11⟩ := Option.map_eq_some_iff.mp e9
          cases e11
          obtain ⟨g1, g2, g3, g4⟩ := keep (nF.trans n6)
          refine ⟨acc, g3, Nat.lt_of_le_of_lt (Nat.le_trans hl (Nat.le_trans hi hz)) (by decide), hlt, ⟨L.G, upd L.H D (.lst (acc ++ [u])), L.ι⟩, S5, acc ++ [u], ds ++ [x], r2, rfl, ?_, ?_, g1, g2, upd_same, g4.app (.cons r6 .nil), by rw [List.length_append]; exact Nat.succ_le_succ hl, e10, ?_⟩
          · have nL : Nx B L := n2.trans (nF.trans n6)
            exact ⟨nL.gg, fun b o hb hh => by
              show upd L.H D _ b = _
              rw [upd_ne (fun z => by rw [z, hD] at hh; cases hh)]; exact nL.hh b o hb hh, nL.nw, fun b hb z => nL.dm b hb (upd_none z), nL.pre, nL.fr, fun b od ks e => by
              show upd L.H D _ b = _
              rw [upd_ne (fun z => by rw [z, hD] at e; cases e)]; exact nL.lk b od ks e⟩
          · refine ⟨fun b o hb => ?_, R6.nd, R6.len, fun i o a e1 e2 => (R6.ob i o a e1 e2).keep (Same.refl _) (fun g => g) (fun u hu => ?_) fun b φ h => by
              show upd L.H D _ b = _
              rw [upd_ne (fun z => by rw [z, g3] at h; cases h)]; exact h⟩
            · show upd L.H D _ b = _
              rw [upd_ne (ne_of_none hb g1)]; exact R6.gh b o hb
            · show upd L.H D _ a = _
              rw [upd_ne (fun z => g2 (by rw [← z]; exact List.mem_of_getElem? e2))]; exact hu
          · rw [List.append_assoc]; exact ey
  · have hz2 : i = j.ws.length := by omega
    subst hz2
    rw [List.drop_length, cLoop, if_pos hok] at e3
    cases e3
    rw [List.append_nil] at ey
    subst ey
    exact .inl ⟨ir.2 (Nat.le_refl _), q C acc D (n.trans n2) R2 aD niC gC hC hd⟩
end
end EA
namespace EA
open PySem PySem.Spec PyProof.Rows L2
/-! ### what a value is, as data -/
def view (S : List MO) : W3 → Option PyData
  | .d x => some x
  | .r i => match S[i]? with
    | some (.lst xs) => some (.list xs)
    | _ => none
  | .sc xs => some (.list (xs.map .int))
  | .ty _ => none
section
variable {K : PySem.W.Frag} {A : Wd} {S : List MO} {v : V} {w : W3} {x : PyData}
mutual
theorem Dp.ofDa {H : Hp} (s : Same A.G H) : ∀ {d : PyData} {v : V}, Da K A.G v d → Dp K H v d
  | .none, _, .non => .non
  | .bool _, _, .bl b => .bl b
  | .int _, _, .int i => .int i
  | .str _, _, .str x => .str x
  | .list _, _, .lst e h => .lst (SqL.of (s _ _ e)) (DpAll.ofDa s h)
  | .tuple _, _, .tup e h => .tup (sqT_up s e.sq) (DpAll.ofDa s h)
theorem DpAll.ofDa {H : Hp} (s : Same A.G H) : ∀ {ds : List PyData} {vs : List V}, DaA K A.G vs ds → DpAll K H vs ds
  | [], _, .nil => .nil
  | _ :: _, _, .cons h t => .cons (Dp.ofDa s h) (DpAll.ofDa s t)
end
theorem DpAll.ints {H : Hp} : ∀ bs : List Int, DpAll K H (bs.map V.int) (bs.map PyData.int)
  | [] => .nil
  | b :: r => .cons (.int b) (DpAll.ints r)
mutual
theorem dp_plain {H : Hp} : ∀ {d : PyData} {v : V}, Dp K H v d → d.plain = true
  | .none, _, .non => rfl
  | .bool _, _, .bl b => rfl
  | .int _, _, .int i => rfl
  | .str _, _, .str x => rfl
  | .list _, _, .lst e h => dpAll_plain h
  | .tuple _, _, .tup e h => dpAll_plain h
theorem dpAll_plain {H : Hp} : ∀ {ds : List PyData} {vs : List V}, DpAll K H vs ds → PyData.plainAll ds = true
  | [], _, .nil => rfl
  | d :: ds, _, .cons h t => by
    show (d.plain && PyData.plainAll ds) = true
    rw [dp_plain h, dpAll_plain t]; rfl
end
/-- a list, as it lies -/
theorem view_list (R : Rl K A S) (r : RW K A v w) {xs : List PyData} (e : view S w = some (.list xs)) : ∃ a vs, v = .ref a ∧ SqL K A.H a vs ∧ DpAll K A.H vs xs ∧ DaA K A.G vs xs := by
  cases w with
  | d y =>
    cases e
    obtain ⟨a, vs, rfl, h1, h2⟩ := Da.list_inv r
    exact ⟨a, vs, rfl, SqL.of (R.gh _ _ h1), DpAll.ofDa R.gh h2, h2⟩
  | r i =>
    obtain ⟨a, ha, rfl⟩ := r
    unfold view at e
    dsimp only at e
    cases o : S[i]? with
    | none => rw [o] at e; cases e
    | some m =>
      rw [o] at e
      cases m with
      | gone => cases e
      | dic _ => cases e
      | rcd _ => cases e
      | nls _ => cases e
      | ldic _ => cases e
      | tab _ _ => cases e
      | ins _ _ => cases e
      | ndc _ => cases e
      | lst ys =>
        cases e
        obtain ⟨g, vs, h1, h2⟩ := R.ob i _ a o ha
        exact ⟨a, vs, rfl, SqL.of h1, DpAll.ofDa R.gh h2, h2⟩
  | sc ys =>
    cases e
    obtain ⟨a, rfl, h⟩ := r
    exact ⟨a, _, rfl, R.gh.seq h, DpAll.ints ys, DaA.ints ys⟩
  | ty n => cases e
/-- a list whose object is its own -/
def viewL (S : List MO) : W3 → Option (List PyData)
  | .d (.list xs) => some xs
  | .r i => match S[i]? with
    | some (.lst xs) => some xs
    | _ => none
  | _ => none
theorem viewL_at (R : Rl K A S) (r : RW K A v w) {xs : List PyData} (e : viewL S w = some xs) : ∃ a vs, v = .ref a ∧ A.H a = some (.lst vs) ∧ DaA K A.G vs xs := by
  cases w with
  | d y =>
    cases y with
    | list ys =>
      cases e
      obtain ⟨a, vs, rfl, h1, h2⟩ := Da.list_inv r
      exact ⟨a, vs, rfl, R.gh _ _ h1, h2⟩
    | _ => cases e
  | r i =>
    obtain ⟨a, ha, rfl⟩ := r
    unfold viewL at e
    dsimp only at e
    cases o : S[i]? with
    | none => rw [o] at e; cases e
    | some m =>
      rw [o] at e
      cases m with
      | gone => cases e
      | dic _ => cases e
      | rcd _ => cases e
      | nls _ => cases e
      | ldic _ => cases e
      | tab _ _ => cases e
      | ins _ _ => cases e
      | ndc _ => cases e
      | lst ys =>
        cases e
        obtain ⟨g, vs, h1, h2⟩ := R.ob i _ a o ha
        exact ⟨a, vs, rfl, h1, h2⟩
  | sc ys => cases e
  | ty n => cases e
theorem view_dp (R : Rl K A S) (r : RW K A v w) (e : view S w = some x) : Dp K A.H v x := by
  cases w with
  | d y => cases e; exact Dp.ofDa R.gh r
  | r i =>
    have e0 := e
    unfold view at e
    dsimp only at e
    cases o : S[i]? with
    | none => rw [o] at e; cases e
    | some m =>
      rw [o] at e
      cases m with
      | gone => cases e
      | dic _ => cases e
      | rcd _ => cases e
      | nls _ => cases e
      | ldic _ => cases e
      | tab _ _ => cases e
      | ins _ _ => cases e
      | ndc _ => cases e
      | lst ys =>
        cases e
        obtain ⟨a, vs, rfl, h1, h2, _⟩ := view_list (K := K) R r e0
        exact .lst h1 h2
  | sc ys =>
    cases e
    obtain ⟨a, vs, rfl, h1, h2, _⟩ := view_list (K := K) (w := .sc ys) R r rfl
    exact .lst h1 h2
  | ty n => cases e
/-- a tuple, as it lies -/
theorem view_tup (R : Rl K A S) (r : RW K A v w) {xs : List PyData} (e : view S w = some (.tuple xs)) : ∃ a vs, v = .ref a ∧ SqT K A.H a vs ∧ DaA K A.G vs xs := by
  cases w with
  | d y =>
    cases e
    obtain ⟨a, vs, rfl, h1, h2⟩ := Da.tup_inv r
    exact ⟨a, vs, rfl, sqT_up R.gh h1, h2⟩
  | r i =>
    unfold view at e
    dsimp only at e
    cases o : S[i]? with
    | none => rw [o] at e; cases e
    | some m => rw [o] at e; cases m <;> cases e
  | sc ys => cases e
  | ty n => cases e
end
/-! ### comparisons -/
abbrev GB := PyData → PyData → Option Bool
def rB (K : PySem.W.Frag) (g : GB) : R2 := fun x y H Q => ∃ a b c, Dp K H x a ∧ Dp K H y b ∧ g a b = some c ∧ Q (.bl c) H
def gEq : GB := fun a b => if a.depth ≤ 40 ∨ b.depth ≤ 40 then some (PyData.eqv a b) else none
def gNe : GB := fun a b => if a.depth ≤ 40 ∨ b.depth ≤ 40 then some (!PyData.eqv a b) else none
def cmpOk (a b : PyData) : Bool := W.alike a b && (match a with | .none => false | _ => true) && (decide (a.depth ≤ 40) || decide (b.depth ≤ 40))
def gLt : GB := fun a b => if cmpOk a b = true then some (W.dataLt a b) else none
def gGt : GB := fun a b => if cmpOk a b = true then some (W.dataLt b a) else none
def gLe : GB := fun a b => if cmpOk a b = true then some (!W.dataLt b a) else none
def gGe : GB := fun a b => if cmpOk a b = true then some (!W.dataLt a b) else none
def isB : PyData → PyData → Bool
  | .none, .none => true
  | .bool a, .bool b => a == b
  | _, _ => false
def plainB : PyData → Bool
  | .none => true
  | .bool _ => true
  | _ => false
def gIs : GB := fun a b => if plainB b = true then some (isB a b) else none
def gIsN : GB := fun a b => if plainB b = true then some (!isB a b) else none
def gIn : GB := fun a b => match b with
  | .list xs => if PyData.depthAll xs ≤ 40 ∨ a.depth ≤ 40 then some (xs.any fun y => PyData.eqv y a) else none
  | .tuple xs => if PyData.depthAll xs ≤ 40 ∨ a.depth ≤ 40 then some (xs.any fun y => PyData.eqv y a) else none
  | .str j => match a with
    | .str i => some (!(Builtin.Str.occurrences j i 0 j.length 1).isEmpty)
    | _ => none
  | _ => none
section
variable {X : Cx} {K : PySem.W.Frag}
theorem min_le40 {a b u c : Nat} (h : a ≤ 40 ∨ b ≤ 40) (hu : u + 64 < c) : u + min a b < c := by omega
theorem min_le41 {a b u c : Nat} (h : a ≤ 40 ∨ b ≤ 40) (hu : u + 64 < c) : u + 1 + min a b < c := by omega
theorem op_gEq (hu : X.A.units + 64 < cLine) : OpR X (compareOp .Eq) (rB X.K gEq) := by
  intro pins s σ H x y v u Q I rx ry h
  obtain ⟨a, b, c, ha, hb, e, q⟩ := h
  obtain ⟨as, ra⟩ := Dp.reads I a x v ha rx
  obtain ⟨bs, rb⟩ := Dp.reads I b y u hb ry
  unfold gEq at e
  by_cases z : a.depth ≤ 40 ∨ b.depth ≤ 40
  · rw [if_pos z] at e
    cases e
    exact SeqAt.eq_plain ra rb (dp_plain ha) (dp_plain hb) (min_le40 z hu) ⟨.bl _, H, I, rfl, q⟩
  · rw [if_neg z] at e; cases e
theorem op_gNe (hu : X.A.units + 64 < cLine) : OpR X (compareOp .NotEq) (rB X.K gNe) := by
  intro pins s σ H x y v u Q I rx ry h
  obtain ⟨a, b, c, ha, hb, e, q⟩ := h
  obtain ⟨as, ra⟩ := Dp.reads I a x v ha rx
  obtain ⟨bs, rb⟩ := Dp.reads I b y u hb ry
  unfold gNe at e
  by_cases z : a.depth ≤ 40 ∨ b.depth ≤ 40
  · rw [if_pos z] at e
    cases e
    exact SeqAt.ne_plain ra rb (dp_plain ha) (dp_plain hb) (min_le40 z hu) ⟨.bl _, H, I, rfl, q⟩
  · rw [if_neg z] at e; cases e
theorem cmpOk_of {a b : PyData} (h : cmpOk a b = true) : W.alike a b = true ∧ a ≠ .none ∧ (a.depth ≤ 40 ∨ b.depth ≤ 40) := by
  unfold cmpOk at h
  obtain ⟨h, h3⟩ := Bool.and_eq_true_iff.mp h
  obtain ⟨h1, h2⟩ := Bool.and_eq_true_iff.mp h
  refine ⟨h1, fun z => ?_, ?_⟩
  · subst z; cases h2
  · rcases Bool.or_eq_true_iff.mp h3 with k | k
    · exact .inl (of_decide_eq_true k)
    · exact .inr (of_decide_eq_true k)
theorem op_gLt (hu : X.A.units + 64 < cLine) : OpR X (compareOp .Lt) (rB X.K gLt) := by
  intro pins s σ H x y v u Q I rx ry h
  obtain ⟨a, b, c, ha, hb, e, q⟩ := h
  obtain ⟨as, ra⟩ := Dp.reads I a x v ha rx
  obtain ⟨bs, rb⟩ := Dp.reads I b y u hb ry
  unfold gLt at e
  by_cases z : cmpOk a b = true
  · rw [if_pos z] at e
    cases e
    obtain ⟨h1, h2, h3⟩ := cmpOk_of z
    exact W.lt_data ra rb h1 h2 (min_le40 h3 hu) ⟨.bl _, H, I, rfl, q⟩
  · rw [if_neg z] at e; cases e
theorem op_gGt (hu : X.A.units + 64 < cLine) : OpR X (compareOp .Gt) (rB X.K gGt) := by
  intro pins s σ H x y v u Q I rx ry h
  obtain ⟨a, b, c, ha, hb, e, q⟩ := h
  obtain ⟨as, ra⟩ := Dp.reads I a x v ha rx
  obtain ⟨bs, rb⟩ := Dp.reads I b y u hb ry
  unfold gGt at e
  by_cases z : cmpOk a b = true
  · rw [if_pos z] at e
    cases e
    obtain ⟨h1, h2, h3⟩ := cmpOk_of z
    exact W.gt_data ra rb h1 h2 (min_le40 h3 hu) ⟨.bl _, H, I, rfl, q⟩
  · rw [if_neg z] at e; cases e
theorem op_gGe (hu : X.A.units + 64 < cLine) : OpR X (compareOp .GtE) (rB X.K gGe) := by
  intro pins s σ H x y v u Q I rx ry h
  obtain ⟨a, b, c, ha, hb, e, q⟩ := h
  obtain ⟨as, ra⟩ := Dp.reads I a x v ha rx
  obtain ⟨bs, rb⟩ := Dp.reads I b y u hb ry
  unfold gGe at e
  by_cases z : cmpOk a b = true
  · rw [if_pos z] at e
    cases e
    obtain ⟨h1, h2, h3⟩ := cmpOk_of z
    exact W.ge_data ra rb h1 h2 (min_le40 h3 hu) ⟨.bl _, H, I, rfl, q⟩
  · rw [if_neg z] at e; cases e
theorem is_iff {H : Hp} {x y : V} {v u : Value} {a b : PyData} (ha : Dp K H x a) (hb : Dp K H y b) (rx : RelV x v) (ry : RelV y u) (p : plainB b = true) : plainIs v u = true ∧ (v == u) = isB a b := by
  cases hb with
  | non =>
    cases ry
    cases ha with
    | non => cases rx; exact ⟨rfl, rfl⟩
    | bl _ => cases rx; exact ⟨rfl, rfl⟩
    | int _ => obtain ⟨t, rfl⟩ := rx; exact ⟨rfl, rfl⟩
    | str _ => obtain ⟨t, rfl⟩ := rx; exact ⟨rfl, rfl⟩
    | lst _ _ => cases rx; exact ⟨rfl, rfl⟩
    | tup _ _ => cases rx; exact ⟨rfl, rfl⟩
  | bl b =>
    cases ry
    cases ha with
    | non => cases rx; exact ⟨rfl, rfl⟩
    | bl c => cases rx; refine ⟨rfl, ?_⟩; cases b <;> cases c <;> rfl
    | int _ => obtain ⟨t, rfl⟩ := rx; exact ⟨rfl, rfl⟩
    | str _ => obtain ⟨t, rfl⟩ := rx; exact ⟨rfl, rfl⟩
    | lst _ _ => cases rx; exact ⟨rfl, rfl⟩
    | tup _ _ => cases rx; exact ⟨rfl, rfl⟩
  | _ => exact absurd (show false = true from p) Bool.false_ne_true
theorem op_gIs : OpR X (compareOp .Is) (rB X.K gIs) := by
  intro pins s σ H x y v u Q I rx ry h
  obtain ⟨a, b, c, ha, hb, e, q⟩ := h
  unfold gIs at e
  by_cases z : plainB b = true
  · rw [if_pos z] at e
    cases e
    obtain ⟨e1, e2⟩ := is_iff ha hb rx ry z
    exact wpAny_is_plain e1 (fin_bl I q e2.symm)
  · rw [if_neg z] at e; cases e
theorem op_gIsN : OpR X (compareOp .IsNot) (rB X.K gIsN) := by
  intro pins s σ H x y v u Q I rx ry h
  obtain ⟨a, b, c, ha, hb, e, q⟩ := h
  unfold gIsN at e
  by_cases z : plainB b = true
  · rw [if_pos z] at e
    cases e
    obtain ⟨e1, e2⟩ := is_iff ha hb rx ry z
    exact wpAny_isNot_plain e1 (fin_bl I q (by rw [e2]))
  · rw [if_neg z] at e; cases e
theorem op_gIn (hu : X.A.units + 64 < cLine) : OpR X (compareOp .In) (rB X.K gIn) := by
  intro pins s σ H x y v u Q I rx ry h
  obtain ⟨a, b, c, ha, hb, e, q⟩ := h
  obtain ⟨as, ra⟩ := Dp.reads I a x v ha rx
  obtain ⟨bs, rb⟩ := Dp.reads I b y u hb ry
  have pb := dp_plain hb
  cases b with
  | list xs =>
    unfold gIn at e
    dsimp only at e
    by_cases z : PyData.depthAll xs ≤ 40 ∨ a.depth ≤ 40
    · rw [if_pos z] at e
      cases e
      exact SeqAt.in_list_data rb ra pb (dp_plain ha) (min_le41 z hu) ⟨.bl _, H, I, rfl, q⟩
    · rw [if_neg z] at e; cases e
  | tuple xs =>
    unfold gIn at e
    dsimp only at e
    by_cases z : PyData.depthAll xs ≤ 40 ∨ a.depth ≤ 40
    · rw [if_pos z] at e
      cases e
      exact SeqAt.in_tuple_data rb ra pb (dp_plain ha) (min_le41 z hu) ⟨.bl _, H, I, rfl, q⟩
    · rw [if_neg z] at e; cases e
  | str j =>
    cases a with
    | str i =>
      cases e
      cases ha
      cases hb
      exact op_in_str pins s σ H _ _ v u Q I rx ry ⟨i, j, rfl, rfl, q⟩
    | _ => cases e
  | _ => cases e
end
def eCmp (g : GB) (a b : FE) : FE := fun sl S => (a sl S).bind fun p => (b sl p.2).bind fun q => (view q.2 p.1).bind fun x => (view q.2 q.1).bind fun y => (g x y).map fun c => (.d (.bool c), q.2)
def tCmp (g : GB) (a b : FE) : FT := fun sl S => (a sl S).bind fun p => (b sl p.2).bind fun q => (view q.2 p.1).bind fun x => (view q.2 q.1).bind fun y => (g x y).map fun c => (c, q.2)
section
variable {K : PySem.W.Frag} {X : Cx} {a b : Expr} {fa fb : FE} {pos : Pos}
theorem e_cmp {op : CmpOp} {g : GB} (hK : X.K = K) (ho : OpR X (compareOp op) (rB X.K g)) (ha : PE3 K X a fa) (hb : PE3 K X b fb) (hm : behindInMarks op b = false) : PE3 K X (.Compare a [op] [b] pos) (eCmp g fa fb) := ⟨pe_imp (pe_cmpR ho ha.p hb.p hm) fun σ H Q h => by
  subst hK
  obtain ⟨A, S, sl, w, S', rfl, R, s, e, q⟩ := h
  obtain ⟨⟨w1, S1⟩, e1, e⟩ := Option.bind_eq_some_iff.mp e
  obtain ⟨⟨w2, S2⟩, e2, e⟩ := Option.bind_eq_some_iff.mp e
  obtain ⟨x, e3, e⟩ := Option.bind_eq_some_iff.mp e
  obtain ⟨y, e4, e⟩ := Option.bind_eq_some_iff.mp e
  obtain ⟨c, e5, e⟩ := Option.map_eq_some_iff.mp e
  cases e
  refine ⟨A, S, sl, w1, S1, rfl, R, s, e1, fun B v n R1 r1 => ⟨B, S1, sl, w2, S2, rfl, R1, s.mono n, e2, fun C u n2 R2 r2 => ?_⟩⟩
  exact ⟨x, y, c, view_dp R2 (r1.mono n2) e3, view_dp R2 r2 e4, e5, q C _ (n.trans n2) R2 (Da.bl c)⟩⟩
theorem t_cmp {op : CmpOp} {g : GB} (hK : X.K = K) (ho : OpR X (compareOp op) (rB X.K g)) (ha : PE3 K X a fa) (hb : PE3 K X b fb) (hm : behindInMarks op b = false) : PT3 K X (.Compare a [op] [b] pos) (tCmp g fa fb) := ⟨pt_imp (pt_cmpR ho ha.p hb.p hm) fun σ H Q h => by
  subst hK
  obtain ⟨A, S, sl, w, S', rfl, R, s, e, q⟩ := h
  obtain ⟨⟨w1, S1⟩, e1, e⟩ := Option.bind_eq_some_iff.mp e
  obtain ⟨⟨w2, S2⟩, e2, e⟩ := Option.bind_eq_some_iff.mp e
  obtain ⟨x, e3, e⟩ := Option.bind_eq_some_iff.mp e
  obtain ⟨y, e4, e⟩ := Option.bind_eq_some_iff.mp e
  obtain ⟨c, e5, e⟩ := Option.map_eq_some_iff.mp e
  cases e
  refine ⟨A, S, sl, w1, S1, rfl, R, s, e1, fun B v n R1 r1 => ⟨B, S1, sl, w2, S2, rfl, R1, s.mono n, e2, fun C u n2 R2 r2 => ?_⟩⟩
  exact ⟨x, y, _, view_dp R2 (r1.mono n2) e3, view_dp R2 r2 e4, e5, _, rfl, q C (n.trans n2) R2⟩⟩
/-! ### truth, and, or, not, if -/
def truD : PyData → Option Bool
  | .none => some false
  | .bool b => some b
  | .int i => some (i != 0)
  | .str x => if x.length ≤ 100000 then some ((x.length : Int) != 0) else none
  | .list xs => some (!xs.isEmpty)
  | .tuple xs => some (!xs.isEmpty)
  | .dict _ => none
def truW (S : List MO) (w : W3) : Option Bool := match w with
  | .r i => match S[i]? with
    | some (.dic ks) => some (!ks.isEmpty)
    | some (.lst xs) => some (!xs.isEmpty)
    | _ => none
  | w => (view S w).bind truD
theorem isEmpty_len {α β : Type} {xs : List α} {ys : List β} (h : xs.length = ys.length) : xs.isEmpty = ys.isEmpty := by
  cases xs with
  | nil =>
    cases ys with
    | nil => rfl
    | cons _ _ => simp at h
  | cons _ _ =>
    cases ys with
    | nil => simp at h
    | cons _ _ => rfl
theorem dpAll_len {H : Hp} : ∀ {vs : List V} {ds : List PyData}, DpAll K H vs ds → vs.length = ds.length
  | _, _, .nil => rfl
  | _, _, .cons _ t => by rw [List.length_cons, List.length_cons, dpAll_len t]
theorem DaK.len {G : Hp} {vs : List (Key × V)} {ds : List (Key × PyData)} (h : DaK K G vs ds) : vs.length = ds.length := by
  induction h with
  | nil => rfl
  | cons _ _ ih => rw [List.length_cons, List.length_cons, ih]
theorem tru_dp {H : Hp} {v : V} {x : PyData} {b : Bool} (h : Dp K H v x) (e : truD x = some b) : TruV K v H b := by
  cases h with
  | non => cases e; rfl
  | bl _ => cases e; rfl
  | int _ => cases e; rfl
  | str y =>
    unfold truD at e
    dsimp only at e
    by_cases z : y.length ≤ 100000
    · rw [if_pos z] at e; cases e; exact ⟨Nat.le_trans z (by decide), rfl⟩
    · rw [if_neg z] at e; cases e
  | lst h1 h2 => cases e; exact .inl ⟨_, h1, by rw [isEmpty_len (dpAll_len h2)]⟩
  | tup h1 h2 => cases e; exact .inr (.inl ⟨_, h1, by rw [isEmpty_len (dpAll_len h2)]⟩)
theorem tru_ok3 {A : Wd} {S : List MO} {v : V} {w : W3} {b : Bool} (R : Rl K A S) (r : RW K A v w) (e : truW S w = some b) : TruV K v A.H b := by
  cases w with
  | r i =>
    unfold truW at e
    obtain ⟨a, ha, rfl⟩ := r
    dsimp only at e
    cases o : S[i]? with
    | none => rw [o] at e; cases e
    | some m =>
      rw [o] at e
      cases m with
      | gone => cases e
      | rcd _ => cases e
      | nls _ => cases e
      | ldic _ => cases e
      | tab _ _ => cases e
      | ins _ _ => cases e
      | ndc _ => cases e
      | lst xs => cases e; obtain ⟨_, vs, h1, h2⟩ := R.ob i _ a o ha; exact .inl ⟨vs, SqL.of h1, by rw [isEmpty_len h2.len]⟩
      | dic ks => cases e; obtain ⟨_, vs, h1, h2⟩ := R.ob i _ a o ha; exact .inr (.inr ⟨vs, h1, by rw [isEmpty_len h2.len]⟩)
  | d y =>
    obtain ⟨x, e1, e2⟩ := Option.bind_eq_some_iff.mp (show (view S (.d y)).bind truD = some b from e)
    exact tru_dp (view_dp R r e1) e2
  | sc y =>
    obtain ⟨x, e1, e2⟩ := Option.bind_eq_some_iff.mp (show (view S (.sc y)).bind truD = some b from e)
    exact tru_dp (view_dp R r e1) e2
  | ty y => cases e
def tTr (f : FE) : FT := fun sl S => (f sl S).bind fun p => (truW p.2 p.1).map fun b => (b, p.2)
theorem t_tr (hK : X.K = K) (h : PE3 K X a fa) (he : ∀ whole, isTrue a X.env whole = (do let v ← whole; standAt a.pos; holding [v] (truthy v))) : PT3 K X a (tTr fa) := ⟨pt_imp (pt_truth h.p he) fun σ H Q h => by
  subst hK
  obtain ⟨A, S, sl, w, S', rfl, R, s, e, q⟩ := h
  obtain ⟨⟨w1, S1⟩, e1, e⟩ := Option.bind_eq_some_iff.mp e
  obtain ⟨c, e2, e⟩ := Option.map_eq_some_iff.mp e
  cases e
  exact ⟨A, S, sl, w1, S1, rfl, R, s, e1, fun B v n R1 r1 => ⟨_, tru_ok3 R1 r1 e2, q B n R1⟩⟩⟩
def eNot (f : FE) : FE := fun sl S => (f sl S).bind fun p => (truW p.2 p.1).map fun b => (.d (.bool (!b)), p.2)
theorem e_not (hK : X.K = K) (h : PE3 K X a fa) : PE3 K X (.UnaryOp .Not a pos) (eNot fa) := ⟨pe_imp (pe_notT h.p) fun σ H Q h => by
  subst hK
  obtain ⟨A, S, sl, w, S', rfl, R, s, e, q⟩ := h
  obtain ⟨⟨w1, S1⟩, e1, e⟩ := Option.bind_eq_some_iff.mp e
  obtain ⟨c, e2, e⟩ := Option.map_eq_some_iff.mp e
  cases e
  exact ⟨A, S, sl, w1, S1, rfl, R, s, e1, fun B v n R1 r1 => ⟨c, tru_ok3 R1 r1 e2, q B _ n R1 (Da.bl _)⟩⟩⟩
def tNt (f : FT) : FT := fun sl S => (f sl S).map fun p => (!p.1, p.2)
theorem t_not {f : FT} (h : PT3 K X a f) : PT3 K X (.UnaryOp .Not a pos) (tNt f) := ⟨pt_imp (pt_not h.p) fun σ H Q h => by
  obtain ⟨A, S, sl, w, S', rfl, R, s, e, q⟩ := h
  obtain ⟨⟨w1, S1⟩, e1, e⟩ := Option.map_eq_some_iff.mp e
  cases e
  exact ⟨A, S, sl, w1, S1, rfl, R, s, e1, fun B n R1 => q B n R1⟩⟩
def tAn (f g : FT) : FT := fun sl S => (f sl S).bind fun p => if p.1 = true then g sl p.2 else some (false, p.2)
def tOr3 (f g : FT) : FT := fun sl S => (f sl S).bind fun p => if p.1 = true then some (true, p.2) else g sl p.2
variable {rest : List Expr}
theorem w_and1 {f : FT} (h : PT3 K X a f) : PW3 K X (.BoolOp .And [a] pos) f := ⟨pw_and1 h.p⟩
theorem w_or1 {f : FT} (h : PT3 K X a f) : PW3 K X (.BoolOp .Or [a] pos) f := ⟨pw_or1 h.p⟩
theorem w_and {f g : FT} (h : PT3 K X a f) (hb : PW3 K X (.BoolOp .And (b :: rest) pos) g) : PW3 K X (.BoolOp .And (a :: b :: rest) pos) (tAn f g) := ⟨pw_imp (pw_and h.p hb.p) fun σ H Q h => by
  obtain ⟨A, S, sl, w, S', rfl, R, s, e, q⟩ := h
  obtain ⟨⟨w1, S1⟩, e1, e⟩ := Option.bind_eq_some_iff.mp e
  refine ⟨A, S, sl, w1, S1, rfl, R, s, e1, fun B n R1 => ?_⟩
  cases w1 with
  | true => exact ⟨B, S1, sl, w, S', rfl, R1, s.mono n, e, fun C n2 R2 => q C (n.trans n2) R2⟩
  | false => cases e; exact q B n R1⟩
theorem w_or {f g : FT} (h : PT3 K X a f) (hb : PW3 K X (.BoolOp .Or (b :: rest) pos) g) : PW3 K X (.BoolOp .Or (a :: b :: rest) pos) (tOr3 f g) := ⟨pw_imp (pw_or h.p hb.p) fun σ H Q h => by
  obtain ⟨A, S, sl, w, S', rfl, R, s, e, q⟩ := h
  obtain ⟨⟨w1, S1⟩, e1, e⟩ := Option.bind_eq_some_iff.mp e
  refine ⟨A, S, sl, w1, S1, rfl, R, s, e1, fun B n R1 => ?_⟩
  cases w1 with
  | false => exact ⟨B, S1, sl, w, S', rfl, R1, s.mono n, e, fun C n2 R2 => q C (n.trans n2) R2⟩
  | true => cases e; exact q B n R1⟩
theorem t_w {f : FT} (h : PW3 K X a f) : PT3 K X a f := ⟨h.p.pt⟩
/-- and, or of truths -/
def eAn (f g : FE) : FE := fun sl S => (f sl S).bind fun p => match p.1 with
  | .d (.bool true) => g sl p.2
  | .d (.bool false) => some (.d (.bool false), p.2)
  | _ => none
def eOr (f g : FE) : FE := fun sl S => (f sl S).bind fun p => match p.1 with
  | .d (.bool false) => g sl p.2
  | .d (.bool true) => some (.d (.bool true), p.2)
  | _ => none
theorem e_one {op : BoolOp} (h : PE3 K X a fa) : PE3 K X (.BoolOp op [a] pos) fa := ⟨pe_one h.p⟩
theorem e_and (h : PE3 K X a fa) (hb : PE3 K X (.BoolOp .And (b :: rest) pos) fb) : PE3 K X (.BoolOp .And (a :: b :: rest) pos) (eAn fa fb) := ⟨pe_imp (pe_and h.p hb.p) fun σ H Q h => by
  obtain ⟨A, S, sl, w, S', rfl, R, s, e, q⟩ := h
  obtain ⟨⟨w1, S1⟩, e1, e⟩ := Option.bind_eq_some_iff.mp e
  refine ⟨A, S, sl, w1, S1, rfl, R, s, e1, fun B v n R1 r1 => ?_⟩
  cases w1 with
  | d x =>
    cases x with
    | bool c =>
      have rv := Da.bool_inv r1
      refine ⟨c, rv, ?_⟩
      cases c with
      | true => exact ⟨B, S1, sl, w, S', rfl, R1, s.mono n, e, fun C v n2 R2 => q C v (n.trans n2) R2⟩
      | false => cases e; exact q B _ n R1 (Da.bl false)
    | _ => cases e
  | _ => cases e⟩
def eIf (t : FT) (f g : FE) : FE := fun sl S => (t sl S).bind fun p => if p.1 = true then f sl p.2 else g sl p.2
theorem e_if {c : Expr} {t : FT} (hc : PT3 K X c t) (ha : PE3 K X a fa) (hb : PE3 K X b fb) : PE3 K X (.IfExp c a b pos) (eIf t fa fb) := ⟨pe_imp (pe_ifExp hc.p ha.p hb.p) fun σ H Q h => by
  obtain ⟨A, S, sl, w, S', rfl, R, s, e, q⟩ := h
  obtain ⟨⟨w1, S1⟩, e1, e⟩ := Option.bind_eq_some_iff.mp e
  refine ⟨A, S, sl, w1, S1, rfl, R, s, e1, fun B n R1 => ?_⟩
  cases w1 with
  | true => exact ⟨B, S1, sl, w, S', rfl, R1, s.mono n, e, fun C v n2 R2 => q C v (n.trans n2) R2⟩
  | false => exact ⟨B, S1, sl, w, S', rfl, R1, s.mono n, e, fun C v n2 R2 => q C v (n.trans n2) R2⟩⟩
end
end EA
namespace EA
open PySem PySem.Spec PyProof.Rows L2
/-! ### data in a part of the heap: G holds the data, H all; what is changed stays out of G -/
mutual
inductive Dat (G : Hp) : V → PyData → Prop
  | non : Dat G .non .none
  | bl (b : Bool) : Dat G (.bl b) (.bool b)
  | int (i : Int) : Dat G (.int i) (.int i)
  | str (x : Str) : Dat G (.str x) (.str x)
  | lst {a : Addr} {xs : List V} {ds : List PyData} : G a = some (.lst xs) → DatA G xs ds → Dat G (.ref a) (.list ds)
  | tup {a : Addr} {xs : List V} {ds : List PyData} : G a = some (.tup xs) → DatA G xs ds → Dat G (.ref a) (.tuple ds)
inductive DatA (G : Hp) : List V → List PyData → Prop
  | nil : DatA G [] []
  | cons {v : V} {vs : List V} {d : PyData} {ds : List PyData} : Dat G v d → DatA G vs ds → DatA G (v :: vs) (d :: ds)
end
section
variable {G G' H : Hp} {K : PySem.W.Frag}
mutual
theorem Dat.up (s : Same G G') : ∀ {d : PyData} {v : V}, Dat G v d → Dat G' v d
  | .none, _, .non => .non
  | .bool _, _, .bl b => .bl b
  | .int _, _, .int i => .int i
  | .str _, _, .str x => .str x
  | .list _, _, .lst e h => .lst (s _ _ e) (DatA.up s h)
  | .tuple _, _, .tup e h => .tup (s _ _ e) (DatA.up s h)
theorem DatA.up (s : Same G G') : ∀ {ds : List PyData} {vs : List V}, DatA G vs ds → DatA G' vs ds
  | [], _, .nil => .nil
  | _ :: _, _, .cons h t => .cons (Dat.up s h) (DatA.up s t)
end
theorem DatA.len : ∀ {vs : List V} {ds : List PyData}, DatA G vs ds → vs.length = ds.length
  | _, _, .nil => rfl
  | _, _, .cons _ t => by rw [List.length_cons, List.length_cons, DatA.len t]
theorem DatA.get : ∀ {vs : List V} {ds : List PyData} {i : Nat} {d : PyData}, DatA G vs ds → ds[i]? = some d → ∃ v, vs[i]? = some v ∧ Dat G v d
  | _, _, _, _, .nil, e => by simp at e
  | _, _, 0, _, .cons h _, e => by simp at e; subst e; exact ⟨_, rfl, h⟩
  | _, _, i + 1, d, .cons _ t, e => by
    obtain ⟨v, h1, h2⟩ := DatA.get (i := i) (d := d) t (by simpa using e)
    exact ⟨v, by simpa using h1, h2⟩
theorem DatA.app : ∀ {vs ws : List V} {ds es : List PyData}, DatA G vs ds → DatA G ws es → DatA G (vs ++ ws) (ds ++ es)
  | _, _, _, _, .nil, h => h
  | _, _, _, _, .cons h t, h2 => .cons h (DatA.app t h2)
theorem DatA.take : ∀ {vs : List V} {ds : List PyData} (n : Nat), DatA G vs ds → DatA G (vs.take n) (ds.take n)
  | _, _, 0, _ => .nil
  | _, _, _ + 1, .nil => .nil
  | _, _, n + 1, .cons h t => .cons h (DatA.take n t)
theorem DatA.drop : ∀ {vs : List V} {ds : List PyData} (n : Nat), DatA G vs ds → DatA G (vs.drop n) (ds.drop n)
  | _, _, 0, h => h
  | _, _, _ + 1, .nil => .nil
  | _, _, n + 1, .cons _ t => DatA.drop n t
end
/-! ### from one state to a later one: only objects of M and new ones are changed -/
structure Ex (M : List Addr) (G H G' H' : Hp) : Prop where
  gg : Same G G'
  gh : Same G' H'
  hh : ∀ b o, b ∉ M → H b = some o → H' b = some o
  nw : ∀ b, G b = none → H b ≠ none → G' b = none
  dm : ∀ b, H b ≠ none → H' b ≠ none
section
variable {M M' : List Addr} {G H G1 H1 G2 H2 : Hp} {p : Addr} {o : HO}
theorem Same.none {H H' : Hp} (s : Same H H') {p : Addr} (h : H' p = none) : H p = none := s.free h
theorem Ex.refl (s : Same G H) : Ex M G H G H := ⟨Same.refl _, s, fun _ _ _ h => h, fun _ h _ => h, fun _ h => h⟩
theorem Ex.step (a : Ex M G H G1 H1) (b : Ex M' G1 H1 G2 H2) (m : ∀ x ∈ M', x ∈ M ∨ H x = none) : Ex M G H G2 H2 where
  gg := a.gg.trans b.gg
  gh := b.gh
  hh := fun x o hx e => b.hh x o (fun z => (m x z).elim hx fun n => by rw [n] at e; cases e) (a.hh x o hx e)
  nw := fun x g h => b.nw x (a.nw x g h) (a.dm x h)
  dm := fun x h => b.dm x (a.dm x h)
theorem Ex.trans (a : Ex M G H G1 H1) (b : Ex M G1 H1 G2 H2) : Ex M G H G2 H2 := a.step b fun _ h => .inl h
theorem Ex.pure (a : Ex M G H G1 H1) (b : Ex [] G1 H1 G2 H2) : Ex M G H G2 H2 := a.step b fun _ h => nomatch h
theorem Ex.mono (a : Ex M G H G1 H1) (m : ∀ x ∈ M, x ∈ M' ∨ H x = none) : Ex M' G H G1 H1 :=
  ⟨a.gg, a.gh, fun x o hx e => a.hh x o (fun z => (m x z).elim hx fun n => by rw [n] at e; cases e) e, a.nw, a.dm⟩
/-- a new object that is not data -/
theorem Ex.new (a : Ex M G H G1 H1) (n : H1 p = none) : Ex M G H G1 (upd H1 p o) where
  gg := a.gg
  gh := fun b u e => by rw [upd_ne (ne_of_none (a.gh b u e) n)]; exact a.gh b u e
  hh := fun b u hb e => by rw [upd_ne (ne_of_none (a.hh b u hb e) n)]; exact a.hh b u hb e
  nw := a.nw
  dm := fun b h => by
    have q := a.dm b h
    by_cases e : b = p
    · subst e; exact absurd n q
    · rw [upd_ne e]; exact q
/-- an object that is changed: of M, or made since -/
theorem Ex.wr (a : Ex M G H G1 H1) (g : G1 p = none) (m : p ∈ M ∨ H p = none) : Ex M G H G1 (upd H1 p o) where
  gg := a.gg
  gh := fun b u e => by rw [upd_ne (ne_of_none e g)]; exact a.gh b u e
  hh := fun b u hb e => by
    have z : b ≠ p := fun z => by
      subst z
      rcases m with m | m
      · exact hb m
      · rw [m] at e; cases e
    rw [upd_ne z]; exact a.hh b u hb e
  nw := a.nw
  dm := fun b h => by
    by_cases e : b = p
    · subst e; rw [upd_same]; exact fun z => nomatch z
    · rw [upd_ne e]; exact a.dm b h
theorem Ex.free (a : Ex M G H G1 H1) {q : Addr} (h : H1 q = none) : H q = none := by
  cases e : H q with
  | none => rfl
  | some u => exact absurd h (a.dm q (by rw [e]; exact fun z => nomatch z))
theorem Ex.at_ (a : Ex M G H G1 H1) {q : Addr} {u : HO} (h : H q = some u) (m : q ∉ M) : H1 q = some u := a.hh q u m h
end
/-! ### a pure def: from data to data -/
/-! ### rules of our own -/
section
variable {X : Cx}
theorem min_two_strs {P : Program} {w : World} {A : Around} {E : Value → Shared → Prop} {s : Shared} {a b : Str} {t u : Tok} {Q : Value → Shared → Prop} (hh : A.handled = none)
    (h : ∀ h' tk, (∀ c o, s.heap.get? c = some o → h'.get? c = some o) → Q (if b.cps.toList < a.cps.toList then .str b u else .str a t) { s with heap := h', toks := tk }) :
    wpAny (model P w) A (call (.builtin "min") [.str a t, .str b u]) Q E s := by
  have hT : (s.heap.push { cls := .type "tuple", data := .seq #[.str a t, .str b u] }).IsTuple s.heap.objs.size #[.str a t, .str b u] := ⟨_, Heap.get?_push_size _ rfl, rfl, 0, rfl⟩
  refine call_min_two (wpAny_pyIter_tuple hT ?_)
  have hsz : (s.heap.push { cls := .type "tuple", data := .seq #[.str a t, .str b u] }).objs.size = s.heap.objs.size + 1 := Heap.size_push ..
  refine ⟨_, [_, s.heap.objs.size], [_], _, _, _, fun i j => decide ((if i = 0 then a else b).cps.toList < (if j = 0 then a else b).cps.toList), rfl, Walks.tuple (A := A.in1) hh _ s.heap.objs.size (by rw [hsz]; exact Nat.ne_of_lt (Nat.lt_succ_self _)) #[.str a t, .str b u],
    ⟨⟨_, Heap.get?_push_size _ rfl, rfl, rfl⟩, hT.push _⟩, fun c hc => ?_, (by show 0 < 2; decide), ?_, fun v h' tk hP hk => ?_⟩
  · show c < ((s.heap.push _).push _).objs.size
    rw [Heap.size_push, hsz]
    rcases List.mem_cons.mp hc with rfl | hc
    · rw [hsz]; exact Nat.lt_succ_self _
    · rcases List.mem_cons.mp hc with rfl | hc
      · exact Nat.lt_succ_of_lt (Nat.lt_succ_self _)
      · cases hc
  · intro i j vi vj s' Q' E' hi hj hq
    have two : ∀ (k : Nat) (v : Value), (#[Value.str a t, .str b u] : Array Value)[k]? = some v → ∃ tk, v = .str (if k = 0 then a else b) tk := fun k v e => by
      match k, e with
      | 0, e => exact ⟨t, (Option.some.inj e).symm⟩
      | 1, e => exact ⟨u, (Option.some.inj e).symm⟩
      | k + 2, e => cases e
    obtain ⟨t1, rfl⟩ := two i vi hi
    obtain ⟨t2, rfl⟩ := two j vj hj
    exact lt_str hq
  · have hold : ∀ c o, s.heap.get? c = some o → h'.get? c = some o := fun c o e => by
      refine hk c o (fun hm => ?_) (Heap.get?_push_of_some _ (Heap.get?_push_of_some _ e))
      rcases List.mem_cons.mp hm with e1 | hm
      · have := Heap.lt_size e; rw [e1, hsz] at this; exact Nat.lt_irrefl _ (Nat.lt_of_succ_lt this)
      · cases hm
    have hv : v = if b.cps.toList < a.cps.toList then Value.str b u else Value.str a t := by
      have hP' : (#[Value.str a t, .str b u] : Array Value)[argBest (fun i j => decide ((if i = 0 then a else b).cps.toList < (if j = 0 then a else b).cps.toList)) 1]? = some v := hP
      by_cases hba : b.cps.toList < a.cps.toList
      · rw [if_pos hba]
        have e : argBest (fun i j => decide ((if i = 0 then a else b).cps.toList < (if j = 0 then a else b).cps.toList)) 1 = 1 := by
          simp [argBest, hba]
        rw [e] at hP'
        exact (Option.some.inj hP').symm
      · rw [if_neg hba]
        have e : argBest (fun i j => decide ((if i = 0 then a else b).cps.toList < (if j = 0 then a else b).cps.toList)) 1 = 0 := by
          simp [argBest, hba]
        rw [e] at hP'
        exact (Option.some.inj hP').symm
    rw [hv]
    exact h h' tk hold
def rMin2 : List V → Hp → VK → Prop := fun xs H Q => (∃ i j, xs = [.int i, .int j] ∧ Q (.int (if j < i then j else i)) H) ∨ (∃ i j, xs = [.str i, .str j] ∧ Q (.str (if j.cps.toList < i.cps.toList then j else i)) H)
theorem call_minS2 (hc : X.calm = true) : CallR X (.builtin "min") rMin2 := by
  refine CallR.or (call_min2 hc) ?_
  intro pins s σ H xs us Q I r h
  obtain ⟨i, j, rfl, q⟩ := h
  obtain ⟨u, w', rfl, ⟨t, rfl⟩, ⟨t', rfl⟩⟩ := vals2 r
  refine min_two_strs (I.ok.hd hc) fun h' tk k => ⟨_, H, I.kept k, ?_, q⟩
  by_cases hj : j.cps.toList < i.cps.toList
  · rw [if_pos hj, if_pos hj]; exact ⟨_, rfl⟩
  · rw [if_neg hj, if_neg hj]; exact ⟨_, rfl⟩
end
theorem line_lt {n : Nat} (h : n ≤ 100000) : n < sizeLine := Nat.lt_of_le_of_lt h (by decide)
/-! ### steps -/
/-! ### items -/
theorem ixN_of {n : Nat} {k : Int} (h0 : 0 ≤ k) (h1 : k < n) : ixN n k = some k.toNat := by
  unfold ixN
  rw [if_pos h0, if_pos h1]
theorem atI_of {α : Type} {xs : List α} {k : Int} {v : α} (h0 : 0 ≤ k) (e : xs[k.toNat]? = some v) : atI xs k = some v := by
  have z : k = ((k.toNat : Nat) : Int) := by omega
  rw [z]
  exact atI_nat e
/-! ### the rules with the written part by name (a comprehension's block has it too) -/
section
variable {X : Cx} {K : PySem.W.Frag}
def rLen (K : PySem.W.Frag) : List V → Hp → VK → Prop := fun xs H Q => ∃ x n, xs = [x] ∧ LenV K x H n ∧ Q (.int (n : Nat)) H
theorem call_lenK (hK : X.K = K) : CallR X (.builtin "len") (rLen K) := by subst hK; exact call_len
end
theorem fn_none {P : Program} {w : World} {K : PySem.W.Frag} {mg : Str → Option Value} {base : Heap} {k : Nat} {f : Addr} {fd : FuncData} {ps : List Str} {sp : Sp} (no : ∀ vs H Q E, ¬ sp vs H Q E) : FnOk P w K mg base CX0 k f fd ps sp :=
  ⟨fun vs H Q E h => absurd h (no vs H Q E), fun A outer s H args us vs Q E _ _ _ _ h => absurd h (no vs H Q E)⟩
/-! ### isinstance of data -/
def tyN : PyData → String
  | .none => "NoneType"
  | .bool _ => "bool"
  | .int _ => "int"
  | .str _ => "str"
  | .list _ => "list"
  | .tuple _ => "tuple"
  | .dict _ => "dict"
/-! ### == of data -/
/-! ### in, of texts -/
/-! ### what a loop walks, by a count -/
end EA
namespace EA
open PySem PySem.Spec PyProof.Rows L2
section
variable {K : PySem.W.Frag} {A : Wd} {S : List MO}
theorem tup_of (R : Rl K A S) {ds : List PyData} {vs : List V} (hd : DaA K A.G vs ds) {Q : VK} (q : ∀ B v, Nx A B → Rl K B S → Da K B.G v (.tuple ds) → Q v B.H) (p : Addr) (o : Obj) (od : o.dict = none) (hp : A.H p = none) : Q (.ref p) (upd A.H p (.frz o (.tup vs))) := by
  obtain ⟨n2, R2⟩ := Nx.dat (o := .frz o (.tup vs)) R hp
  exact q ⟨upd A.G p (.frz o (.tup vs)), upd A.H p (.frz o (.tup vs)), A.ι⟩ _ n2 R2 (Da.tup (.inl ⟨o, upd_same, od⟩) (hd.up n2.gg))
theorem lst_of (R : Rl K A S) {ds : List PyData} {vs : List V} (hd : DaA K A.G vs ds) {Q : VK} (q : ∀ B v, Nx A B → Rl K B S → Da K B.G v (.list ds) → Q v B.H) (p : Addr) (hp : A.H p = none) : Q (.ref p) (upd A.H p (.lst vs)) := by
  obtain ⟨n2, R2⟩ := Nx.dat (o := .lst vs) R hp
  exact q ⟨upd A.G p (.lst vs), upd A.H p (.lst vs), A.ι⟩ _ n2 R2 (Da.lst upd_same (hd.up n2.gg))
end
/-! ### two-place operations -/
abbrev GO := List MO → W3 → W3 → Option PyData
def OpOk (K : PySem.W.Frag) (r : R2) (g : GO) : Prop := ∀ (A : Wd) (S : List MO) (x y : W3) (vx vy : V) (d : PyData) (Q : VK), Rl K A S → RW K A vx x → RW K A vy y → g S x y = some d → (∀ B v, Nx A B → Rl K B S → Da K B.G v d → Q v B.H) → r vx vy A.H Q
def eOp (g : GO) (a b : FE) : FE := fun sl S => (a sl S).bind fun p => (b sl p.2).bind fun q => (g q.2 p.1 q.1).map fun d => (.d d, q.2)
theorem eop_imp {K : PySem.W.Frag} {r : R2} {g : GO} (ok : OpOk K r g) {fa fb : FE} {σ : L2.St} {H : Hp} {Q : VK} (h : teO K (eOp g fa fb) σ H Q) : tOp r (teO K fa) (teO K fb) σ H Q := by
  obtain ⟨A, S, sl, w, S', rfl, R, s, e, q⟩ := h
  obtain ⟨⟨w1, S1⟩, e1, e⟩ := Option.bind_eq_some_iff.mp e
  obtain ⟨⟨w2, S2⟩, e2, e⟩ := Option.bind_eq_some_iff.mp e
  obtain ⟨d, e3, e⟩ := Option.map_eq_some_iff.mp e
  cases e
  refine ⟨A, S, sl, w1, S1, rfl, R, s, e1, fun B v n R1 r1 => ⟨B, S1, sl, w2, _, rfl, R1, s.mono n, e2, fun C u n2 R2 r2 => ?_⟩⟩
  exact ok C _ w1 w2 v u d Q R2 (r1.mono n2) r2 e3 fun D v n3 R3 r3 => q D v ((n.trans n2).trans n3) R3 r3
section
variable {K : PySem.W.Frag} {X : Cx} {a b : Expr} {fa fb : FE} {pos : Pos}
theorem e_op {op : Operator} {r : R2} {g : GO} (ho : OpR X (binaryOp op) r) (ok : OpOk K r g) (ha : PE3 K X a fa) (hb : PE3 K X b fb) : PE3 K X (.BinOp a op b pos) (eOp g fa fb) := ⟨pe_imp (pe_op ho ha.p hb.p) fun _ _ _ h => eop_imp ok h⟩
theorem e_ix {r : R2} {g : GO} (ho : IxR X r) (ok : OpOk K r g) (ha : PE3 K X a fa) (hb : PE3 K X b fb) (hs : PlainIx b) : PE3 K X (.Subscript a b pos) (eOp g fa fb) := ⟨pe_imp (pe_ix ho ha.p hb.p hs) fun _ _ _ h => eop_imp ok h⟩
end
/-- ints -/
def gI (C : Int → Int → Bool) (f : Int → Int → Int) : GO := fun _ x y => match x, y with
  | .d (.int i), .d (.int j) => if C i j = true then some (.int (f i j)) else none
  | _, _ => none
def gSub : GO := gI (fun _ _ => true) fun i j => i - j
def CMul3 (i j : Int) : Prop := CMul i j ∨ CMulW i j
theorem op_mul3 {X : Cx} : OpR X (binaryOp .Mult) (rI CMul3 fun i j => .int (i * j)) := opI fun _ _ _ _ _ _ _ hc q => mul_int q (hc.elim CMul.ok CMulW.ok)
def gMul : GO := gI (fun i j => (decide (-(2 ^ 64) < i ∧ i < 2 ^ 64) || decide (-(2 ^ 64) < j ∧ j < 2 ^ 64)) || decide (i.natAbs.log2 + j.natAbs.log2 < 1000000)) fun i j => i * j
def gFdiv : GO := gI (fun _ j => decide (0 < j ∧ j < 1073741824)) fun i j => i / j
def gMod : GO := gI (fun _ j => decide (0 < j)) fun i j => i % j
def gPow : GO := gI (fun i j => decide (0 ≤ j ∧ j ≤ 1000000 ∧ i.natAbs < 2 ^ 64)) fun i j => i ^ j.toNat
section
variable {K : PySem.W.Frag} {X : Cx}
theorem okI {C : Int → Int → Bool} {f : Int → Int → Int} {P : Int → Int → Prop} (h : ∀ i j, C i j = true → P i j) : OpOk K (rI P fun i j => .int (f i j)) (gI C f) := by
  intro A S x y vx vy d Q R rx ry e q
  unfold gI at e
  split at e
  · rename_i i j
    by_cases z : C i j = true
    · rw [if_pos z] at e
      cases e
      cases Da.int_inv rx
      cases Da.int_inv ry
      exact ⟨i, j, rfl, rfl, h i j z, q A _ (Nx.refl A) R (Da.int _)⟩
    · rw [if_neg z] at e; cases e
  · cases e
theorem okI0 {f : Int → Int → Int} : OpOk K (rI0 fun i j => .int (f i j)) (gI (fun _ _ => true) f) := by
  intro A S x y vx vy d Q R rx ry e q
  obtain ⟨i, j, e1, e2, _, h⟩ := okI (K := K) (C := fun _ _ => true) (f := f) (P := fun _ _ => True) (fun _ _ _ => trivial) A S x y vx vy d Q R rx ry e q
  exact ⟨i, j, e1, e2, h⟩
theorem ok_sub : OpOk K (rI0 fun i j => .int (i - j)) gSub := okI0
theorem ok_mul : OpOk K (rI CMul3 fun i j => .int (i * j)) gMul := okI fun i j h => by
  rcases Bool.or_eq_true_iff.mp h with h | h
  · rcases Bool.or_eq_true_iff.mp h with h | h
    · exact .inl (.inl (of_decide_eq_true h))
    · exact .inl (.inr (of_decide_eq_true h))
  · exact .inr (of_decide_eq_true (p := i.natAbs.log2 + j.natAbs.log2 < 1000000) h)
theorem ok_fdiv : OpOk K (rI CDiv fun i j => .int (i / j)) gFdiv := okI fun i j h => (of_decide_eq_true (p := 0 < j ∧ j < 1073741824) h)
theorem ok_mod : OpOk K (rI (fun _ j => 0 < j) fun i j => .int (i % j)) gMod := okI fun i j h => (of_decide_eq_true h :)
theorem ok_pow : OpOk K (rI CPow fun i j => .int (i ^ j.toNat)) gPow := okI fun i j h => (of_decide_eq_true (p := 0 ≤ j ∧ j ≤ 1000000 ∧ i.natAbs < 2 ^ 64) h)
/-- + of ints, texts, lists, tuples -/
def rAd (K : PySem.W.Frag) : R2 := fun x y H Q => (∃ i j, x = .int i ∧ y = .int j ∧ Q (.int (i + j)) H) ∨ (∃ i j, x = .str i ∧ y = .str j ∧ i.length + j.length ≤ sizeLine ∧ Q (.str (i ++ j)) H) ∨ rCat x y H Q ∨ rCatP K x y H Q
theorem op_ad (hK : X.K = K) : OpR X (binaryOp .Add) (rAd K) := by subst hK; exact OpR.or op_add (OpR.or op_add_str (OpR.or op_cat op_catP))
def gAddD : PyData → PyData → Option PyData
  | .int i, .int j => some (.int (i + j))
  | .str i, .str j => if i.length + j.length ≤ 100000 then some (.str (i ++ j)) else none
  | .tuple i, .tuple j => if i.length + j.length ≤ 100000 then some (.tuple (i ++ j)) else none
  | _, _ => none
def gCatL (S : List MO) (x y : W3) : Option (List PyData) := (viewL S x).bind fun xs => (viewL S y).bind fun ys => if xs.length + ys.length ≤ 100000 then some (xs ++ ys) else none
def gAdd : GO := fun S x y => match x, y with
  | .d a, .d b => (gAddD a b).or ((gCatL S x y).map .list)
  | _, _ => (gCatL S x y).map .list
theorem lineD {n : Nat} (h : n ≤ 100000) : n ≤ sizeLine := Nat.le_trans h (by decide)
theorem catL_ok {A : Wd} {S : List MO} {x y : W3} {vx vy : V} {ds : List PyData} (R : Rl K A S) (rx : RW K A vx x) (ry : RW K A vy y) (e : gCatL S x y = some ds) :
    ∃ l b xs zs, vx = .ref l ∧ vy = .ref b ∧ A.H l = some (.lst xs) ∧ A.H b = some (.lst zs) ∧ xs.length + zs.length ≤ sizeLine ∧ DaA K A.G (xs ++ zs) ds := by
  obtain ⟨xs, e1, e⟩ := Option.bind_eq_some_iff.mp e
  obtain ⟨ys, e2, e⟩ := Option.bind_eq_some_iff.mp e
  by_cases z : xs.length + ys.length ≤ 100000
  · rw [if_pos z] at e
    cases e
    obtain ⟨l, us, rfl, h1, d1⟩ := viewL_at R rx e1
    obtain ⟨b, ws, rfl, h2, d2⟩ := viewL_at R ry e2
    exact ⟨l, b, us, ws, rfl, rfl, h1, h2, by rw [d1.len, d2.len]; exact lineD z, d1.app d2⟩
  · rw [if_neg z] at e; cases e
theorem ok_add : OpOk K (rAd K) gAdd := by
  intro A S x y vx vy d Q R rx ry e q
  have lists : (gCatL S x y).map PyData.list = some d → rAd K vx vy A.H Q := fun e => by
    obtain ⟨ds, e1, e2⟩ := Option.map_eq_some_iff.mp e
    subst e2
    obtain ⟨l, b, xs, zs, rfl, rfl, h1, h2, hz, hd⟩ := catL_ok R rx ry e1
    exact .inr (.inr (.inl ⟨l, b, xs, zs, rfl, rfl, h1, h2, hz, lst_of R hd q⟩))
  unfold gAdd at e
  split at e
  · rename_i a b
    cases z : gAddD a b with
    | none => rw [z] at e; exact lists e
    | some c =>
      rw [z] at e
      cases e
      unfold gAddD at z
      split at z
      · cases z
        cases Da.int_inv rx
        cases Da.int_inv ry
        exact .inl ⟨_, _, rfl, rfl, q A _ (Nx.refl A) R (Da.int _)⟩
      · rename_i i j
        by_cases h : i.length + j.length ≤ 100000
        · rw [if_pos h] at z
          cases z
          cases Da.str_inv rx
          cases Da.str_inv ry
          exact .inr (.inl ⟨_, _, rfl, rfl, lineD h, q A _ (Nx.refl A) R (Da.str _)⟩)
        · rw [if_neg h] at z; cases z
      · rename_i i j
        by_cases h : i.length + j.length ≤ 100000
        · rw [if_pos h] at z
          cases z
          obtain ⟨a1, xs, rfl, h1, d1⟩ := Da.tup_inv rx
          obtain ⟨a2, ys, rfl, h2, d2⟩ := Da.tup_inv ry
          refine .inr (.inr (.inr ⟨a1, a2, xs, ys, rfl, rfl, sqT_up R.gh h1, sqT_up R.gh h2, by rw [d1.len, d2.len]; exact lineD h, fun z => ?_, fun _ z => ?_, fun _ _ => tup_of R (d1.app d2) q⟩))
          · subst z
            cases d1
            exact q A _ (Nx.refl A) R ry
          · subst z
            cases d2
            refine q A _ (Nx.refl A) R ?_
            rw [List.append_nil]; exact rx
        · rw [if_neg h] at z; cases z
      · cases z
  · exact lists e
/-- list + list, a new list -/
def nOp (g : List MO → W3 → W3 → Option (List PyData)) (a b : FE) : FN := fun sl S => (a sl S).bind fun p => (b sl p.2).bind fun q => (g q.2 p.1 q.1).map fun d => (d, q.2)
variable {a b : Expr} {fa fb : FE} {pos : Pos}
/-! ### items -/
def gIx : GO := fun S x y => match y with
  | .d (.int k) => match view S x with
    | some (.list xs) => atI xs k
    | some (.tuple xs) => atI xs k
    | some (.str z) => if z.length ≤ 100000 then (atI z.cps.toList k).map fun c => .str ⟨#[c]⟩ else none
    | _ => none
  | _ => none
theorem atI_daa {G : Hp} {vs : List V} {ds : List PyData} {k : Int} {d : PyData} (h : DaA K G vs ds) (e : atI ds k = some d) : ∃ v, atI vs k = some v ∧ Da K G v d := by
  unfold atI at e ⊢
  rw [h.len]
  obtain ⟨j, e1, e2⟩ := Option.bind_eq_some_iff.mp e
  rw [e1]
  exact h.get e2
theorem ok_ix : OpOk K (rIx K) gIx := by
  intro A S x y vx vy d Q R rx ry e q
  unfold gIx at e
  split at e
  · rename_i k
    cases Da.int_inv ry
    split at e
    · rename_i xs hx
      obtain ⟨a, vs, rfl, h1, _, hd⟩ := view_list R rx hx
      obtain ⟨v, h3, h4⟩ := atI_daa hd e
      exact .inl ⟨a, vs, k, v, rfl, rfl, h1, h3, q A _ (Nx.refl A) R h4⟩
    · rename_i xs hx
      obtain ⟨a, vs, rfl, h1, hd⟩ := view_tup R rx hx
      obtain ⟨v, h3, h4⟩ := atI_daa hd e
      exact .inr (.inl ⟨a, vs, k, v, rfl, rfl, h1, h3, q A _ (Nx.refl A) R h4⟩)
    · rename_i z hz
      by_cases h : z.length ≤ 100000
      · rw [if_pos h] at e
        obtain ⟨c, e1, e2⟩ := Option.map_eq_some_iff.mp e
        subst e2
        have dz := view_dp R rx hz
        cases dz
        exact .inr (.inr ⟨z, k, c, rfl, rfl, lineD h, e1, q A _ (Nx.refl A) R (Da.str _)⟩)
      · rw [if_neg h] at e; cases e
    · cases e
  · cases e
theorem ix_sq (hK : X.K = K) : IxR X (rIx K) := by subst hK; exact ix_seq
/-! ### slices -/
def oNone : FO := fun _ S => some (none, S)
def oSome (f : FE) : FO := fun sl S => (f sl S).bind fun p => match p.1 with
  | .d (.int i) => some (some i, p.2)
  | _ => none
theorem o_none : PO3 K X none oNone := ⟨⟨fun pins s σ H Q I h => by
  obtain ⟨A, S, sl, w, S', rfl, R, s', e, q⟩ := h
  cases e
  exact (po_none (X := X)).run pins s σ _ Q I (q A (Nx.refl A) R)⟩⟩
theorem o_some (h : PE3 K X a fa) : PO3 K X (some a) (oSome fa) := ⟨⟨fun pins s σ H Q I hh => by
  refine (po_some h.p).run pins s σ _ Q I ?_
  obtain ⟨A, S, sl, w, S', rfl, R, s', e, q⟩ := hh
  obtain ⟨⟨w1, S1⟩, e1, e⟩ := Option.bind_eq_some_iff.mp e
  dsimp only at e
  refine ⟨A, S, sl, w1, S1, rfl, R, s', e1, fun B v n R1 r1 => ?_⟩
  split at e
  · cases e
    exact ⟨_, Da.int_inv r1, q B n R1⟩
  · cases e⟩⟩
def cutD {α : Type} (xs : List α) (lo hi : Option Int) : List α := (xs.drop (HT.sIx xs.length 0 lo)).take (HT.sIx xs.length xs.length hi - HT.sIx xs.length 0 lo)
theorem cut_daa {G : Hp} {vs : List V} {ds : List PyData} (h : DaA K G vs ds) (lo hi : Option Int) : DaA K G (cutV vs lo hi) (cutD ds lo hi) := by
  unfold cutV cutD
  rw [h.len]
  exact (h.drop _).take _
/-- texts, tuples, lists -/
def rSl3 (K : PySem.W.Frag) : V → Option Int → Option Int → Hp → VK → Prop := fun x lo hi H Q => rSlL K x lo hi H Q ∨ rSlP K x lo hi H Q ∨ rSlS x lo hi H Q
theorem sl_3 (hK : X.K = K) : SlR X (rSl3 K) := by subst hK; exact SlR.or sl_list (SlR.or sl_tupP sl_str)
def eSl (a : FE) (l h : FO) : FE := fun sl S => (a sl S).bind fun p => (l sl p.2).bind fun q => (h sl q.2).bind fun u => match view u.2 p.1 with
  | some (.list xs) => some (.d (.list (cutD xs q.1 u.1)), u.2)
  | some (.tuple xs) => some (.d (.tuple (cutD xs q.1 u.1)), u.2)
  | some (.str z) => if z.length ≤ 100000 then some (.d (.str (cutS z q.1 u.1)), u.2) else none
  | _ => none
def nSl (a : FE) (l h : FO) : FN := fun sl S => (a sl S).bind fun p => (l sl p.2).bind fun q => (h sl q.2).bind fun u => match view u.2 p.1 with
  | some (.list xs) => some (cutD xs q.1 u.1, u.2)
  | _ => none
end
end EA
namespace EA
open PySem PySem.Spec PyProof.Rows L2
/-! ### texts in order -/
def slt (a b : Str) : Prop := a.cps.toList < b.cps.toList
instance (a b : Str) : Decidable (slt a b) := inferInstanceAs (Decidable (a.cps.toList < b.cps.toList))
theorem slt_irrefl (a : Str) : ¬ slt a a := List.lt_irrefl _
theorem slt_ne {a b : Str} (h : slt a b) : a ≠ b := fun e => slt_irrefl b (by rw [e] at h; exact h)
/-! ### conditions -/
inductive C where
  | b (v : Bool)
  | nd (s : Str) (on off : C)
  deriving DecidableEq
def C.enc : C → PyData
  | .b v => .bool v
  | .nd s x y => .tuple [.str s, x.enc, y.enc]
def C.ev (f : Str → Bool) : C → Bool
  | .b v => v
  | .nd s x y => if f s then x.ev f else y.ev f
def C.formed (s : Str) (x y : C) : C := if x = y then x else .nd s x y
def C.vars : C → List Str
  | .b _ => []
  | .nd s x y => s :: (x.vars ++ y.vars)
/-- of the one form, over these switches in this order -/
inductive OC : List Str → C → Prop where
  | leaf {ns : List Str} (v : Bool) : OC ns (.b v)
  | node {x : Str} {xs : List Str} {a b : C} : OC xs a → OC xs b → a ≠ b → OC (x :: xs) (.nd x a b)
  | skip {x : Str} {xs : List Str} {c : C} : OC xs c → OC (x :: xs) c
theorem OC.formed {x : Str} {xs : List Str} {a b : C} (ha : OC xs a) (hb : OC xs b) : OC (x :: xs) (C.formed x a b) := by
  unfold C.formed
  split
  · exact .skip ha
  · rename_i e
    exact .node ha hb e
theorem OC.app {ns : List Str} {c : C} (h : OC ns c) : ∀ pre : List Str, OC (pre ++ ns) c
  | [] => h
  | x :: r => .skip (OC.app h r)
theorem OC.bool_of {c : C} (h : OC [] c) : ∃ v, c = .b v := by
  cases h with
  | leaf v => exact ⟨v, rfl⟩
/-- where the first switch stands -/
theorem OC.split {ns : List Str} {s : Str} {x y : C} (h : OC ns (.nd s x y)) : ∃ pre ys, ns = pre ++ s :: ys ∧ OC ys x ∧ OC ys y ∧ x ≠ y := by
  generalize e : C.nd s x y = c at h
  induction h with
  | leaf v => cases e
  | node ha hb ne _ _ => cases e; exact ⟨[], _, rfl, ha, hb, ne⟩
  | @skip z xs c h ih =>
    obtain ⟨pre, ys, e1, r⟩ := ih e
    exact ⟨z :: pre, ys, by rw [e1]; rfl, r⟩
theorem OC.vars {ns : List Str} {c : C} (h : OC ns c) : ∀ s ∈ c.vars, s ∈ ns := by
  induction h with
  | leaf v => intro s hs; cases hs
  | @node x xs a b _ _ _ ha hb =>
    intro s hs
    rcases List.mem_cons.mp hs with e | hs
    · rw [e]; exact List.mem_cons_self
    · rcases List.mem_append.mp hs with hs | hs
      · exact List.mem_cons_of_mem _ (ha s hs)
      · exact List.mem_cons_of_mem _ (hb s hs)
  | skip _ ih => exact fun s hs => List.mem_cons_of_mem _ (ih s hs)
theorem C.ev_congr {f g : Str → Bool} : ∀ (c : C), (∀ s ∈ c.vars, f s = g s) → c.ev f = c.ev g
  | .b _, _ => rfl
  | .nd s x y, h => by
    show (if f s then x.ev f else y.ev f) = (if g s then x.ev g else y.ev g)
    rw [h s List.mem_cons_self, C.ev_congr x fun t ht => h t (List.mem_cons_of_mem _ (List.mem_append_left _ ht)), C.ev_congr y fun t ht => h t (List.mem_cons_of_mem _ (List.mem_append_right _ ht))]
def fset (f : Str → Bool) (s : Str) (o : Bool) : Str → Bool := fun t => if t = s then o else f t
theorem C.ev_fset {f : Str → Bool} {s : Str} {o : Bool} {c : C} (h : s ∉ c.vars) : c.ev (fset f s o) = c.ev f :=
  C.ev_congr c fun t ht => by
    unfold fset
    rw [if_neg fun e => h (by rw [← e]; exact ht)]
theorem OC.ev_fset {ns : List Str} {f : Str → Bool} {s : Str} {o : Bool} {c : C} (h : OC ns c) (n : s ∉ ns) : c.ev (fset f s o) = c.ev f := C.ev_fset fun m => n (h.vars s m)
/-- one set of settings, one form -/
theorem OC.uniq : ∀ {ns : List Str}, ns.Nodup → ∀ {c d : C}, OC ns c → OC ns d → (∀ f, c.ev f = d.ev f) → c = d
  | [], _, c, d, hc, hd, h => by
    obtain ⟨v, rfl⟩ := hc.bool_of
    obtain ⟨w, rfl⟩ := hd.bool_of
    exact congrArg C.b (h fun _ => true)
  | x :: xs, nd, c, d, hc, hd, h => by
    obtain ⟨nx, nd'⟩ := List.nodup_cons.mp nd
    have cof : ∀ {c : C}, OC (x :: xs) c → ∃ p q, OC xs p ∧ OC xs q ∧ (∀ f, c.ev f = if f x then p.ev f else q.ev f) ∧ c = C.formed x p q := fun {c} hc => by
      cases hc with
      | leaf v => exact ⟨.b v, .b v, .leaf v, .leaf v, fun f => by simp [C.ev], by simp [C.formed]⟩
      | @node _ _ a b ha hb ne => exact ⟨a, b, ha, hb, fun f => rfl, by simp [C.formed, ne]⟩
      | skip h => exact ⟨c, c, h, h, fun f => by simp, by simp [C.formed]⟩
    obtain ⟨p, q, hp, hq, e1, r1⟩ := cof hc
    obtain ⟨p', q', hp', hq', e2, r2⟩ := cof hd
    have ep : p = p' := OC.uniq nd' hp hp' fun f => by
      have z := h (fset f x true)
      rw [e1, e2] at z
      simp only [fset, if_true] at z
      have z1 := hp.ev_fset (f := f) (o := true) nx
      have z2 := hp'.ev_fset (f := f) (o := true) nx
      rw [← z1, ← z2]
      exact z
    have eq : q = q' := OC.uniq nd' hq hq' fun f => by
      have z := h (fset f x false)
      rw [e1, e2] at z
      simp only [fset, if_true, Bool.false_eq_true, if_false] at z
      have z1 := hq.ev_fset (f := f) (o := false) nx
      have z2 := hq'.ev_fset (f := f) (o := false) nx
      rw [← z1, ← z2]
      exact z
    rw [r1, r2, ep, eq]
/-- sorted names -/
structure NS (ns : List Str) : Prop where
  srt : ns.Pairwise slt
  ok : ∀ n ∈ ns, PyData.strOk n = true ∧ n.length ≤ 100
  few : ns.length ≤ 12
theorem pw_nodup {ns : List Str} (h : ns.Pairwise slt) : ns.Nodup := h.imp fun h => slt_ne h
theorem NS.nd {ns : List Str} (h : NS ns) : ns.Nodup := pw_nodup h.srt
/-! ### what the data must be for == -/
/-! ### keys of a dict, sorted texts -/
def C.size : C → Nat
  | .b _ => 1
  | .nd _ x y => x.size + y.size + 1
end EA
namespace EA
open PySem PySem.Spec PyProof.Rows L2
/-! ### whole numbers -/
section
variable {X : Cx}
/-! ### any, all of a list of truths -/
def rAll (K : PySem.W.Frag) : List V → Hp → VK → Prop := fun xs H Q => ∃ (p : Addr) (bs : List Bool), xs = [.ref p] ∧ SqL K H p (bs.map V.bl) ∧ Q (.bl (bs.all id)) H
theorem reads_bools {h : Heap} : ∀ {bs : List Bool} {us : List Value}, Vals (bs.map V.bl) us → ∃ as, ReadsAll h us (bs.map PyData.bool) as
  | [], _, .nil => ⟨_, .nil⟩
  | b :: bs, _, .cons r rs => by
    cases r
    obtain ⟨as, q⟩ := reads_bools rs
    exact ⟨_, .cons (.bool b) q⟩
theorem plain_bools : ∀ bs : List Bool, PyData.plainAll (bs.map PyData.bool) = true
  | [] => rfl
  | b :: bs => by
    show (true && PyData.plainAll (bs.map PyData.bool)) = true
    rw [plain_bools bs]
    rfl
theorem all_bools_id : ∀ bs : List Bool, (bs.map PyData.bool).all PyData.truthy = bs.all id
  | [] => rfl
  | b :: bs => by
    rw [List.map_cons, List.all_cons, List.all_cons, all_bools_id bs]
    rfl
theorem cr_all (hc : X.calm = true) : CallR X (.builtin "all") (rAll X.K) := by
  intro pins s σ H vs us Q I r h
  obtain ⟨p, bs, rfl, hq, q⟩ := h
  obtain ⟨u, rfl, ru⟩ := vals1 r
  obtain rfl : u = Value.ref p := ru
  obtain ⟨its, rv, pl, hz⟩ := I.list hq
  obtain ⟨as, ra⟩ := reads_bools (h := s.heap) rv
  refine W.all_list_data (I.ok.hd hc) pl.isList (by simpa using ra) (plain_bools bs) (fun x hx => ?_) fun h' tk k => ?_
  · obtain ⟨b, _, rfl⟩ := List.mem_map.mp hx
    trivial
  · rw [all_bools_id]
    exact ⟨.bl _, H, I.kept (t' := tk) k, rfl, q⟩
end
end EA
namespace EA
open PySem PySem.Spec PyProof.Rows L2
/-! ### the settings by their numbers -/
def asg : List Str → Nat → Str → Bool
  | [], _, _ => false
  | x :: xs, k, s => if s = x then decide (k / 2 ^ xs.length % 2 = 1) else asg xs k s
theorem div_mod_add {a m k q : Nat} (h : q < a) : (2 ^ a * m + k) / 2 ^ q % 2 = k / 2 ^ q % 2 := by
  have e : 2 ^ a = 2 ^ q * (2 * 2 ^ (a - q - 1)) := by
    rw [← Nat.pow_succ', ← Nat.pow_add]
    congr 1
    omega
  rw [e, Nat.mul_assoc, Nat.add_comm, Nat.add_mul_div_left _ _ (Nat.two_pow_pos q), Nat.mul_assoc, Nat.add_mul_mod_self_left]
theorem asg_add (m : Nat) : ∀ (xs : List Str) (a k : Nat) (s : Str), xs.length ≤ a → asg xs (2 ^ a * m + k) s = asg xs k s
  | [], _, _, _, _ => rfl
  | x :: xs, a, k, s, h => by
    rw [List.length_cons] at h
    show (if s = x then _ else _) = if s = x then _ else _
    rw [div_mod_add (by omega), asg_add m xs a k s (by omega)]
/-- the number of a setting -/
def idx : List Str → (Str → Bool) → Nat
  | [], _ => 0
  | x :: xs, f => (if f x then 2 ^ xs.length else 0) + idx xs f
theorem idx_lt : ∀ (ns : List Str) (f : Str → Bool), idx ns f < 2 ^ ns.length
  | [], _ => Nat.zero_lt_one
  | x :: xs, f => by
    have ih := idx_lt xs f
    show (if f x then 2 ^ xs.length else 0) + idx xs f < _
    rw [List.length_cons, Nat.pow_succ]
    split <;> omega
theorem asg_idx : ∀ {ns : List Str} {f : Str → Bool}, ns.Nodup → ∀ s ∈ ns, asg ns (idx ns f) s = f s
  | [], _, _, s, h => nomatch h
  | x :: xs, f, nd, s, h => by
    obtain ⟨nx, nd'⟩ := List.nodup_cons.mp nd
    have ih := idx_lt xs f
    have p := Nat.two_pow_pos xs.length
    show (if s = x then decide (((if f x then 2 ^ xs.length else 0) + idx xs f) / 2 ^ xs.length % 2 = 1) else asg xs ((if f x then 2 ^ xs.length else 0) + idx xs f) s) = f s
    by_cases e : s = x
    · rw [if_pos e, e]
      cases hf : f x with
      | true =>
        simp only [if_true]
        rw [Nat.add_div_left _ p, Nat.div_eq_of_lt ih]
        rfl
      | false =>
        simp only [Bool.false_eq_true, if_false, Nat.zero_add]
        rw [Nat.div_eq_of_lt ih]
        rfl
    · rw [if_neg e]
      have hs : s ∈ xs := (List.mem_cons.mp h).resolve_left e
      have ihs := asg_idx (f := f) nd' s hs
      split
      · have z := asg_add 1 xs xs.length (idx xs f) s (Nat.le_refl _)
        rw [Nat.mul_one] at z
        rw [z]
        exact ihs
      · rw [Nat.zero_add]
        exact ihs
/-- the truth row of a condition -/
structure Rep (ns : List Str) (c : C) (row : List Bool) : Prop where
  oc : OC ns c
  len : row.length = 2 ^ ns.length
  at_ : ∀ k, k < 2 ^ ns.length → row[k]? = some (c.ev (asg ns k))
theorem ev_idx {ns : List Str} {c : C} (h : OC ns c) (nd : ns.Nodup) (f : Str → Bool) : c.ev f = c.ev (asg ns (idx ns f)) :=
  C.ev_congr c fun s hs => (asg_idx nd s (h.vars s hs)).symm
theorem Rep.all {ns : List Str} {c : C} {row : List Bool} (h : Rep ns c row) (nd : ns.Nodup) {d : C} (hd : OC ns d) (e : ∀ k, k < 2 ^ ns.length → c.ev (asg ns k) = d.ev (asg ns k)) : c = d :=
  OC.uniq nd h.oc hd fun f => by rw [ev_idx h.oc nd, ev_idx hd nd]; exact e _ (idx_lt ns f)
/-! ### a setting with one switch turned -/
end EA
namespace EA
open PySem PySem.Spec PyProof.Rows L2
/-! ### drawn names -/
abbrev cl (s : Str) : List Nat := s.cps.toList
def Tag (k : Nat) (s : Str) : Prop := cl s = [109, 49 + k] ∨ cl s = [101, 49 + k] ∨ ∃ (c : Nat) (mid : List Nat), cl s = c :: (mid ++ [48 + k]) ∧ 65 ≤ c ∧ c ≤ 90 ∧ (∀ x ∈ mid, 97 ≤ x ∧ x ≤ 122) ∧ mid.length ≤ 7
theorem Tag.inj {i j : Nat} {s : Str} (h : Tag i s) (k : Tag j s) : i = j := by
  have last : ∀ {c : Nat} {mid mid' : List Nat} {c' x y : Nat}, c :: (mid ++ [x]) = c' :: (mid' ++ [y]) → x = y := fun {c mid mid' c' x y} e => by
    have e2 : mid ++ [x] = mid' ++ [y] := (List.cons.inj e).2
    have := congrArg List.getLast? e2
    simpa using this
  rcases h with h | h | ⟨c, mid, h, c1, c2, _, _⟩ <;> rcases k with k | k | ⟨c', mid', k, d1, d2, _, _⟩ <;> rw [h] at k
  · simp at k; omega
  · simp at k
  · have := (List.cons.inj k).1; omega
  · simp at k
  · simp at k; omega
  · have := (List.cons.inj k).1; omega
  · have := (List.cons.inj k).1; omega
  · have := (List.cons.inj k).1; omega
  · have := last k; omega
theorem Tag.ok {k : Nat} {s : Str} (h : Tag k s) (hk : k ≤ 8) : PyData.strOk s = true ∧ s.length ≤ 100 := by
  have len : s.length = (cl s).length := by
    show s.cps.size = s.cps.toList.length
    rw [Array.length_toList]
  have al : PyData.strOk s = (cl s).all fun x => decide (x < 0x110000) := by
    show s.cps.all (· < 0x110000) = _
    rw [Array.all_toList]
  rw [al, len, List.all_eq_true]
  rcases h with h | h | ⟨c, mid, h, c1, c2, m1, m2⟩ <;> rw [h]
  · refine ⟨fun x hx => ?_, by simp⟩
    have : x = 109 ∨ x = 49 + k := by simpa using hx
    exact decide_eq_true (by omega)
  · refine ⟨fun x hx => ?_, by simp⟩
    have : x = 101 ∨ x = 49 + k := by simpa using hx
    exact decide_eq_true (by omega)
  · refine ⟨fun x hx => ?_, by simp; omega⟩
    rcases List.mem_cons.mp hx with e | hx
    · exact decide_eq_true (by omega)
    · rcases List.mem_append.mp hx with hx | hx
      · have := m1 x hx
        exact decide_eq_true (by omega)
      · have : x = 48 + k := by simpa using hx
        exact decide_eq_true (by omega)
end EA
namespace EA
open PySem PySem.Spec PyProof.Rows L2
section
variable {K : PySem.W.Frag} {X : Cx} {a b : Expr} {fa fb : FE} {pos p2 : Pos} {es : List Expr}
theorem e_sl {lo hi : Option Expr} {l h : FO} (hK : X.K = K) (ha : PE3 K X a fa) (hl : PO3 K X lo l) (hh : PO3 K X hi h) : PE3 K X (.Subscript a (.Slice lo hi none p2) pos) (eSl fa l h) := ⟨pe_imp (pe_slice (sl_3 hK) ha.p hl.p hh.p) fun σ H Q h => by
  obtain ⟨A, S, sl, w, S', rfl, R, s, e, q⟩ := h
  obtain ⟨⟨w1, S1⟩, e1, e⟩ := Option.bind_eq_some_iff.mp e
  obtain ⟨⟨w2, S2⟩, e2, e⟩ := Option.bind_eq_some_iff.mp e
  obtain ⟨⟨w3, S3⟩, e3, e⟩ := Option.bind_eq_some_iff.mp e
  dsimp only at e
  refine ⟨A, S, sl, w1, S1, rfl, R, s, e1, fun B v n R1 r1 => ⟨B, S1, sl, w2, S2, rfl, R1, s.mono n, e2, fun C n2 R2 => ⟨C, S2, sl, w3, S3, rfl, R2, (s.mono n).mono n2, e3, fun D n3 R3 => ?_⟩⟩⟩
  have n' := (n.trans n2).trans n3
  have r3 := (r1.mono n2).mono n3
  split at e
  · rename_i xs hx
    cases e
    obtain ⟨a, vs, rfl, h1, _, hd⟩ := view_list R3 r3 hx
    exact .inl ⟨a, vs, rfl, h1, lst_of R3 (cut_daa hd _ _) fun B v m R r => q B v (n'.trans m) R r⟩
  · rename_i xs hx
    cases e
    obtain ⟨a, vs, rfl, h1, hd⟩ := view_tup R3 r3 hx
    refine .inr (.inl ⟨a, vs, rfl, h1, fun hw => ?_, fun _ => tup_of R3 (cut_daa hd _ _) fun B v m R r => q B v (n'.trans m) R r⟩)
    have ec : cutD xs w2 w3 = xs := by
      unfold cutD
      rw [← hd.len, hw.1, hw.2, List.drop_zero, Nat.sub_zero, hd.len, List.take_length]
    rw [ec] at q
    cases w1 with
    | d y => cases hx; exact q D _ n' R3 r3
    | r i =>
      unfold view at hx
      dsimp only at hx
      cases o : S'[i]? with
      | none => rw [o] at hx; cases hx
      | some m => rw [o] at hx; cases m <;> cases hx
    | sc _ => cases hx
    | ty _ => cases hx
  · rename_i z hz
    by_cases h : z.length ≤ 100000
    · rw [if_pos h] at e
      cases e
      have dz := view_dp R3 r3 hz
      cases dz
      exact .inr (.inr ⟨z, rfl, lineD h, q D _ n' R3 (Da.str _)⟩)
    · rw [if_neg h] at e; cases e
  · cases e⟩
/-! ### calls of known things -/
abbrev GC := List MO → List W3 → Option PyData
def CkOk (K : PySem.W.Frag) (r : List V → Hp → VK → Prop) (g : GC) : Prop := ∀ (A : Wd) (S : List MO) (ws : List W3) (vs : List V) (d : PyData) (Q : VK), Rl K A S → RWs K A vs ws → g S ws = some d → (∀ B v, Nx A B → Rl K B S → Da K B.G v d → Q v B.H) → r vs A.H Q
def eB (g : GC) (a : FA) : FE := fun sl S => (a sl S).bind fun p => (g p.2 p.1).map fun d => (.d d, p.2)
def nB (g : List MO → List W3 → Option (List PyData)) (a : FA) : FN := fun sl S => (a sl S).bind fun p => (g p.2 p.1).map fun d => (d, p.2)
theorem eb_imp {r : List V → Hp → VK → Prop} {g : GC} (ok : CkOk K r g) {f : FA} {σ : L2.St} {H : Hp} {Q : VK} (h : teO K (eB g f) σ H Q) : taO K f σ H fun vs H1 => r vs H1 Q := by
  obtain ⟨A, S, sl, w, S', rfl, R, s, e, q⟩ := h
  obtain ⟨⟨w1, S1⟩, e1, e⟩ := Option.bind_eq_some_iff.mp e
  obtain ⟨d, e2, e⟩ := Option.map_eq_some_iff.mp e
  cases e
  exact ⟨A, S, sl, w1, _, rfl, R, s, e1, fun B vs n R1 r1 => ok B _ w1 vs d Q R1 r1 e2 fun C v m R r => q C v (n.trans m) R r⟩
variable {r : List V → Hp → VK → Prop} {x : Str} {e : Expr} {f : FA} {bid : String} {T : String} {pp : Pos}
theorem e_cB {g : GC} (hc : CallR X (.builtin bid) r) (ok : CkOk K r g) (hg : Gl X x) (hm : X.mg x = none) (hv : bootBuiltins x = some (.builtin bid)) (ha : PA3 K X (e :: es) f) (hn : x ≠ "__name__" := by decide) (hdb : (x == ("__debug__" : Str)) = false := by decide)
    (he : starEach (e :: es) X.env = (false, eval e X.env) :: starEach es X.env := by rfl) (hpl : (backTo pos (starEach es X.env)).any (·.1) = false := by rfl) : PE3 K X (.Call (.Name x pp) (e :: es) [] pos) (eB g f) := ⟨pe_imp (pe_callB hc hg hm hv ha.p hn hdb he hpl) fun _ _ _ h => eb_imp ok h⟩
theorem e_cT {g : GC} (hc : CallR X (.type T) r) (ok : CkOk K r g) (hg : Gl X x) (hm : X.mg x = none) (hv : bootBuiltins x = some (.type T)) (ha : PA3 K X (e :: es) f) (hn : x ≠ "__name__" := by decide) (hdb : (x == ("__debug__" : Str)) = false := by decide)
    (he : starEach (e :: es) X.env = (false, eval e X.env) :: starEach es X.env := by rfl) (hpl : (backTo pos (starEach es X.env)).any (·.1) = false := by rfl) : PE3 K X (.Call (.Name x pp) (e :: es) [] pos) (eB g f) := ⟨pe_imp (pe_callTy hc hg hm hv ha.p hn hdb he hpl) fun _ _ _ h => eb_imp ok h⟩
def g1 (g : PyData → Option PyData) : GC := fun S ws => match ws with
  | [w] => (view S w).bind g
  | _ => none
theorem ck1 {r : List V → Hp → VK → Prop} {g : PyData → Option PyData} (h : ∀ (A : Wd) (S : List MO) (v : V) (x d : PyData) (Q : VK), Rl K A S → Dp K A.H v x → g x = some d → (∀ B v, Nx A B → Rl K B S → Da K B.G v d → Q v B.H) → r [v] A.H Q) : CkOk K r (g1 g) := by
  intro A S ws vs d Q R rs e q
  unfold g1 at e
  split at e
  · obtain ⟨x, e1, e2⟩ := Option.bind_eq_some_iff.mp e
    cases rs with
    | cons rv rr =>
      cases rr
      exact h A S _ x d Q R (view_dp R rv e1) e2 q
  · cases e
/-- len, also of a dict -/
def gLen : GC := fun S ws => match ws with
  | [w] => match view S w with
    | some (.list xs) => some (.int (xs.length : Nat))
    | some (.tuple xs) => some (.int (xs.length : Nat))
    | some (.str x) => if x.length ≤ 100000 then some (.int (x.length : Nat)) else none
    | _ => none
  | _ => none
theorem ck_len : CkOk K (rLen K) gLen := by
  intro A S ws vs d Q R rs e q
  unfold gLen at e
  split at e
  · rename_i w
    cases rs with
    | cons rv rr =>
      cases rr
      split at e
      · rename_i xs hx
        cases e
        obtain ⟨a, us, rfl, h1, _, hd⟩ := view_list R rv hx
        exact ⟨_, us.length, rfl, .inl ⟨us, h1, rfl⟩, by rw [hd.len]; exact q A _ (Nx.refl A) R (Da.int _)⟩
      · rename_i xs hx
        cases e
        obtain ⟨a, us, rfl, h1, hd⟩ := view_tup R rv hx
        exact ⟨_, us.length, rfl, .inr ⟨us, h1, rfl⟩, by rw [hd.len]; exact q A _ (Nx.refl A) R (Da.int _)⟩
      · rename_i y hy
        by_cases h : y.length ≤ 100000
        · rw [if_pos h] at e
          cases e
          have dz := view_dp R rv hy
          cases dz
          exact ⟨_, y.length, rfl, ⟨lineD h, rfl⟩, q A _ (Nx.refl A) R (Da.int _)⟩
        · rw [if_neg h] at e; cases e
      · cases e
  · cases e
def intD : PyData → Option PyData
  | .int i => some (.int i)
  | .bool b => some (.int (if b then 1 else 0))
  | _ => none
def rInt1 : List V → Hp → VK → Prop := fun xs H Q => (∃ i, xs = [.int i] ∧ Q (.int i) H) ∨ ∃ k, xs = [.bl k] ∧ Q (.int (if k then 1 else 0)) H
theorem ck_int : CkOk K rInt1 (g1 intD) := ck1 fun A S v x d Q R h e q => by
  cases h with
  | int i => cases e; exact .inl ⟨i, rfl, q A _ (Nx.refl A) R (Da.int _)⟩
  | bl b => cases e; exact .inr ⟨b, rfl, q A _ (Nx.refl A) R (Da.int _)⟩
  | _ => cases e
def absD : PyData → Option PyData
  | .int i => some (.int (if i < 0 then -i else i))
  | _ => none
def rAbs : List V → Hp → VK → Prop := fun xs H Q => ∃ i, xs = [.int i] ∧ Q (.int (if i < 0 then -i else i)) H
theorem ck_abs : CkOk K rAbs (g1 absD) := ck1 fun A S v x d Q R h e q => by
  cases h with
  | int i => cases e; exact ⟨i, rfl, q A _ (Nx.refl A) R (Da.int _)⟩
  | _ => cases e
/-- isinstance(x, T), T a builtin type -/
def gIsi : GC := fun S ws => match ws with
  | [w, .ty c] => (view S w).bind fun x => (kitB (tyN x) c).map .bool
  | _ => none
theorem tyX_dp {H : Hp} {v : V} {d : PyData} (h : Dp K H v d) : TyX K H v (.type (tyN d)) := by
  cases h with
  | non => exact .base .non
  | bl b => exact .base (.bl b)
  | int i => exact .base (.int i)
  | str x => exact .base (.str x)
  | lst h _ =>
    rcases h with (h | ⟨o, h⟩) | ⟨o, its, n, h, c, _⟩
    · exact .base (.lst h)
    · exact .base (.frz h)
    · exact .kList h c
  | tup h _ =>
    rcases h with (h | ⟨o, h⟩) | ⟨o, its, n, h, c, _⟩
    · exact .base (.tup h)
    · exact .fTuple h
    · exact .kTuple h c
theorem ck_isi : CkOk K (rIsi K) gIsi := by
  intro A S ws vs d Q R rs e q
  unfold gIsi at e
  split at e
  · rename_i w c
    cases rs with
    | cons rv rr =>
      cases rr with
      | cons rc rr =>
        cases rr
        obtain ⟨x, e1, e2⟩ := Option.bind_eq_some_iff.mp e
        obtain ⟨b, e3, e4⟩ := Option.map_eq_some_iff.mp e2
        subst e4
        obtain rfl := (rc : _ = V.ty c)
        exact ⟨_, .ty c, .type (tyN x), .type c, b, rfl, .ty c, tyX_dp (view_dp R rv e1), kit_ty e3, q A _ (Nx.refl A) R (Da.bl _)⟩
  · cases e
/-- tuple(xs), list(xs) -/
def gTupOf : GC := fun S ws => match ws with
  | [w] => match view S w with
    | some (.list xs) => some (.tuple xs)
    | some (.tuple xs) => some (.tuple xs)
    | _ => none
  | _ => none
theorem ck_tupOf : CkOk K (rTupP K) gTupOf := by
  intro A S ws vs d Q R rs e q
  unfold gTupOf at e
  split at e
  · rename_i w
    cases rs with
    | cons rv rr =>
      cases rr
      split at e
      · rename_i xs hx
        cases e
        obtain ⟨a, us, rfl, h1, _, hd⟩ := view_list R rv hx
        exact ⟨a, us, rfl, .inl ⟨h1, tup_of R hd q⟩⟩
      · rename_i xs hx
        cases e
        obtain ⟨a, us, rfl, h1, hd⟩ := view_tup R rv hx
        refine ⟨a, us, rfl, .inr ⟨h1, ?_⟩⟩
        cases w with
        | d y => cases hx; exact q A _ (Nx.refl A) R rv
        | r i =>
          unfold view at hx
          dsimp only at hx
          cases o : S[i]? with
          | none => rw [o] at hx; cases hx
          | some m => rw [o] at hx; cases m <;> cases hx
        | sc _ => cases hx
        | ty _ => cases hx
      · cases e
  · cases e
def gSeq (S : List MO) (ws : List W3) : Option (List PyData) := match ws with
  | [w] => match view S w with
    | some (.list xs) => some xs
    | some (.tuple xs) => some xs
    | _ => none
  | _ => none
/-- two numbers or texts: the lesser, the greater -/
def gMin2 : GC := fun S ws => match ws with
  | [.d (.int i), .d (.int j)] => some (.int (if j < i then j else i))
  | [.d (.str i), .d (.str j)] => some (.str (if j.cps.toList < i.cps.toList then j else i))
  | _ => none
theorem ck_min2 : CkOk K rMin2 gMin2 := by
  intro A S ws vs d Q R rs e q
  unfold gMin2 at e
  split at e
  · cases e
    cases rs with
    | cons r1 rr =>
      cases rr with
      | cons r2 rr =>
        cases rr
        cases Da.int_inv r1
        cases Da.int_inv r2
        exact .inl ⟨_, _, rfl, q A _ (Nx.refl A) R (Da.int _)⟩
  · cases e
    cases rs with
    | cons r1 rr =>
      cases rr with
      | cons r2 rr =>
        cases rr
        cases Da.str_inv r1
        cases Da.str_inv r2
        exact .inr ⟨_, _, rfl, q A _ (Nx.refl A) R (Da.str _)⟩
  · cases e
/-- any, all of a list of truths -/
def boolsOf : List PyData → Option (List Bool)
  | [] => some []
  | .bool b :: r => (boolsOf r).map (b :: ·)
  | _ :: _ => none
theorem boolsOf_eq : ∀ {ds : List PyData} {bs : List Bool}, boolsOf ds = some bs → ds = bs.map .bool
  | [], _, e => by cases e; rfl
  | .bool b :: r, _, e => by
    obtain ⟨bs, e1, rfl⟩ := Option.map_eq_some_iff.mp (show (boolsOf r).map (b :: ·) = some _ from e)
    rw [boolsOf_eq e1]; rfl
  | .none :: _, _, e => by cases e
  | .int _ :: _, _, e => by cases e
  | .str _ :: _, _, e => by cases e
  | .list _ :: _, _, e => by cases e
  | .tuple _ :: _, _, e => by cases e
  | .dict _ :: _, _, e => by cases e
theorem boolsOf_map : ∀ bs : List Bool, boolsOf (bs.map .bool) = some bs
  | [] => rfl
  | b :: r => by
    show (boolsOf (r.map .bool)).map (b :: ·) = _
    rw [boolsOf_map r]; rfl
def anyD (f : List Bool → Bool) : PyData → Option PyData
  | .list xs => (boolsOf xs).map fun bs => .bool (f bs)
  | _ => none
theorem dp_bls {H : Hp} : ∀ {bs : List Bool} {vs : List V}, DpAll K H vs (bs.map PyData.bool) → vs = bs.map V.bl
  | [], _, .nil => rfl
  | _ :: _, _, .cons (.bl _) t => by rw [List.map_cons, dp_bls t]
theorem ck_all : CkOk K (EA.rAll K) (g1 (anyD fun bs => bs.all id)) := ck1 fun A S v x d Q R h e q => by
  cases h with
  | lst h1 h2 =>
    obtain ⟨bs, e1, rfl⟩ := Option.map_eq_some_iff.mp (show (boolsOf _).map (fun bs => PyData.bool (bs.all id)) = some d from e)
    have eb := boolsOf_eq e1
    subst eb
    have hv := dp_bls h2
    subst hv
    exact ⟨_, bs, rfl, h1, q A _ (Nx.refl A) R (Da.bl _)⟩
  | _ => cases e
end
end EA
namespace EA
open PySem PySem.Spec PyProof.Rows L2
/-! ### defs -/
def sp3 (K : PySem.W.Frag) (f : F3) : Sp := fun vs H Q _ => ∃ (A : Wd) (S : List MO) (ws : List W3) (w : W3) (S' : List MO), A.H = H ∧ Rl K A S ∧ RWs K A vs ws ∧ f ws S = some (w, S') ∧ ∀ B v, Nx A B → Rl K B S' → RW K B v w → Q v B.H
def eCall (f : F3) (a : FA) : FE := fun sl S => (a sl S).bind fun p => f p.1 p.2
/-- with written defaults behind the arguments -/
def eCallD (f : F3) (a : FA) (ds : List PyData) : FE := fun sl S => (a sl S).bind fun p => f (p.1 ++ ds.map .d) p.2
/-- what a body's end comes to: own: a list made here is handed on as a changeable object; S0: the store at the entry -/
noncomputable def ret3 (own : Bool) (S0 : List MO) : Out → Option (W3 × List MO)
  | .nx _ S => if cutRel S0 S then some (.d .none, S.take S0.length) else none
  | .rt (.d x) S => if cutRel S0 S then some (.d x, S.take S0.length) else none
  | .rt (.r i) S => if i < S0.length then (if cutRel S0 S then some (.r i, S.take S0.length) else none) else match S[i]? with
    | some (.lst xs) => if cutRel S0 S then (if own = true then some (.r S0.length, S.take S0.length ++ [.lst xs]) else some (.d (.list xs), S.take S0.length)) else none
    | some (.dic ks) => if cutRel S0 S then (if own = true then some (.r S0.length, S.take S0.length ++ [.dic ks]) else none) else none
    | some (.rcd _) => if own = true then some (.r i, S) else none
    | some (.nls _) => if own = true then some (.r i, S) else none
    | some (.ndc _) => if own = true then some (.r i, S) else none
    | some (.ins _ _) => if own = true then some (.r i, S) else none
    | _ => none
  | _ => none
noncomputable def fdef (own : Bool) (np nl : Nat) (body : FS) : F3 := fun ws S => if ws.length = np then (body (ws.map some ++ List.replicate nl none) S).bind (ret3 own S) else none
/-- the store is kept whole -/
def retK : Out → Option (W3 × List MO)
  | .nx _ S => some (.d .none, S)
  | .rt w S => some (w, S)
  | _ => none
def fdefK (np nl : Nat) (body : FS) : F3 := fun ws S => if ws.length = np then (body (ws.map some ++ List.replicate nl none) S).bind retK else none
section
variable {K : PySem.W.Frag} {X : Cx} {a b e : Expr} {fa fb : FE} {pos p2 : Pos} {es : List Expr}
theorem e_call {k : Nat} {f : Addr} {fd : FuncData} {ps : List Str} {x : Str} {p : Pos} {f3 : F3} {fa : FA} (hK : X.K = K) (F : FnOk X.prog X.w X.K X.mg X.base CX0 k f fd ps (sp3 K f3)) (hr : Room k X.A) (hg : Gl X x) (hm : X.mg x = some (.ref f)) (hk : PySem.W.keepIn X.K (.ref f) = true) (hb : Binds X.K fd ps [])
    (ha : PA3 K X (e :: es) fa) (hdb : (x == ("__debug__" : Str)) = false := by decide) (he : starEach (e :: es) X.env = (false, eval e X.env) :: starEach es X.env := by rfl) (hpl : (backTo pos (starEach es X.env)).any (·.1) = false := by rfl) :
    PE3 K X (.Call (.Name x p) (e :: es) [] pos) (eCall f3 fa) := ⟨pe_imp (pe_call (dvs := []) F hr hg hm hk hb .nil pass0 ha.p hdb he hpl) fun σ H Q h => by
  obtain ⟨A, S, sl, w, S', rfl, R, s, e, q⟩ := h
  obtain ⟨⟨w1, S1⟩, e1, e⟩ := Option.bind_eq_some_iff.mp e
  refine ⟨A, S, sl, w1, S1, rfl, R, s, e1, fun B vs n R1 r1 => ⟨B, S1, w1, w, S', rfl, R1, by rw [List.append_nil]; exact r1, e, fun C v n2 R2 r2 => q C v (n.trans n2) R2 r2⟩⟩⟩
theorem sr3_start {A : Wd} {vs : List V} {ws : List W3} (h : RWs K A vs ws) (n : Nat) : SR3 K A (vs.map some ++ List.replicate n none) (ws.map some ++ List.replicate n none) := by
  refine ⟨by rw [List.length_append, List.length_append, List.length_map, List.length_map, h.len, List.length_replicate, List.length_replicate], fun i w e => ?_⟩
  by_cases hi : i < ws.length
  · rw [List.getElem?_append_left (by rw [List.length_map]; exact hi), List.getElem?_map] at e
    rw [List.getElem?_append_left (by rw [List.length_map, h.len]; exact hi), List.getElem?_map]
    clear hi
    induction h generalizing i with
    | nil => simp at e
    | @cons v w' vs ws hv t ih =>
      cases i with
      | zero => simp at e; subst e; exact ⟨v, rfl, hv⟩
      | succ i => exact ih i (by simpa using e)
  · rw [List.getElem?_append_right (by rw [List.length_map]; omega), List.getElem?_replicate] at e
    split at e <;> cases e
theorem ret_nx {own : Bool} {A : Wd} {S : List MO} (R : Rl K A S) {o : Out} {w : W3} {S' : List MO} (e : ret3 own S o = some (w, S')) {Q : VK} (q : ∀ B v, Nx A B → Rl K B S' → RW K B v w → Q v B.H) :
    EndsOk K A { nx := fun _ H' => Q .non H', rt := Q } o := by
  have len := R.len
  have cut : ∀ {B : Wd} {S1 : List MO}, cutRel S S1 → Nx A B → Rl K B S1 → Nx A ⟨B.G, B.H, A.ι⟩ ∧ Rl K ⟨B.G, B.H, A.ι⟩ (S1.take S.length) := fun {B S1} c n R1 => by
    have z := Nx.cut n R1 fun i o hi e => R.cut_ok c hi e
    rw [len] at z
    exact z
  cases o with
  | nx sl S1 =>
    by_cases c : cutRel S S1
    · have e' : (if cutRel S S1 then some (W3.d .none, S1.take S.length) else none) = some (w, S') := e
      rw [if_pos c] at e'
      cases e'
      intro B σ' n R1 _
      obtain ⟨n2, R2⟩ := cut c n R1
      exact q ⟨B.G, B.H, A.ι⟩ _ n2 R2 Da.non
    · have e' : (if cutRel S S1 then some (W3.d .none, S1.take S.length) else none) = some (w, S') := e
      rw [if_neg c] at e'; cases e'
  | bk _ _ => cases e
  | ct _ _ => cases e
  | rt u S1 =>
    intro B v n R1 r
    cases u with
    | ty _ => cases e
    | sc _ => cases e
    | d x =>
      by_cases c : cutRel S S1
      · have e' : (if cutRel S S1 then some (W3.d x, S1.take S.length) else none) = some (w, S') := e
        rw [if_pos c] at e'
        cases e'
        obtain ⟨n2, R2⟩ := cut c n R1
        exact q ⟨B.G, B.H, A.ι⟩ _ n2 R2 r
      · have e' : (if cutRel S S1 then some (W3.d x, S1.take S.length) else none) = some (w, S') := e
        rw [if_neg c] at e'; cases e'
    | r i =>
      have e : (if i < S.length then (if cutRel S S1 then some (W3.r i, S1.take S.length) else none) else match S1[i]? with
        | some (.lst xs) => if cutRel S S1 then (if own = true then some (W3.r S.length, S1.take S.length ++ [.lst xs]) else some (.d (.list xs), S1.take S.length)) else none
        | some (.dic ks) => if cutRel S S1 then (if own = true then some (W3.r S.length, S1.take S.length ++ [.dic ks]) else none) else none
        | some (.rcd _) => if own = true then some (W3.r i, S1) else none
        | some (.nls _) => if own = true then some (W3.r i, S1) else none
        | some (.ndc _) => if own = true then some (W3.r i, S1) else none
        | some (.ins _ _) => if own = true then some (W3.r i, S1) else none
        | _ => none) = some (w, S') := e
      by_cases hi : i < S.length
      · rw [if_pos hi] at e
        by_cases c : cutRel S S1
        · rw [if_pos c] at e
          cases e
          obtain ⟨n2, R2⟩ := cut c n R1
          exact q ⟨B.G, B.H, A.ι⟩ _ n2 R2 (rw_cut n.pre (by rw [len]; exact hi) r)
        · rw [if_neg c] at e; cases e
      · rw [if_neg hi] at e
        have r0 := r
        obtain ⟨p, hp, rfl⟩ := r
        have np : p ∉ A.ι := fun z => by
          obtain ⟨j, hj, ej⟩ := List.getElem_of_mem z
          have : A.ι[j]? = some p := by rw [List.getElem?_eq_getElem hj, ej]
          have := nodup_at R1.nd hp (ix_pre n.pre this)
          rw [len] at hj; omega
        have fp : A.H p = none := (n.fr p (List.mem_of_getElem? hp)).elim (fun z => absurd z np) id
        cases o : S1[i]? with
        | none => rw [o] at e; cases e
        | some m =>
          rw [o] at e
          have ob := R1.ob i m p o hp
          have owned : ∀ m', m'.flat = true → OR K B p m' → cutRel S S1 → w = .r S.length → S' = S1.take S.length ++ [m'] → Q (.ref p) B.H := fun m' hf ob c ew es => by
            subst ew es
            obtain ⟨n2, R2⟩ := cut c n R1
            obtain ⟨n3, R3⟩ := Nx.own0 (B := ⟨B.G, B.H, A.ι⟩) (o := m') n2 R2 fp np (ob.flat hf)
            have l2 : A.ι.length = (S1.take S.length).length := R2.len
            have r3 : RW K ⟨B.G, B.H, A.ι ++ [p]⟩ (.ref p) (.r (S1.take S.length).length) := RW.last (B := ⟨B.G, B.H, A.ι⟩) l2
            rw [← l2, len] at r3
            exact q ⟨B.G, B.H, A.ι ++ [p]⟩ _ n3 R3 r3
          have whole : (if own = true then some (W3.r i, S1) else none) = some (w, S') → Q (.ref p) B.H := fun e => by
            by_cases ho : own = true
            · rw [if_pos ho] at e
              cases e
              exact q B _ n R1 r0
            · rw [if_neg ho] at e; cases e
          cases m with
          | gone => cases e
          | ldic ks => cases e
          | tab _ _ => cases e
          | ins _ _ => exact whole e
          | rcd ks => exact whole e
          | nls ks => exact whole e
          | ndc ks => exact whole e
          | dic ks =>
            dsimp only at e
            by_cases c : cutRel S S1
            · rw [if_pos c] at e
              by_cases ho : own = true
              · rw [if_pos ho] at e
                cases e
                exact owned _ rfl ob c rfl rfl
              · rw [if_neg ho] at e; cases e
            · rw [if_neg c] at e; cases e
          | lst xs =>
            dsimp only at e
            by_cases c : cutRel S S1
            · rw [if_pos c] at e
              by_cases ho : own = true
              · rw [if_pos ho] at e
                cases e
                exact owned _ rfl ob c rfl rfl
              · rw [if_neg ho] at e
                cases e
                obtain ⟨n2, R2⟩ := cut c n R1
                obtain ⟨g, vs, hh, hd⟩ := ob
                obtain ⟨n3, R3⟩ := Nx.fix (B := ⟨B.G, B.H, A.ι⟩) n2 R2 fp np g hh
                exact q ⟨upd B.G p (.lst vs), B.H, A.ι⟩ _ n3 R3 (Da.lst upd_same (hd.up (fun b u e => by
                  show upd B.G p _ b = _
                  rw [upd_ne (ne_of_none e g)]; exact e)))
            · rw [if_neg c] at e; cases e
theorem retK_nx {A : Wd} {o : Out} {w : W3} {S' : List MO} (e : retK o = some (w, S')) {Q : VK} (q : ∀ B v, Nx A B → Rl K B S' → RW K B v w → Q v B.H) :
    EndsOk K A { nx := fun _ H' => Q .non H', rt := Q } o := by
  cases o with
  | nx sl S1 => cases e; exact fun B σ' n R1 _ => q B _ n R1 Da.non
  | rt u S1 => cases e; exact fun B v n R1 r => q B v n R1 r
  | bk _ _ => cases e
  | ct _ _ => cases e
/-- THE RULE for a def -/
theorem fn3 {P : Program} {w : World} {mg : Str → Option Value} {base : Heap} {x qual : Str} {st : Stmt} {f : Addr} {fd : FuncData} {N ps : List Str} {k np nl : Nat} {own : Bool} {body : FS} (F : Fun K x qual st f fd) (S : FnScope N ps (defScope st)) (hnp : ps.length = np) (hnl : N.length = np + nl)
    (hb : ∀ (cdv : Value) (A : Around) (outer : List Env) (s : Shared) (H : Hp) (E : XK), Room k (A.deeper (envOfC qual (defScope st) s.heap.objs.size f cdv)) → PSs3 K (cxOf CX0 P w K mg base N qual (defScope st) f cdv A outer s H E).nox (defBody st) body) : FnOk P w K mg base CX0 (k + 1) f fd ps (sp3 K (fdef own np nl body)) := by
  have arity : ∀ {ws : List W3} {S0 : List MO} {r}, fdef own np nl body ws S0 = some r → ws.length = np ∧ (body (ws.map some ++ List.replicate nl none) S0).bind (ret3 own S0) = some r := fun {ws S0 r} e => by
    unfold fdef at e
    by_cases z : ws.length = np
    · rw [if_pos z] at e; exact ⟨z, e⟩
    · rw [if_neg z] at e; cases e
  refine F.ok S (fun vs H Q E h => ?_) fun cdv A outer s H vs Q E hr h => ?_
  · obtain ⟨A, S0, ws, w, S', _, _, r, e, _⟩ := h
    rw [r.len, (arity e).1, hnp]
  · obtain ⟨B, S0, ws, w, S', rfl, R, r, e, q⟩ := h
    obtain ⟨hl, e⟩ := arity e
    obtain ⟨o, e1, e2⟩ := Option.bind_eq_some_iff.mp e
    refine ⟨_, (hb cdv A outer s B.H E hr).p, B, S0, _, o, rfl, R, ?_, e1, ret_nx R e2 q⟩
    have z := sr3_start r nl
    have ez : N.length - vs.length = nl := by rw [r.len, hl]; omega
    unfold L2.start
    rw [ez]; exact z
/-! ### comprehensions -/
theorem n_lc {elt tg iter : Expr} {ifs : List Expr} {scope : Scope} {own : List (Str × Nat)} {vs ws : List Nat} {it : FI} {g : FG} {t : FT} {f : FE} (hc : X.calm = true) (hN : X.N.Nodup) (hi : PI3 K X tg iter it) (ok : BlkOk X.N X.env.scope scope own) (hv : own.map (·.2) = vs) (hw : ∀ j ∈ ws, j ∈ vs)
    (hg : ∀ (s : Shared) (H : Hp) (C : Addr) (cl : List (Str × Addr)) (fp : List Addr), PG3 K (X.blk s H scope (compEnvC scope cl C X.env) fp) tg ws g) (ht : ∀ (s : Shared) (H : Hp) (C : Addr) (cl : List (Str × Addr)) (fp : List Addr), PTs3 K (X.blk s H scope (compEnvC scope cl C X.env) fp) ifs t)
    (he : ∀ (s : Shared) (H : Hp) (C : Addr) (cl : List (Str × Addr)) (fp : List Addr), PE3 K (X.blk s H scope (compEnvC scope cl C X.env) fp) elt f) (hs : ∀ x, foldedSetIterable iter X.env x = pure x := by intro _; rfl) :
    PN3 K X (.ListComp elt [⟨tg, iter, ifs, 0⟩] scope pos) (nLc vs it g t f) := ⟨pe_imp (pe_lc hc hN hi.p ok (fun s H C cl fp => (hg s H C cl fp).p) (fun s H C cl fp => (ht s H C cl fp).p) (fun s H C cl fp => (he s H C cl fp).p) hs) fun _ _ _ h => by rw [hv]; exact lc_go hw h⟩
/-! ### what is walked -/
open Classical in
/-- the store still has the list that is walked -/
noncomputable def seqOk (w : W3) (x : PyData) : List MO → Bool := match w with
  | .d _ => fun _ => true
  | .sc _ => fun _ => true
  | w => fun S => decide (view S w = some x)
noncomputable def iSq (f : FE) : FI := fun sl S => (f sl S).bind fun p => match view p.2 p.1 with
  | some (.list xs) => some (⟨xs.map .d, seqOk p.1 (.list xs)⟩, p.2)
  | some (.tuple xs) => some (⟨xs.map .d, seqOk p.1 (.tuple xs)⟩, p.2)
  | _ => none
theorem seqOk_view {S S1 : List MO} {w : W3} {x : PyData} (h : seqOk w x S = true) (e : view S1 w = some x) : view S w = some x := by
  cases w with
  | d y => exact e
  | sc y => exact e
  | r i => simpa [seqOk] using h
  | ty y => cases e
end
end EA
namespace EA
open PySem PySem.Spec PyProof.Rows L2
/-! ### what is walked: lists, tuples, ranges, backwards -/
theorem pi_or {X : Cx} {tg e : Expr} {t u : TI} (h1 : PI X tg e t) (h2 : PI X tg e u) : PI X tg e (fun σ H R => t σ H R ∨ u σ H R) := ⟨fun pins s σ H R I h => h.elim (h1.run pins s σ H R I) (h2.run pins s σ H R I)⟩
section
variable {K : PySem.W.Frag} {X : Cx} {a b e tg : Expr} {fa fb : FE} {pos p2 pp : Pos} {es : List Expr}
theorem ws_get {xs : List PyData} {i : Nat} {w : W3} (h : (xs.map W3.d)[i]? = some w) : ∃ x, xs[i]? = some x ∧ w = .d x := by
  rw [List.getElem?_map] at h
  obtain ⟨x, h1, h2⟩ := Option.map_eq_some_iff.mp h
  exact ⟨x, h1, h2.symm⟩
theorem i_sq (hK : X.K = K) (h : PE3 K X e fa) : PI3 K X tg e (iSq fa) := ⟨pi_imp (pi_or (pi_list h.p) (pi_tup h.p)) fun σ H R h => by
  subst hK
  obtain ⟨A, S, sl, j, S', rfl, R0, s, e, q⟩ := h
  obtain ⟨⟨w1, S1⟩, e1, e⟩ := Option.bind_eq_some_iff.mp e
  dsimp only at e
  split at e
  · rename_i xs hx
    cases e
    refine .inl ⟨A, S, sl, w1, S', rfl, R0, s, e1, fun B v n R1 r1 => ?_⟩
    obtain ⟨a, vs, rfl, h1, _, hd⟩ := view_list R1 r1 hx
    refine ⟨a, rfl, ⟨vs, h1⟩, q B _ n R1 fun C S2 n2 R2 ok i => ?_⟩
    obtain ⟨a2, vs2, ea, h2, _, hd2⟩ := view_list R2 (r1.monov n2) (seqOk_view ok hx)
    cases ea
    refine ⟨fun w hw => ?_, fun hi => ⟨vs2, h2, by rw [hd2.len]; simpa using hi⟩⟩
    obtain ⟨x, hx2, rfl⟩ := ws_get hw
    obtain ⟨u, hu, du⟩ := hd2.get hx2
    refine ⟨⟨vs2, u, h2, hu⟩, fun v H' y => ?_⟩
    obtain ⟨rfl, y2⟩ := y
    have := y2 vs2 h2
    rw [hu] at this
    cases this
    exact ⟨C, rfl, Nx.refl C, R2, du⟩
  · rename_i xs hx
    cases e
    refine .inr ⟨A, S, sl, w1, S', rfl, R0, s, e1, fun B v n R1 r1 => ?_⟩
    obtain ⟨a, vs, rfl, h1, hd⟩ := view_tup R1 r1 hx
    refine ⟨a, rfl, ⟨vs, h1⟩, q B _ n R1 fun C S2 n2 R2 ok i => ?_⟩
    obtain ⟨a2, vs2, ea, h2, hd2⟩ := view_tup R2 (r1.monov n2) (seqOk_view ok hx)
    cases ea
    refine ⟨fun w hw => ?_, fun hi => ⟨vs2, h2, by rw [hd2.len]; simpa using hi⟩⟩
    obtain ⟨x, hx2, rfl⟩ := ws_get hw
    obtain ⟨u, hu, du⟩ := hd2.get hx2
    refine ⟨⟨vs2, u, h2, hu⟩, fun v H' y => ?_⟩
    obtain ⟨rfl, y2⟩ := y
    have := y2 vs2 h2
    rw [hu] at this
    cases this
    exact ⟨C, rfl, Nx.refl C, R2, du⟩
  · cases e⟩
def yes : List MO → Bool := fun _ => true
/-- the numbers lo, lo + 1, .. -/
def intsW (lo : Int) (n : Nat) : List W3 := (List.range n).map fun i => .d (.int (lo + (i : Nat)))
theorem intsW_get {lo : Int} {n i : Nat} {w : W3} (h : (intsW lo n)[i]? = some w) : i < n ∧ w = .d (.int (lo + (i : Nat))) := by
  unfold intsW at h
  rw [List.getElem?_map] at h
  obtain ⟨k, h1, h2⟩ := Option.map_eq_some_iff.mp h
  obtain ⟨h3, h4⟩ := List.getElem?_eq_some_iff.mp h1
  rw [List.getElem_range] at h4
  rw [List.length_range] at h3
  subst h4
  exact ⟨h3, h2.symm⟩
theorem itr_r {B : Wd} {lo : Int} {n : Nat} : ItR K B (Itr lo n) ⟨intsW lo n, yes⟩ := fun C S n1 R1 _ i => by
  refine ⟨fun w hw => ?_, fun hi => ?_⟩
  · obtain ⟨hi, rfl⟩ := intsW_get hw
    refine ⟨hi, fun v H' y => ?_⟩
    obtain ⟨rfl, rfl⟩ := y
    exact ⟨C, rfl, Nx.refl C, R1, Da.int _⟩
  · have z : (intsW lo n).length = n := by unfold intsW; rw [List.length_map, List.length_range]
    show n ≤ i
    have hi : (intsW lo n).length ≤ i := hi
    omega
def iR1 (f : FA) : FI := fun sl S => (f sl S).bind fun p => match p.1 with
  | [.d (.int j)] => if -(2 ^ 62) ≤ j ∧ j < 2 ^ 62 then some (⟨intsW 0 j.toNat, yes⟩, p.2) else none
  | _ => none
def iR2 (f : FA) : FI := fun sl S => (f sl S).bind fun p => match p.1 with
  | [.d (.int i), .d (.int j)] => if -(2 ^ 62) ≤ i ∧ i < 2 ^ 62 ∧ -(2 ^ 62) ≤ j ∧ j < 2 ^ 62 then some (⟨intsW i (j - i).toNat, yes⟩, p.2) else none
  | _ => none
theorem i_r1 {f : FA} (hg : Gl X "range") (hm : X.mg "range" = none) (ha : PA3 K X [a] f) (hs : starEach [a] X.env = [(false, eval a X.env)] := by rfl) : PI3 K X tg (.Call (.Name "range" pp) [a] [] pos) (iR1 f) := ⟨pi_imp (pi_range1 hg hm ha.p hs) fun σ H R h => by
  obtain ⟨A, S, sl, j, S', rfl, R0, s, e, q⟩ := h
  obtain ⟨⟨w1, S1⟩, e1, e⟩ := Option.bind_eq_some_iff.mp e
  dsimp only at e
  split at e
  · rename_i k
    by_cases z : -(2 ^ 62) ≤ k ∧ k < 2 ^ 62
    · rw [if_pos z] at e
      cases e
      refine ⟨A, S, sl, _, S', rfl, R0, s, e1, fun B vs n R1 rs => ?_⟩
      cases rs with
      | cons r rr =>
        cases rr
        cases Da.int_inv r
        exact ⟨k, rfl, z.1, z.2, q B _ n R1 itr_r⟩
    · rw [if_neg z] at e; cases e
  · cases e⟩
/-- reversed(x) of a list or a tuple that is data -/
def iRv (f : FE) : FI := fun sl S => (f sl S).bind fun p => match p.1 with
  | .d (.list xs) => some (⟨xs.reverse.map .d, yes⟩, p.2)
  | .d (.tuple xs) => some (⟨xs.reverse.map .d, yes⟩, p.2)
  | _ => none
/-! ### methods of lists -/
def listAt (S : List MO) : W3 → Option (List PyData)
  | .r i => match S[i]? with
    | some (.lst xs) => some xs
    | _ => none
  | _ => none
theorem listAt_of {A : Wd} {S : List MO} {v : V} {w : W3} {xs : List PyData} (R : Rl K A S) (r : RW K A v w) (e : listAt S w = some xs) : ∃ i a vs, w = .r i ∧ A.ι[i]? = some a ∧ S[i]? = some (.lst xs) ∧ v = .ref a ∧ A.G a = none ∧ A.H a = some (.lst vs) ∧ DaA K A.G vs xs := by
  cases w with
  | r i =>
    obtain ⟨a, ha, rfl⟩ := r
    unfold listAt at e
    dsimp only at e
    cases o : S[i]? with
    | none => rw [o] at e; cases e
    | some m =>
      rw [o] at e
      cases m with
      | lst ys =>
        cases e
        obtain ⟨g, vs, h1, h2⟩ := R.ob i _ a o ha
        exact ⟨i, a, vs, rfl, ha, o, rfl, g, h1, h2⟩
      | _ => cases e
  | _ => cases e
def setAt (S : List MO) (w : W3) (o : MO) : List MO := match w with
  | .r i => S.set i o
  | _ => S
/-- a method that may change its list: what it gives, the list behind it -/
abbrev GM := List PyData → List W3 → Option (PyData × List PyData)
def MkOk (K : PySem.W.Frag) (r : V → List V → Hp → VK → Prop) (g : GM) : Prop := ∀ (A : Wd) (a : Addr) (vs : List V) (xs : List PyData) (S : List MO) (ws : List W3) (us : List V) (d : PyData) (ys : List PyData) (Q : VK), Rl K A S → A.H a = some (.lst vs) → DaA K A.G vs xs → RWs K A us ws → g xs ws = some (d, ys) →
  (∀ (v : V) (vs' : List V), Da K A.G v d → DaA K A.G vs' ys → Q v (upd A.H a (.lst vs'))) → r (.ref a) us A.H Q
def eM (g : GM) (o : FE) (a : FA) : FE := fun sl S => (o sl S).bind fun p => if (listAt p.2 p.1).isSome = true then (a sl p.2).bind fun q => (listAt q.2 p.1).bind fun xs => (g xs q.1).map fun z => (.d z.1, setAt q.2 p.1 (.lst z.2)) else none
theorem eM_imp {r : V → List V → Hp → VK → Prop} {g : GM} (ok : MkOk K r g) {o : FE} {f : FA} {σ : L2.St} {H : Hp} {Q : VK} (h : teO K (eM g o f) σ H Q) : tBM K "list" r (teO K o) (taO K f) σ H Q := by
  obtain ⟨A, S, sl, w, S', rfl, R, s, e, q⟩ := h
  obtain ⟨⟨w1, S1⟩, e1, e⟩ := Option.bind_eq_some_iff.mp e
  dsimp only at e
  by_cases z : (listAt S1 w1).isSome = true
  · rw [if_pos z] at e
    obtain ⟨⟨w2, S2⟩, e2, e⟩ := Option.bind_eq_some_iff.mp e
    obtain ⟨xs, e3, e⟩ := Option.bind_eq_some_iff.mp e
    obtain ⟨⟨d, ys⟩, e4, e⟩ := Option.map_eq_some_iff.mp e
    cases e
    obtain ⟨xs0, h0⟩ := Option.isSome_iff_exists.mp z
    refine ⟨A, S, sl, w1, S1, rfl, R, s, e1, fun B v n R1 r1 => ⟨?_, B, S1, sl, w2, S2, rfl, R1, s.mono n, e2, fun C us n2 R2 r2 => ?_⟩⟩
    · obtain ⟨i, a, vs, rfl, _, _, rfl, _, h, _⟩ := listAt_of R1 r1 h0
      exact .inl ⟨rfl, _, SqL.of h⟩
    · obtain ⟨i, a, vs, rfl, ha, hS, rfl, g0, h, hd⟩ := listAt_of R2 (r1.mono n2) e3
      refine ok C a vs xs S2 w2 us d ys Q R2 h hd r2 e4 fun v vs' dv dvs => ?_
      obtain ⟨n3, R3⟩ := Nx.wr (u := .lst vs') (o := .lst ys) R2 ha g0 ⟨g0, vs', upd_same, dvs⟩ (by rw [h]; rfl)
      exact q ⟨C.G, upd C.H a (.lst vs'), C.ι⟩ v ((n.trans n2).trans n3) R3 dv
  · rw [if_neg z] at e; cases e
variable {o : Expr} {fo : FE} {f : FA} {name : Str} {apos cpos : Pos} {mid : String} {r : V → List V → Hp → VK → Prop} {g : GM}
theorem e_m (hK : X.K = K) (slot : Slot "list" name mid) (hty : typeOf (.builtin mid) = Pure.pure (.type "method_descriptor")) (hm : MtR X mid r) (ok : MkOk K r g) (ho : PE3 K X o fo) (ha : PA3 K X (e :: es) f)
    (hbase : attributeBase o name X.env (eval o X.env) = eval o X.env := by rfl)
    (hfew : ((backTo cpos (starEach (e :: es) X.env)).all (fun x => !x.1) && (backToKw cpos (keywordEach [] X.env)).all (fun x => x.1.isSome)
      && decide ((e :: es).length + ([] : List Keyword).length + (if ([] : List Keyword).isEmpty then 0 else 1) < 30)) = true := by rfl)
    (hline : (apos.endLine == cpos.line) = true := by rfl) (hs : starEach (e :: es) X.env = (false, eval e X.env) :: starEach es X.env := by rfl) (hplain : (backTo cpos (starEach es X.env)).any (·.1) = false := by rfl) :
    PE3 K X (.Call (.Attribute o name apos) (e :: es) [] cpos) (eM g fo f) := ⟨pe_imp (pe_bm PySem.F.plainAttrs_list slot hty hm ho.p ha.p hbase hfew hline hs hplain) fun _ _ _ h => by subst hK; exact eM_imp ok h⟩
def mApp : GM := fun xs ws => match ws with
  | [.d x] => if xs.length ≤ 100000 then some (.none, xs ++ [x]) else none
  | _ => none
theorem mk_app : MkOk K rAppend mApp := by
  intro A a vs xs S ws us d ys Q R h hd rs e q
  unfold mApp at e
  split at e
  · by_cases z : xs.length ≤ 100000
    · rw [if_pos z] at e
      cases e
      cases rs with
      | cons r rr =>
        cases rr
        exact ⟨a, vs, _, rfl, rfl, h, by rw [hd.len]; exact line_lt z, q _ _ Da.non (hd.app (.cons r .nil))⟩
    · rw [if_neg z] at e; cases e
  · cases e
/-! ### x[i] = v -/
def gSubL (o i : FE) : FG := fun w sl S => match w with
  | .d x => (o sl S).bind fun p => (i sl p.2).bind fun q => match q.1 with
    | .d (.int k) => (listAt q.2 p.1).bind fun xs => (ixN xs.length k).map fun j => (sl, setAt q.2 p.1 (.lst (xs.set j x)))
    | _ => none
  | _ => none
theorem g_sub {i : Expr} {fi : FE} (ho : PE3 K X o fo) (hi : PE3 K X i fi) (ha : ∀ v, assign (.Subscript o i pos) X.env v = (do let ov ← holding [v] (eval o X.env); let iv ← holding [v, ov] (eval i X.env); standAt pos; holding [v, ov, iv] (setItem ov iv v); release [v, ov, iv] []) := by intro _; rfl) : PG3 K X (.Subscript o i pos) [] (gSubL fo fi) := ⟨pg_imp (pg_sub ho.p hi.p set_list ha) fun v σ H Q h => by
  obtain ⟨A, S, sl, w, sl', S', rfl, R, s, r, e, q⟩ := h
  cases w with
  | d x =>
    obtain ⟨⟨w1, S1⟩, e1, e⟩ := Option.bind_eq_some_iff.mp e
    obtain ⟨⟨w2, S2⟩, e2, e⟩ := Option.bind_eq_some_iff.mp e
    dsimp only at e
    refine ⟨A, S, sl, w1, S1, rfl, R, s, e1, fun B u n R1 r1 => ⟨B, S1, sl, w2, S2, rfl, R1, s.mono n, e2, fun C t n2 R2 r2 => ?_⟩⟩
    split at e
    · rename_i k
      obtain ⟨xs, e3, e⟩ := Option.bind_eq_some_iff.mp e
      obtain ⟨j, e4, e⟩ := Option.map_eq_some_iff.mp e
      cases e
      cases Da.int_inv r2
      obtain ⟨i, a, vs, rfl, ha, hS, rfl, g0, h, hd⟩ := listAt_of R2 (r1.mono n2) e3
      have n' := n.trans n2
      refine ⟨a, vs, k, j, rfl, rfl, h, by rw [hd.len]; exact e4, ?_⟩
      obtain ⟨n3, R3⟩ := Nx.wr (u := .lst (vs.set j v)) (o := .lst (xs.set j x)) R2 ha g0 ⟨g0, vs.set j v, upd_same, DaA.set (Da.up n'.gg r) j hd⟩ (by rw [h]; rfl)
      exact q ⟨C.G, upd C.H a (.lst (vs.set j v)), C.ι⟩ σ (n'.trans n3) R3 (s.mono (n'.trans n3)) ⟨rfl, fun _ _ => rfl⟩
    · cases e
  | _ => cases e⟩
/-! ### name += e, of numbers -/
/-! ### a, b = x, y -/
def sPar (i j : Nat) (f : FA) : FS := fun sl S => (f sl S).bind fun p => match p.1 with
  | [x, y] => some (.nx ((sl.set i (some x)).set j (some y)) p.2)
  | _ => none
end
end EA
namespace EA
open PySem PySem.Spec PyProof.Rows L2
/-! ### in order, each once -/
def strsOf : List PyData → Option (List Str)
  | [] => some []
  | .str b :: r => (strsOf r).map (b :: ·)
  | _ :: _ => none
theorem strsOf_map : ∀ bs : List Str, strsOf (bs.map .str) = some bs
  | [] => rfl
  | b :: r => by
    show (strsOf (r.map .str)).map (b :: ·) = _
    rw [strsOf_map r]; rfl
section
variable {K : PySem.W.Frag} {X : Cx} {e o : Expr} {fa fo fi : FE} {pos pos2 pp pp2 : Pos} {P : Program} {w : World}
/-! ### dicts with numbers and texts as keys -/
def keyD : PyData → Option Key
  | .int i => some (.inl i)
  | .str x => some (.inr x)
  | _ => none
def dicAt (S : List MO) : W3 → Option (List (Key × PyData))
  | .r i => match S[i]? with
    | some (.dic xs) => some xs
    | _ => none
  | _ => none
def valD (kvs : List (Key × PyData)) (k : Key) : Option PyData := (kvs.find? fun kv => decide (kv.1 = k)).map (·.2)
def putD (kvs : List (Key × PyData)) (k : Key) (v : PyData) : List (Key × PyData) :=
  if (kvs.any fun kv => decide (kv.1 = k)) = true then kvs.map (fun kv => if kv.1 = k then (kv.1, v) else kv) else kvs ++ [(k, v)]
theorem dicAt_of {A : Wd} {S : List MO} {v : V} {w : W3} {xs : List (Key × PyData)} (R : Rl K A S) (r : RW K A v w) (e : dicAt S w = some xs) : ∃ i a vs, w = .r i ∧ A.ι[i]? = some a ∧ S[i]? = some (.dic xs) ∧ v = .ref a ∧ A.G a = none ∧ A.H a = some (.dK vs) ∧ DaK K A.G vs xs := by
  cases w with
  | r i =>
    obtain ⟨a, ha, rfl⟩ := r
    unfold dicAt at e
    dsimp only at e
    cases o : S[i]? with
    | none => rw [o] at e; cases e
    | some m =>
      rw [o] at e
      cases m with
      | dic ys =>
        cases e
        obtain ⟨g, vs, h1, h2⟩ := R.ob i _ a o ha
        exact ⟨i, a, vs, rfl, ha, o, rfl, g, h1, h2⟩
      | _ => cases e
  | _ => cases e
theorem key_da {G : Hp} {v : V} {x : PyData} {k : Key} (h : Da K G v x) (e : keyD x = some k) : v = kV k := by
  cases h with
  | int i => cases e; rfl
  | str i => cases e; rfl
  | _ => cases e
theorem daK_app {G : Hp} {vs us : List (Key × V)} {ds es : List (Key × PyData)} (h : DaK K G vs ds) (h2 : DaK K G us es) : DaK K G (vs ++ us) (ds ++ es) := by
  induction h with
  | nil => exact h2
  | cons a _ ih => exact .cons a ih
theorem daK_put {G : Hp} {vs : List (Key × V)} {ds : List (Key × PyData)} {k : Key} {v : V} {d : PyData} (h : DaK K G vs ds) (hv : Da K G v d) : DaK K G (putK vs k v) (putD ds k d) := by
  have e : (vs.any fun kv => decide (kv.1 = k)) = (ds.any fun kv => decide (kv.1 = k)) := by
    induction h with
    | nil => rfl
    | cons a _ ih => rw [List.any_cons, List.any_cons, ih]
  unfold putK putD
  rw [e]
  by_cases z : (ds.any fun kv => decide (kv.1 = k)) = true
  · rw [if_pos z, if_pos z]
    clear e z
    induction h with
    | nil => exact .nil
    | @cons k' v' d' vs ds a _ ih =>
      rw [List.map_cons, List.map_cons]
      by_cases c : k' = k
      · rw [if_pos c, if_pos c]; exact .cons hv ih
      · rw [if_neg c, if_neg c]; exact .cons a ih
  · rw [if_neg z, if_neg z]
    exact daK_app h (.cons hv .nil)
theorem daK_val {G : Hp} {vs : List (Key × V)} {ds : List (Key × PyData)} {k : Key} (h : DaK K G vs ds) : (valD ds k = none ∧ valV vs k = none) ∨ ∃ v d, valD ds k = some d ∧ valV vs k = some v ∧ Da K G v d := by
  induction h with
  | nil => exact .inl ⟨rfl, rfl⟩
  | @cons k' v' d' vs ds a _ ih =>
    unfold valD valV at ih ⊢
    rw [List.find?_cons, List.find?_cons]
    by_cases c : k' = k
    · have : decide (k' = k) = true := decide_eq_true c
      dsimp only
      rw [this]
      exact .inr ⟨v', d', rfl, rfl, a⟩
    · have : decide (k' = k) = false := decide_eq_false c
      dsimp only
      rw [this]
      exact ih
def eDN : FE := fun _ S => some (.r S.length, S ++ [.dic []])
theorem e_dn : PE3 K X (.Dict [] [] pos) eDN := ⟨pe_imp pe_dnewK fun σ H Q h => by
  obtain ⟨A, S, sl, w, S', rfl, R, s, e, q⟩ := h
  cases e
  intro p hp
  obtain ⟨n, R2⟩ := Nx.own (u := .dK []) (o := .dic []) R hp ⟨R.gh.free hp, [], upd_same, .nil⟩
  exact q ⟨A.G, upd A.H p (.dK []), A.ι ++ [p]⟩ _ n R2 (RW.last (B := ⟨A.G, upd A.H p (.dK []), A.ι⟩) R.len)⟩
def sDP (o i v : FE) : FS := fun sl S => (v sl S).bind fun p => match p.1 with
  | .d x => (o sl p.2).bind fun q => (i sl q.2).bind fun u => match u.1 with
    | .d y => (keyD y).bind fun k => (dicAt u.2 q.1).bind fun kvs => if kvs.length ≤ 100000 then some (.nx sl (setAt u.2 q.1 (.dic (putD kvs k x)))) else none
    | _ => none
  | _ => none
theorem s_dp {i v : Expr} {fv : FE} {pos' : Pos} (hu : X.A.units + 1 < cLine) (ho : PE3 K X o fo) (hi : PE3 K X i fi) (hv : PE3 K X v fv) (hs : swapsWith v (some (.Subscript o i pos')) pos.line X.env = pure false) : PS3 K X (.Assign [.Subscript o i pos'] v pos) (sDP fo fi fv) := ⟨ps_imp (ps_dput hu ho.p hi.p hv.p hs) fun D σ H h => by
  obtain ⟨A, S, sl, oo, rfl, R, s, e, q⟩ := h
  obtain ⟨⟨w1, S1⟩, e1, e⟩ := Option.bind_eq_some_iff.mp e
  cases w1 with
  | d x =>
    obtain ⟨⟨w2, S2⟩, e2, e⟩ := Option.bind_eq_some_iff.mp e
    obtain ⟨⟨w3, S3⟩, e3, e⟩ := Option.bind_eq_some_iff.mp e
    dsimp only at e
    refine ⟨A, S, sl, _, S1, rfl, R, s, e1, fun B v1 n R1 r1 => ⟨B, S1, sl, w2, S2, rfl, R1, s.mono n, e2, fun C v2 n2 R2 r2 => ⟨C, S2, sl, w3, S3, rfl, R2, (s.mono n).mono n2, e3, fun E v3 n3 R3 r3 => ?_⟩⟩⟩
    split at e
    · rename_i y
      obtain ⟨k, e4, e⟩ := Option.bind_eq_some_iff.mp e
      obtain ⟨kvs, e5, e⟩ := Option.bind_eq_some_iff.mp e
      by_cases z : kvs.length ≤ 100000
      · rw [if_pos z] at e
        cases e
        cases key_da r3 e4
        obtain ⟨i, a, vs, rfl, ha, hS, rfl, g0, h, hd⟩ := dicAt_of R3 (r2.mono n3) e5
        have n' := (n.trans n2).trans n3
        refine ⟨a, upd E.H a (.dK (putK vs k v1)), rfl, DPut.k h (by rw [hd.len]; exact line_lt z), ?_⟩
        obtain ⟨n4, R4⟩ := Nx.wr (u := .dK (putK vs k v1)) (o := .dic (putD kvs k x)) R3 ha g0 ⟨g0, putK vs k v1, upd_same, daK_put hd (Da.up (n2.trans n3).gg r1)⟩ (by rw [h]; rfl)
        exact q ⟨E.G, upd E.H a (.dK (putK vs k v1)), E.ι⟩ σ (n'.trans n4) R4 (s.mono (n'.trans n4))
      · rw [if_neg z] at e; cases e
    · cases e
  | _ => cases e⟩
def keyP : Key → PyData
  | .inl i => .int i
  | .inr x => .str x
/-- list(d): the keys -/
def gKeys (S : List MO) (ws : List W3) : Option (List PyData) := match ws with
  | [w] => (dicAt S w).map fun kvs => kvs.map fun kv => keyP kv.1
  | _ => none
def gLst3 (S : List MO) (ws : List W3) : Option (List PyData) := (gSeq S ws).or (gKeys S ws)
end
end EA
namespace EA
open PySem PySem.Spec PyProof.Rows L2
section
variable {K : PySem.W.Frag} {X : Cx}
theorem v3 (i : Nat) {x : Str} {pos : Pos} (hN : X.N[i]? = some x := by rfl) (hv : Vis X.env.scope x := by first | exact Or.inl rfl | exact Or.inr (Or.inl rfl) | exact Or.inr (Or.inr rfl)) (hd : (x == ("__debug__" : Str)) = false := by decide)
    (hcd : (x == ("__classdict__" : Str)) = false := by decide) : PE3 K X (.Name x pos) (eVar i) := e_var hN hv hd hcd
theorem lenK3 (hK : X.K = K) : CallR X (.builtin "len") (rLen K) := call_lenK hK
theorem isiK3 (hK : X.K = K) : CallR X (.builtin "isinstance") (rIsi K) := by subst hK; exact call_isi
theorem tupK3 (hK : X.K = K) : CallR X (.type "tuple") (rTupP K) := by subst hK; exact call_tupP
theorem allK3 (hK : X.K = K) (hc : X.calm = true) : CallR X (.builtin "all") (EA.rAll K) := by subst hK; exact EA.cr_all hc
theorem int1_3 : CallR X (.type "int") rInt1 := call_int1
theorem abs_3 : CallR X (.builtin "abs") rAbs := call_abs
theorem fn3_none {P : Program} {w : World} {mg : Str → Option Value} {base : Heap} {k : Nat} {f : Addr} {fd : FuncData} {ps : List Str} : FnOk P w K mg base CX0 k f fd ps (sp3 K fun _ _ => none) :=
  fn_none fun vs H Q E h => by obtain ⟨_, _, _, _, _, _, _, _, e, _⟩ := h; cases e
/-! ### "sep".join(xs) -/
def joinD (a : Str) (ys : List Str) : Option PyData := if (ys.map (·.length)).sum + ys.length * a.length ≤ 100000 then some (.str (Txt.join a ys)) else none
def eJoin (o e : FE) : FE := fun sl S => (o sl S).bind fun p => match p.1 with
  | .d (.str a) => (e sl p.2).bind fun q => (gSeq q.2 [q.1]).bind fun xs => (strsOf xs).bind fun ys => (joinD a ys).map fun d => (.d d, q.2)
  | _ => none
end
theorem _root_.L2.Room.units1 {k : Nat} {A : Around} (r : Room k A) : A.units + 1 < cLine := by have := r.un; omega
/-- the law, from its function -/
def spLaw3 (K : PySem.W.Frag) : Sp := fun vs H Q _ => ∃ (a : Addr) (ns : List Int), vs = [.ref a] ∧ SqL K H a (ns.map V.int) ∧ ns.length ≤ 63 ∧ ∀ H', Q (.bl true) H'
theorem law3 {P : Program} {w : World} {K : PySem.W.Frag} {mg : Str → Option Value} {base : Heap} {k : Nat} {f : Addr} {fd : FuncData} {x : Str} {f3 : F3} (F : FnOk P w K mg base CX0 k f fd [x] (sp3 K f3)) (h : ∀ ns : List Int, ns.length ≤ 63 → ∃ S, f3 [.sc ns] [] = some (.d (.bool true), S)) : FnOk P w K mg base CX0 k f fd [x] (spLaw3 K) :=
  F.imp fun vs H Q E hh => by
    obtain ⟨a, ns, rfl, hS, hl, q⟩ := hh
    obtain ⟨S, e⟩ := h ns hl
    refine ⟨⟨H, H, []⟩, [], [.sc ns], .d (.bool true), S, rfl, ⟨Same.refl _, .nil, rfl, fun i o a e => by simp at e⟩, .cons ⟨a, rfl, hS⟩ .nil, e, fun B v n R r => ?_⟩
    cases Da.bool_inv r
    exact q B.H
end EA
namespace EA
open PySem PySem.Spec PyProof.Rows L2
/-! ### it comes to a value that is so -/
def Wp {α : Type} (x : Option α) (Q : α → Prop) : Prop := ∃ a, x = some a ∧ Q a
section
variable {α β : Type} {x : Option α} {Q : α → Prop}
theorem wp_some {a : α} : Wp (some a) Q ↔ Q a := ⟨fun ⟨_, e, q⟩ => by cases e; exact q, fun q => ⟨a, rfl, q⟩⟩
theorem wp_bind {f : α → Option β} {Q : β → Prop} : Wp (x.bind f) Q ↔ Wp x fun a => Wp (f a) Q :=
  ⟨fun ⟨b, e, q⟩ => by obtain ⟨a, h1, h2⟩ := Option.bind_eq_some_iff.mp e; exact ⟨a, h1, b, h2, q⟩, fun ⟨a, h1, b, h2, q⟩ => ⟨b, by rw [h1]; exact h2, q⟩⟩
theorem wp_map {f : α → β} {Q : β → Prop} : Wp (x.map f) Q ↔ Wp x fun a => Q (f a) :=
  ⟨fun ⟨b, e, q⟩ => by obtain ⟨a, h1, rfl⟩ := Option.map_eq_some_iff.mp e; exact ⟨a, h1, q⟩, fun ⟨a, h1, q⟩ => ⟨f a, by rw [h1]; rfl, q⟩⟩
theorem Wp.imp {Q' : α → Prop} (h : Wp x Q) (i : ∀ a, Q a → Q' a) : Wp x Q' := let ⟨a, e, q⟩ := h; ⟨a, e, i a q⟩
theorem wp_eq {a : α} (h : x = some a) (q : Q a) : Wp x Q := ⟨a, h, q⟩
end
/-- .. with the store behind it -/
def Wp2 {α β : Type} (x : Option (α × β)) (Q : α → β → Prop) : Prop := Wp x fun a => Q a.1 a.2
theorem Wp2.imp {α β : Type} {x : Option (α × β)} {Q Q' : α → β → Prop} (h : Wp2 x Q) (i : ∀ a b, Q a b → Q' a b) : Wp2 x Q' := Wp.imp h fun a h => i a.1 a.2 h
theorem wp2_eq {α β : Type} {x : Option (α × β)} {Q : α → β → Prop} {a : α} {b : β} (h : x = some (a, b)) (q : Q a b) : Wp2 x Q := ⟨(a, b), h, q⟩
theorem wp2_some {α β : Type} {Q : α → β → Prop} {a : α} {b : β} (q : Q a b) : Wp2 (some (a, b)) Q := ⟨(a, b), rfl, q⟩
/-! ### the parts, run -/
section
variable {sl : Sl} {S : List MO}
theorem r_fdef {own : Bool} {np nl : Nat} {body : FS} {ws : List W3} (h : ws.length = np) : fdef own np nl body ws S = (body (ws.map some ++ List.replicate nl none) S).bind (ret3 own S) := by unfold fdef; rw [if_pos h]
theorem r_viewr {i : Nat} {xs : List PyData} (h : S[i]? = some (.lst xs)) : view S (.r i) = some (.list xs) := by unfold view; dsimp only; rw [h]
theorem r_listAt {i : Nat} {xs : List PyData} (h : S[i]? = some (.lst xs)) : listAt S (.r i) = some xs := by unfold listAt; dsimp only; rw [h]
end
theorem gI_ok {C : Int → Int → Bool} {f : Int → Int → Int} {S : List MO} {i j : Int} (h : C i j = true) : gI C f S (.d (.int i)) (.d (.int j)) = some (.int (f i j)) := by
  unfold gI
  dsimp only
  rw [if_pos h]
theorem r_sub {S : List MO} {i j : Int} : gSub S (.d (.int i)) (.d (.int j)) = some (.int (i - j)) := gI_ok rfl
theorem r_mod {S : List MO} {i j : Int} (h : 0 < j) : gMod S (.d (.int i)) (.d (.int j)) = some (.int (i % j)) := gI_ok (decide_eq_true h)
theorem r_fdiv {S : List MO} {i j : Int} (h : 0 < j) (h2 : j < 1073741824) : gFdiv S (.d (.int i)) (.d (.int j)) = some (.int (i / j)) := gI_ok (decide_eq_true ⟨h, h2⟩)
theorem r_mulr {S : List MO} {i j : Int} (h : -(2 ^ 64) < j) (h2 : j < 2 ^ 64) : gMul S (.d (.int i)) (.d (.int j)) = some (.int (i * j)) := gI_ok (by
  show ((_ || _) || _) = true
  rw [show decide (-(2 ^ 64) < j ∧ j < 2 ^ 64) = true from decide_eq_true ⟨h, h2⟩, Bool.or_true, Bool.true_or])
theorem r_mull {S : List MO} {i j : Int} (h : -(2 ^ 64) < i) (h2 : i < 2 ^ 64) : gMul S (.d (.int i)) (.d (.int j)) = some (.int (i * j)) := gI_ok (by
  show ((_ || _) || _) = true
  rw [show decide (-(2 ^ 64) < i ∧ i < 2 ^ 64) = true from decide_eq_true ⟨h, h2⟩, Bool.true_or, Bool.true_or])
/-! ### the parts, by what they come to -/
section
variable {sl : Sl} {S : List MO} {Q : W3 → List MO → Prop} {QA : List W3 → List MO → Prop} {QT : Bool → List MO → Prop} {QS : Out → Prop} {QN : List PyData → List MO → Prop} {QO : Option Int → List MO → Prop} {QG : Sl → List MO → Prop} {QI : It3 → List MO → Prop}
theorem wp_var {i : Nat} {w : W3} (h : sl[i]?.join = some w) (q : Q w S) : Wp2 (eVar i sl S) Q := by unfold eVar; rw [h]; exact wp_some.mpr q
theorem wp_d {x : PyData} (q : Q (.d x) S) : Wp2 (eD x sl S) Q := wp_some.mpr q
theorem wp_ty {n : String} (q : Q (.ty n) S) : Wp2 (eTy n sl S) Q := wp_some.mpr q
theorem wp_frz {f : FE} (h : Wp2 (f sl S) fun p1 p2 => Wp2 (match p1 with
  | .r i => match p2[i]? with
    | some (.lst xs) => some (W3.d (.list xs), p2.set i .gone)
    | _ => none
  | w => some (w, p2)) Q) : Wp2 (eFrz f sl S) Q := wp_bind.mpr h
theorem wp_frzr {i : Nat} {xs : List PyData} (h : S[i]? = some (.lst xs)) (q : Q (.d (.list xs)) (S.set i .gone)) : Wp2 (match W3.r i with
  | .r i => match S[i]? with
    | some (.lst xs) => some (W3.d (.list xs), S.set i .gone)
    | _ => none
  | w => some (w, S)) Q := by dsimp only; rw [h]; exact wp_some.mpr q
theorem wp_nil (q : QA [] S) : Wp2 (aNil sl S) QA := wp_some.mpr q
theorem wp_cons {e : FE} {r : FA} (h : Wp2 (e sl S) fun p1 p2 => Wp2 (r sl p2) fun q1 q2 => QA (p1 :: q1) q2) : Wp2 (aCons e r sl S) QA := wp_bind.mpr (Wp.imp h fun _ h => wp_map.mpr h)
theorem wp_tup {a : FA} (h : Wp2 (a sl S) fun p1 p2 => Wp (dsOf p1) fun ds => Q (.d (.tuple ds)) p2) : Wp2 (eTup a sl S) Q := wp_bind.mpr (Wp.imp h fun _ h => wp_map.mpr h)
theorem wp_nlst {a : FA} (h : Wp2 (a sl S) fun p1 p2 => Wp (dsOf p1) fun ds => QN ds p2) : Wp2 (nLst a sl S) QN := wp_bind.mpr (Wp.imp h fun _ h => wp_map.mpr h)
theorem wp_ds0 {Q : List PyData → Prop} (q : Q []) : Wp (dsOf []) Q := wp_some.mpr q
theorem wp_ds1 {Q : List PyData → Prop} {x : PyData} {r : List W3} (h : Wp (dsOf r) fun ds => Q (x :: ds)) : Wp (dsOf (.d x :: r)) Q := wp_map.mpr h
theorem wp_nd {n : FN} (h : Wp2 (n sl S) fun p1 p2 => Q (.d (.list p1)) p2) : Wp2 (eNd n sl S) Q := wp_map.mpr h
theorem wp_no {n : FN} (h : Wp2 (n sl S) fun p1 p2 => Q (.r p2.length) (p2 ++ [.lst p1])) : Wp2 (eNo n sl S) Q := wp_map.mpr h
theorem wp_nx (q : QS (.nx sl S)) : Wp (sNx sl S) QS := wp_some.mpr q
theorem wp_bk (q : QS (.bk sl S)) : Wp (sBk sl S) QS := wp_some.mpr q
theorem wp_ct (q : QS (.ct sl S)) : Wp (sCt sl S) QS := wp_some.mpr q
/-- behind a statement -/
def then3 (g : FS) (Q : Out → Prop) : Out → Prop
  | .nx sl S => Wp (g sl S) Q
  | o => Q o
theorem wp_seq {f g : FS} (h : Wp (f sl S) (then3 g QS)) : Wp (sSeq f g sl S) QS := wp_bind.mpr (Wp.imp h fun o h => by
  cases o with
  | nx _ _ => exact h
  | rt _ _ => exact wp_some.mpr h
  | bk _ _ => exact wp_some.mpr h
  | ct _ _ => exact wp_some.mpr h)
theorem th_nx {g : FS} (h : Wp (g sl S) QS) : then3 g QS (.nx sl S) := h
theorem th_rt {g : FS} {w : W3} (h : QS (.rt w S)) : then3 g QS (.rt w S) := h
theorem th_bk {g : FS} (h : QS (.bk sl S)) : then3 g QS (.bk sl S) := h
theorem th_ct {g : FS} (h : QS (.ct sl S)) : then3 g QS (.ct sl S) := h
theorem wp_ex {f : FE} (h : Wp2 (f sl S) fun p1 p2 => QS (.nx sl p2)) : Wp (sEx f sl S) QS := wp_map.mpr h
theorem wp_rt {f : FE} (h : Wp2 (f sl S) fun p1 p2 => QS (.rt p1 p2)) : Wp (sRt f sl S) QS := wp_map.mpr h
theorem wp_rtn (h : QS (.rt (.d .none) S)) : Wp (sRtN sl S) QS := wp_some.mpr h
theorem wp_sif {t : FT} {a b : FS} (h : Wp2 (t sl S) fun p1 p2 => if p1 = true then Wp (a sl p2) QS else Wp (b sl p2) QS) : Wp (sIf t a b sl S) QS := wp_bind.mpr (Wp.imp h fun p h => by
  dsimp only at h
  by_cases c : p.1 = true
  · rw [if_pos c] at h ⊢; exact h
  · rw [if_neg c] at h ⊢; exact h)
theorem wp_set {i : Nat} {f : FE} (h : Wp2 (f sl S) fun p1 p2 => QS (.nx (sl.set i (some p1)) p2)) : Wp (sSet i f sl S) QS := wp_map.mpr h
theorem wp_asg {f : FE} {g : FG} (h : Wp2 (f sl S) fun p1 p2 => Wp2 (g p1 sl p2) fun q1 q2 => QS (.nx q1 q2)) : Wp (sAsg f g sl S) QS := wp_bind.mpr (Wp.imp h fun _ h => wp_map.mpr h)
theorem wp_gnm {i : Nat} {w : W3} (h : QG (sl.set i (some w)) S) : Wp2 (gNm i w sl S) QG := wp_some.mpr h
theorem wp_gtp {r : List PyData → Sl → List MO → Option (Sl × List MO)} {xs : List PyData} (h : Wp2 (r xs sl S) QG) : Wp2 (gTp r (.d (.tuple xs)) sl S) QG := h
theorem wp_gsn (h : QG sl S) : Wp2 (gsNil [] sl S) QG := wp_some.mpr h
theorem wp_gsc {g : FG} {r : List PyData → Sl → List MO → Option (Sl × List MO)} {x : PyData} {xs : List PyData} (h : Wp2 (g (.d x) sl S) fun p1 p2 => Wp2 (r xs p1 p2) QG) : Wp2 (gsCons g r (x :: xs) sl S) QG := wp_bind.mpr h
theorem wp_for {it : FI} {g : FG} {b : FS} (h : Wp2 (it sl S) fun p1 p2 => Wp (fLoop p1.ok g b p1.ws sl p2) QS) : Wp (sFor it g b sl S) QS := wp_bind.mpr h
theorem wp_lc {own : List Nat} {it : FI} {g : FG} {t : FT} {e : FE} (h : Wp2 (it sl S) fun p1 p2 => p1.ws.length ≤ 100000 ∧ Wp2 (cLoop p1.ok g t e (wipe3 sl own) p1.ws p2) QN) : Wp2 (nLc own it g t e sl S) QN := wp_bind.mpr (Wp.imp h fun _ ⟨h1, h2⟩ => by rw [if_pos h1]; exact h2)
theorem wp_ecmp {g : GB} {a b : FE} (h : Wp2 (a sl S) fun p1 p2 => Wp2 (b sl p2) fun q1 q2 => Wp (view q2 p1) fun x => Wp (view q2 q1) fun y => Wp (g x y) fun c => Q (.d (.bool c)) q2) : Wp2 (eCmp g a b sl S) Q :=
  wp_bind.mpr (Wp.imp h fun _ h => wp_bind.mpr (Wp.imp h fun _ h => wp_bind.mpr (Wp.imp h fun _ h => wp_bind.mpr (Wp.imp h fun _ h => wp_map.mpr h))))
theorem wp_tcmp {g : GB} {a b : FE} (h : Wp2 (a sl S) fun p1 p2 => Wp2 (b sl p2) fun q1 q2 => Wp (view q2 p1) fun x => Wp (view q2 q1) fun y => Wp (g x y) fun c => QT c q2) : Wp2 (tCmp g a b sl S) QT :=
  wp_bind.mpr (Wp.imp h fun _ h => wp_bind.mpr (Wp.imp h fun _ h => wp_bind.mpr (Wp.imp h fun _ h => wp_bind.mpr (Wp.imp h fun _ h => wp_map.mpr h))))
theorem wp_ttr {f : FE} (h : Wp2 (f sl S) fun p1 p2 => Wp (truW p2 p1) fun b => QT b p2) : Wp2 (tTr f sl S) QT := wp_bind.mpr (Wp.imp h fun _ h => wp_map.mpr h)
theorem wp_not {f : FE} (h : Wp2 (f sl S) fun p1 p2 => Wp (truW p2 p1) fun b => Q (.d (.bool (!b))) p2) : Wp2 (eNot f sl S) Q := wp_bind.mpr (Wp.imp h fun _ h => wp_map.mpr h)
theorem wp_tnt {f : FT} (h : Wp2 (f sl S) fun p1 p2 => QT (!p1) p2) : Wp2 (tNt f sl S) QT := wp_map.mpr h
theorem wp_tan {f g : FT} (h : Wp2 (f sl S) fun p1 p2 => if p1 = true then Wp2 (g sl p2) QT else QT false p2) : Wp2 (tAn f g sl S) QT := wp_bind.mpr (Wp.imp h fun p h => by
  dsimp only at h
  by_cases c : p.1 = true
  · rw [if_pos c] at h ⊢; exact h
  · rw [if_neg c] at h ⊢; exact wp_some.mpr h)
theorem wp_tor {f g : FT} (h : Wp2 (f sl S) fun p1 p2 => if p1 = true then QT true p2 else Wp2 (g sl p2) QT) : Wp2 (tOr3 f g sl S) QT := wp_bind.mpr (Wp.imp h fun p h => by
  dsimp only at h
  by_cases c : p.1 = true
  · rw [if_pos c] at h ⊢; exact wp_some.mpr h
  · rw [if_neg c] at h ⊢; exact h)
theorem wp_ean {f g : FE} (h : Wp2 (f sl S) fun p1 p2 => ∃ c, p1 = .d (.bool c) ∧ if c = true then Wp2 (g sl p2) Q else Q (.d (.bool false)) p2) : Wp2 (eAn f g sl S) Q := wp_bind.mpr (Wp.imp h fun p h => by
  obtain ⟨c, e, h⟩ := h
  rw [e]
  cases c with
  | true => exact h
  | false => exact wp_some.mpr h)
theorem wp_eor {f g : FE} (h : Wp2 (f sl S) fun p1 p2 => ∃ c, p1 = .d (.bool c) ∧ if c = true then Q (.d (.bool true)) p2 else Wp2 (g sl p2) Q) : Wp2 (eOr f g sl S) Q := wp_bind.mpr (Wp.imp h fun p h => by
  obtain ⟨c, e, h⟩ := h
  rw [e]
  cases c with
  | true => exact wp_some.mpr h
  | false => exact h)
theorem wp_eif {t : FT} {f g : FE} (h : Wp2 (t sl S) fun p1 p2 => if p1 = true then Wp2 (f sl p2) Q else Wp2 (g sl p2) Q) : Wp2 (eIf t f g sl S) Q := wp_bind.mpr (Wp.imp h fun p h => by
  dsimp only at h
  by_cases c : p.1 = true
  · rw [if_pos c] at h ⊢; exact h
  · rw [if_neg c] at h ⊢; exact h)
theorem wp_op {g : GO} {a b : FE} (h : Wp2 (a sl S) fun p1 p2 => Wp2 (b sl p2) fun q1 q2 => Wp (g q2 p1 q1) fun d => Q (.d d) q2) : Wp2 (eOp g a b sl S) Q := wp_bind.mpr (Wp.imp h fun _ h => wp_bind.mpr (Wp.imp h fun _ h => wp_map.mpr h))
theorem wp_nop {g : List MO → W3 → W3 → Option (List PyData)} {a b : FE} (h : Wp2 (a sl S) fun p1 p2 => Wp2 (b sl p2) fun q1 q2 => Wp (g q2 p1 q1) fun d => QN d q2) : Wp2 (nOp g a b sl S) QN := wp_bind.mpr (Wp.imp h fun _ h => wp_bind.mpr (Wp.imp h fun _ h => wp_map.mpr h))
theorem wp_onone (h : QO none S) : Wp2 (oNone sl S) QO := wp_some.mpr h
theorem wp_osome {f : FE} (h : Wp2 (f sl S) fun p1 p2 => ∃ i, p1 = .d (.int i) ∧ QO (some i) p2) : Wp2 (oSome f sl S) QO := wp_bind.mpr (Wp.imp h fun p h => by
  obtain ⟨i, e, h⟩ := h
  rw [e]; exact wp_some.mpr h)
/-- a part of a sequence -/
def gCut (l h : Option Int) : PyData → Option PyData
  | .list xs => some (.list (cutD xs l h))
  | .tuple xs => some (.tuple (cutD xs l h))
  | .str z => if z.length ≤ 100000 then some (.str (cutS z l h)) else none
  | _ => none
theorem wp_esl {a : FE} {l h : FO} (hh : Wp2 (a sl S) fun p1 p2 => Wp2 (l sl p2) fun q1 q2 => Wp2 (h sl q2) fun u1 u2 => Wp (view u2 p1) fun x => Wp (gCut q1 u1 x) fun d => Q (.d d) u2) : Wp2 (eSl a l h sl S) Q :=
  wp_bind.mpr (Wp.imp hh fun _ h => wp_bind.mpr (Wp.imp h fun _ h => wp_bind.mpr (Wp.imp h fun u h => by
    obtain ⟨x, e, d, e2, q⟩ := h
    rw [e]
    unfold gCut at e2
    split at e2
    · cases e2; exact wp_some.mpr q
    · cases e2; exact wp_some.mpr q
    · rename_i z
      by_cases c : z.length ≤ 100000
      · rw [if_pos c] at e2
        cases e2
        dsimp only
        rw [if_pos c]; exact wp_some.mpr q
      · rw [if_neg c] at e2; cases e2
    · cases e2)))
theorem wp_nsl {a : FE} {l h : FO} (hh : Wp2 (a sl S) fun p1 p2 => Wp2 (l sl p2) fun q1 q2 => Wp2 (h sl q2) fun u1 u2 => ∃ xs, view u2 p1 = some (.list xs) ∧ QN (cutD xs q1 u1) u2) : Wp2 (nSl a l h sl S) QN :=
  wp_bind.mpr (Wp.imp hh fun _ h => wp_bind.mpr (Wp.imp h fun _ h => wp_bind.mpr (Wp.imp h fun u h => by
    obtain ⟨x, e, q⟩ := h
    rw [e]; exact wp_some.mpr q)))
theorem wp_b {g : GC} {a : FA} (h : Wp2 (a sl S) fun p1 p2 => Wp (g p2 p1) fun d => Q (.d d) p2) : Wp2 (eB g a sl S) Q := wp_bind.mpr (Wp.imp h fun _ h => wp_map.mpr h)
theorem wp_nb {g : List MO → List W3 → Option (List PyData)} {a : FA} (h : Wp2 (a sl S) fun p1 p2 => Wp (g p2 p1) fun d => QN d p2) : Wp2 (nB g a sl S) QN := wp_bind.mpr (Wp.imp h fun _ h => wp_map.mpr h)
theorem wp_call {f : F3} {a : FA} (h : Wp2 (a sl S) fun p1 p2 => Wp2 (f p1 p2) Q) : Wp2 (eCall f a sl S) Q := wp_bind.mpr h
theorem wp_isq {f : FE} (h : Wp2 (f sl S) fun p1 p2 => ∃ x xs, view p2 p1 = some x ∧ (x = .list xs ∨ x = .tuple xs) ∧ QI (⟨xs.map .d, seqOk p1 x⟩) p2) : Wp2 (iSq f sl S) QI := wp_bind.mpr (Wp.imp h fun p h => by
  obtain ⟨x, xs, e, h1, q⟩ := h
  rw [e]
  rcases h1 with rfl | rfl
  · exact wp_some.mpr q
  · exact wp_some.mpr q)
theorem wp_ir1 {f : FA} (h : Wp2 (f sl S) fun p1 p2 => ∃ j : Int, p1 = [.d (.int j)] ∧ (-(2 ^ 62) ≤ j ∧ j < 2 ^ 62) ∧ QI (⟨intsW 0 j.toNat, yes⟩) p2) : Wp2 (iR1 f sl S) QI := wp_bind.mpr (Wp.imp h fun p h => by
  obtain ⟨j, e, c, q⟩ := h
  rw [e]
  dsimp only
  rw [if_pos c]; exact wp_some.mpr q)
theorem wp_ir2 {f : FA} (h : Wp2 (f sl S) fun p1 p2 => ∃ i j : Int, p1 = [.d (.int i), .d (.int j)] ∧ (-(2 ^ 62) ≤ i ∧ i < 2 ^ 62 ∧ -(2 ^ 62) ≤ j ∧ j < 2 ^ 62) ∧ QI (⟨intsW i (j - i).toNat, yes⟩) p2) : Wp2 (iR2 f sl S) QI := wp_bind.mpr (Wp.imp h fun p h => by
  obtain ⟨i, j, e, c, q⟩ := h
  rw [e]
  dsimp only
  rw [if_pos c]; exact wp_some.mpr q)
theorem wp_irv {f : FE} (h : Wp2 (f sl S) fun p1 p2 => ∃ xs, (p1 = .d (.list xs) ∨ p1 = .d (.tuple xs)) ∧ QI (⟨xs.reverse.map .d, yes⟩) p2) : Wp2 (iRv f sl S) QI := wp_bind.mpr (Wp.imp h fun p h => by
  obtain ⟨xs, e, q⟩ := h
  rcases e with e | e
  · rw [e]; exact wp_some.mpr q
  · rw [e]; exact wp_some.mpr q)
theorem wp_m {g : GM} {o : FE} {a : FA} (h : Wp2 (o sl S) fun p1 p2 => ∃ x0, listAt p2 p1 = some x0 ∧ Wp2 (a sl p2) fun q1 q2 => Wp (listAt q2 p1) fun xs => Wp2 (g xs q1) fun z1 z2 => Q (.d z1) (setAt q2 p1 (.lst z2))) : Wp2 (eM g o a sl S) Q := wp_bind.mpr (Wp.imp h fun p h => by
  obtain ⟨x0, e, h⟩ := h
  rw [e]
  exact wp_bind.mpr (Wp.imp h fun _ h => wp_bind.mpr (Wp.imp h fun _ h => wp_map.mpr h)))
theorem wp_gsub {o i : FE} {x : PyData} (h : Wp2 (o sl S) fun p1 p2 => Wp2 (i sl p2) fun q1 q2 => ∃ k, q1 = .d (.int k) ∧ Wp (listAt q2 p1) fun xs => Wp (ixN xs.length k) fun j => QG sl (setAt q2 p1 (.lst (xs.set j x)))) : Wp2 (gSubL o i (.d x) sl S) QG := wp_bind.mpr (Wp.imp h fun _ h => wp_bind.mpr (Wp.imp h fun q h => by
  obtain ⟨k, e, h⟩ := h
  rw [e]
  exact wp_bind.mpr (Wp.imp h fun _ h => wp_map.mpr h)))
theorem wp_par {i j : Nat} {f : FA} (h : Wp2 (f sl S) fun p1 p2 => ∃ x y, p1 = [x, y] ∧ QS (.nx ((sl.set i (some x)).set j (some y)) p2)) : Wp (sPar i j f sl S) QS := wp_bind.mpr (Wp.imp h fun p h => by
  obtain ⟨x, y, e, q⟩ := h
  rw [e]; exact wp_some.mpr q)
theorem wp_dn (h : Q (.r S.length) (S ++ [.dic []])) : Wp2 (eDN sl S) Q := wp_some.mpr h
theorem wp_dp {o i v : FE} (h : Wp2 (v sl S) fun p1 p2 => ∃ x, p1 = .d x ∧ Wp2 (o sl p2) fun q1 q2 => Wp2 (i sl q2) fun u1 u2 => ∃ y k, u1 = .d y ∧ keyD y = some k ∧ ∃ kvs, dicAt u2 q1 = some kvs ∧ kvs.length ≤ 100000 ∧ QS (.nx sl (setAt u2 q1 (.dic (putD kvs k x))))) : Wp (sDP o i v sl S) QS := wp_bind.mpr (Wp.imp h fun p h => by
  obtain ⟨x, e, h⟩ := h
  rw [e]
  refine wp_bind.mpr (Wp.imp h fun q h => wp_bind.mpr (Wp.imp h fun u h => ?_))
  obtain ⟨y, k, e1, e2, kvs, e3, e4, q⟩ := h
  rw [e1]
  refine wp_bind.mpr (wp_eq e2 (wp_bind.mpr (wp_eq e3 ?_)))
  rw [if_pos e4]; exact wp_some.mpr q)
theorem wp_join {o e : FE} (h : Wp2 (o sl S) fun p1 p2 => ∃ a, p1 = .d (.str a) ∧ Wp2 (e sl p2) fun q1 q2 => ∃ ys, gSeq q2 [q1] = some (ys.map .str) ∧ Wp (joinD a ys) fun d => Q (.d d) q2) : Wp2 (eJoin o e sl S) Q := wp_bind.mpr (Wp.imp h fun p h => by
  obtain ⟨a, e1, h⟩ := h
  rw [e1]
  refine wp_bind.mpr (Wp.imp h fun q h => ?_)
  obtain ⟨ys, e2, h⟩ := h
  exact wp_bind.mpr (wp_eq e2 (wp_bind.mpr (wp_eq (strsOf_map ys) (wp_map.mpr h)))))
theorem wp_viewd {QV : PyData → Prop} {x : PyData} (h : QV x) : Wp (view S (.d x)) QV := wp_some.mpr h
theorem wp_viewr {QV : PyData → Prop} {i : Nat} {xs : List PyData} (e : S[i]? = some (.lst xs)) (h : QV (.list xs)) : Wp (view S (.r i)) QV := wp_eq (r_viewr e) h
theorem wp_lat {QV : List PyData → Prop} {i : Nat} {xs : List PyData} (e : S[i]? = some (.lst xs)) (h : QV xs) : Wp (listAt S (.r i)) QV := wp_eq (r_listAt e) h
/-- an object that speaks of no later one -/
class NoN (o : MO) : Prop where
  h : ∀ n, o.inn n
instance {xs : List PyData} : NoN (.lst xs) := ⟨fun _ => trivial⟩
instance {xs : List (Key × PyData)} : NoN (.dic xs) := ⟨fun _ => trivial⟩
instance {xs : List (Str × W3)} : NoN (.rcd xs) := ⟨fun _ => trivial⟩
instance {xs : List (Key × PyData)} : NoN (.ldic xs) := ⟨fun _ => trivial⟩
instance : NoN .gone := ⟨fun _ => trivial⟩
/-- the store may be cut -/
class CutR (Se S : List MO) : Prop where
  h : cutRel Se S
instance {S : List MO} : CutR S S := ⟨fun i o hi e => .inr e⟩
instance CutR.set {Se S : List MO} {i : Nat} {o : MO} [c : CutR Se S] [n : NoN o] : CutR Se (S.set i o) := ⟨fun k u hk e => by
  by_cases z : i = k
  · subst z
    rw [List.getElem?_set] at e
    split at e
    · split at e
      · cases e; exact .inl (n.h _)
      · cases e
    · exact c.h _ _ hk e
  · rw [List.getElem?_set_ne z] at e
    exact c.h _ _ hk e⟩
instance {Se S : List MO} {w : W3} {o : MO} [c : CutR Se S] [n : NoN o] : CutR Se (setAt S w o) := by
  cases w with
  | r i => exact CutR.set (Se := Se) (S := S) (i := i) (o := o)
  | _ => exact c
instance {Se S : List MO} {k : Nat} [c : CutR Se S] : CutR Se (S.take k) := ⟨fun i o hi e => c.h i o hi (by
  by_cases z : i < k
  · rw [List.getElem?_take_of_lt z] at e; exact e
  · rw [List.getElem?_eq_none (by rw [List.length_take]; omega)] at e; cases e)⟩
instance {S : List MO} : CutR S [] := ⟨fun i o hi e => by simp at e⟩
instance CutR.app {Se S : List MO} {o : MO} [c : CutR Se S] [n : NoN o] : CutR Se (S ++ [o]) := ⟨fun i u hi e => by
  rcases get_snoc e with e | ⟨_, rfl⟩
  · exact c.h i u hi e
  · exact .inl (n.h _)⟩
instance CutR.app2 {Se S t : List MO} {o : MO} [c : CutR Se (S ++ [o] ++ t)] : CutR Se (S ++ (o :: t)) := by
  rw [show S ++ (o :: t) = S ++ [o] ++ t by simp]; exact c
instance CutR.app0 {Se S : List MO} [c : CutR Se S] : CutR Se (S ++ []) := by rw [List.append_nil]; exact c
theorem MO.inn_mono {o : MO} {n m : Nat} (h : o.inn n) (l : n ≤ m) : o.inn m := by
  cases o with
  | nls ws => exact fun j z => Nat.lt_of_lt_of_le (h j z) l
  | ndc ws => exact fun k j z => Nat.lt_of_lt_of_le (h k j z) l
  | ins n ws => exact fun k j z => Nat.lt_of_lt_of_le (h k j z) l
  | _ => trivial
instance CutR.cons {Se S : List MO} {o o' : MO} [c : CutR Se S] [n : NoN o] : CutR (o' :: Se) (o :: S) := ⟨fun i u hi e => by
  cases i with
  | zero => cases e; exact .inl (n.h _)
  | succ i =>
    rcases c.h i u (by simpa using hi) (by simpa using e) with h | h
    · exact .inl (MO.inn_mono h (by simp))
    · exact .inr (by simpa using h)⟩
def retQ (own : Bool) (Se : List MO) (Q : W3 → List MO → Prop) : Out → Prop := fun o => Wp2 (ret3 own Se o) Q
theorem wp_fdef {own : Bool} {np nl : Nat} {body : FS} {ws : List W3} (hl : ws.length = np) (h : Wp (body (ws.map some ++ List.replicate nl none) S) (retQ own S Q)) : Wp2 (fdef own np nl body ws S) Q := by
  rw [r_fdef hl]
  exact wp_bind.mpr h
theorem rq_nx {own : Bool} {Se : List MO} [c : CutR Se S] (h : Q (.d .none) (S.take Se.length)) : retQ own Se Q (.nx sl S) := by
  have e2 : ret3 own Se (.nx sl S) = if cutRel Se S then some (.d .none, S.take Se.length) else none := rfl
  unfold retQ
  rw [e2, if_pos c.h]
  exact wp_some.mpr h
theorem rq_d {own : Bool} {Se : List MO} {x : PyData} [c : CutR Se S] (h : Q (.d x) (S.take Se.length)) : retQ own Se Q (.rt (.d x) S) := by
  have e2 : ret3 own Se (.rt (.d x) S) = if cutRel Se S then some (.d x, S.take Se.length) else none := rfl
  unfold retQ
  rw [e2, if_pos c.h]
  exact wp_some.mpr h
theorem rq_new {own : Bool} {Se : List MO} {i : Nat} {xs : List PyData} [c : CutR Se S] (hi : ¬ i < Se.length) (e : S[i]? = some (.lst xs)) (h : if own = true then Q (.r Se.length) (S.take Se.length ++ [.lst xs]) else Q (.d (.list xs)) (S.take Se.length)) : retQ own Se Q (.rt (.r i) S) := by
  have e2 : ret3 own Se (.rt (.r i) S) = if own = true then some (.r Se.length, S.take Se.length ++ [.lst xs]) else some (.d (.list xs), S.take Se.length) := by
    show (if i < Se.length then _ else _) = _
    rw [if_neg hi, e]
    dsimp only
    rw [if_pos c.h]
  unfold retQ
  rw [e2]
  cases own with
  | true => exact wp_some.mpr h
  | false => exact wp_some.mpr h
/-! ### operations on known things -/
variable {P : PyData → Prop} {PB : Bool → Prop}
theorem wp_addi {i j : Int} (h : P (.int (i + j))) : Wp (gAdd S (.d (.int i)) (.d (.int j))) P := wp_some.mpr h
theorem wp_sub {i j : Int} (h : P (.int (i - j))) : Wp (gSub S (.d (.int i)) (.d (.int j))) P := wp_eq r_sub h
theorem wp_mod {i j : Int} (hj : 0 < j) (h : P (.int (i % j))) : Wp (gMod S (.d (.int i)) (.d (.int j))) P := wp_eq (r_mod hj) h
theorem wp_fdiv {i j : Int} (hj : 0 < j ∧ j < 1073741824) (h : P (.int (i / j))) : Wp (gFdiv S (.d (.int i)) (.d (.int j))) P := wp_eq (r_fdiv hj.1 hj.2) h
theorem wp_mulr {i j : Int} (hj : -(2 ^ 64) < j ∧ j < 2 ^ 64) (h : P (.int (i * j))) : Wp (gMul S (.d (.int i)) (.d (.int j))) P := wp_eq (r_mulr hj.1 hj.2) h
theorem wp_mull {i j : Int} (hj : -(2 ^ 64) < i ∧ i < 2 ^ 64) (h : P (.int (i * j))) : Wp (gMul S (.d (.int i)) (.d (.int j))) P := wp_eq (r_mull hj.1 hj.2) h
theorem wp_pow {i j : Int} (hj : 0 ≤ j ∧ j ≤ 1000000 ∧ i.natAbs < 2 ^ 64) (h : P (.int (i ^ j.toNat))) : Wp (gPow S (.d (.int i)) (.d (.int j))) P := wp_eq (gI_ok (decide_eq_true hj)) h
theorem wp_int {i : Int} (h : P (.int i)) : Wp (g1 intD S [.d (.int i)]) P := wp_some.mpr h
theorem wp_abs {i : Int} (h : P (.int (if i < 0 then -i else i))) : Wp (g1 absD S [.d (.int i)]) P := wp_some.mpr h
theorem wp_addt {i j : List PyData} (hl : i.length + j.length ≤ 100000) (h : P (.tuple (i ++ j))) : Wp (gAdd S (.d (.tuple i)) (.d (.tuple j))) P := by
  refine wp_eq (a := .tuple (i ++ j)) ?_ h
  show ((if i.length + j.length ≤ 100000 then some (PyData.tuple (i ++ j)) else none).or _) = _
  rw [if_pos hl]; rfl
theorem wp_ixd {xs : List PyData} {k : Int} {d : PyData} (e : atI xs k = some d) (h : P d) : Wp (gIx S (.d (.list xs)) (.d (.int k))) P := wp_eq e h
theorem wp_ixt {xs : List PyData} {k : Int} {d : PyData} (e : atI xs k = some d) (h : P d) : Wp (gIx S (.d (.tuple xs)) (.d (.int k))) P := wp_eq e h
theorem wp_ixr {i : Nat} {xs : List PyData} {k : Int} {d : PyData} (e0 : S[i]? = some (.lst xs)) (e : atI xs k = some d) (h : P d) : Wp (gIx S (.r i) (.d (.int k))) P := by
  refine wp_eq (a := d) ?_ h
  unfold gIx
  dsimp only
  rw [r_viewr e0]; exact e
theorem wp_lenl {xs : List PyData} (h : P (.int (xs.length : Nat))) : Wp (gLen S [.d (.list xs)]) P := wp_some.mpr h
theorem wp_lent {xs : List PyData} (h : P (.int (xs.length : Nat))) : Wp (gLen S [.d (.tuple xs)]) P := wp_some.mpr h
theorem wp_lensc {xs : List Int} (h : P (.int (xs.length : Nat))) : Wp (gLen S [.sc xs]) P := by
  rw [show xs.length = (xs.map PyData.int).length by rw [List.length_map]] at h
  exact wp_some.mpr h
theorem wp_lenr {i : Nat} {xs : List PyData} (e0 : S[i]? = some (.lst xs)) (h : P (.int (xs.length : Nat))) : Wp (gLen S [.r i]) P := by
  refine wp_eq (a := .int (xs.length : Nat)) ?_ h
  unfold gLen
  dsimp only
  rw [r_viewr e0]
theorem wp_glti {i j : Int} (h : PB (decide (i < j))) : Wp (gLt (.int i) (.int j)) PB := wp_eq (if_pos rfl) (by rw [W.dataLt_int]; exact h)
theorem wp_ggti {i j : Int} (h : PB (decide (j < i))) : Wp (gGt (.int i) (.int j)) PB := wp_eq (if_pos rfl) (by rw [W.dataLt_int]; exact h)
theorem wp_glei {i j : Int} (h : PB (decide (i ≤ j))) : Wp (gLe (.int i) (.int j)) PB := wp_eq (if_pos rfl) (by
  rw [W.dataLt_int]
  have : decide (i ≤ j) = !decide (j < i) := by by_cases c : i ≤ j <;> simp [c] <;> omega
  rw [← this]; exact h)
theorem wp_ggei {i j : Int} (h : PB (decide (j ≤ i))) : Wp (gGe (.int i) (.int j)) PB := wp_eq (if_pos rfl) (by
  rw [W.dataLt_int]
  have : decide (j ≤ i) = !decide (i < j) := by by_cases c : j ≤ i <;> simp [c] <;> omega
  rw [← this]; exact h)
theorem wp_glts {i j : Str} (h : PB (decide (i.cps.toList < j.cps.toList))) : Wp (gLt (.str i) (.str j)) PB := wp_eq (if_pos rfl) (by rw [W.dataLt_str]; exact h)
theorem wp_ggts {i j : Str} (h : PB (decide (j.cps.toList < i.cps.toList))) : Wp (gGt (.str i) (.str j)) PB := wp_eq (if_pos rfl) (by rw [W.dataLt_str]; exact h)
theorem wp_geq {a b : PyData} (c : a.depth ≤ 40 ∨ b.depth ≤ 40) (h : PB (PyData.eqv a b)) : Wp (gEq a b) PB := wp_eq (if_pos c) h
theorem wp_gne {a b : PyData} (c : a.depth ≤ 40 ∨ b.depth ≤ 40) (h : PB (!PyData.eqv a b)) : Wp (gNe a b) PB := wp_eq (if_pos c) h
theorem wp_geqi {i j : Int} (h : PB (i == j)) : Wp (gEq (.int i) (.int j)) PB := wp_geq (.inl (by show PyData.depth (.int i) ≤ 40; rw [PyData.depth]; decide)) h
theorem wp_gnei {i j : Int} (h : PB (!(i == j))) : Wp (gNe (.int i) (.int j)) PB := wp_gne (.inl (by show PyData.depth (.int i) ≤ 40; rw [PyData.depth]; decide)) h
theorem wp_gis {a b : PyData} (c : plainB b = true) (h : PB (isB a b)) : Wp (gIs a b) PB := wp_eq (if_pos c) h
theorem wp_gisn {a b : PyData} (c : plainB b = true) (h : PB (!isB a b)) : Wp (gIsN a b) PB := wp_eq (if_pos c) h
theorem wp_app {xs : List PyData} {x : PyData} {QM : PyData → List PyData → Prop} (hl : xs.length ≤ 100000) (h : QM .none (xs ++ [x])) : Wp2 (mApp xs [.d x]) QM := wp_eq (if_pos hl) h
theorem wp_trub {b : Bool} (h : PB b) : Wp (truW S (.d (.bool b))) PB := wp_some.mpr h
theorem wp_isi {x : PyData} {c : String} {b : Bool} (e : kitB (tyN x) c = some b) (h : P (.bool b)) : Wp (gIsi S [.d x, .ty c]) P := by
  refine wp_eq (a := .bool b) ?_ h
  show ((kitB (tyN x) c).map PyData.bool) = _
  rw [e]; rfl
theorem wp_tupl {xs : List PyData} (h : P (.tuple xs)) : Wp (gTupOf S [.d (.list xs)]) P := wp_some.mpr h
theorem wp_tupt {xs : List PyData} (h : P (.tuple xs)) : Wp (gTupOf S [.d (.tuple xs)]) P := wp_some.mpr h
theorem wp_tupr {i : Nat} {xs : List PyData} (e0 : S[i]? = some (.lst xs)) (h : P (.tuple xs)) : Wp (gTupOf S [.r i]) P := by
  refine wp_eq (a := .tuple xs) ?_ h
  unfold gTupOf
  dsimp only
  rw [r_viewr e0]
end
/-! ### loops -/
theorem get_set0 {S : List MO} {h : Nat} {o o' : MO} (e : S[h]? = some o) : (S.set h o')[h]? = some o' := List.getElem?_set_self (List.getElem?_eq_some_iff.mp e).1
def loopQ (I : Sl → List MO → Prop) (QS : Out → Prop) : Out → Prop
  | .nx sl S => I sl S
  | .ct sl S => I sl S
  | .bk sl S => QS (.nx sl S)
  | .rt w S => QS (.rt w S)
section
variable {I : Sl → List MO → Prop} {QS : Out → Prop} {sl : Sl} {S : List MO}
theorem lq_nx (h : I sl S) : loopQ I QS (.nx sl S) := h
theorem lq_ct (h : I sl S) : loopQ I QS (.ct sl S) := h
theorem lq_bk (h : QS (.nx sl S)) : loopQ I QS (.bk sl S) := h
theorem lq_rt {w : W3} (h : QS (.rt w S)) : loopQ I QS (.rt w S) := h
end
/-- a for loop by an invariant over the turns -/
theorem wp_loop {ok : List MO → Bool} {g : FG} {b : FS} {QS : Out → Prop} (Inv : Nat → Sl → List MO → Prop) : ∀ {ws : List W3} {n : Nat} {sl : Sl} {S : List MO}, Inv n sl S → (∀ i sl S, Inv i sl S → ok S = true) →
    (∀ i w sl S, ws[i - n]? = some w → n ≤ i → Inv i sl S → Wp2 (g w sl S) fun p1 p2 => Wp (b p1 p2) (loopQ (Inv (i + 1)) QS)) → (∀ sl S, Inv (n + ws.length) sl S → QS (.nx sl S)) → Wp (fLoop ok g b ws sl S) QS
  | [], n, sl, S, h0, hok, hs, he => by
    unfold fLoop
    rw [if_pos (hok _ _ _ h0)]
    exact wp_some.mpr (he sl S h0)
  | w :: ws, n, sl, S, h0, hok, hs, he => by
    unfold fLoop
    rw [if_pos (hok _ _ _ h0)]
    refine wp_bind.mpr (Wp.imp (hs n w sl S (by rw [Nat.sub_self]; rfl) (Nat.le_refl _) h0) fun p h => wp_bind.mpr (Wp.imp h fun o h => ?_))
    have go : ∀ {sl S}, Inv (n + 1) sl S → Wp (fLoop ok g b ws sl S) QS := fun {sl S} h1 => wp_loop Inv h1 hok (fun i w sl S e hi => hs i w sl S (by
      have : i - n = (i - (n + 1)) + 1 := by omega
      rw [this]; exact e) (by omega)) fun sl S h2 => he sl S (by rw [List.length_cons, show n + (ws.length + 1) = n + 1 + ws.length by omega]; exact h2)
    cases o with
    | nx sl S => exact go h
    | ct sl S => exact go h
    | bk sl S => exact wp_some.mpr h
    | rt w S => exact wp_some.mpr h
def DatW (w : W3) (K : PyData → Prop) : Prop := ∃ x, w = .d x ∧ K x
theorem datW_i {x : PyData} {K : PyData → Prop} (h : K x) : DatW (.d x) K := ⟨x, rfl, h⟩
theorem wp_ty3 {sl : Sl} {S : List MO} {QT : Bool → List MO → Prop} (h : QT true S) : Wp2 (tYes3 sl S) QT := wp_some.mpr h
theorem set_same {S : List MO} {h : Nat} {o : MO} (e : S[h]? = some o) : S.set h o = S := by
  apply List.ext_getElem?
  intro j
  by_cases z : h = j
  · subst z; rw [get_set0 e, e]
  · rw [List.getElem?_set_ne z]
/-- a comprehension that leaves the store as it is -/
theorem wp_pure {ok : List MO → Bool} {g : FG} {t : FT} {e : FE} {sl : Sl} {S : List MO} {QN : List PyData → List MO → Prop} {ws : List W3} {α : Type} (xs : List α) (w : α → W3) (c : α → Bool) (v : α → PyData) (hws : ws = xs.map w) (hok : ok S = true)
    (hs : ∀ x ∈ xs, Wp2 (g (w x) sl S) fun p1 p2 => Wp2 (t p1 p2) fun b1 b2 => b1 = c x ∧ b2 = S ∧ (c x = true → Wp2 (e p1 S) fun y1 y2 => y1 = .d (v x) ∧ y2 = S)) (h : QN ((xs.filter c).map v) S) : Wp2 (cLoop ok g t e sl ws S) QN := by
  subst hws
  have main : ∀ xs : List α, (∀ x ∈ xs, Wp2 (g (w x) sl S) fun p1 p2 => Wp2 (t p1 p2) fun b1 b2 => b1 = c x ∧ b2 = S ∧ (c x = true → Wp2 (e p1 S) fun y1 y2 => y1 = .d (v x) ∧ y2 = S)) → cLoop ok g t e sl (xs.map w) S = some ((xs.filter c).map v, S) := by
    intro xs
    induction xs with
    | nil => intro _; show (if ok S = true then _ else _) = _; rw [if_pos hok]; rfl
    | cons x xs ih =>
      intro hs
      obtain ⟨p, e1, ⟨b1, b2⟩, e2, e3, e3', h3⟩ := hs x List.mem_cons_self
      dsimp only at e3 e3'
      subst e3 e3'
      have ih := ih fun y hy => hs y (List.mem_cons_of_mem _ hy)
      rw [List.map_cons]
      unfold cLoop
      rw [if_pos hok, e1]
      show (t p.1 p.2).bind _ = _
      rw [e2]
      show (if c x = true then _ else _) = _
      by_cases hc : c x = true
      · rw [if_pos hc, List.filter_cons_of_pos hc, List.map_cons]
        obtain ⟨⟨y1, y2⟩, e4, e5, e6⟩ := h3 hc
        dsimp only at e5 e6
        subst e5 e6
        show (e p.1 _).bind _ = _
        rw [e4]
        show (cLoop ok g t e sl (xs.map w) _).map _ = _
        rw [ih]; rfl
      · rw [if_neg hc, List.filter_cons_of_neg hc]
        exact ih
  exact wp_eq (main xs hs) h
theorem get_set {S : List MO} {h : Nat} {o o' : MO} (e : S[h]? = some o) : (S.set h o')[h]? = some o' := List.getElem?_set_self (List.getElem?_eq_some_iff.mp e).1
theorem take_set {S : List MO} {h : Nat} {o : MO} : (S.set h o).take S.length = S.set h o := List.take_of_length_le (by rw [List.length_set]; exact Nat.le_refl _)
theorem take_app {S l : List MO} : (S ++ l).take S.length = S := by rw [List.take_append_of_le_length (Nat.le_refl _), List.take_length]
theorem rq_dt {own : Bool} {Se : List MO} {x : PyData} {S S2 : List MO} {Q : W3 → List MO → Prop} [CutR Se S] (e : S.take Se.length = S2) (h : Q (.d x) S2) : retQ own Se Q (.rt (.d x) S) := rq_d (by rw [e]; exact h)
theorem rq_nxt {own : Bool} {Se : List MO} {sl : Sl} {S S2 : List MO} {Q : W3 → List MO → Prop} [CutR Se S] (e : S.take Se.length = S2) (h : Q (.d .none) S2) : retQ own Se Q (.nx sl S) := rq_nx (by rw [e]; exact h)
theorem get_app {S l : List MO} {h : Nat} {u : MO} (e : S[h]? = some u) : (S ++ l)[h]? = some u := by rw [List.getElem?_append_left (List.getElem?_eq_some_iff.mp e).1]; exact e
theorem get_last {S : List MO} {u : MO} : (S ++ [u])[S.length]? = some u := by rw [List.getElem?_append_right (Nat.le_refl _), Nat.sub_self]; rfl
theorem set_last {S : List MO} {u o : MO} : (S ++ [u]).set S.length o = S ++ [o] := by rw [List.set_append_right _ _ (Nat.le_refl _), Nat.sub_self]; rfl
section
variable {sl : Sl} {S : List MO} {Q : W3 → List MO → Prop} {QG : Sl → List MO → Prop}
def AtSet (p q : W3) (S : List MO) (x : PyData) (K : List MO → Prop) : Prop := ∃ h k xs j, p = .r h ∧ q = .d (.int k) ∧ S[h]? = some (.lst xs) ∧ ixN xs.length k = some j ∧ K (S.set h (.lst (xs.set j x)))
theorem atSet_i {S : List MO} {x : PyData} {K : List MO → Prop} {h j : Nat} {k : Int} {xs : List PyData} (e1 : S[h]? = some (.lst xs)) (e2 : ixN xs.length k = some j) (q : K (S.set h (.lst (xs.set j x)))) : AtSet (.r h) (.d (.int k)) S x K := ⟨h, k, xs, j, rfl, rfl, e1, e2, q⟩
theorem wp_gs {o i : FE} {x : PyData} (h : Wp2 (o sl S) fun p1 p2 => Wp2 (i sl p2) fun q1 q2 => AtSet p1 q1 q2 x (QG sl)) : Wp2 (gSubL o i (.d x) sl S) QG :=
  wp_gsub (h.imp fun p1 p2 h => h.imp fun q1 q2 ⟨h, k, xs, j, e1, e2, e3, e4, q⟩ => ⟨k, e2, wp_eq (by rw [e1]; exact r_listAt e3) (wp_eq e4 (by rw [e1]; exact q))⟩)
def AtLst (p : W3) (S : List MO) (K : Nat → Prop) : Prop := ∃ h x0, p = .r h ∧ S[h]? = some (.lst x0) ∧ K h
def NowLst (h : Nat) (S : List MO) (K : List PyData → Prop) : Prop := ∃ xs, S[h]? = some (.lst xs) ∧ K xs
theorem atLst_i {h : Nat} {S : List MO} {K : Nat → Prop} {xs : List PyData} (e : S[h]? = some (.lst xs)) (q : K h) : AtLst (.r h) S K := ⟨h, xs, rfl, e, q⟩
theorem nowLst_i {h : Nat} {S : List MO} {K : List PyData → Prop} {xs : List PyData} (e : S[h]? = some (.lst xs)) (q : K xs) : NowLst h S K := ⟨xs, e, q⟩
theorem wp_me {g : GM} {o : FE} {a : FA} (h : Wp2 (o sl S) fun p1 p2 => AtLst p1 p2 fun h => Wp2 (a sl p2) fun q1 q2 => NowLst h q2 fun xs => Wp2 (g xs q1) fun z1 z2 => Q (.d z1) (q2.set h (.lst z2))) : Wp2 (eM g o a sl S) Q :=
  wp_m (h.imp fun p1 p2 ⟨h, x0, e1, e2, hh⟩ => ⟨x0, by rw [e1]; exact r_listAt e2, hh.imp fun q1 q2 ⟨xs, e3, q⟩ => wp_eq (by rw [e1]; exact r_listAt e3) (q.imp fun z1 z2 q => by rw [e1]; exact q)⟩)
end
theorem take_set2 {S : List MO} {h : Nat} {a b : MO} : ((S.set h a).set h b).take S.length = S.set h b := by rw [List.set_set, take_set]
theorem take_set3 {S : List MO} {h : Nat} {a b c : MO} : (((S.set h a).set h b).set h c).take S.length = S.set h c := by rw [List.set_set, List.set_set, take_set]
theorem take_aset {S l : List MO} {o : MO} : ((S ++ [o]).set S.length o).take S.length = S := by rw [set_last, take_app]
/-- what is walked: a list, a tuple -/
def SeqW (S : List MO) (w : W3) (K : It3 → Prop) : Prop := ∃ x xs, view S w = some x ∧ (x = .list xs ∨ x = .tuple xs) ∧ K ⟨xs.map .d, seqOk w x⟩
section
variable {S : List MO} {K : It3 → Prop} {xs : List PyData} {QL : List PyData → Prop}
theorem sq_l (h : K ⟨xs.map .d, yes⟩) : SeqW S (.d (.list xs)) K := ⟨_, xs, rfl, .inl rfl, h⟩
theorem sq_t (h : K ⟨xs.map .d, yes⟩) : SeqW S (.d (.tuple xs)) K := ⟨_, xs, rfl, .inr rfl, h⟩
theorem sq_sc {ns : List Int} (h : K ⟨(ns.map PyData.int).map .d, yes⟩) : SeqW S (.sc ns) K := ⟨_, _, rfl, .inl rfl, h⟩
theorem sq_r {i : Nat} (e : S[i]? = some (.lst xs)) (h : K ⟨xs.map .d, seqOk (.r i) (.list xs)⟩) : SeqW S (.r i) K := ⟨_, xs, r_viewr e, .inl rfl, h⟩
theorem wp_sq {sl : Sl} {f : FE} {QI : It3 → List MO → Prop} (h : Wp2 (f sl S) fun p1 p2 => SeqW p2 p1 fun j => QI j p2) : Wp2 (iSq f sl S) QI := wp_isq h
theorem wp_l3l (h : QL xs) : Wp (gLst3 S [.d (.list xs)]) QL := wp_eq rfl h
theorem wp_l3t (h : QL xs) : Wp (gLst3 S [.d (.tuple xs)]) QL := wp_eq rfl h
theorem wp_l3r {i : Nat} (e : S[i]? = some (.lst xs)) (h : QL xs) : Wp (gLst3 S [.r i]) QL := by
  refine wp_eq (a := xs) ?_ h
  unfold gLst3 gSeq
  dsimp only
  rw [r_viewr e]; rfl
def Rng1 (p : List W3) (K : It3 → Prop) : Prop := ∃ j : Int, p = [.d (.int j)] ∧ (-(2 ^ 62) ≤ j ∧ j < 2 ^ 62) ∧ K ⟨intsW 0 j.toNat, yes⟩
def Rng2 (p : List W3) (K : It3 → Prop) : Prop := ∃ i j : Int, p = [.d (.int i), .d (.int j)] ∧ (-(2 ^ 62) ≤ i ∧ i < 2 ^ 62 ∧ -(2 ^ 62) ≤ j ∧ j < 2 ^ 62) ∧ K ⟨intsW i (j - i).toNat, yes⟩
theorem rng1_i {j : Int} (e : -(2 ^ 62) ≤ j ∧ j < 2 ^ 62) (h : K ⟨intsW 0 j.toNat, yes⟩) : Rng1 [.d (.int j)] K := ⟨j, rfl, e, h⟩
theorem rng2_i {i j : Int} (e : -(2 ^ 62) ≤ i ∧ i < 2 ^ 62 ∧ -(2 ^ 62) ≤ j ∧ j < 2 ^ 62) (h : K ⟨intsW i (j - i).toNat, yes⟩) : Rng2 [.d (.int i), .d (.int j)] K := ⟨i, j, rfl, e, h⟩
theorem wp_r1 {sl : Sl} {f : FA} {QI : It3 → List MO → Prop} (h : Wp2 (f sl S) fun p1 p2 => Rng1 p1 fun j => QI j p2) : Wp2 (iR1 f sl S) QI := wp_ir1 h
theorem wp_r2 {sl : Sl} {f : FA} {QI : It3 → List MO → Prop} (h : Wp2 (f sl S) fun p1 p2 => Rng2 p1 fun j => QI j p2) : Wp2 (iR2 f sl S) QI := wp_ir2 h
theorem intsW_len {lo : Int} {n : Nat} : (intsW lo n).length = n := by unfold intsW; rw [List.length_map, List.length_range]
/-- an int, a truth as it is told -/
def IntW (w : W3) (K : Int → Prop) : Prop := ∃ i, w = .d (.int i) ∧ K i
theorem intW_i {i : Int} {K : Int → Prop} (h : K i) : IntW (.d (.int i)) K := ⟨i, rfl, h⟩
theorem wp_os {sl : Sl} {f : FE} {QO : Option Int → List MO → Prop} (h : Wp2 (f sl S) fun p1 p2 => IntW p1 fun i => QO (some i) p2) : Wp2 (oSome f sl S) QO := wp_osome h
def BoolW (w : W3) (K : Bool → Prop) : Prop := ∃ c, w = .d (.bool c) ∧ K c
theorem boolW_i {c : Bool} {K : Bool → Prop} (h : K c) : BoolW (.d (.bool c)) K := ⟨c, rfl, h⟩
theorem wp_an {sl : Sl} {f g : FE} {Q : W3 → List MO → Prop} (h : Wp2 (f sl S) fun p1 p2 => BoolW p1 fun c => if c = true then Wp2 (g sl p2) Q else Q (.d (.bool false)) p2) : Wp2 (eAn f g sl S) Q := wp_ean h
theorem wp_or {sl : Sl} {f g : FE} {Q : W3 → List MO → Prop} (h : Wp2 (f sl S) fun p1 p2 => BoolW p1 fun c => if c = true then Q (.d (.bool true)) p2 else Wp2 (g sl p2) Q) : Wp2 (eOr f g sl S) Q := wp_eor h
def PairW (p : List W3) (K : W3 → W3 → Prop) : Prop := ∃ x y, p = [x, y] ∧ K x y
theorem pairW_i {x y : W3} {K : W3 → W3 → Prop} (h : K x y) : PairW [x, y] K := ⟨x, y, rfl, h⟩
theorem wp_pr {sl : Sl} {i j : Nat} {f : FA} {QS : Out → Prop} (h : Wp2 (f sl S) fun p1 p2 => PairW p1 fun x y => QS (.nx ((sl.set i (some x)).set j (some y)) p2)) : Wp (sPar i j f sl S) QS := wp_par h
end
def frzO (S : List MO) : W3 → Option (W3 × List MO)
  | .r i => match S[i]? with
    | some (.lst xs) => some (W3.d (.list xs), S.set i .gone)
    | _ => none
  | w => some (w, S)
section
variable {sl : Sl} {S : List MO} {Q : W3 → List MO → Prop}
theorem wp_fz {f : FE} (h : Wp2 (f sl S) fun p1 p2 => Wp2 (frzO p2 p1) Q) : Wp2 (eFrz f sl S) Q := wp_frz h
theorem fz_r {i : Nat} {xs : List PyData} (e : S[i]? = some (.lst xs)) (q : Q (.d (.list xs)) (S.set i .gone)) : Wp2 (frzO S (.r i)) Q := wp_frzr e q
theorem fz_d {x : PyData} (q : Q (.d x) S) : Wp2 (frzO S (.d x)) Q := wp2_some q
/-- a list made here is handed back -/
theorem rq_own {S0 Se : List MO} {ds : List PyData} [CutR Se S] (e : S.take Se.length = S0) (hn : Se.length ≤ S.length) (q : Q (.r Se.length) (S0 ++ [.lst ds])) : retQ true Se Q (.rt (.r S.length) (S ++ [.lst ds])) := by
  refine rq_new (xs := ds) (by omega) get_last ?_
  rw [if_pos rfl, List.take_append_of_le_length hn, e]
  exact q
end
theorem take_setapp {S l : List MO} {h : Nat} {o : MO} : (S.set h o ++ l).take S.length = S.set h o := by
  rw [List.take_append_of_le_length (by rw [List.length_set]; exact Nat.le_refl _), take_set]
theorem get_setapp {S l : List MO} {h : Nat} {o u : MO} (e : S[h]? = some u) : (S.set h o ++ l)[h]? = some o := get_app (get_set e)
theorem get_setlast {S : List MO} {h : Nat} {o u : MO} : (S.set h o ++ [u])[S.length]? = some u := by
  have := get_last (S := S.set h o) (u := u)
  rwa [List.length_set] at this
section
variable {S : List MO} {P : PyData → Prop} {c : String} {r : Bool}
theorem isi_b {b : Bool} (e : kitB "bool" c = some r) (h : P (.bool r)) : Wp (gIsi S [.d (.bool b), .ty c]) P := wp_isi e h
theorem isi_i {b : Int} (e : kitB "int" c = some r) (h : P (.bool r)) : Wp (gIsi S [.d (.int b), .ty c]) P := wp_isi e h
theorem isi_s {b : Str} (e : kitB "str" c = some r) (h : P (.bool r)) : Wp (gIsi S [.d (.str b), .ty c]) P := wp_isi e h
theorem isi_n (e : kitB "NoneType" c = some r) (h : P (.bool r)) : Wp (gIsi S [.d .none, .ty c]) P := wp_isi e h
theorem isi_t {xs : List PyData} (e : kitB "tuple" c = some r) (h : P (.bool r)) : Wp (gIsi S [.d (.tuple xs), .ty c]) P := wp_isi e h
theorem isi_l {xs : List PyData} (e : kitB "list" c = some r) (h : P (.bool r)) : Wp (gIsi S [.d (.list xs), .ty c]) P := wp_isi e h
end
theorem atI_cons0 {α : Type} {x : α} {xs : List α} : atI (x :: xs) 0 = some x := by
  have : atI (x :: xs) ((0 : Nat) : Int) = some x := atI_nat rfl
  exact this
theorem atI_map0 {α β : Type} {f : α → β} {x : α} {xs : List α} : atI ((x :: xs).map f) 0 = some (f x) := atI_cons0
theorem atI_nat' {α : Type} {xs : List α} {k : Int} {x : α} (h0 : 0 ≤ k) (e : xs[k.toNat]? = some x) : atI xs k = some x := atI_of h0 e
section
variable {PB : Bool → Prop}
theorem is_bt_bt (h : PB true) : Wp (gIs (.bool true) (.bool true)) PB := wp_gis rfl h
theorem isn_bt_bt (h : PB false) : Wp (gIsN (.bool true) (.bool true)) PB := wp_gisn rfl h
theorem is_bt_bf (h : PB false) : Wp (gIs (.bool true) (.bool false)) PB := wp_gis rfl h
theorem isn_bt_bf (h : PB true) : Wp (gIsN (.bool true) (.bool false)) PB := wp_gisn rfl h
theorem is_bt_n (h : PB false) : Wp (gIs (.bool true) .none) PB := wp_gis rfl h
theorem isn_bt_n (h : PB true) : Wp (gIsN (.bool true) .none) PB := wp_gisn rfl h
theorem is_bf_bt (h : PB false) : Wp (gIs (.bool false) (.bool true)) PB := wp_gis rfl h
theorem isn_bf_bt (h : PB true) : Wp (gIsN (.bool false) (.bool true)) PB := wp_gisn rfl h
theorem is_bf_bf (h : PB true) : Wp (gIs (.bool false) (.bool false)) PB := wp_gis rfl h
theorem isn_bf_bf (h : PB false) : Wp (gIsN (.bool false) (.bool false)) PB := wp_gisn rfl h
theorem is_bf_n (h : PB false) : Wp (gIs (.bool false) .none) PB := wp_gis rfl h
theorem isn_bf_n (h : PB true) : Wp (gIsN (.bool false) .none) PB := wp_gisn rfl h
theorem is_n_bt (h : PB false) : Wp (gIs .none (.bool true)) PB := wp_gis rfl h
theorem isn_n_bt (h : PB true) : Wp (gIsN .none (.bool true)) PB := wp_gisn rfl h
theorem is_n_bf (h : PB false) : Wp (gIs .none (.bool false)) PB := wp_gis rfl h
theorem isn_n_bf (h : PB true) : Wp (gIsN .none (.bool false)) PB := wp_gisn rfl h
theorem is_n_n (h : PB true) : Wp (gIs .none .none) PB := wp_gis rfl h
theorem isn_n_n (h : PB false) : Wp (gIsN .none .none) PB := wp_gisn rfl h
theorem is_t_bt {xs : List PyData} (h : PB false) : Wp (gIs (.tuple xs) (.bool true)) PB := wp_gis rfl h
theorem isn_t_bt {xs : List PyData} (h : PB true) : Wp (gIsN (.tuple xs) (.bool true)) PB := wp_gisn rfl h
theorem is_t_bf {xs : List PyData} (h : PB false) : Wp (gIs (.tuple xs) (.bool false)) PB := wp_gis rfl h
theorem isn_t_bf {xs : List PyData} (h : PB true) : Wp (gIsN (.tuple xs) (.bool false)) PB := wp_gisn rfl h
theorem is_t_n {xs : List PyData} (h : PB false) : Wp (gIs (.tuple xs) .none) PB := wp_gis rfl h
theorem isn_t_n {xs : List PyData} (h : PB true) : Wp (gIsN (.tuple xs) .none) PB := wp_gisn rfl h
theorem is_l_bt {xs : List PyData} (h : PB false) : Wp (gIs (.list xs) (.bool true)) PB := wp_gis rfl h
theorem isn_l_bt {xs : List PyData} (h : PB true) : Wp (gIsN (.list xs) (.bool true)) PB := wp_gisn rfl h
theorem is_l_bf {xs : List PyData} (h : PB false) : Wp (gIs (.list xs) (.bool false)) PB := wp_gis rfl h
theorem isn_l_bf {xs : List PyData} (h : PB true) : Wp (gIsN (.list xs) (.bool false)) PB := wp_gisn rfl h
theorem is_l_n {xs : List PyData} (h : PB false) : Wp (gIs (.list xs) .none) PB := wp_gis rfl h
theorem isn_l_n {xs : List PyData} (h : PB true) : Wp (gIsN (.list xs) .none) PB := wp_gisn rfl h
theorem is_i_bt {i : Int} (h : PB false) : Wp (gIs (.int i) (.bool true)) PB := wp_gis rfl h
theorem isn_i_bt {i : Int} (h : PB true) : Wp (gIsN (.int i) (.bool true)) PB := wp_gisn rfl h
theorem is_i_bf {i : Int} (h : PB false) : Wp (gIs (.int i) (.bool false)) PB := wp_gis rfl h
theorem isn_i_bf {i : Int} (h : PB true) : Wp (gIsN (.int i) (.bool false)) PB := wp_gisn rfl h
theorem is_i_n {i : Int} (h : PB false) : Wp (gIs (.int i) .none) PB := wp_gis rfl h
theorem isn_i_n {i : Int} (h : PB true) : Wp (gIsN (.int i) .none) PB := wp_gisn rfl h
theorem is_s_bt {x : Str} (h : PB false) : Wp (gIs (.str x) (.bool true)) PB := wp_gis rfl h
theorem isn_s_bt {x : Str} (h : PB true) : Wp (gIsN (.str x) (.bool true)) PB := wp_gisn rfl h
theorem is_s_bf {x : Str} (h : PB false) : Wp (gIs (.str x) (.bool false)) PB := wp_gis rfl h
theorem isn_s_bf {x : Str} (h : PB true) : Wp (gIsN (.str x) (.bool false)) PB := wp_gisn rfl h
theorem is_s_n {x : Str} (h : PB false) : Wp (gIs (.str x) .none) PB := wp_gis rfl h
theorem isn_s_n {x : Str} (h : PB true) : Wp (gIsN (.str x) .none) PB := wp_gisn rfl h
end
/-! ### steps: the rules with one premise, found by their conclusion -/
class Step (G : Prop) (N : outParam Prop) : Prop where
  of : N → G
theorem step_of {G N : Prop} [h : Step G N] (n : N) : G := h.of n
section
variable {sl : Sl} {S : List MO} {Q : W3 → List MO → Prop} {QA : List W3 → List MO → Prop} {QT : Bool → List MO → Prop} {QS : Out → Prop} {QN : List PyData → List MO → Prop} {QO : Option Int → List MO → Prop} {QG : Sl → List MO → Prop} {QI : It3 → List MO → Prop} {P : PyData → Prop} {PB : Bool → Prop} {I : Sl → List MO → Prop} {K : It3 → Prop} {xs : List PyData} {QL : List PyData → Prop}
instance st_wp_d {x : PyData} : Step (Wp2 (eD x sl S) Q) (Q (.d x) S) := ⟨wp_d⟩
instance st_wp_cons {e : FE} {r : FA} : Step (Wp2 (aCons e r sl S) QA) (Wp2 (e sl S) fun p1 p2 => Wp2 (r sl p2) fun q1 q2 => QA (p1 :: q1) q2) := ⟨wp_cons⟩
instance st_wp_nil  : Step (Wp2 (aNil sl S) QA) (QA [] S) := ⟨wp_nil⟩
instance st_wp_op {g : GO} {a b : FE} : Step (Wp2 (eOp g a b sl S) Q) (Wp2 (a sl S) fun p1 p2 => Wp2 (b sl p2) fun q1 q2 => Wp (g q2 p1 q1) fun d => Q (.d d) q2) := ⟨wp_op⟩
instance st_wp_tcmp {g : GB} {a b : FE} : Step (Wp2 (tCmp g a b sl S) QT) (Wp2 (a sl S) fun p1 p2 => Wp2 (b sl p2) fun q1 q2 => Wp (view q2 p1) fun x => Wp (view q2 q1) fun y => Wp (g x y) fun c => QT c q2) := ⟨wp_tcmp⟩
instance st_wp_call {f : F3} {a : FA} : Step (Wp2 (eCall f a sl S) Q) (Wp2 (a sl S) fun p1 p2 => Wp2 (f p1 p2) Q) := ⟨wp_call⟩
instance st_intW_i {i : Int} {K : Int → Prop} : Step (IntW (.d (.int i)) K) (K i) := ⟨intW_i⟩
instance st_datW_i {x : PyData} {K : PyData → Prop} : Step (DatW (.d x) K) (K x) := ⟨datW_i⟩
instance st_wp_seq {f g : FS} : Step (Wp (sSeq f g sl S) QS) (Wp (f sl S) (then3 g QS)) := ⟨wp_seq⟩
instance st_th_nx {g : FS} : Step (then3 g QS (.nx sl S)) (Wp (g sl S) QS) := ⟨th_nx⟩
instance st_th_rt {g : FS} {w : W3} : Step (then3 g QS (.rt w S)) (QS (.rt w S)) := ⟨th_rt⟩
instance st_th_bk {g : FS} : Step (then3 g QS (.bk sl S)) (QS (.bk sl S)) := ⟨th_bk⟩
instance st_th_ct {g : FS} : Step (then3 g QS (.ct sl S)) (QS (.ct sl S)) := ⟨th_ct⟩
instance st_wp_set {i : Nat} {f : FE} : Step (Wp (sSet i f sl S) QS) (Wp2 (f sl S) fun p1 p2 => QS (.nx (sl.set i (some p1)) p2)) := ⟨wp_set⟩
instance st_wp_ex {f : FE} : Step (Wp (sEx f sl S) QS) (Wp2 (f sl S) fun p1 p2 => QS (.nx sl p2)) := ⟨wp_ex⟩
instance st_wp_rt {f : FE} : Step (Wp (sRt f sl S) QS) (Wp2 (f sl S) fun p1 p2 => QS (.rt p1 p2)) := ⟨wp_rt⟩
instance st_wp_rtn  : Step (Wp (sRtN sl S) QS) (QS (.rt (.d .none) S)) := ⟨wp_rtn⟩
instance st_wp_sif {t : FT} {a b : FS} : Step (Wp (sIf t a b sl S) QS) (Wp2 (t sl S) fun p1 p2 => if p1 = true then Wp (a sl p2) QS else Wp (b sl p2) QS) := ⟨wp_sif⟩
instance st_wp_asg {f : FE} {g : FG} : Step (Wp (sAsg f g sl S) QS) (Wp2 (f sl S) fun p1 p2 => Wp2 (g p1 sl p2) fun q1 q2 => QS (.nx q1 q2)) := ⟨wp_asg⟩
instance st_wp_for {it : FI} {g : FG} {b : FS} : Step (Wp (sFor it g b sl S) QS) (Wp2 (it sl S) fun p1 p2 => Wp (fLoop p1.ok g b p1.ws sl p2) QS) := ⟨wp_for⟩
instance st_wp_pr {sl : Sl} {i j : Nat} {f : FA} {QS : Out → Prop} : Step (Wp (sPar i j f sl S) QS) (Wp2 (f sl S) fun p1 p2 => PairW p1 fun x y => QS (.nx ((sl.set i (some x)).set j (some y)) p2)) := ⟨wp_pr⟩
instance st_pairW_i {x y : W3} {K : W3 → W3 → Prop} : Step (PairW [x, y] K) (K x y) := ⟨pairW_i⟩
instance st_lq_nx  : Step (loopQ I QS (.nx sl S)) (I sl S) := ⟨lq_nx⟩
instance st_lq_ct  : Step (loopQ I QS (.ct sl S)) (I sl S) := ⟨lq_ct⟩
instance st_lq_bk  : Step (loopQ I QS (.bk sl S)) (QS (.nx sl S)) := ⟨lq_bk⟩
instance st_lq_rt {w : W3} : Step (loopQ I QS (.rt w S)) (QS (.rt w S)) := ⟨lq_rt⟩
instance st_wp_dp {o i v : FE} : Step (Wp (sDP o i v sl S) QS) (Wp2 (v sl S) fun p1 p2 => ∃ x, p1 = .d x ∧ Wp2 (o sl p2) fun q1 q2 => Wp2 (i sl q2) fun u1 u2 => ∃ y k, u1 = .d y ∧ keyD y = some k ∧ ∃ kvs, dicAt u2 q1 = some kvs ∧ kvs.length ≤ 100000 ∧ QS (.nx sl (setAt u2 q1 (.dic (putD kvs k x))))) := ⟨wp_dp⟩
instance st_wp_nx  : Step (Wp (sNx sl S) QS) (QS (.nx sl S)) := ⟨wp_nx⟩
instance st_wp_bk  : Step (Wp (sBk sl S) QS) (QS (.bk sl S)) := ⟨wp_bk⟩
instance st_wp_ct  : Step (Wp (sCt sl S) QS) (QS (.ct sl S)) := ⟨wp_ct⟩
instance st_wp_ty {n : String} : Step (Wp2 (eTy n sl S) Q) (Q (.ty n) S) := ⟨wp_ty⟩
instance st_wp_fz {f : FE} : Step (Wp2 (eFrz f sl S) Q) (Wp2 (f sl S) fun p1 p2 => Wp2 (frzO p2 p1) Q) := ⟨wp_fz⟩
instance st_fz_d {x : PyData} : Step (Wp2 (frzO S (.d x)) Q) (Q (.d x) S) := ⟨fz_d⟩
instance st_wp_tup {a : FA} : Step (Wp2 (eTup a sl S) Q) (Wp2 (a sl S) fun p1 p2 => Wp (dsOf p1) fun ds => Q (.d (.tuple ds)) p2) := ⟨wp_tup⟩
instance st_wp_nlst {a : FA} : Step (Wp2 (nLst a sl S) QN) (Wp2 (a sl S) fun p1 p2 => Wp (dsOf p1) fun ds => QN ds p2) := ⟨wp_nlst⟩
instance st_wp_ds0 {Q : List PyData → Prop} : Step (Wp (dsOf []) Q) (Q []) := ⟨wp_ds0⟩
instance st_wp_ds1 {Q : List PyData → Prop} {x : PyData} {r : List W3} : Step (Wp (dsOf (.d x :: r)) Q) (Wp (dsOf r) fun ds => Q (x :: ds)) := ⟨wp_ds1⟩
instance st_wp_nd {n : FN} : Step (Wp2 (eNd n sl S) Q) (Wp2 (n sl S) fun p1 p2 => Q (.d (.list p1)) p2) := ⟨wp_nd⟩
instance st_wp_no {n : FN} : Step (Wp2 (eNo n sl S) Q) (Wp2 (n sl S) fun p1 p2 => Q (.r p2.length) (p2 ++ [.lst p1])) := ⟨wp_no⟩
instance st_wp_gnm {i : Nat} {w : W3} : Step (Wp2 (gNm i w sl S) QG) (QG (sl.set i (some w)) S) := ⟨wp_gnm⟩
instance st_wp_gtp {r : List PyData → Sl → List MO → Option (Sl × List MO)} {xs : List PyData} : Step (Wp2 (gTp r (.d (.tuple xs)) sl S) QG) (Wp2 (r xs sl S) QG) := ⟨wp_gtp⟩
instance st_wp_gsn  : Step (Wp2 (gsNil [] sl S) QG) (QG sl S) := ⟨wp_gsn⟩
instance st_wp_gsc {g : FG} {r : List PyData → Sl → List MO → Option (Sl × List MO)} {x : PyData} {xs : List PyData} : Step (Wp2 (gsCons g r (x :: xs) sl S) QG) (Wp2 (g (.d x) sl S) fun p1 p2 => Wp2 (r xs p1 p2) QG) := ⟨wp_gsc⟩
instance st_wp_gs {o i : FE} {x : PyData} : Step (Wp2 (gSubL o i (.d x) sl S) QG) (Wp2 (o sl S) fun p1 p2 => Wp2 (i sl p2) fun q1 q2 => AtSet p1 q1 q2 x (QG sl)) := ⟨wp_gs⟩
instance st_wp_ty3 {sl : Sl} {S : List MO} {QT : Bool → List MO → Prop} : Step (Wp2 (tYes3 sl S) QT) (QT true S) := ⟨wp_ty3⟩
instance st_wp_lc {own : List Nat} {it : FI} {g : FG} {t : FT} {e : FE} : Step (Wp2 (nLc own it g t e sl S) QN) (Wp2 (it sl S) fun p1 p2 => p1.ws.length ≤ 100000 ∧ Wp2 (cLoop p1.ok g t e (wipe3 sl own) p1.ws p2) QN) := ⟨wp_lc⟩
instance st_wp_ecmp {g : GB} {a b : FE} : Step (Wp2 (eCmp g a b sl S) Q) (Wp2 (a sl S) fun p1 p2 => Wp2 (b sl p2) fun q1 q2 => Wp (view q2 p1) fun x => Wp (view q2 q1) fun y => Wp (g x y) fun c => Q (.d (.bool c)) q2) := ⟨wp_ecmp⟩
instance st_wp_ttr {f : FE} : Step (Wp2 (tTr f sl S) QT) (Wp2 (f sl S) fun p1 p2 => Wp (truW p2 p1) fun b => QT b p2) := ⟨wp_ttr⟩
instance st_wp_not {f : FE} : Step (Wp2 (eNot f sl S) Q) (Wp2 (f sl S) fun p1 p2 => Wp (truW p2 p1) fun b => Q (.d (.bool (!b))) p2) := ⟨wp_not⟩
instance st_wp_tnt {f : FT} : Step (Wp2 (tNt f sl S) QT) (Wp2 (f sl S) fun p1 p2 => QT (!p1) p2) := ⟨wp_tnt⟩
instance st_wp_tan {f g : FT} : Step (Wp2 (tAn f g sl S) QT) (Wp2 (f sl S) fun p1 p2 => if p1 = true then Wp2 (g sl p2) QT else QT false p2) := ⟨wp_tan⟩
instance st_wp_tor {f g : FT} : Step (Wp2 (tOr3 f g sl S) QT) (Wp2 (f sl S) fun p1 p2 => if p1 = true then QT true p2 else Wp2 (g sl p2) QT) := ⟨wp_tor⟩
instance st_wp_an {sl : Sl} {f g : FE} {Q : W3 → List MO → Prop} : Step (Wp2 (eAn f g sl S) Q) (Wp2 (f sl S) fun p1 p2 => BoolW p1 fun c => if c = true then Wp2 (g sl p2) Q else Q (.d (.bool false)) p2) := ⟨wp_an⟩
instance st_boolW_i {c : Bool} {K : Bool → Prop} : Step (BoolW (.d (.bool c)) K) (K c) := ⟨boolW_i⟩
instance st_wp_or {sl : Sl} {f g : FE} {Q : W3 → List MO → Prop} : Step (Wp2 (eOr f g sl S) Q) (Wp2 (f sl S) fun p1 p2 => BoolW p1 fun c => if c = true then Q (.d (.bool true)) p2 else Wp2 (g sl p2) Q) := ⟨wp_or⟩
instance st_wp_eif {t : FT} {f g : FE} : Step (Wp2 (eIf t f g sl S) Q) (Wp2 (t sl S) fun p1 p2 => if p1 = true then Wp2 (f sl p2) Q else Wp2 (g sl p2) Q) := ⟨wp_eif⟩
instance st_wp_nop {g : List MO → W3 → W3 → Option (List PyData)} {a b : FE} : Step (Wp2 (nOp g a b sl S) QN) (Wp2 (a sl S) fun p1 p2 => Wp2 (b sl p2) fun q1 q2 => Wp (g q2 p1 q1) fun d => QN d q2) := ⟨wp_nop⟩
instance st_wp_onone  : Step (Wp2 (oNone sl S) QO) (QO none S) := ⟨wp_onone⟩
instance st_wp_os {sl : Sl} {f : FE} {QO : Option Int → List MO → Prop} : Step (Wp2 (oSome f sl S) QO) (Wp2 (f sl S) fun p1 p2 => IntW p1 fun i => QO (some i) p2) := ⟨wp_os⟩
instance st_wp_esl {a : FE} {l h : FO} : Step (Wp2 (eSl a l h sl S) Q) (Wp2 (a sl S) fun p1 p2 => Wp2 (l sl p2) fun q1 q2 => Wp2 (h sl q2) fun u1 u2 => Wp (view u2 p1) fun x => Wp (gCut q1 u1 x) fun d => Q (.d d) u2) := ⟨wp_esl⟩
instance st_wp_nsl {a : FE} {l h : FO} : Step (Wp2 (nSl a l h sl S) QN) (Wp2 (a sl S) fun p1 p2 => Wp2 (l sl p2) fun q1 q2 => Wp2 (h sl q2) fun u1 u2 => ∃ xs, view u2 p1 = some (.list xs) ∧ QN (cutD xs q1 u1) u2) := ⟨wp_nsl⟩
instance st_wp_b {g : GC} {a : FA} : Step (Wp2 (eB g a sl S) Q) (Wp2 (a sl S) fun p1 p2 => Wp (g p2 p1) fun d => Q (.d d) p2) := ⟨wp_b⟩
instance st_wp_nb {g : List MO → List W3 → Option (List PyData)} {a : FA} : Step (Wp2 (nB g a sl S) QN) (Wp2 (a sl S) fun p1 p2 => Wp (g p2 p1) fun d => QN d p2) := ⟨wp_nb⟩
instance st_wp_sq {sl : Sl} {f : FE} {QI : It3 → List MO → Prop} : Step (Wp2 (iSq f sl S) QI) (Wp2 (f sl S) fun p1 p2 => SeqW p2 p1 fun j => QI j p2) := ⟨wp_sq⟩
instance st_sq_l  : Step (SeqW S (.d (.list xs)) K) (K ⟨xs.map .d, yes⟩) := ⟨sq_l⟩
instance st_sq_t  : Step (SeqW S (.d (.tuple xs)) K) (K ⟨xs.map .d, yes⟩) := ⟨sq_t⟩
instance st_sq_sc {ns : List Int} : Step (SeqW S (.sc ns) K) (K ⟨(ns.map PyData.int).map .d, yes⟩) := ⟨sq_sc⟩
instance st_wp_r1 {sl : Sl} {f : FA} {QI : It3 → List MO → Prop} : Step (Wp2 (iR1 f sl S) QI) (Wp2 (f sl S) fun p1 p2 => Rng1 p1 fun j => QI j p2) := ⟨wp_r1⟩
instance st_wp_r2 {sl : Sl} {f : FA} {QI : It3 → List MO → Prop} : Step (Wp2 (iR2 f sl S) QI) (Wp2 (f sl S) fun p1 p2 => Rng2 p1 fun j => QI j p2) := ⟨wp_r2⟩
instance st_wp_irv {f : FE} : Step (Wp2 (iRv f sl S) QI) (Wp2 (f sl S) fun p1 p2 => ∃ xs, (p1 = .d (.list xs) ∨ p1 = .d (.tuple xs)) ∧ QI (⟨xs.reverse.map .d, yes⟩) p2) := ⟨wp_irv⟩
instance st_wp_me {g : GM} {o : FE} {a : FA} : Step (Wp2 (eM g o a sl S) Q) (Wp2 (o sl S) fun p1 p2 => AtLst p1 p2 fun h => Wp2 (a sl p2) fun q1 q2 => NowLst h q2 fun xs => Wp2 (g xs q1) fun z1 z2 => Q (.d z1) (q2.set h (.lst z2))) := ⟨wp_me⟩
instance st_wp_join {o e : FE} : Step (Wp2 (eJoin o e sl S) Q) (Wp2 (o sl S) fun p1 p2 => ∃ a, p1 = .d (.str a) ∧ Wp2 (e sl p2) fun q1 q2 => ∃ ys, gSeq q2 [q1] = some (ys.map .str) ∧ Wp (joinD a ys) fun d => Q (.d d) q2) := ⟨wp_join⟩
instance st_wp_dn  : Step (Wp2 (eDN sl S) Q) (Q (.r S.length) (S ++ [.dic []])) := ⟨wp_dn⟩
instance st_wp_viewd {QV : PyData → Prop} {x : PyData} : Step (Wp (view S (.d x)) QV) (QV x) := ⟨wp_viewd⟩
instance st_wp_trub {b : Bool} : Step (Wp (truW S (.d (.bool b))) PB) (PB b) := ⟨wp_trub⟩
instance st_wp_l3l  : Step (Wp (gLst3 S [.d (.list xs)]) QL) (QL xs) := ⟨wp_l3l⟩
instance st_wp_l3t  : Step (Wp (gLst3 S [.d (.tuple xs)]) QL) (QL xs) := ⟨wp_l3t⟩
instance st_wp_addi {i j : Int} : Step (Wp (gAdd S (.d (.int i)) (.d (.int j))) P) (P (.int (i + j))) := ⟨wp_addi⟩
instance st_wp_sub {i j : Int} : Step (Wp (gSub S (.d (.int i)) (.d (.int j))) P) (P (.int (i - j))) := ⟨wp_sub⟩
instance st_wp_int {i : Int} : Step (Wp (g1 intD S [.d (.int i)]) P) (P (.int i)) := ⟨wp_int⟩
instance st_wp_abs {i : Int} : Step (Wp (g1 absD S [.d (.int i)]) P) (P (.int (if i < 0 then -i else i))) := ⟨wp_abs⟩
instance st_wp_lenl {xs : List PyData} : Step (Wp (gLen S [.d (.list xs)]) P) (P (.int (xs.length : Nat))) := ⟨wp_lenl⟩
instance st_wp_lent {xs : List PyData} : Step (Wp (gLen S [.d (.tuple xs)]) P) (P (.int (xs.length : Nat))) := ⟨wp_lent⟩
instance st_wp_lensc {xs : List Int} : Step (Wp (gLen S [.sc xs]) P) (P (.int (xs.length : Nat))) := ⟨wp_lensc⟩
instance st_wp_geqi {i j : Int} : Step (Wp (gEq (.int i) (.int j)) PB) (PB (i == j)) := ⟨wp_geqi⟩
instance st_wp_gnei {i j : Int} : Step (Wp (gNe (.int i) (.int j)) PB) (PB (!(i == j))) := ⟨wp_gnei⟩
instance st_wp_glti {i j : Int} : Step (Wp (gLt (.int i) (.int j)) PB) (PB (decide (i < j))) := ⟨wp_glti⟩
instance st_wp_ggti {i j : Int} : Step (Wp (gGt (.int i) (.int j)) PB) (PB (decide (j < i))) := ⟨wp_ggti⟩
instance st_wp_glei {i j : Int} : Step (Wp (gLe (.int i) (.int j)) PB) (PB (decide (i ≤ j))) := ⟨wp_glei⟩
instance st_wp_ggei {i j : Int} : Step (Wp (gGe (.int i) (.int j)) PB) (PB (decide (j ≤ i))) := ⟨wp_ggei⟩
instance st_wp_glts {i j : Str} : Step (Wp (gLt (.str i) (.str j)) PB) (PB (decide (i.cps.toList < j.cps.toList))) := ⟨wp_glts⟩
instance st_wp_ggts {i j : Str} : Step (Wp (gGt (.str i) (.str j)) PB) (PB (decide (j.cps.toList < i.cps.toList))) := ⟨wp_ggts⟩
instance st_wp_tupl {xs : List PyData} : Step (Wp (gTupOf S [.d (.list xs)]) P) (P (.tuple xs)) := ⟨wp_tupl⟩
instance st_wp_tupt {xs : List PyData} : Step (Wp (gTupOf S [.d (.tuple xs)]) P) (P (.tuple xs)) := ⟨wp_tupt⟩
instance st_is_bt_bt  : Step (Wp (gIs (.bool true) (.bool true)) PB) (PB true) := ⟨is_bt_bt⟩
instance st_isn_bt_bt  : Step (Wp (gIsN (.bool true) (.bool true)) PB) (PB false) := ⟨isn_bt_bt⟩
instance st_is_bt_bf  : Step (Wp (gIs (.bool true) (.bool false)) PB) (PB false) := ⟨is_bt_bf⟩
instance st_isn_bt_bf  : Step (Wp (gIsN (.bool true) (.bool false)) PB) (PB true) := ⟨isn_bt_bf⟩
instance st_is_bt_n  : Step (Wp (gIs (.bool true) .none) PB) (PB false) := ⟨is_bt_n⟩
instance st_isn_bt_n  : Step (Wp (gIsN (.bool true) .none) PB) (PB true) := ⟨isn_bt_n⟩
instance st_is_bf_bt  : Step (Wp (gIs (.bool false) (.bool true)) PB) (PB false) := ⟨is_bf_bt⟩
instance st_isn_bf_bt  : Step (Wp (gIsN (.bool false) (.bool true)) PB) (PB true) := ⟨isn_bf_bt⟩
instance st_is_bf_bf  : Step (Wp (gIs (.bool false) (.bool false)) PB) (PB true) := ⟨is_bf_bf⟩
instance st_isn_bf_bf  : Step (Wp (gIsN (.bool false) (.bool false)) PB) (PB false) := ⟨isn_bf_bf⟩
instance st_is_bf_n  : Step (Wp (gIs (.bool false) .none) PB) (PB false) := ⟨is_bf_n⟩
instance st_isn_bf_n  : Step (Wp (gIsN (.bool false) .none) PB) (PB true) := ⟨isn_bf_n⟩
instance st_is_n_bt  : Step (Wp (gIs .none (.bool true)) PB) (PB false) := ⟨is_n_bt⟩
instance st_isn_n_bt  : Step (Wp (gIsN .none (.bool true)) PB) (PB true) := ⟨isn_n_bt⟩
instance st_is_n_bf  : Step (Wp (gIs .none (.bool false)) PB) (PB false) := ⟨is_n_bf⟩
instance st_isn_n_bf  : Step (Wp (gIsN .none (.bool false)) PB) (PB true) := ⟨isn_n_bf⟩
instance st_is_n_n  : Step (Wp (gIs .none .none) PB) (PB true) := ⟨is_n_n⟩
instance st_isn_n_n  : Step (Wp (gIsN .none .none) PB) (PB false) := ⟨isn_n_n⟩
instance st_is_t_bt {xs : List PyData} : Step (Wp (gIs (.tuple xs) (.bool true)) PB) (PB false) := ⟨is_t_bt⟩
instance st_isn_t_bt {xs : List PyData} : Step (Wp (gIsN (.tuple xs) (.bool true)) PB) (PB true) := ⟨isn_t_bt⟩
instance st_is_t_bf {xs : List PyData} : Step (Wp (gIs (.tuple xs) (.bool false)) PB) (PB false) := ⟨is_t_bf⟩
instance st_isn_t_bf {xs : List PyData} : Step (Wp (gIsN (.tuple xs) (.bool false)) PB) (PB true) := ⟨isn_t_bf⟩
instance st_is_t_n {xs : List PyData} : Step (Wp (gIs (.tuple xs) .none) PB) (PB false) := ⟨is_t_n⟩
instance st_isn_t_n {xs : List PyData} : Step (Wp (gIsN (.tuple xs) .none) PB) (PB true) := ⟨isn_t_n⟩
instance st_is_l_bt {xs : List PyData} : Step (Wp (gIs (.list xs) (.bool true)) PB) (PB false) := ⟨is_l_bt⟩
instance st_isn_l_bt {xs : List PyData} : Step (Wp (gIsN (.list xs) (.bool true)) PB) (PB true) := ⟨isn_l_bt⟩
instance st_is_l_bf {xs : List PyData} : Step (Wp (gIs (.list xs) (.bool false)) PB) (PB false) := ⟨is_l_bf⟩
instance st_isn_l_bf {xs : List PyData} : Step (Wp (gIsN (.list xs) (.bool false)) PB) (PB true) := ⟨isn_l_bf⟩
instance st_is_l_n {xs : List PyData} : Step (Wp (gIs (.list xs) .none) PB) (PB false) := ⟨is_l_n⟩
instance st_isn_l_n {xs : List PyData} : Step (Wp (gIsN (.list xs) .none) PB) (PB true) := ⟨isn_l_n⟩
instance st_is_i_bt {i : Int} : Step (Wp (gIs (.int i) (.bool true)) PB) (PB false) := ⟨is_i_bt⟩
instance st_isn_i_bt {i : Int} : Step (Wp (gIsN (.int i) (.bool true)) PB) (PB true) := ⟨isn_i_bt⟩
instance st_is_i_bf {i : Int} : Step (Wp (gIs (.int i) (.bool false)) PB) (PB false) := ⟨is_i_bf⟩
instance st_isn_i_bf {i : Int} : Step (Wp (gIsN (.int i) (.bool false)) PB) (PB true) := ⟨isn_i_bf⟩
instance st_is_i_n {i : Int} : Step (Wp (gIs (.int i) .none) PB) (PB false) := ⟨is_i_n⟩
instance st_isn_i_n {i : Int} : Step (Wp (gIsN (.int i) .none) PB) (PB true) := ⟨isn_i_n⟩
instance st_is_s_bt {x : Str} : Step (Wp (gIs (.str x) (.bool true)) PB) (PB false) := ⟨is_s_bt⟩
instance st_isn_s_bt {x : Str} : Step (Wp (gIsN (.str x) (.bool true)) PB) (PB true) := ⟨isn_s_bt⟩
instance st_is_s_bf {x : Str} : Step (Wp (gIs (.str x) (.bool false)) PB) (PB false) := ⟨is_s_bf⟩
instance st_isn_s_bf {x : Str} : Step (Wp (gIsN (.str x) (.bool false)) PB) (PB true) := ⟨isn_s_bf⟩
instance st_is_s_n {x : Str} : Step (Wp (gIs (.str x) .none) PB) (PB false) := ⟨is_s_n⟩
instance st_isn_s_n {x : Str} : Step (Wp (gIsN (.str x) .none) PB) (PB true) := ⟨isn_s_n⟩
instance st_ite_t {P Q : Prop} : Step (if true = true then P else Q) P := ⟨fun h => by rw [if_pos rfl]; exact h⟩
instance st_ite_f {P Q : Prop} : Step (if false = true then P else Q) Q := ⟨fun h => by rw [if_neg Bool.false_ne_true]; exact h⟩
end
theorem gate_wp {α : Type} {x : Option α} {Q : α → Prop} (h : Wp x Q) : Wp x Q := h
theorem gate_isi {S : List MO} {ws : List W3} {P : PyData → Prop} (h : Wp (gIsi S ws) P) : Wp (gIsi S ws) P := h
theorem gate_eq {a b : PyData} {P : Bool → Prop} (h : Wp (gEq a b) P) : Wp (gEq a b) P := h
theorem gate_ne {a b : PyData} {P : Bool → Prop} (h : Wp (gNe a b) P) : Wp (gNe a b) P := h
theorem gate_ix {S : List MO} {a b : W3} {P : PyData → Prop} (h : Wp (gIx S a b) P) : Wp (gIx S a b) P := h
theorem gate_rq {b : Bool} {n : List MO} {Q : W3 → List MO → Prop} {o : Out} (h : retQ b n Q o) : retQ b n Q o := h
end EA
namespace EA
open PySem PySem.Spec PyProof.Rows L2
/-! ### comprehensions with two fors; sets of texts -/
section
variable {K : PySem.W.Frag} {D : Addr} {L : Nat} {okx : PyData → Prop} {add : V → Hp → (Hp → Prop) → Prop} {Acc : Wd → List PyData → Prop}
theorem SR3.monov {A B : Wd} {σ : L2.St} {sl : Sl} (n : Nv A B) (h : SR3 K A σ sl) : SR3 K B σ sl := ⟨h.len, fun i w e => by
  obtain ⟨v, h1, h2⟩ := h.at_ i w e
  exact ⟨v, h1, h2.monov n⟩⟩
theorem Nv.trans {A B C : Wd} (a : Nv A B) (b : Nv B C) : Nv A C := ⟨a.gg.trans b.gg, a.pre.trans b.pre⟩
end
end EA
namespace EA
open PySem PySem.Spec PyProof.Rows L2
theorem _root_.L2.Room.units65 {k : Nat} {A : Around} (r : Room k A) : A.units + 65 < cLine := by have := r.un; omega
/-! ### xs.index(x) -/
end EA
namespace EA
open PySem PySem.Spec PyProof.Rows L2
/-! ### dict(pairs) -/
section
variable {X : Cx}
theorem plain_of {pins : List (Addr × Obj)} {σ : L2.St} {H : Hp} {s : Shared} {a : Addr} {xs : List V} (I : Inv X pins σ H s) (h : PlT X.K H a xs) : ∃ its : List Value, Vals xs its ∧ PlainSeq "tuple" s.heap a its.toArray ∧ xs.length ≤ sizeLine := by
  rcases h with ⟨o, h, d⟩ | ⟨o, its, n, h1, h2, h3, h4, h5, d⟩
  · obtain ⟨e, hz, its, r, o', e', hc, n, hd⟩ := I.hok a _ h
    rw [e] at e'
    cases e'
    exact ⟨its, r, ⟨o, n, e, hc, d, hd⟩, hz⟩
  · exact ⟨its.toList, h5, ⟨o, n, I.kIn a o h1, h2, d, by simpa using h3⟩, by have := h5.length; rw [this, Array.length_toList]; exact h4⟩
theorem plainL_of {pins : List (Addr × Obj)} {σ : L2.St} {H : Hp} {s : Shared} {a : Addr} {xs : List V} (I : Inv X pins σ H s) (h : SqL X.K H a xs) : ∃ its : List Value, Vals xs its ∧ PlainSeq "list" s.heap a its.toArray ∧ xs.length ≤ sizeLine := by
  obtain ⟨its, rv, ⟨o, n, ho, hc, hd, hdat⟩, hz⟩ := I.list h
  exact ⟨its, rv, ⟨o, n, ho, hc, hd, hdat⟩, hz⟩
theorem pairs_at {pins : List (Addr × Obj)} {σ : L2.St} {H : Hp} {s : Shared} (I : Inv X pins σ H s) : ∀ {ps : List Addr} {kvs : List (Key × V)}, Paired (fun p kv => SqT X.K H p [kV kv.1, kv.2]) ps kvs →
    ∃ (prs : List (Key × Value)) (vps : List (Value × Value)), KV kvs prs ∧ prs.length = ps.length ∧ vps.length = ps.length ∧ ∀ (j : Nat) (k v : Value), vps[j]? = some (k, v) → (∃ b, ps[j]? = some b ∧ PairAt s.heap b k v) ∧ ∃ key, prs[j]? = some (key, v) ∧ (mixKind X.prog X.w).is key k = true
  | _, _, .nil => ⟨[], [], .nil, rfl, rfl, fun j k v e => by simp at e⟩
  | _, _, .cons (a := p) (b := kv) h t => by
    obtain ⟨prs, vps, r, hl, hl2, hp⟩ := pairs_at I t
    obtain ⟨its, rv, ht, _⟩ := I.tuple h
    obtain ⟨u, y, ei, ru, ry⟩ := vals2 rv
    subst ei
    refine ⟨(kv.1, y) :: prs, (u, y) :: vps, .cons ⟨rfl, ry⟩ r, by rw [List.length_cons, List.length_cons, hl], by rw [List.length_cons, List.length_cons, hl2], fun j k v e => ?_⟩
    cases j with
    | zero =>
      have e' : (u, y) = (k, v) := Option.some.inj e
      cases e'
      exact ⟨⟨p, rfl, .inl ht⟩, kv.1, rfl, kV_is (P := X.prog) (w := X.w) ru⟩
    | succ j =>
      obtain ⟨⟨b, e1, e2⟩, key, e3, e4⟩ := hp j k v (by simpa using e)
      exact ⟨⟨b, by simpa using e1, e2⟩, key, by simpa using e3, e4⟩
def rDictP (K : PySem.W.Frag) : List V → Hp → VK → Prop := fun xs H Q => ∃ (a : Addr) (ps : List Addr) (kvs : List (Key × V)), xs = [.ref a] ∧ (SqL K H a (ps.map V.ref) ∨ PlT K H a (ps.map V.ref)) ∧ Paired (fun p kv => SqT K H p [kV kv.1, kv.2]) ps kvs ∧
    ∀ p, H p = none → Q (.ref p) (upd H p (.dK (mergeK [] kvs)))
theorem call_dictPT (hcalm : X.calm = true) : CallR X (.type "dict") (rDictP X.K) := by
  intro pins s σ H xs us Q I r q
  obtain ⟨a, ps, kvs, rfl, hq, hp, q⟩ := q
  obtain ⟨u, rfl, rx⟩ := vals1 r
  cases rx
  obtain ⟨prs, vps, rel, hl, hl2, hpr⟩ := pairs_at I hp
  have hm : (s.heap.objs.size == sysModules) = false := beq_eq_false_iff_ne.mpr (Nat.ne_of_gt I.big)
  have items : ∀ its : List Value, Vals (ps.map V.ref) its → PairItems s.heap its.toArray (fun j => ps.getD j 0) vps := fun its rv => by
    have ei := refs_at rv
    subst ei
    refine ⟨by simp [hl2], fun j k v e => ?_⟩
    obtain ⟨⟨b, e1, e2⟩, _⟩ := hpr j k v e
    have eb : ps.getD j 0 = b := by rw [List.getD_eq_getElem?_getD, e1]; rfl
    show _ = some (Value.ref (ps.getD j 0)) ∧ PairAt s.heap (ps.getD j 0) k v
    rw [eb]
    exact ⟨by simp [e1], e2⟩
  have have_ : PairsHave (mixKind X.prog X.w) vps.length (PairRel vps) prs := ⟨hl.trans hl2.symm, fun i k v e => (hpr i k v e).2⟩
  have fin : ps.length ≤ sizeLine → ∀ (h' : Heap) (tk : Nat), h'.DictOf (mixKind X.prog X.w) s.heap.objs.size (merged [] prs) → (∀ b o, b ∉ ([] : List Addr) → s.heap.get? b = some o → h'.get? b = some o) → EP X pins σ Q (.ref s.heap.objs.size) { s with heap := h', toks := tk } := fun hz h' tk hd' k => by
    have hlen : (mergeK [] kvs).length ≤ sizeLine := by
      refine Nat.le_trans (length_mergeK kvs []) ?_
      rw [List.length_nil, Nat.zero_add, rel.length, hl]
      exact hz
    exact ⟨.ref s.heap.objs.size, upd H s.heap.objs.size (.dK (mergeK [] kvs)), I.laid (t' := tk) (fun b o e => k b o (fun z => nomatch z) e) (Nat.le_refl _) (show ObjOk X.prog X.w _ _ _ (.dK (mergeK [] kvs)) from ⟨hlen, hm, merged [] prs, KV.merge rel .nil, hd'⟩), rfl, q _ (I.hok.fresh (Nat.le_refl _))⟩
  rcases hq with hq | hq
  · obtain ⟨its, rv, pl, hz⟩ := plainL_of I hq
    rw [List.length_map] at hz
    exact PySem.call_dict_pairs (PairArg.list a its.toArray (fun j => ps.getD j 0) vps) (I.ok.hd hcalm) ⟨pl, items its rv⟩ have_ (by rw [hl2]; exact hz) (fin hz)
  · obtain ⟨its, rv, pl, hz⟩ := plain_of I hq
    rw [List.length_map] at hz
    exact PySem.call_dict_pairs (PairArg.tuple a its.toArray (fun j => ps.getD j 0) vps) (I.ok.hd hcalm) ⟨pl, items its rv⟩ have_ (by rw [hl2]; exact hz) (fin hz)
end
def pairOf : PyData → Option (Key × PyData)
  | .tuple [k, v] => (keyD k).map fun q => (q, v)
  | _ => none
def pairsD : List PyData → Option (List (Key × PyData))
  | [] => some []
  | d :: ds => (pairOf d).bind fun p => (pairsD ds).map fun r => p :: r
def mergeD (kvs more : List (Key × PyData)) : List (Key × PyData) := more.foldl (fun acc kv => putD acc kv.1 kv.2) kvs
def eDct (a : FA) : FE := fun sl S => (a sl S).bind fun p => match p.1 with
  | [w] => match view p.2 w with
    | some (.list ds) => if ds.length ≤ 100000 then (pairsD ds).map fun ks => (.r p.2.length, p.2 ++ [.dic (mergeD [] ks)]) else none
    | some (.tuple ds) => if ds.length ≤ 100000 then (pairsD ds).map fun ks => (.r p.2.length, p.2 ++ [.dic (mergeD [] ks)]) else none
    | _ => none
  | _ => none
def eDG (o i : FE) : FE := fun sl S => (o sl S).bind fun p => (i sl p.2).bind fun q => match q.1 with
  | .d y => (keyD y).bind fun k => (dicAt q.2 p.1).bind fun kvs => (valD kvs k).map fun d => (.d d, q.2)
  | _ => none
/-- k in d, k not in d -/
def eDIn (neg : Bool) (i o : FE) : FE := fun sl S => (i sl S).bind fun p => (o sl p.2).bind fun q => match p.1 with
  | .d y => (keyD y).bind fun k => (dicAt q.2 q.1).map fun kvs => (.d (.bool (if neg then !(valD kvs k).isSome else (valD kvs k).isSome)), q.2)
  | _ => none
def tDIn (neg : Bool) (i o : FE) : FT := fun sl S => (eDIn neg i o sl S).bind fun p => match p.1 with
  | .d (.bool b) => some (b, p.2)
  | _ => none
section
variable {K : PySem.W.Frag} {X : Cx} {o i e : Expr} {fo fi : FE} {f : FA} {pos pp : Pos}
theorem daK_merge {G : Hp} {us : List (Key × V)} {es : List (Key × PyData)} (hu : DaK K G us es) : ∀ {vs : List (Key × V)} {ds : List (Key × PyData)}, DaK K G vs ds → DaK K G (mergeK vs us) (mergeD ds es) := by
  induction hu with
  | nil => intro vs ds h; exact h
  | cons a _ ih => intro vs ds h; exact ih (daK_put h a)
theorem pairs_daa {G : Hp} : ∀ {us : List V} {ds : List PyData} {ks : List (Key × PyData)}, DaA K G us ds → pairsD ds = some ks → ∃ (ps : List Addr) (kvs : List (Key × V)), us = ps.map V.ref ∧ Paired (fun p kv => SqT K G p [kV kv.1, kv.2]) ps kvs ∧ DaK K G kvs ks
  | _, _, _, .nil, e => by
    cases e
    exact ⟨[], [], rfl, .nil, .nil⟩
  | _, _, _, .cons (v := u) (d := d) h t, e => by
    unfold pairsD at e
    obtain ⟨p, e1, e⟩ := Option.bind_eq_some_iff.mp e
    obtain ⟨r, e2, e⟩ := Option.map_eq_some_iff.mp e
    subst e
    obtain ⟨ps, kvs, rfl, hp, hk⟩ := pairs_daa t e2
    unfold pairOf at e1
    split at e1
    · rename_i k v
      obtain ⟨q, e3, e4⟩ := Option.map_eq_some_iff.mp e1
      subst e4
      obtain ⟨a, xs, rfl, hs, hd⟩ := Da.tup_inv h
      cases hd with
      | cons h1 hd =>
        cases hd with
        | cons h2 hd =>
          cases hd
          rw [key_da h1 e3] at hs
          exact ⟨a :: ps, (q, _) :: kvs, rfl, .cons hs hp, .cons h2 hk⟩
    · cases e1
theorem paired_up {G H : Hp} (s : Same G H) : ∀ {ps : List Addr} {kvs : List (Key × V)}, Paired (fun p kv => SqT K G p [kV kv.1, kv.2]) ps kvs → Paired (fun p kv => SqT K H p [kV kv.1, kv.2]) ps kvs
  | _, _, .nil => .nil
  | _, _, .cons h t => .cons (sqT_up s h) (paired_up s t)
theorem e_dict (hK : X.K = K) (hc : X.calm = true) (hg : Gl X "dict") (hm : X.mg "dict" = none) (ha : PA3 K X [e] f)
    (he : starEach [e] X.env = (false, eval e X.env) :: starEach [] X.env := by rfl) (hpl : (backTo pos (starEach [] X.env)).any (·.1) = false := by rfl) :
    PE3 K X (.Call (.Name "dict" pp) [e] [] pos) (eDct f) := ⟨pe_imp (pe_callTy (call_dictPT hc) hg hm (by decide +kernel) ha.p (he := he) (hpl := hpl)) fun σ H Q h => by
  subst hK
  obtain ⟨A, S, sl, w0, S', rfl, R, s, e, q⟩ := h
  obtain ⟨⟨ws, S1⟩, e1, e⟩ := Option.bind_eq_some_iff.mp e
  dsimp only at e
  refine ⟨A, S, sl, ws, S1, rfl, R, s, e1, fun B vs n R1 rs => ?_⟩
  have fin : ∀ (us : List V) (a : Addr) (ds : List PyData) (ks : List (Key × PyData)), vs = [.ref a] → (SqL X.K B.H a us ∨ PlT X.K B.H a us) → DaA X.K B.G us ds → pairsD ds = some ks → w0 = .r S1.length → S' = S1 ++ [.dic (mergeD [] ks)] → rDictP X.K vs B.H Q := fun us a ds ks ev hs hd hk ew eS => by
    subst ev ew eS
    obtain ⟨ps, kvs, rfl, hp, hkk⟩ := pairs_daa hd hk
    refine ⟨a, ps, kvs, rfl, hs, paired_up R1.gh hp, fun p hp0 => ?_⟩
    have hmk : DaK X.K B.G (mergeK [] kvs) (mergeD [] ks) := daK_merge hkk .nil
    obtain ⟨n2, R2⟩ := Nx.own (u := .dK (mergeK [] kvs)) (o := .dic (mergeD [] ks)) R1 hp0 ⟨R1.gh.free hp0, _, upd_same, hmk⟩
    exact q ⟨B.G, upd B.H p (.dK (mergeK [] kvs)), B.ι ++ [p]⟩ _ (n.trans n2) R2 (RW.last (B := ⟨B.G, upd B.H p (.dK (mergeK [] kvs)), B.ι⟩) R1.len)
  split at e
  · rename_i w
    cases rs with
    | cons rv rr =>
      cases rr
      split at e
      · rename_i ds hds
        by_cases z : ds.length ≤ 100000
        · rw [if_pos z] at e
          obtain ⟨ks, hk, e⟩ := Option.map_eq_some_iff.mp e
          cases e
          obtain ⟨a, us, rfl, h1, _, hd⟩ := view_list R1 rv hds
          exact fin us a ds ks rfl (.inl h1) hd hk rfl rfl
        · rw [if_neg z] at e; cases e
      · rename_i ds hds
        by_cases z : ds.length ≤ 100000
        · rw [if_pos z] at e
          obtain ⟨ks, hk, e⟩ := Option.map_eq_some_iff.mp e
          cases e
          have hw : w = .d (.tuple ds) := by
            cases w with
            | d y => cases hds; rfl
            | r i =>
              unfold view at hds
              dsimp only at hds
              cases ho : S1[i]? with
              | none => rw [ho] at hds; cases hds
              | some m =>
                rw [ho] at hds
                cases m with
                | lst _ => cases hds
                | dic _ => cases hds
                | rcd _ => cases hds
                | nls _ => cases hds
                | ldic _ => cases hds
                | tab _ _ => cases hds
                | ins _ _ => cases hds
                | ndc _ => cases hds
                | gone => cases hds
            | sc _ => cases hds
            | ty _ => cases hds
          subst hw
          obtain ⟨a, us, rfl, h1, hd⟩ := Da.tup_invP rv
          exact fin us a ds ks rfl (.inr (h1.up R1.gh)) hd hk rfl rfl
        · rw [if_neg z] at e; cases e
      · cases e
  · cases e⟩
theorem e_dg (hu : X.A.units + 1 < cLine) (ho : PE3 K X o fo) (hi : PE3 K X i fi) (hs : NoSl i) : PE3 K X (.Subscript o i pos) (eDG fo fi) := ⟨pe_imp (pe_dget hu ho.p hi.p hs) fun σ H Q h => by
  obtain ⟨A, S, sl, w, S', rfl, R, s, e, q⟩ := h
  obtain ⟨⟨w1, S1⟩, e1, e⟩ := Option.bind_eq_some_iff.mp e
  obtain ⟨⟨w2, S2⟩, e2, e⟩ := Option.bind_eq_some_iff.mp e
  refine ⟨A, S, sl, w1, S1, rfl, R, s, e1, fun B v n R1 r1 => ⟨B, S1, sl, w2, S2, rfl, R1, s.mono n, e2, fun C u n2 R2 r2 => ?_⟩⟩
  dsimp only at e
  split at e
  · rename_i y
    obtain ⟨k, ek, e⟩ := Option.bind_eq_some_iff.mp e
    obtain ⟨kvs, ed, e⟩ := Option.bind_eq_some_iff.mp e
    obtain ⟨d, ev, e⟩ := Option.map_eq_some_iff.mp e
    cases e
    obtain ⟨j, a, vs, rfl, _, _, rfl, _, hH, hK⟩ := dicAt_of R2 (r1.mono n2) ed
    have eu := key_da r2 ek
    subst eu
    rcases daK_val (k := k) hK with ⟨z, _⟩ | ⟨v, d', z1, z2, z3⟩
    · rw [z] at ev; cases ev
    · rw [z1] at ev
      cases ev
      exact ⟨a, v, rfl, by rw [← z2]; exact DGet.k hH, q C v (n.trans n2) R2 z3⟩
  · cases e⟩
theorem din_imp {neg : Bool} {σ : L2.St} {H : Hp} {Q : VK} (h : teO K (eDIn neg fi fo) σ H Q) : teO K fi σ H fun y H1 => ∃ (B : Wd) (S : List MO) (sl : Sl) (w : W3) (S' : List MO), B.H = H1 ∧ Rl K B S ∧ SR3 K B σ sl ∧ fo sl S = some (w, S') ∧ ∀ C u, Nx B C → Rl K C S' → RW K C u w → ∃ a r, u = V.ref a ∧ DGet C.H a y r ∧ Q (.bl (if neg then !r.isSome else r.isSome)) C.H := by
  obtain ⟨A, S, sl, w, S', rfl, R, s, e, q⟩ := h
  obtain ⟨⟨w1, S1⟩, e1, e⟩ := Option.bind_eq_some_iff.mp e
  obtain ⟨⟨w2, S2⟩, e2, e⟩ := Option.bind_eq_some_iff.mp e
  refine ⟨A, S, sl, w1, S1, rfl, R, s, e1, fun B v n R1 r1 => ⟨B, S1, sl, w2, S2, rfl, R1, s.mono n, e2, fun C u n2 R2 r2 => ?_⟩⟩
  dsimp only at e
  split at e
  · rename_i y
    obtain ⟨k, ek, e⟩ := Option.bind_eq_some_iff.mp e
    obtain ⟨kvs, ed, e⟩ := Option.map_eq_some_iff.mp e
    cases e
    obtain ⟨j, a, vs, rfl, _, _, rfl, _, hH, hK⟩ := dicAt_of R2 r2 ed
    have eu := key_da (r1.mono n2) ek
    subst eu
    refine ⟨a, valV vs k, rfl, DGet.k hH, ?_⟩
    have es : (valV vs k).isSome = (valD kvs k).isSome := by
      rcases daK_val (k := k) hK with ⟨z1, z2⟩ | ⟨v, d', z1, z2, _⟩
      · rw [z1, z2]; rfl
      · rw [z1, z2]; rfl
    rw [es]
    exact q C _ (n.trans n2) R2 (Da.bl _)
  · cases e
theorem tdin_imp {neg : Bool} {σ : L2.St} {H : Hp} {Q : Bool → Hp → Prop} (h : ttO K (tDIn neg fi fo) σ H Q) : teO K (eDIn neg fi fo) σ H fun x H1 => ∃ c, x = .bl c ∧ Q c H1 := by
  obtain ⟨A, S, sl, w, S', rfl, R, s, e, q⟩ := h
  obtain ⟨⟨w1, S1⟩, e1, e⟩ := Option.bind_eq_some_iff.mp e
  dsimp only at e
  cases w1 with
  | d y =>
    cases y with
    | bool b =>
      cases e
      exact ⟨A, S, sl, _, _, rfl, R, s, e1, fun B v n R1 r1 => ⟨_, Da.bool_inv r1, q B n R1⟩⟩
    | _ => cases e
  | _ => cases e
theorem t_dnin {i o : Expr} (hu : X.A.units + 1 < cLine) (hi : PE3 K X i fi) (ho : PE3 K X o fo) (h1 : behindInMarks .NotIn o = false := by rfl) : PT3 K X (.Compare i [.NotIn] [o] pos) (tDIn true fi fo) := ⟨pt_imp (pt_cmp (pc_dnotin hu hi.p ho.p) h1) fun _ _ _ h => din_imp (tdin_imp h)⟩
end
end EA
namespace EZ
open PySem
open PySem.Sem (wp)
/-- the pairs that are out: their addresses rise, each stands in the heap -/
structure Out (S : Addr) (wr : List Addr) (h : Heap) (R : Nat → Value → Value → Prop) (Ts : List Addr) : Prop where
  above : ∀ T ∈ Ts, S < T ∧ T ∉ wr
  rise : Ts.Pairwise (· < ·)
  pair : ∀ j T, Ts[j]? = some T → ∃ x y, R j x y ∧ IsPair h T x y
theorem Out.keep {S : Addr} {wr : List Addr} {h h' : Heap} {R : Nat → Value → Value → Prop} {Ts : List Addr} (o : Out S wr h R Ts) (k : ∀ b ob, b ≠ S → b ∉ wr → h.get? b = some ob → h'.get? b = some ob) : Out S wr h' R Ts := ⟨o.above, o.rise, fun j T hj => by
  obtain ⟨x, y, r, p⟩ := o.pair j T hj
  obtain ⟨a1, a2⟩ := o.above T (List.mem_of_getElem? hj)
  exact ⟨x, y, r, k T _ (Nat.ne_of_gt a1) a2 p⟩⟩
end EZ
namespace EA
open PySem PySem.Spec PyProof.Rows L2
/-! ### list(text), sum of numbers -/
def signsD (x : Str) : List PyData := x.cps.toList.map fun c => .str ⟨#[c]⟩
section
variable {X : Cx} {K : PySem.W.Frag}
def gSgn (ws : List W3) : Option (List PyData) := match ws with
  | [.d (.str x)] => if x.length ≤ 100000 then some (signsD x) else none
  | _ => none
def gLst4 (S : List MO) (ws : List W3) : Option (List PyData) := (gLst3 S ws).or (gSgn ws)
end
end EA
namespace EA
open PySem PySem.Spec PyProof.Rows L2
/-! ### rules for S14 to S16 -/
section
variable {S : List MO} {QL : List PyData → Prop} {P : PyData → Prop}
theorem wp_l4 {ws : List W3} (h : Wp (gLst3 S ws) QL) : Wp (gLst4 S ws) QL := by
  obtain ⟨a, e, q⟩ := h
  exact ⟨a, by unfold gLst4; rw [e]; rfl, q⟩
theorem wp_l4s {x : Str} (hl : x.length ≤ 100000) (h : QL (signsD x)) : Wp (gLst4 S [.d (.str x)]) QL := ⟨signsD x, by
  show (none : Option (List PyData)).or (gSgn [.d (.str x)]) = _
  show gSgn [.d (.str x)] = _
  unfold gSgn
  exact if_pos hl, h⟩
variable {sl : Sl} {Q : W3 → List MO → Prop} {QT : Bool → List MO → Prop} {QN : List PyData → List MO → Prop}
end
end EA
namespace EA
open PySem PySem.Spec PyProof.Rows L2
noncomputable def f3_hand : F3 := fdef true 1 3
  (sSeq (sSet 1 (eOp gAdd (eOp gMul (eB gLen (aCons (eVar 0) aNil)) (eD (.int (37)))) (eD (.int (101)))))
  (sSeq (sSet 2 (eNo (nLst aNil)))
  (sSeq (sFor (iSq (eVar 0)) (gNm 3)
  (sSeq (sSet 1 (eOp gMod (eB (g1 intD) (aCons (eOp gAdd (eOp gMul (eVar 1) (eD (.int (2011)))) (eB (g1 intD) (aCons (eVar 3) aNil))) aNil)) (eD (.int (2147483543)))))
  (sEx (eM mApp (eVar 2) (aCons (eB (g1 absD) (aCons (eB (g1 intD) (aCons (eVar 3) aNil)) aNil)) aNil)))))
  (sRt (eNo (nLst (aCons (eFrz (eVar 2)) (aCons (eD (.int (0))) (aCons (eD (.int (0))) (aCons (eVar 1) aNil))))))))))
noncomputable def f3_stirred : F3 := fdef false 2 2
  (sSeq (sSet 2 (eOp gMod (eB (g1 intD) (aCons (eOp gAdd (eOp gAdd (eOp gMul (eVar 0) (eD (.int (48017)))) (eOp gMul (eVar 1) (eD (.int (8821))))) (eD (.int (70001)))) aNil)) (eD (.int (2147483423)))))
  (sSeq (sSet 3 (eOp gMod (eB (g1 intD) (aCons (eOp gAdd (eOp gAdd (eOp gMul (eVar 2) (eVar 2)) (eOp gMul (eVar 1) (eD (.int (60017))))) (eOp gFdiv (eVar 2) (eD (.int (151))))) aNil)) (eD (.int (2147483477)))))
  (sRt (eOp gFdiv (eB (g1 intD) (aCons (eOp gMod (eB (g1 intD) (aCons (eOp gAdd (eOp gMul (eVar 3) (eD (.int (51199)))) (eOp gFdiv (eVar 2) (eD (.int (17))))) aNil)) (eD (.int (2147483549)))) aNil)) (eD (.int (128)))))))
noncomputable def f3_take : F3 := fdef false 2 2
  (sSeq (sIf (tAn (tCmp gEq (eOp gIx (eVar 0) (eD (.int (2)))) (eD (.int (0)))) (tCmp gLt (eOp gIx (eVar 0) (eD (.int (1)))) (eB gLen (aCons (eOp gIx (eVar 0) (eD (.int (0)))) aNil))))
  (sSeq (sSet 2 (eOp gIx (eOp gIx (eVar 0) (eD (.int (0)))) (eOp gIx (eVar 0) (eD (.int (1))))))
  (sSeq (sAsg (eOp gAdd (eOp gIx (eVar 0) (eD (.int (1)))) (eD (.int (1)))) (gSubL (eVar 0) (eD (.int (1)))))
  (sSeq (sIf (tCmp gLt (eVar 2) (eOp gPow (eD (.int (10))) (eD (.int (18)))))
  (sRt (eOp gMod (eB (g1 intD) (aCons (eCall f3_stirred (aCons (eOp gMod (eB (g1 intD) (aCons (eVar 2) aNil)) (eD (.int (2147483423)))) (aCons (eOp gIx (eVar 0) (eD (.int (1)))) aNil))) aNil)) (eVar 1)))
  sNx)
  (sAsg (eVar 2) (gSubL (eVar 0) (eD (.int (2))))))))
  sNx)
  (sSeq (sIf (tCmp gGt (eOp gIx (eVar 0) (eD (.int (2)))) (eD (.int (0))))
  (sSeq (sSet 3 (eOp gIx (eVar 0) (eD (.int (2)))))
  (sSeq (sAsg (eOp gFdiv (eB (g1 intD) (aCons (eVar 3) aNil)) (eVar 1)) (gSubL (eVar 0) (eD (.int (2)))))
  (sRt (eOp gMod (eB (g1 intD) (aCons (eVar 3) aNil)) (eVar 1)))))
  sNx)
  (sSeq (sAsg (eOp gMod (eB (g1 intD) (aCons (eOp gAdd (eOp gIx (eVar 0) (eD (.int (3)))) (eD (.int (1)))) aNil)) (eD (.int (2147483477)))) (gSubL (eVar 0) (eD (.int (3)))))
  (sRt (eOp gMod (eB (g1 intD) (aCons (eCall f3_stirred (aCons (eOp gIx (eVar 0) (eD (.int (3)))) (aCons (eOp gIx (eVar 0) (eD (.int (1)))) aNil))) aNil)) (eVar 1))))))
noncomputable def f3_whole : F3 := fdef false 1 0
  (sRt (eAn (eB gIsi (aCons (eVar 0) (aCons (eTy "int") aNil))) (eNot (eB gIsi (aCons (eVar 0) (aCons (eTy "bool") aNil))))))
local macro_rules | `(tactic| walk_at "ix") => `(tactic| first | rfl | exact atI_cons0 | exact atI_map0)
local macro_rules | `(tactic| walk_at "st") => `(tactic| first | assumption | rfl | exact get_set (by assumption) | exact get_set (get_set (by assumption)) | exact get_last | exact get_setlast | exact get_setapp (by assumption) | exact get_app (by assumption) | exact get_app (get_set (by assumption)))
local macro_rules | `(tactic| walk_at "tk") => `(tactic| first | exact List.take_length | exact take_set | exact take_set2 | exact take_set3 | exact take_app | exact take_aset | exact take_setapp | rfl)
local macro_rules | `(tactic| walk_at "sd") => `(tactic| first | omega | assumption | decide)
local macro_rules | `(tactic| walk_at "wp1") => `(tactic| first
  | with_reducible refine wp_seq ?_ | with_reducible refine th_nx ?_ | with_reducible refine th_rt ?_ | with_reducible refine th_bk ?_ | with_reducible refine th_ct ?_
  | with_reducible refine wp_set ?_ | with_reducible refine wp_ex ?_ | with_reducible refine wp_rt ?_ | with_reducible refine wp_rtn ?_ | with_reducible refine wp_sif ?_ | with_reducible refine wp_asg ?_
  | with_reducible refine wp_for ?_ | with_reducible refine wp_pr ?_ | with_reducible refine pairW_i ?_ | with_reducible refine lq_nx ?_ | with_reducible refine lq_ct ?_ | with_reducible refine lq_bk ?_ | with_reducible refine lq_rt ?_ | with_reducible refine wp_dp ?_ | with_reducible refine wp_nx ?_ | with_reducible refine wp_bk ?_ | with_reducible refine wp_ct ?_
  | ((with_reducible apply wp_var); rfl) | with_reducible refine wp_d ?_ | with_reducible refine wp_ty ?_ | with_reducible refine wp_fz ?_ | with_reducible refine fz_d ?_ | ((with_reducible apply fz_r); (walk_at "st")) | with_reducible refine wp_nil ?_ | with_reducible refine wp_cons ?_
  | with_reducible refine wp_tup ?_ | with_reducible refine wp_nlst ?_ | with_reducible refine wp_ds0 ?_ | with_reducible refine wp_ds1 ?_ | with_reducible refine wp_nd ?_ | with_reducible refine wp_no ?_
  | with_reducible refine wp_gnm ?_ | with_reducible refine wp_gtp ?_ | with_reducible refine wp_gsn ?_ | with_reducible refine wp_gsc ?_ | with_reducible refine wp_gs ?_
  | with_reducible refine wp_ty3 ?_ | with_reducible refine datW_i ?_ | with_reducible refine wp_lc ?_ | with_reducible refine wp_ecmp ?_ | with_reducible refine wp_tcmp ?_ | with_reducible refine wp_ttr ?_ | with_reducible refine wp_not ?_ | with_reducible refine wp_tnt ?_ | with_reducible refine wp_tan ?_ | with_reducible refine wp_tor ?_
  | with_reducible refine wp_an ?_ | with_reducible refine boolW_i ?_ | with_reducible refine wp_or ?_ | with_reducible refine wp_eif ?_ | with_reducible refine wp_op ?_ | with_reducible refine wp_nop ?_ | with_reducible refine wp_onone ?_ | with_reducible refine wp_os ?_ | with_reducible refine intW_i ?_
  | with_reducible refine wp_esl ?_ | with_reducible refine wp_nsl ?_ | with_reducible refine wp_b ?_ | with_reducible refine wp_nb ?_ | with_reducible refine wp_call ?_ | with_reducible refine wp_sq ?_ | with_reducible refine sq_l ?_ | with_reducible refine sq_t ?_ | with_reducible refine sq_sc ?_ | ((with_reducible apply sq_r); (walk_at "st")) | with_reducible refine wp_r1 ?_ | with_reducible refine wp_r2 ?_ | with_reducible refine wp_irv ?_
  | with_reducible refine wp_me ?_ | with_reducible refine wp_join ?_ | with_reducible refine wp_dn ?_
  | with_reducible refine wp_viewd ?_ | ((with_reducible apply wp_viewr); (walk_at "st")) | ((with_reducible apply wp_lat); (walk_at "st")))
local macro_rules | `(tactic| walk_at "wp") => `(tactic| first
  | walk_at "wp1"
  | ((with_reducible apply atSet_i); (walk_at "st"); rfl) | ((with_reducible apply atLst_i); (walk_at "st")) | ((with_reducible apply nowLst_i); (walk_at "st"))
  | ((with_reducible refine wp_l4s ?_ ?_); (first | omega | assumption | decide +kernel)) | with_reducible refine wp_l4 ?_ | with_reducible refine wp_l3l ?_ | with_reducible refine wp_l3t ?_ | ((with_reducible apply wp_l3r); (walk_at "st")) | ((with_reducible refine rng1_i ?_ ?_); (walk_at "sd")) | ((with_reducible refine rng2_i ?_ ?_); (walk_at "sd"))
  | with_reducible refine wp_addi ?_ | with_reducible refine wp_sub ?_ | ((with_reducible refine wp_mod ?_ ?_); (walk_at "sd")) | ((with_reducible refine wp_fdiv ?_ ?_); (walk_at "sd")) | ((with_reducible refine wp_mulr ?_ ?_); (walk_at "sd")) | ((with_reducible refine wp_mull ?_ ?_); (walk_at "sd")) | ((with_reducible refine wp_pow ?_ ?_); (walk_at "sd"))
  | with_reducible refine wp_int ?_ | with_reducible refine wp_abs ?_
  | ((with_reducible apply wp_ixd); (walk_at "ix")) | ((with_reducible apply wp_ixt); (walk_at "ix")) | ((with_reducible apply wp_ixr); (walk_at "st"); (walk_at "ix"))
  | with_reducible refine wp_lenl ?_ | with_reducible refine wp_lent ?_ | with_reducible refine wp_lensc ?_ | ((with_reducible apply wp_lenr); (walk_at "st"))
  | with_reducible refine wp_geqi ?_ | with_reducible refine wp_gnei ?_ | with_reducible refine wp_glti ?_ | with_reducible refine wp_ggti ?_ | with_reducible refine wp_glei ?_ | with_reducible refine wp_ggei ?_ | with_reducible refine wp_glts ?_ | with_reducible refine wp_ggts ?_
  | with_reducible refine is_bt_bt ?_ | with_reducible refine isn_bt_bt ?_ | with_reducible refine is_bt_bf ?_ | with_reducible refine isn_bt_bf ?_ | with_reducible refine is_bt_n ?_ | with_reducible refine isn_bt_n ?_ | with_reducible refine is_bf_bt ?_ | with_reducible refine isn_bf_bt ?_ | with_reducible refine is_bf_bf ?_ | with_reducible refine isn_bf_bf ?_ | with_reducible refine is_bf_n ?_ | with_reducible refine isn_bf_n ?_ | with_reducible refine is_n_bt ?_ | with_reducible refine isn_n_bt ?_ | with_reducible refine is_n_bf ?_ | with_reducible refine isn_n_bf ?_ | with_reducible refine is_n_n ?_ | with_reducible refine isn_n_n ?_ | with_reducible refine is_t_bt ?_ | with_reducible refine isn_t_bt ?_ | with_reducible refine is_t_bf ?_ | with_reducible refine isn_t_bf ?_ | with_reducible refine is_t_n ?_ | with_reducible refine isn_t_n ?_ | with_reducible refine is_l_bt ?_ | with_reducible refine isn_l_bt ?_ | with_reducible refine is_l_bf ?_ | with_reducible refine isn_l_bf ?_ | with_reducible refine is_l_n ?_ | with_reducible refine isn_l_n ?_ | with_reducible refine is_i_bt ?_ | with_reducible refine isn_i_bt ?_ | with_reducible refine is_i_bf ?_ | with_reducible refine isn_i_bf ?_ | with_reducible refine is_i_n ?_ | with_reducible refine isn_i_n ?_ | with_reducible refine is_s_bt ?_ | with_reducible refine isn_s_bt ?_ | with_reducible refine is_s_bf ?_ | with_reducible refine isn_s_bf ?_ | with_reducible refine is_s_n ?_ | with_reducible refine isn_s_n ?_
  | ((with_reducible refine wp_gis ?_ ?_); rfl) | ((with_reducible refine wp_gisn ?_ ?_); rfl) | with_reducible refine wp_trub ?_ | ((with_reducible refine isi_t (r := true) ?_ ?_); (decide +kernel)) | ((with_reducible refine isi_t (r := false) ?_ ?_); (decide +kernel)) | ((with_reducible refine isi_b (r := true) ?_ ?_); (decide +kernel)) | ((with_reducible refine isi_b (r := false) ?_ ?_); (decide +kernel)) | ((with_reducible refine isi_i (r := true) ?_ ?_); (decide +kernel)) | ((with_reducible refine isi_i (r := false) ?_ ?_); (decide +kernel)) | ((with_reducible refine isi_s (r := true) ?_ ?_); (decide +kernel)) | ((with_reducible refine isi_s (r := false) ?_ ?_); (decide +kernel)) | ((with_reducible refine isi_l (r := true) ?_ ?_); (decide +kernel)) | ((with_reducible refine isi_l (r := false) ?_ ?_); (decide +kernel)) | ((with_reducible refine isi_n (r := true) ?_ ?_); (decide +kernel)) | ((with_reducible refine isi_n (r := false) ?_ ?_); (decide +kernel))
  | with_reducible refine wp_tupl ?_ | with_reducible refine wp_tupt ?_ | ((with_reducible apply wp_tupr); (walk_at "st"))
  | with_reducible refine ite2 (fun _ => ?_) (fun z => absurd rfl z)
  | with_reducible refine ite2 (fun z => absurd z Bool.false_ne_true) (fun _ => ?_)
  | ((with_reducible apply rq_dt); (walk_at "tk")) | ((with_reducible apply rq_nxt); (walk_at "tk")))
local macro_rules | `(tactic| walk_at "fdef") => `(tactic| (refine wp_fdef rfl ?_; simp only [List.map_cons, List.map_nil, List.replicate_succ, List.replicate_zero, List.cons_append, List.nil_append]))
theorem stirred3 {S : List MO} {n t : Int} (n0 : 0 ≤ n) (n1 : n < 2147483543) (t0 : 0 ≤ t) (t1 : t ≤ 64) {Q : W3 → List MO → Prop} (q : ∀ v : Int, 0 ≤ v → Q (.d (.int v)) S) : Wp2 (f3_stirred [.d (.int n), .d (.int t)] S) Q := by
  have a0 := Int.emod_nonneg (n * 48017 + t * 8821 + 70001) (by decide : (2147483423 : Int) ≠ 0)
  have a1 := Int.emod_lt_of_pos (n * 48017 + t * 8821 + 70001) (by decide : (0 : Int) < 2147483423)
  unfold f3_stirred
  walk_at "fdef"
  repeat walk_at "wp"
  generalize (n * 48017 + t * 8821 + 70001) % 2147483423 = a at a0 a1
  exact q _ (Int.ediv_nonneg (Int.emod_nonneg _ (by decide)) (by decide))
def HandO (o : List PyData) : Prop := ∃ (cells : List Int) (at_ rest seed : Int), o = [.list (cells.map .int), .int at_, .int rest, .int seed] ∧ cells.length ≤ 63 ∧ (∀ x ∈ cells, 0 ≤ x) ∧ 0 ≤ at_ ∧ at_ ≤ 63 ∧ 0 ≤ rest ∧ 0 ≤ seed ∧ seed < 2147483543
theorem take3 {S : List MO} {h : Nat} {o : List PyData} {m : Int} (hh : S[h]? = some (.lst o)) (ho : HandO o) (m0 : 0 < m) (m1 : m < 1073741824) {Q : W3 → List MO → Prop} (q : ∀ (v : Int) (o' : List PyData), 0 ≤ v → v < m → HandO o' → Q (.d (.int v)) (S.set h (.lst o'))) : Wp2 (f3_take [.r h, .d (.int m)] S) Q := by
  obtain ⟨cells, at_, rest, seed, rfl, cl, c0, a0, a1, r0, s0, s1⟩ := ho
  have fin : ∀ (at_' rest' seed' z : Int), 0 ≤ at_' → at_' ≤ 63 → 0 ≤ rest' → 0 ≤ seed' → seed' < 2147483543 → Q (.d (.int (z % m))) (S.set h (.lst [.list (cells.map .int), .int at_', .int rest', .int seed'])) := fun at_' rest' seed' z b0 b1 b2 b3 b4 =>
    q _ _ (Int.emod_nonneg _ (by omega)) (Int.emod_lt_of_pos _ m0) ⟨cells, at_', rest', seed', rfl, cl, c0, b0, b1, b2, b3, b4⟩
  unfold f3_take
  walk_at "fdef"
  repeat walk_at "wp"
  refine ite2 (fun c1 => ?_) (fun c1 => ?_)
  · repeat walk_at "wp"
    refine ite2 (fun c2 => ?_) (fun c2 => ?_)
    · have c2' : at_ < ((cells.map PyData.int).length : Int) := of_decide_eq_true c2
      rw [List.length_map] at c2'
      have hk : at_.toNat < cells.length := by omega
      have x0 := c0 _ (List.getElem_mem hk)
      have ei : atI (cells.map PyData.int) at_ = some (.int cells[at_.toNat]) := atI_of a0 (by rw [List.getElem?_map, List.getElem?_eq_getElem hk]; rfl)
      repeat walk_at "wp"
      refine wp_ixd ei ?_
      repeat walk_at "wp"
      refine ite2 (fun c3 => ?_) (fun c3 => ?_)
      · have y0 := Int.emod_nonneg cells[at_.toNat] (by decide : (2147483423 : Int) ≠ 0)
        have y1 := Int.emod_lt_of_pos cells[at_.toNat] (by decide : (0 : Int) < 2147483423)
        repeat walk_at "wp"
        refine stirred3 y0 (by omega) (by omega) (by omega) fun v v0 => ?_
        repeat walk_at "wp"
        exact fin (at_ + 1) rest seed v (by omega) (by omega) r0 s0 s1
      · have c3' : ¬ cells[at_.toNat] < (10 : Int) ^ (18 : Int).toNat := fun z => c3 (decide_eq_true z)
        have d3 : ¬ cells[at_.toNat] < 1000000000000000000 := c3'
        repeat walk_at "wp"
        refine ite2 (fun c4 => ?_) (fun c4 => ?_)
        · repeat walk_at "wp"
          exact fin (at_ + 1) (cells[at_.toNat] / m) seed _ (by omega) (by omega) (Int.ediv_nonneg x0 (by omega)) s0 s1
        · exact absurd (show decide ((0 : Int) < cells[at_.toNat]) = true from decide_eq_true (by omega)) c4
    · repeat walk_at "wp"
      refine ite2 (fun c4 => ?_) (fun c4 => ?_)
      · have c4' : 0 < rest := of_decide_eq_true c4
        repeat walk_at "wp"
        exact fin at_ (rest / m) seed _ a0 a1 (Int.ediv_nonneg r0 (by omega)) s0 s1
      · have y0 := Int.emod_nonneg (seed + 1) (by decide : (2147483477 : Int) ≠ 0)
        have y1 := Int.emod_lt_of_pos (seed + 1) (by decide : (0 : Int) < 2147483477)
        repeat walk_at "wp"
        refine stirred3 y0 (by omega) (by omega) (by omega) fun v v0 => ?_
        repeat walk_at "wp"
        exact fin at_ rest ((seed + 1) % 2147483477) _ a0 a1 r0 y0 (by omega)
  · repeat walk_at "wp"
    refine ite2 (fun c4 => ?_) (fun c4 => ?_)
    · have c4' : 0 < rest := of_decide_eq_true c4
      repeat walk_at "wp"
      exact fin at_ (rest / m) seed _ a0 a1 (Int.ediv_nonneg r0 (by omega)) s0 s1
    · have y0 := Int.emod_nonneg (seed + 1) (by decide : (2147483477 : Int) ≠ 0)
      have y1 := Int.emod_lt_of_pos (seed + 1) (by decide : (0 : Int) < 2147483477)
      repeat walk_at "wp"
      refine stirred3 y0 (by omega) (by omega) (by omega) fun v v0 => ?_
      repeat walk_at "wp"
      exact fin at_ rest ((seed + 1) % 2147483477) _ a0 a1 r0 y0 (by omega)
/-- the hand of a script -/
theorem hand3 {S : List MO} {ns : List Int} (hl : ns.length ≤ 63) {Q : W3 → List MO → Prop} (q : ∀ o : List PyData, HandO o → Q (.r S.length) (S ++ [.lst o])) : Wp2 (f3_hand [.sc ns] S) Q := by
  unfold f3_hand
  walk_at "fdef"
  repeat walk_at "wp"
  refine wp_loop (n := 0) (fun i sl S' => ∃ (t : Int) (cs : List Int) (x : Option W3), sl = [some (.sc ns), some (.d (.int t)), some (.r S.length), x] ∧ S' = S ++ [.lst (cs.map .int)] ∧ cs.length = i ∧ (∀ x ∈ cs, 0 ≤ x) ∧ 0 ≤ t ∧ t < 2147483543)
    ⟨_, [], none, rfl, rfl, rfl, (fun x h => nomatch h), by omega, by omega⟩ (fun _ _ _ _ => rfl) (fun i w sl S' hw hi hp => ?_) (fun sl S' hp => ?_)
  · obtain ⟨t, cs, x0, rfl, rfl, hc, hn, t0, t1⟩ := hp
    obtain ⟨d, hd, rfl⟩ := ws_get hw
    rw [List.getElem?_map] at hd
    obtain ⟨z, hz, rfl⟩ := Option.map_eq_some_iff.mp hd
    have hlt : i < ns.length := by have := (List.getElem?_eq_some_iff.mp hz).1; omega
    repeat walk_at "wp"
    refine wp_app (by rw [List.length_map]; omega) ?_
    repeat walk_at "wp"
    refine ⟨_, cs ++ [if z < 0 then -z else z], _, rfl, ?_, by rw [List.length_append, hc]; rfl, ?_, Int.emod_nonneg _ (by decide), Int.emod_lt_of_pos _ (by decide)⟩
    · rw [set_last, List.map_append]; rfl
    · intro y hy
      rcases List.mem_append.mp hy with hy | hy
      · exact hn y hy
      · have e : y = if z < 0 then -z else z := by simpa using hy
        rw [e]
        split <;> omega
  · obtain ⟨t, cs, x0, rfl, rfl, hc, hn, t0, t1⟩ := hp
    rw [List.length_map, List.length_map] at hc
    repeat walk_at "wp"
    rw [set_last]
    refine rq_own (S0 := S) (take_app) (by rw [List.length_append]; omega) (q _ ⟨cs, 0, 0, t, rfl, by omega, hn, by decide, by decide, by decide, t0, t1⟩)
end EA
namespace EA
open PySem PySem.Spec PyProof.Rows L2
/-! ### a tuple of the module's top -/
structure TopT (K : PySem.W.Frag) (a : Addr) (ds : List PyData) : Prop where
  ex : ∃ (o : Obj) (its : Array Value) (n : Nat) (vs : List V), K.lookup a = some o ∧ o.cls = .type "tuple" ∧ o.data = .seq its n ∧ its.size ≤ sizeLine ∧ Vals vs its.toList ∧ o.dict = none ∧ ∀ G, DaA K G vs ds
theorem TopT.da {K : PySem.W.Frag} {a : Addr} {ds : List PyData} (h : TopT K a ds) (G : Hp) : Da K G (.ref a) (.tuple ds) := by
  obtain ⟨o, its, n, vs, h1, h2, h3, h4, h5, h6, h7⟩ := h.ex
  exact .tup (.inr ⟨o, its, n, h1, h2, h3, h4, h5, h6⟩) (h7 G)
section
variable {K : PySem.W.Frag} {X : Cx} {o i e f0 : Expr} {fo fi fd : FE} {pos apos cpos pp : Pos} {es : List Expr}
theorem e_topT {x : Str} {a : Addr} {ds : List PyData} (hg : Gl X x) (hm : X.mg x = some (.ref a)) (h : TopT K a ds) (hd : (x == ("__debug__" : Str)) = false := by decide) : PE3 K X (.Name x pos) (eD (.tuple ds)) := ⟨pe_imp (pe_glob (v := .ref a) hg hm (show Value.ref a = Value.ref a from rfl) hd) fun σ H Q h' => by
  obtain ⟨A, S, sl, w, S', rfl, R, s, e, q⟩ := h'
  cases e
  exact q A (.ref a) (Nx.refl A) R (h.da A.G)⟩
/-! ### t * k -/
/-! ### d.get(k, x) -/
/-! ### xs.insert(i, x) -/
/-! ### enumerate(xs) -/
/-! ### f(a, b, k=c) -/
structure PK3 (K : PySem.W.Frag) (X : Cx) (kws : List Keyword) (f : FA) : Prop where
  p : PK X kws (taO K f)
theorem pk_imp {kws : List Keyword} {t t' : TA} (h : PK X kws t) (i : ∀ σ H Q, t' σ H Q → t σ H Q) : PK X kws t' := ⟨fun pos pins s σ H Q I q => h.run pos pins s σ H Q I (i σ H Q q)⟩
theorem k_nil : PK3 K X [] aNil := ⟨pk_imp pk_nil fun σ H Q h => by
  obtain ⟨A, S, sl, w, S', rfl, R, s, e, q⟩ := h
  cases e
  exact q A [] (Nx.refl A) R .nil⟩
theorem k_cons {nm : Option Str} {kpos : Pos} {kws : List Keyword} {f : FE} {r : FA} (h : PE3 K X e f) (hr : PK3 K X kws r) : PK3 K X (⟨nm, e, kpos⟩ :: kws) (aCons f r) :=
  ⟨pk_imp (pk_cons h.p hr.p) fun σ H Q h => by
    obtain ⟨A, S, sl, w, S', rfl, R, s, e, q⟩ := h
    obtain ⟨⟨w1, S1⟩, e1, e2⟩ := Option.bind_eq_some_iff.mp e
    obtain ⟨⟨w2, S2⟩, e3, e4⟩ := Option.map_eq_some_iff.mp e2
    cases e4
    refine ⟨A, S, sl, w1, S1, rfl, R, s, e1, fun B v n R' r => ?_⟩
    exact ⟨B, S1, sl, w2, _, rfl, R', s.mono n, e3, fun C vs n2 R2 r2 => q C (v :: vs) (n.trans n2) R2 (.cons (r.mono n2) r2)⟩⟩
/-- m positional values, n by name, in the parameters' order -/
def kG {α : Type} (m n : Nat) (us ws : List α) : List α := if us.length = m ∧ ws.length = n then us ++ ws else []
def eCallK (m n : Nat) (f : F3) (a k : FA) : FE := fun sl S => (a sl S).bind fun p => (k sl p.2).bind fun q => if p.1.length = m ∧ q.1.length = n then f (p.1 ++ q.1) q.2 else none
theorem RWs.app2 {A : Wd} : ∀ {vs us : List V} {ws zs : List W3}, RWs K A vs ws → RWs K A us zs → RWs K A (vs ++ us) (ws ++ zs)
  | _, _, _, _, .nil, h => h
  | _, _, _, _, .cons h t, h2 => .cons h (RWs.app2 t h2)
theorem RWs.monoA {A B : Wd} (n : Nx A B) : ∀ {vs : List V} {ws : List W3}, RWs K A vs ws → RWs K B vs ws
  | _, _, .nil => .nil
  | _, _, .cons h t => .cons (h.mono n) (RWs.monoA n t)
theorem e_callK {k m n : Nat} {f : Addr} {fd : FuncData} {ps ks : List Str} {x : Str} {p : Pos} {f3 : F3} {fa fk : FA} {kws : List Keyword} (hK : X.K = K) (F : FnOk X.prog X.w X.K X.mg X.base CX0 k f fd ps (sp3 K f3)) (hr : Room k X.A) (hg : Gl X x) (hm : X.mg x = some (.ref f)) (hk : PySem.W.keepIn X.K (.ref f) = true) (hb : KBinds X.K fd ps ks (kG m n) (kG m n))
    (ha : PA3 K X (e :: es) fa) (hkw : PK3 K X kws fk) (hall : (backToKw pos (keywordEach kws X.env)).all (·.1.isSome) = true := by rfl) (hks : (backToKw pos (keywordEach kws X.env)).filterMap (·.1) = ks := by rfl)
    (hdb : (x == ("__debug__" : Str)) = false := by decide) (he : starEach (e :: es) X.env = (false, eval e X.env) :: starEach es X.env := by rfl)
    (hpl : ((backTo pos (starEach (e :: es) X.env)).any (·.1) || (backToKw pos (keywordEach kws X.env)).any (·.1.isNone)) = false := by rfl) :
    PE3 K X (.Call (.Name x p) (e :: es) kws pos) (eCallK m n f3 fa fk) := ⟨pe_imp (pe_callK F hr hg hm hk hb pass0 ha.p hkw.p hall hks hdb he hpl) fun σ H Q h => by
  obtain ⟨A, S, sl, w, S', rfl, R, s, e, q⟩ := h
  obtain ⟨⟨w1, S1⟩, e1, e⟩ := Option.bind_eq_some_iff.mp e
  obtain ⟨⟨w2, S2⟩, e2, e⟩ := Option.bind_eq_some_iff.mp e
  dsimp only at e
  by_cases z : w1.length = m ∧ w2.length = n
  · rw [if_pos z] at e
    refine ⟨A, S, sl, w1, S1, rfl, R, s, e1, fun B vs n1 R1 r1 => ⟨B, S1, sl, w2, S2, rfl, R1, s.mono n1, e2, fun C zs n2 R2 r2 => ?_⟩⟩
    refine ⟨C, S2, w1 ++ w2, w, S', rfl, R2, ?_, e, fun D v n3 R3 r3 => q D v ((n1.trans n2).trans n3) R3 r3⟩
    unfold kG
    rw [r1.len, r2.len, if_pos z]
    exact RWs.app2 (RWs.monoA n2 r1) r2
  · rw [if_neg z] at e; cases e⟩
end
end EA
namespace EA
open PySem PySem.Spec PyProof.Rows L2
/-! ### dicts whose keys are written texts; their values may be other objects of the store -/
section
variable {K : PySem.W.Frag} {X : Cx} {A B C : Wd} {S S' : List MO} {σ : L2.St} {sl : Sl} {v : V} {w : W3}
def rcdAt (S : List MO) : W3 → Option (List (Str × W3))
  | .r i => match S[i]? with
    | some (.rcd kvs) => some kvs
    | _ => none
  | _ => none
theorem RcA.len {ks : List (Key × V)} {kvs : List (Str × W3)} (h : RcA K A ks kvs) : ks.length = kvs.length := by
  induction h with
  | nil => rfl
  | cons _ _ ih => rw [List.length_cons, List.length_cons, ih]
theorem RcA.keys {ks : List (Key × V)} {kvs : List (Str × W3)} (h : RcA K A ks kvs) : ks.map (·.1) = kvs.map fun kv => .inr kv.1 := by
  induction h with
  | nil => rfl
  | cons _ _ ih => rw [List.map_cons, List.map_cons, ih]
theorem RcA.val {ks : List (Key × V)} {kvs : List (Str × W3)} {k : Str} {w : W3} (h : RcA K A ks kvs) (e : kvs.lookup k = some w) : ∃ v, valV ks (.inr k) = some v ∧ RW K A v w := by
  induction h with
  | nil => cases e
  | @cons s v' w' ks kvs hv _ ih =>
    rw [List.lookup_cons] at e
    unfold valV at ih ⊢
    rw [List.find?_cons]
    by_cases c : k = s
    · subst c
      rw [beq_self_eq_true] at e
      cases e
      refine ⟨v', ?_, hv⟩
      simp
    · rw [show (k == s) = false from beq_eq_false_iff_ne.mpr c] at e
      have : decide ((Sum.inr s : Key) = Sum.inr k) = false := decide_eq_false fun z => c (Sum.inr.inj z).symm
      dsimp only
      rw [this]
      exact ih e
theorem RcA.ref {ks : List (Key × V)} {kvs : List (Str × W3)} (h : RcA K A ks kvs) : ∀ s j, (s, W3.r j) ∈ kvs → j < A.ι.length := by
  induction h with
  | nil => intro s j h; cases h
  | @cons s' v' w' ks kvs hv _ ih =>
    intro s j h
    rcases List.mem_cons.mp h with e | h
    · cases e
      obtain ⟨a, h1, _⟩ := hv
      exact (List.getElem?_eq_some_iff.mp h1).1
    · exact ih s j h
def rcdPut (kvs : List (Str × W3)) (k : Str) (w : W3) : List (Str × W3) := kvs.map fun kv => if kv.1 = k then (kv.1, w) else kv
theorem RcA.put {ks : List (Key × V)} {kvs : List (Str × W3)} {k : Str} {v : V} {w : W3} (h : RcA K A ks kvs) (hv : RW K A v w) (e : (kvs.lookup k).isSome = true) : RcA K A (putK ks (.inr k) v) (rcdPut kvs k w) := by
  have e2 : (ks.any fun kv => decide (kv.1 = Sum.inr k)) = true := by
    induction h with
    | nil => cases e
    | @cons s v' w' ks kvs _ _ ih =>
      rw [List.any_cons]
      rw [List.lookup_cons] at e
      by_cases c : k = s
      · subst c; simp
      · rw [show (k == s) = false from beq_eq_false_iff_ne.mpr c] at e
        rw [ih e, Bool.or_true]
  unfold putK rcdPut
  rw [if_pos e2]
  clear e e2
  induction h with
  | nil => exact .nil
  | @cons s v' w' ks kvs a _ ih =>
    rw [List.map_cons, List.map_cons]
    by_cases c : s = k
    · subst c
      rw [if_pos rfl, if_pos rfl]
      exact .cons hv ih
    · rw [if_neg (fun z => c (Sum.inr.inj z)), if_neg c]
      exact .cons a ih
/-! {"k": e, ..} -/
/-! d["k"], d["k"] = e -/
def eRG (o : FE) (k : Str) : FE := fun sl S => (o sl S).bind fun p => (rcdAt p.2 p.1).bind fun kvs => (kvs.lookup k).map fun w => (w, p.2)
end
end EA
namespace EA
open PySem PySem.Spec PyProof.Rows L2
/-! ### dicts that hold other objects -/
def valW (kvs : List (Key × W3)) (k : Key) : Option W3 := (kvs.find? fun kv => decide (kv.1 = k)).map (·.2)
def putW (kvs : List (Key × W3)) (k : Key) (v : W3) : List (Key × W3) :=
  if kvs.any (fun kv => decide (kv.1 = k)) then kvs.map (fun kv => if kv.1 = k then (kv.1, v) else kv) else kvs ++ [(k, v)]
section
variable {K : PySem.W.Frag} {A B : Wd} {S : List MO} {v : V} {w : W3} {kvs : List (Key × W3)}
theorem NdA.len {ks : List (Key × V)} (h : NdA K A ks kvs) : ks.length = kvs.length := by
  induction h with
  | nil => rfl
  | cons _ _ ih => rw [List.length_cons, List.length_cons, ih]
theorem NdA.val {ks : List (Key × V)} (h : NdA K A ks kvs) (k : Key) : (valW kvs k = none ∧ valV ks k = none) ∨ ∃ v w, valW kvs k = some w ∧ valV ks k = some v ∧ RW K A v w := by
  induction h with
  | nil => exact .inl ⟨rfl, rfl⟩
  | @cons k' v' w' ks kvs hv _ ih =>
    unfold valW valV at ih ⊢
    rw [List.find?_cons, List.find?_cons]
    by_cases c : k' = k
    · have e : decide (k' = k) = true := decide_eq_true c
      dsimp only
      rw [e]
      exact .inr ⟨v', w', rfl, rfl, hv⟩
    · have e : decide (k' = k) = false := decide_eq_false c
      dsimp only
      rw [e]
      exact ih
theorem NdA.app {ks us : List (Key × V)} {ks' : List (Key × W3)} (h : NdA K A ks kvs) (h2 : NdA K A us ks') : NdA K A (ks ++ us) (kvs ++ ks') := by
  induction h with
  | nil => exact h2
  | cons h _ ih => exact .cons h ih
theorem NdA.any {ks : List (Key × V)} (h : NdA K A ks kvs) (k : Key) : (ks.any fun kv => decide (kv.1 = k)) = kvs.any fun kv => decide (kv.1 = k) := by
  induction h with
  | nil => rfl
  | cons _ _ ih => rw [List.any_cons, List.any_cons, ih]
theorem NdA.mapk {ks : List (Key × V)} (h : NdA K A ks kvs) {k : Key} (hv : RW K A v w) : NdA K A (ks.map fun kv => if kv.1 = k then (kv.1, v) else kv) (kvs.map fun kv => if kv.1 = k then (kv.1, w) else kv) := by
  induction h with
  | nil => exact .nil
  | @cons k' v' w' ks kvs h _ ih =>
    rw [List.map_cons, List.map_cons]
    by_cases c : k' = k
    · simp only [if_pos c]; exact .cons hv ih
    · simp only [if_neg c]; exact .cons h ih
theorem NdA.put {ks : List (Key × V)} {k : Key} (h : NdA K A ks kvs) (hv : RW K A v w) : NdA K A (putK ks k v) (putW kvs k w) := by
  unfold putK putW
  rw [h.any k]
  by_cases c : (kvs.any fun kv => decide (kv.1 = k)) = true
  · rw [if_pos c, if_pos c]; exact h.mapk hv
  · rw [if_neg c, if_neg c]; exact h.app (.cons hv .nil)
end
def eNDN : FE := fun _ S => some (.r S.length, S ++ [.ndc []])
def isNoneW : W3 → Bool
  | .d .none => true
  | _ => false
/-- x is None, x is not None, x any value -/
def tIsN (neg : Bool) (f : FE) : FT := fun sl S => (f sl S).map fun p => (neg != isNoneW p.1, p.2)
/-! ### xs.extend(ys), ys a list of data -/
end EA
namespace EA
open PySem PySem.Spec PyProof.Rows L2
/-! ### defs with a default -/
section
variable {K : PySem.W.Frag}
/-- the rule for a def with defaults -/
theorem fn3D {P : Program} {w : World} {mg : Str → Option Value} {base : Heap} {x qual : Str} {dvs : List V} {kws : List (Str × V)} {st : Stmt} {f : Addr} {fd : FuncData} {N ps : List Str} {k np nl : Nat} {own : Bool} {body : FS} (F : FunD K x qual (defArgs st) (defBody st) (defScope st) dvs kws f fd) (S : FnScope N ps (defScope st)) (hnp : ps.length = np) (hnl : N.length = np + nl)
    (hb : ∀ (cdv : Value) (A : Around) (outer : List Env) (s : Shared) (H : Hp) (E : XK), Room k (A.deeper (envOfC qual (defScope st) s.heap.objs.size f cdv)) → PSs3 K (cxOf CX0 P w K mg base N qual (defScope st) f cdv A outer s H E).nox (defBody st) body) : FnOk P w K mg base CX0 (k + 1) f fd ps (sp3 K (fdef own np nl body)) := by
  have arity : ∀ {ws : List W3} {S0 : List MO} {r}, fdef own np nl body ws S0 = some r → ws.length = np ∧ (body (ws.map some ++ List.replicate nl none) S0).bind (ret3 own S0) = some r := fun {ws S0 r} e => by
    unfold fdef at e
    by_cases z : ws.length = np
    · rw [if_pos z] at e; exact ⟨z, e⟩
    · rw [if_neg z] at e; cases e
  refine F.ok S (fun vs H Q E h => ?_) fun cdv A outer s H vs Q E hr h => ?_
  · obtain ⟨A, S0, ws, w, S', _, _, r, e, _⟩ := h
    rw [r.len, (arity e).1, hnp]
  · obtain ⟨B, S0, ws, w, S', rfl, R, r, e, q⟩ := h
    obtain ⟨hl, e⟩ := arity e
    obtain ⟨o, e1, e2⟩ := Option.bind_eq_some_iff.mp e
    refine ⟨_, (hb cdv A outer s B.H E hr).p.nox, B, S0, _, o, rfl, R, ?_, e1, ret_nx R e2 q⟩
    have z := sr3_start r nl
    have ez : N.length - vs.length = nl := by rw [r.len, hl]; omega
    unfold L2.start
    rw [ez]; exact z
/-- the same, the store kept whole -/
theorem fn3KD {P : Program} {w : World} {mg : Str → Option Value} {base : Heap} {x qual : Str} {dvs : List V} {kws : List (Str × V)} {st : Stmt} {f : Addr} {fd : FuncData} {N ps : List Str} {k np nl : Nat} {body : FS} (F : FunD K x qual (defArgs st) (defBody st) (defScope st) dvs kws f fd) (S : FnScope N ps (defScope st)) (hnp : ps.length = np) (hnl : N.length = np + nl)
    (hb : ∀ (cdv : Value) (A : Around) (outer : List Env) (s : Shared) (H : Hp) (E : XK), Room k (A.deeper (envOfC qual (defScope st) s.heap.objs.size f cdv)) → PSs3 K (cxOf CX0 P w K mg base N qual (defScope st) f cdv A outer s H E).nox (defBody st) body) : FnOk P w K mg base CX0 (k + 1) f fd ps (sp3 K (fdefK np nl body)) := by
  have arity : ∀ {ws : List W3} {S0 : List MO} {r}, fdefK np nl body ws S0 = some r → ws.length = np ∧ (body (ws.map some ++ List.replicate nl none) S0).bind retK = some r := fun {ws S0 r} e => by
    unfold fdefK at e
    by_cases z : ws.length = np
    · rw [if_pos z] at e; exact ⟨z, e⟩
    · rw [if_neg z] at e; cases e
  refine F.ok S (fun vs H Q E h => ?_) fun cdv A outer s H vs Q E hr h => ?_
  · obtain ⟨A, S0, ws, w, S', _, _, r, e, _⟩ := h
    rw [r.len, (arity e).1, hnp]
  · obtain ⟨B, S0, ws, w, S', rfl, R, r, e, q⟩ := h
    obtain ⟨hl, e⟩ := arity e
    obtain ⟨o, e1, e2⟩ := Option.bind_eq_some_iff.mp e
    refine ⟨_, (hb cdv A outer s B.H E hr).p.nox, B, S0, _, o, rfl, R, ?_, e1, retK_nx e2 q⟩
    have z := sr3_start r nl
    have ez : N.length - vs.length = nl := by rw [r.len, hl]; omega
    unfold L2.start
    rw [ez]; exact z
end
theorem binds_all {K : PySem.W.Frag} {fd : FuncData} {ps : List Str} (h : ∃ ds, Vals [] ds ∧ Binds K fd ps ds) : Binds K fd ps [] := by
  obtain ⟨ds, h1, h2⟩ := h
  cases h1
  exact h2
/-! ### enumerate of a tuple; zip -/
end EA
namespace EA
open PySem PySem.Spec PyProof.Rows L2
/-! ### rules for S11 (sets of texts), S22 to S24 -/
section
variable {sl : Sl} {S : List MO} {Q : W3 → List MO → Prop} {QS : Out → Prop} {QN : List PyData → List MO → Prop}
theorem wp_rg {o : FE} {k : Str} (h : Wp2 (o sl S) fun p1 p2 => ∃ kvs w, rcdAt p2 p1 = some kvs ∧ kvs.lookup k = some w ∧ Q w p2) : Wp2 (eRG o k sl S) Q := wp_bind.mpr (Wp.imp h fun p ⟨kvs, w, e, e2, q⟩ => by
  rw [e]
  dsimp only [Option.bind_some]
  rw [e2]; exact wp_some.mpr q)
end
end EA
namespace EA
open PySem PySem.Spec PyProof.Rows L2
theorem eq_of {α β : Type} {x : Option (α × β)} {u : α} {v : β} (h : Wp2 x fun a b => a = u ∧ b = v) : x = some (u, v) := by
  obtain ⟨⟨a, b⟩, e, e1, e2⟩ := h
  dsimp only at e1 e2
  rw [e, e1, e2]
/-! ### more on known things -/
theorem anyEq_ints (x : Int) : ∀ xs : List Int, ((xs.map PyData.int).any fun y => PyData.eqv y (.int x)) = decide (x ∈ xs)
  | [] => by simp
  | y :: r => by
    rw [List.map_cons, List.any_cons, anyEq_ints x r]
    show ((y == x) || decide (x ∈ r)) = _
    by_cases e : y = x
    · subst e; simp
    · rw [show (y == x) = false from beq_eq_false_iff_ne.mpr e]
      have e2 : x ≠ y := fun z => e z.symm
      simp [e2]
theorem dep_int (i : Int) : (PyData.int i).depth ≤ 40 := by rw [PyData.depth]; decide
theorem dep_str (i : Str) : (PyData.str i).depth ≤ 40 := by rw [PyData.depth]; decide
theorem dep_bool (i : Bool) : (PyData.bool i).depth ≤ 40 := by rw [PyData.depth]; decide
section
variable {PB : Bool → Prop} {P : PyData → Prop} {S : List MO} {sl : Sl}
theorem wp_gin_it {x : Int} {xs : List Int} (h : PB (decide (x ∈ xs))) : Wp (gIn (.int x) (.tuple (xs.map .int))) PB := wp_eq (if_pos (.inr (dep_int x))) (by rw [anyEq_ints]; exact h)
theorem wp_geqs {i j : Str} (h : PB (i == j)) : Wp (gEq (.str i) (.str j)) PB := wp_geq (.inl (dep_str i)) h
theorem wp_gnes {i j : Str} (h : PB (!(i == j))) : Wp (gNe (.str i) (.str j)) PB := wp_gne (.inl (dep_str i)) h
theorem wp_geqb {i j : Bool} (h : PB (i == j)) : Wp (gEq (.bool i) (.bool j)) PB := wp_geq (.inl (dep_bool i)) h
theorem wp_gneb {i j : Bool} (h : PB (!(i == j))) : Wp (gNe (.bool i) (.bool j)) PB := wp_gne (.inl (dep_bool i)) h
theorem eqv_nil (xs : List PyData) : PyData.eqv (.list xs) (.list []) = xs.isEmpty := by
  cases xs with
  | nil => rfl
  | cons _ _ => rfl
theorem dep_nil : (PyData.list []).depth ≤ 40 := by decide
theorem wp_geq_nil {xs : List PyData} (h : PB xs.isEmpty) : Wp (gEq (.list xs) (.list [])) PB := wp_geq (.inr dep_nil) (by rw [eqv_nil]; exact h)
theorem wp_gne_nil {xs : List PyData} (h : PB (!xs.isEmpty)) : Wp (gNe (.list xs) (.list [])) PB := wp_gne (.inr dep_nil) (by rw [eqv_nil]; exact h)
theorem wp_anyb {f : List Bool → Bool} {ds : List PyData} {bs : List Bool} (e : ds = bs.map .bool) (h : P (.bool (f bs))) : Wp (g1 (anyD f) S [.d (.list ds)]) P := by
  refine wp_eq (a := .bool (f bs)) ?_ h
  show (boolsOf ds).map (fun bs => PyData.bool (f bs)) = _
  rw [e, boolsOf_map]; rfl
theorem wp_trul {xs : List PyData} (h : PB (!xs.isEmpty)) : Wp (truW S (.d (.list xs))) PB := wp_some.mpr h
theorem wp_trut {xs : List PyData} (h : PB (!xs.isEmpty)) : Wp (truW S (.d (.tuple xs))) PB := wp_some.mpr h
theorem wp_trur {i : Nat} {xs : List PyData} (e : S[i]? = some (.lst xs)) (h : PB (!xs.isEmpty)) : Wp (truW S (.r i)) PB := by
  refine wp_eq (a := !xs.isEmpty) ?_ h
  unfold truW
  dsimp only
  rw [e]
theorem wp_trui {i : Int} (h : PB (i != 0)) : Wp (truW S (.d (.int i))) PB := wp_some.mpr h
/-- a slice from k on, one up to k -/
theorem cutD_from {α : Type} (xs : List α) (k : Nat) : cutD xs (some (k : Int)) none = xs.drop k := by
  unfold cutD
  rw [HT.sIx_nat, HT.sIx_none]
  by_cases h : k ≤ xs.length
  · rw [Nat.min_eq_left h]
    exact List.take_of_length_le (by rw [List.length_drop]; exact Nat.le_refl _)
  · rw [Nat.min_eq_right (by omega), List.drop_length, List.drop_eq_nil_of_le (by omega), List.take_nil]
theorem wp_cutl {l h : Option Int} {xs : List PyData} (q : P (.list (cutD xs l h))) : Wp (gCut l h (.list xs)) P := wp_some.mpr q
theorem wp_cutt {l h : Option Int} {xs : List PyData} (q : P (.tuple (cutD xs l h))) : Wp (gCut l h (.tuple xs)) P := wp_some.mpr q
instance st_wp_trul {xs : List PyData} : Step (Wp (truW S (.d (.list xs))) PB) (PB (!xs.isEmpty)) := ⟨wp_trul⟩
instance st_wp_trut {xs : List PyData} : Step (Wp (truW S (.d (.tuple xs))) PB) (PB (!xs.isEmpty)) := ⟨wp_trut⟩
instance st_wp_trui {i : Int} : Step (Wp (truW S (.d (.int i))) PB) (PB (i != 0)) := ⟨wp_trui⟩
instance st_wp_cutl {l h : Option Int} {xs : List PyData} : Step (Wp (gCut l h (.list xs)) P) (P (.list (cutD xs l h))) := ⟨wp_cutl⟩
instance st_wp_cutt {l h : Option Int} {xs : List PyData} : Step (Wp (gCut l h (.tuple xs)) P) (P (.tuple (cutD xs l h))) := ⟨wp_cutt⟩
end
/-- a comprehension without a test that leaves the store as it is -/
theorem wp_all {ok : List MO → Bool} {g : FG} {e : FE} {sl : Sl} {S : List MO} {QN : List PyData → List MO → Prop} {ws : List W3} {α : Type} (xs : List α) (w : α → W3) (v : α → PyData) (hws : ws = xs.map w) (hok : ok S = true)
    (hs : ∀ x ∈ xs, Wp2 (g (w x) sl S) fun p1 p2 => Wp2 (e p1 p2) fun y1 y2 => y1 = .d (v x) ∧ y2 = S) (h : QN (xs.map v) S) (hg : ∀ w sl' S', g w sl S = some (sl', S') → S' = S) : Wp2 (cLoop ok g tYes3 e sl ws S) QN :=
  wp_pure xs w (fun _ => true) v hws hok (fun x hx => by
    obtain ⟨⟨a, b⟩, e1, h1⟩ := hs x hx
    have := hg _ _ _ e1
    subst this
    exact ⟨(a, b), e1, wp2_some ⟨rfl, rfl, fun _ => h1⟩⟩) (by rw [List.filter_eq_self.mpr fun _ _ => rfl]; exact h)
theorem gnm_st {i : Nat} {sl : Sl} {S : List MO} : ∀ w sl' S', gNm i w sl S = some (sl', S') → S' = S := fun _ _ _ e => by cases e; rfl
theorem intsW_of {α : Type} {L : List α} {n : Nat} (h : L.length = n) : intsW 0 ((L.length : Nat) : Int).toNat = (List.range n).map fun j => W3.d (.int (j : Nat)) := by
  unfold intsW
  rw [Int.toNat_natCast, h]
  exact List.map_congr_left fun k _ => by rw [Int.zero_add]
theorem atI_at {α : Type} {xs : List α} {j : Nat} {x : α} (h : xs[j]? = some x) : atI xs (j : Int) = some x := atI_nat' (by omega) (by rw [Int.toNat_natCast]; exact h)
end EA
namespace EA
open PySem PySem.Spec PyProof.Rows L2
/-! ### part settings -/
abbrev Pt : Type := List (Str × Bool)
/-- a setting keeps a part -/
def Kp (f : Str → Bool) (l : Pt) : Prop := ∀ r ∈ l, f r.1 = r.2
def drp (l : Pt) (s : Str) : Pt := l.filter fun r => decide (r.1 ≠ s)
/-- the condition always holds under the part -/
def Alw (c : C) (l : Pt) : Prop := ∀ f, Kp f l → c.ev f = true
def Lst (c : C) (l : Pt) : Prop := Alw c l ∧ ∀ s ∈ l.map (·.1), ¬ Alw c (drp l s)
def Sub (ns : List Str) (l : Pt) : Prop := (l.map (·.1)).Sublist ns
theorem kp_cons {f : Str → Bool} {s : Str} {b : Bool} {l : Pt} : Kp f ((s, b) :: l) ↔ f s = b ∧ Kp f l := by
  unfold Kp
  rw [List.forall_mem_cons]
theorem kp_fset {f : Str → Bool} {s : Str} {o : Bool} {l : Pt} (h : s ∉ l.map (·.1)) : Kp (fset f s o) l ↔ Kp f l := by
  have e : ∀ r ∈ l, fset f s o r.1 = f r.1 := fun r hr => by
    show (if r.1 = s then o else f r.1) = f r.1
    rw [if_neg fun e => h (List.mem_map.mpr ⟨r, hr, e⟩)]
  exact ⟨fun k r hr => (e r hr).symm.trans (k r hr), fun k r hr => (e r hr).trans (k r hr)⟩
theorem fset_at (f : Str → Bool) (s : Str) (o : Bool) : fset f s o s = o := if_pos rfl
/-- under a head -/
theorem alw_cons {ys : List Str} {s : Str} {x y : C} {b : Bool} {l : Pt} (hx : OC ys x) (hy : OC ys y) (ns : s ∉ ys) (nl : s ∉ l.map (·.1)) : Alw (.nd s x y) ((s, b) :: l) ↔ Alw (if b then x else y) l := by
  have hz : OC ys (if b then x else y) := by cases b; exact hy; exact hx
  refine ⟨fun h f k => ?_, fun h f k => ?_⟩
  · have t := h (fset f s b) (kp_cons.mpr ⟨fset_at f s b, (kp_fset nl).mpr k⟩)
    rw [← hz.ev_fset (f := f) (o := b) ns]
    have t : (if fset f s b s then x.ev (fset f s b) else y.ev (fset f s b)) = true := t
    rw [fset_at] at t
    cases b <;> exact t
  · obtain ⟨k1, k2⟩ := kp_cons.mp k
    show (if f s then x.ev f else y.ev f) = true
    have t := h f k2
    rw [k1]
    cases b <;> exact t
theorem alw_both {ys : List Str} {s : Str} {x y : C} {l : Pt} (hx : OC ys x) (hy : OC ys y) (ns : s ∉ ys) (nl : s ∉ l.map (·.1)) : Alw (.nd s x y) l ↔ Alw x l ∧ Alw y l := by
  have one : ∀ (b : Bool), Alw (.nd s x y) l → Alw (if b then x else y) l := fun b h => (alw_cons hx hy ns nl).mp fun f k => h f (kp_cons.mp k).2
  refine ⟨fun h => ⟨one true h, one false h⟩, fun ⟨h1, h2⟩ f k => ?_⟩
  show (if f s then x.ev f else y.ev f) = true
  cases f s
  · exact h2 f k
  · exact h1 f k
theorem drp_names {l : Pt} {s t : Str} (h : t ∉ l.map (·.1)) : t ∉ (drp l s).map (·.1) := fun m => by
  obtain ⟨r, hr, e⟩ := List.mem_map.mp m
  exact h (List.mem_map.mpr ⟨r, (List.mem_filter.mp hr).1, e⟩)
theorem drp_cons_ne {l : Pt} {s t : Str} {b : Bool} (h : t ≠ s) : drp ((t, b) :: l) s = (t, b) :: drp l s := List.filter_cons_of_pos (by simpa using h)
theorem drp_no {l : Pt} {s : Str} (h : s ∉ l.map (·.1)) : drp l s = l := List.filter_eq_self.mpr fun r hr => by
  have : r.1 ≠ s := fun e => h (List.mem_map.mpr ⟨r, hr, e⟩)
  simpa using this
theorem drp_head {l : Pt} {s : Str} {b : Bool} (h : s ∉ l.map (·.1)) : drp ((s, b) :: l) s = l := by
  have e : drp ((s, b) :: l) s = drp l s := List.filter_cons_of_neg (by simp)
  rw [e, drp_no h]
theorem lst_both {ys : List Str} {s : Str} {x y d : C} {l : Pt} (hx : OC ys x) (hy : OC ys y) (ns : s ∉ ys) (nl : s ∉ l.map (·.1)) (hd : ∀ f, d.ev f = (x.ev f && y.ev f)) : Lst (.nd s x y) l ↔ Lst d l := by
  have a : ∀ m : Pt, s ∉ m.map (·.1) → (Alw (.nd s x y) m ↔ Alw d m) := fun m hm => by
    rw [alw_both hx hy ns hm]
    refine ⟨fun ⟨h1, h2⟩ f k => by rw [hd, h1 f k, h2 f k]; rfl, fun h => ⟨fun f k => ?_, fun f k => ?_⟩⟩
    · have t := h f k
      rw [hd, Bool.and_eq_true] at t
      exact t.1
    · have t := h f k
      rw [hd, Bool.and_eq_true] at t
      exact t.2
  unfold Lst
  rw [a l nl]
  refine and_congr Iff.rfl ⟨fun h t ht k => h t ht ((a _ (drp_names nl)).mpr k), fun h t ht k => h t ht ((a _ (drp_names nl)).mp k)⟩
theorem lst_cons {ys : List Str} {s : Str} {x y : C} {b : Bool} {l : Pt} (hx : OC ys x) (hy : OC ys y) (ns : s ∉ ys) (nl : s ∉ l.map (·.1)) :
    Lst (.nd s x y) ((s, b) :: l) ↔ Lst (if b then x else y) l ∧ ¬ Alw (if b then y else x) l := by
  unfold Lst
  rw [alw_cons hx hy ns nl, List.map_cons, List.forall_mem_cons, drp_head nl, alw_both hx hy ns nl]
  constructor
  · rintro ⟨h1, h2, h3⟩
    refine ⟨⟨h1, fun t ht k => h3 t ht ?_⟩, fun k => h2 ?_⟩
    · rw [drp_cons_ne fun e => nl (by rw [e]; exact ht)]
      exact (alw_cons hx hy ns (drp_names nl)).mpr k
    · cases b
      · exact ⟨k, h1⟩
      · exact ⟨h1, k⟩
  · rintro ⟨⟨h1, h3⟩, h2⟩
    refine ⟨h1, fun k => h2 ?_, fun t ht k => h3 t ht ?_⟩
    · cases b
      · exact k.1
      · exact k.2
    · rw [drp_cons_ne fun e => nl (by rw [e]; exact ht)] at k
      exact (alw_cons hx hy ns (drp_names nl)).mp k
/-- the causes, all of them, once -/
structure CL (ns : List Str) (c : C) (ls : List Pt) : Prop where
  nd : ls.Nodup
  mem : ∀ l, l ∈ ls ↔ Sub ns l ∧ Lst c l
  few : ls.length ≤ 3 ^ ns.length
theorem sub_cons {n : Str} {ns : List Str} {l : Pt} : Sub (n :: ns) l ↔ Sub ns l ∨ ∃ b m, l = (n, b) :: m ∧ Sub ns m := by
  unfold Sub
  constructor
  · intro h
    match l, h with
    | [], _ => exact .inl (List.nil_sublist _)
    | (s, b) :: m, h =>
      rw [List.map_cons] at h ⊢
      cases h with
      | cons _ h => exact .inl h
      | cons_cons _ h => exact .inr ⟨b, m, rfl, h⟩
  · rintro (h | ⟨b, m, rfl, h⟩)
    · exact h.cons _
    · exact h.cons_cons _
theorem Sub.names {ns : List Str} {l : Pt} (h : Sub ns l) {s : Str} (n : s ∉ ns) : s ∉ l.map (·.1) := fun m => n (h.subset m)
theorem CL.up {n : Str} {ns : List Str} {c : C} {ls : List Pt} (h : CL ns c ls) (hc : OC ns c) (nn : n ∉ ns) : CL (n :: ns) c ls := by
  refine ⟨h.nd, fun l => ?_, Nat.le_trans h.few (Nat.pow_le_pow_right (by decide) (by simp))⟩
  rw [h.mem, sub_cons]
  refine ⟨fun ⟨a, b⟩ => ⟨.inl a, b⟩, ?_⟩
  rintro ⟨a | ⟨b, m, rfl, hm⟩, L⟩
  · exact ⟨a, L⟩
  · refine absurd (fun f k => ?_) (L.2 n (by simp))
    have nm := hm.names nn
    rw [drp_head nm] at k
    have t := L.1 (fset f n b) (kp_cons.mpr ⟨fset_at f n b, (kp_fset nm).mpr k⟩)
    rw [hc.ev_fset nn] at t
    exact t
theorem Sub.nd {ns : List Str} {l : Pt} (h : Sub ns l) (nd : ns.Nodup) : (l.map (·.1)).Nodup := List.Nodup.sublist h nd
theorem nodup_map_cons {α : Type} (a : α) : ∀ {l : List (List α)}, l.Nodup → (l.map (a :: ·)).Nodup := fun h => List.pairwise_map.mpr (h.imp fun n e => n (List.cons.inj e).2)
theorem CL.step {s : Str} {ys : List Str} {x y d : C} {l0 l1 l2 : List Pt} {p1 p2 : Pt → Bool} (nd : (s :: ys).Nodup) (hx : OC ys x) (hy : OC ys y) (hd : ∀ f, d.ev f = (x.ev f && y.ev f)) (h0 : CL ys d l0) (h1 : CL ys y l1) (h2 : CL ys x l2)
    (e1 : ∀ l ∈ l1, (p1 l = true ↔ ¬ Alw x l)) (e2 : ∀ l ∈ l2, (p2 l = true ↔ ¬ Alw y l)) : CL (s :: ys) (.nd s x y) (l0 ++ (l1.filter p1).map ((s, false) :: ·) ++ (l2.filter p2).map ((s, true) :: ·)) := by
  obtain ⟨ns, ndy⟩ := List.nodup_cons.mp nd
  refine ⟨?_, fun l => ?_, ?_⟩
  · rw [List.nodup_append, List.nodup_append]
    refine ⟨⟨h0.nd, nodup_map_cons _ (h1.nd.sublist List.filter_sublist), fun a ha b hb e => ?_⟩, nodup_map_cons _ (h2.nd.sublist List.filter_sublist), fun a ha b hb e => ?_⟩
    · obtain ⟨m, hm, rfl⟩ := List.mem_map.mp hb
      subst e
      exact ((h0.mem _).mp ha).1.names ns (by simp)
    · obtain ⟨m, hm, rfl⟩ := List.mem_map.mp hb
      subst e
      rcases List.mem_append.mp ha with ha | ha
      · exact ((h0.mem _).mp ha).1.names ns (by simp)
      · obtain ⟨m', _, e⟩ := List.mem_map.mp ha
        have := (List.cons.inj e).1
        exact absurd (congrArg (·.2) this) (by simp)
  · rw [List.mem_append, List.mem_append, sub_cons]
    constructor
    · rintro ((h | h) | h)
      · obtain ⟨a, b⟩ := (h0.mem _).mp h
        exact ⟨.inl a, (lst_both hx hy ns (a.names ns) hd).mpr b⟩
      · obtain ⟨m, hm, rfl⟩ := List.mem_map.mp h
        obtain ⟨hm, pm⟩ := List.mem_filter.mp hm
        obtain ⟨a, b⟩ := (h1.mem _).mp hm
        exact ⟨.inr ⟨_, _, rfl, a⟩, (lst_cons (b := false) hx hy ns (a.names ns)).mpr ⟨b, (e1 _ hm).mp pm⟩⟩
      · obtain ⟨m, hm, rfl⟩ := List.mem_map.mp h
        obtain ⟨hm, pm⟩ := List.mem_filter.mp hm
        obtain ⟨a, b⟩ := (h2.mem _).mp hm
        exact ⟨.inr ⟨_, _, rfl, a⟩, (lst_cons (b := true) hx hy ns (a.names ns)).mpr ⟨b, (e2 _ hm).mp pm⟩⟩
    · rintro ⟨a | ⟨b, m, rfl, a⟩, L⟩
      · exact .inl (.inl ((h0.mem _).mpr ⟨a, (lst_both hx hy ns (a.names ns) hd).mp L⟩))
      · obtain ⟨L1, L2⟩ := (lst_cons hx hy ns (a.names ns)).mp L
        cases b with
        | false =>
          have hm := (h1.mem m).mpr ⟨a, L1⟩
          exact .inl (.inr (List.mem_map.mpr ⟨m, List.mem_filter.mpr ⟨hm, (e1 m hm).mpr L2⟩, rfl⟩))
        | true =>
          have hm := (h2.mem m).mpr ⟨a, L1⟩
          exact .inr (List.mem_map.mpr ⟨m, List.mem_filter.mpr ⟨hm, (e2 m hm).mpr L2⟩, rfl⟩)
  · have f0 := h0.few
    have f1 := h1.few
    have f2 := h2.few
    have g1 := List.length_filter_le p1 l1
    have g2 := List.length_filter_le p2 l2
    rw [List.length_append, List.length_append, List.length_map, List.length_map, List.length_cons, Nat.pow_succ]
    omega
/-! ### parts by their rows -/
def prs : List Str → List Nat → Pt
  | n :: ns, x :: p => if x = 2 then prs ns p else (n, x == 1) :: prs ns p
  | _, _ => []
def ins : List Nat → List Bool
  | [] => [true]
  | x :: p => (ins p).map (fun t => t && decide (x ≠ 1)) ++ (ins p).map (fun t => t && decide (x ≠ 0))
/-! ### as data -/
end EA
namespace EA
open PySem PySem.Spec PyProof.Rows L2
/-- the turns of the causes -/
def PL (ys : List Str) (s : Str) (x y : C) : Nat → List Pt → Prop
  | 0, ls => ∃ d, (∀ f, d.ev f = (x.ev f && y.ev f)) ∧ CL ys d ls
  | i + 1, ls => ∃ l0 lm pm, PL ys s x y i l0 ∧ CL ys (if i = 1 then x else y) lm ∧ (∀ l ∈ lm, (pm l = true ↔ ¬ Alw (if i = 1 then y else x) l)) ∧ ls = l0 ++ (lm.filter pm).map ((s, decide (i = 1)) :: ·)
/-! ### the sorted causes -/
end EA
namespace EA
open PySem PySem.Spec PyProof.Rows L2
/-! ### while; the lesser of two texts -/
def wNext (t : FT) (b : FS) (n : Nat) : Out → Option Out
  | .nx a c => wRun t b n a c
  | .ct a c => wRun t b n a c
  | .bk a c => some (.nx a c)
  | .rt w c => some (.rt w c)
theorem wRun_step {t : FT} {b : FS} {n : Nat} {sl : Sl} {S S1 : List MO} {o : Out} (e1 : t sl S = some (true, S1)) (e2 : b sl S1 = some o) : wRun t b (n + 1) sl S = wNext t b n o := by
  rw [wRun, e1]
  simp only [Option.bind_some, if_true]
  rw [e2]
  cases o <;> rfl
end EA
namespace EA
open PySem PySem.Spec PyProof.Rows L2
/-! ### rules for S25 to S27, and more -/
section
variable {sl : Sl} {S : List MO} {Q : W3 → List MO → Prop} {QS : Out → Prop} {QN : List PyData → List MO → Prop} {QT : Bool → List MO → Prop} {QI : It3 → List MO → Prop}
theorem wp_ndn (h : Q (.r S.length) (S ++ [.ndc []])) : Wp2 (eNDN sl S) Q := wp_some.mpr h
theorem wp_tisn {neg : Bool} {f : FE} (h : Wp2 (f sl S) fun p1 p2 => QT (neg != isNoneW p1) p2) : Wp2 (tIsN neg f sl S) QT := wp_map.mpr h
theorem wp_callD {f : F3} {a : FA} {ds : List PyData} (h : Wp2 (a sl S) fun p1 p2 => Wp2 (f (p1 ++ ds.map .d) p2) Q) : Wp2 (eCallD f a ds sl S) Q := wp_bind.mpr h
def retKQ (Q : W3 → List MO → Prop) : Out → Prop := fun o => Wp2 (retK o) Q
theorem wp_fdefK {np nl : Nat} {body : FS} {ws : List W3} (hl : ws.length = np) (h : Wp (body (ws.map some ++ List.replicate nl none) S) (retKQ Q)) : Wp2 (fdefK np nl body ws S) Q := by
  unfold fdefK
  rw [if_pos hl]
  exact wp_bind.mpr h
theorem rk_nx (q : Q (.d .none) S) : retKQ Q (.nx sl S) := wp_some.mpr q
theorem rk_rt {w : W3} (q : Q w S) : retKQ Q (.rt w S) := wp_some.mpr q
instance st_ndn : Step (Wp2 (eNDN sl S) Q) (Q (.r S.length) (S ++ [.ndc []])) := ⟨wp_ndn⟩
instance st_tisn {neg : Bool} {f : FE} : Step (Wp2 (tIsN neg f sl S) QT) (Wp2 (f sl S) fun p1 p2 => QT (neg != isNoneW p1) p2) := ⟨wp_tisn⟩
instance st_callD {f : F3} {a : FA} {ds : List PyData} : Step (Wp2 (eCallD f a ds sl S) Q) (Wp2 (a sl S) fun p1 p2 => Wp2 (f (p1 ++ ds.map .d) p2) Q) := ⟨wp_callD⟩
instance st_rknx : Step (retKQ Q (.nx sl S)) (Q (.d .none) S) := ⟨rk_nx⟩
instance st_rkrt {w : W3} : Step (retKQ Q (.rt w S)) (Q w S) := ⟨rk_rt⟩
end
/-! ### dicts -/
/-! ### each once, as first seen -/
end EA
namespace EA
open PySem PySem.Spec PyProof.Rows L2
/-! ### small rules -/
theorem wp_geqD {a b : PyData} {c : Bool} {PB : Bool → Prop} (d : a.depth ≤ 40 ∨ b.depth ≤ 40) (e : PyData.eqv a b = c) (h : PB c) : Wp (gEq a b) PB := wp_geq d (by rw [e]; exact h)
theorem wp_geqsD {i j : Str} {c : Bool} {PB : Bool → Prop} (e : (i == j) = c) (h : PB c) : Wp (gEq (.str i) (.str j)) PB := wp_geqs (by rw [e]; exact h)
theorem wp_gnesD {i j : Str} {c : Bool} {PB : Bool → Prop} (e : (i == j) = c) (h : PB (!c)) : Wp (gNe (.str i) (.str j)) PB := wp_gnes (by rw [e]; exact h)
theorem wp_gin_lit {x : Str} {ds : List PyData} {c : Bool} {PB : Bool → Prop} (e : (ds.any fun y => PyData.eqv y (.str x)) = c) (h : PB c) : Wp (gIn (.str x) (.tuple ds)) PB := wp_eq (if_pos (.inr (dep_str x))) (by rw [e]; exact h)
theorem ite_t {c : Bool} {P Q : Prop} (e : c = true) (h : P) : if c = true then P else Q := by rw [if_pos e]; exact h
theorem ite_f {c : Bool} {P Q : Prop} (e : c = false) (h : Q) : if c = true then P else Q := by rw [if_neg (by rw [e]; decide)]; exact h
/-- a statement, then what it comes to, then the rest -/
def thenJ (J : Sl → List MO → Prop) (Q : Out → Prop) : Out → Prop
  | .nx sl S => J sl S
  | o => Q o
theorem tj_nx {J : Sl → List MO → Prop} {Q : Out → Prop} {sl : Sl} {S : List MO} (h : J sl S) : thenJ J Q (.nx sl S) := h
theorem tj_rt {J : Sl → List MO → Prop} {Q : Out → Prop} {w : W3} {S : List MO} (h : Q (.rt w S)) : thenJ J Q (.rt w S) := h
theorem tj_bk {J : Sl → List MO → Prop} {Q : Out → Prop} {sl : Sl} {S : List MO} (h : Q (.bk sl S)) : thenJ J Q (.bk sl S) := h
theorem tj_ct {J : Sl → List MO → Prop} {Q : Out → Prop} {sl : Sl} {S : List MO} (h : Q (.ct sl S)) : thenJ J Q (.ct sl S) := h
instance st_tj_nx {J : Sl → List MO → Prop} {Q : Out → Prop} {sl : Sl} {S : List MO} : Step (thenJ J Q (.nx sl S)) (J sl S) := ⟨tj_nx⟩
instance st_tj_rt {J : Sl → List MO → Prop} {Q : Out → Prop} {w : W3} {S : List MO} : Step (thenJ J Q (.rt w S)) (Q (.rt w S)) := ⟨tj_rt⟩
instance st_tj_bk {J : Sl → List MO → Prop} {Q : Out → Prop} {sl : Sl} {S : List MO} : Step (thenJ J Q (.bk sl S)) (Q (.bk sl S)) := ⟨tj_bk⟩
instance st_tj_ct {J : Sl → List MO → Prop} {Q : Out → Prop} {sl : Sl} {S : List MO} : Step (thenJ J Q (.ct sl S)) (Q (.ct sl S)) := ⟨tj_ct⟩
theorem wp_seqJ {f g : FS} {Q : Out → Prop} {sl : Sl} {S : List MO} (J : Sl → List MO → Prop) (h1 : Wp (f sl S) (thenJ J Q)) (h2 : ∀ sl S, J sl S → Wp (g sl S) Q) : Wp (sSeq f g sl S) Q := wp_seq (h1.imp fun o h => by
  cases o with
  | nx sl S => exact h2 sl S h
  | rt w S => exact h
  | bk sl S => exact h
  | ct sl S => exact h)
end EA
namespace EA
open PySem PySem.Spec PyProof.Rows L2
local macro_rules | `(tactic| walk_at "ix") => `(tactic| first | rfl | exact atI_cons0 | exact atI_map0)
local macro_rules | `(tactic| walk_at "st") => `(tactic| first | assumption | rfl | exact get_set (by assumption) | exact get_set (get_set (by assumption)) | exact get_last | exact get_setlast | exact get_setapp (by assumption) | exact get_app (by assumption) | exact get_app (get_set (by assumption)))
local macro_rules | `(tactic| walk_at "tk") => `(tactic| first | exact List.take_length | exact take_set | exact take_set2 | exact take_set3 | exact take_app | exact take_aset | exact take_setapp | rfl)
local macro_rules | `(tactic| walk_at "sd") => `(tactic| first | omega | assumption | decide)
local macro_rules | `(tactic| walk_at "wpx") => `(tactic| first
  | with_reducible refine ite2 (fun _ => ?_) (fun z => absurd rfl z)
  | with_reducible refine ite2 (fun z => absurd z Bool.false_ne_true) (fun _ => ?_)
  | ((with_reducible refine gate_wp ?_); (first
    | ((with_reducible apply wp_viewr); (walk_at "st")) | ((with_reducible apply wp_lat); (walk_at "st"))
    | ((with_reducible refine gate_eq ?_); (first | with_reducible refine wp_geqs ?_ | with_reducible refine wp_geqb ?_ | with_reducible refine wp_geq_nil ?_))
    | ((with_reducible refine gate_ne ?_); (first | with_reducible refine wp_gnes ?_ | with_reducible refine wp_gneb ?_ | with_reducible refine wp_gne_nil ?_))
    | ((with_reducible refine gate_ix ?_); (first | ((with_reducible apply wp_ixd); (walk_at "ix")) | ((with_reducible apply wp_ixt); (walk_at "ix")) | ((with_reducible apply wp_ixr); (walk_at "st"); (walk_at "ix"))))
    | ((with_reducible apply wp_trur); (walk_at "st"))
    | ((with_reducible refine wp_l4s ?_ ?_); (first | omega | assumption | decide +kernel)) | with_reducible refine wp_l4 ?_ | ((with_reducible apply wp_l3r); (walk_at "st"))
    | ((with_reducible refine wp_mod ?_ ?_); (walk_at "sd")) | ((with_reducible refine wp_fdiv ?_ ?_); (walk_at "sd")) | ((with_reducible refine wp_mulr ?_ ?_); (walk_at "sd")) | ((with_reducible refine wp_mull ?_ ?_); (walk_at "sd")) | ((with_reducible refine wp_pow ?_ ?_); (walk_at "sd"))
    | ((with_reducible apply wp_lenr); (walk_at "st"))
    | ((with_reducible refine wp_gis ?_ ?_); rfl) | ((with_reducible refine wp_gisn ?_ ?_); rfl)
    | ((with_reducible refine gate_isi ?_); (first | ((with_reducible refine isi_t (r := true) ?_ ?_); (decide +kernel)) | ((with_reducible refine isi_t (r := false) ?_ ?_); (decide +kernel)) | ((with_reducible refine isi_b (r := true) ?_ ?_); (decide +kernel)) | ((with_reducible refine isi_b (r := false) ?_ ?_); (decide +kernel)) | ((with_reducible refine isi_i (r := true) ?_ ?_); (decide +kernel)) | ((with_reducible refine isi_i (r := false) ?_ ?_); (decide +kernel)) | ((with_reducible refine isi_s (r := true) ?_ ?_); (decide +kernel)) | ((with_reducible refine isi_s (r := false) ?_ ?_); (decide +kernel)) | ((with_reducible refine isi_l (r := true) ?_ ?_); (decide +kernel)) | ((with_reducible refine isi_l (r := false) ?_ ?_); (decide +kernel)) | ((with_reducible refine isi_n (r := true) ?_ ?_); (decide +kernel)) | ((with_reducible refine isi_n (r := false) ?_ ?_); (decide +kernel))))
    | ((with_reducible apply wp_tupr); (walk_at "st"))))
  | ((with_reducible refine gate_rq ?_); (first | ((with_reducible apply rq_dt); (walk_at "tk")) | ((with_reducible apply rq_nxt); (walk_at "tk"))))
  | ((with_reducible apply fz_r); (walk_at "st")) | ((with_reducible apply sq_r); (walk_at "st"))
  | ((with_reducible apply atSet_i); (walk_at "st"); rfl) | ((with_reducible apply atLst_i); (walk_at "st")) | ((with_reducible apply nowLst_i); (walk_at "st"))
  | ((with_reducible refine rng1_i ?_ ?_); (walk_at "sd")) | ((with_reducible refine rng2_i ?_ ?_); (walk_at "sd")))
local macro_rules | `(tactic| walk_at "wp") => `(tactic| first
  | with_reducible refine step_of ?_ | ((with_reducible apply wp_var); rfl) | walk_at "wpx")
local macro_rules | `(tactic| walk_at "fdef") => `(tactic| (refine wp_fdef rfl ?_; simp only [List.map_cons, List.map_nil, List.replicate_succ, List.replicate_zero, List.cons_append, List.nil_append]))
local macro_rules | `(tactic| walk_at "keq") => `(tactic| first
  | refine wp_geqD (c := false) (.inr (by decide +kernel)) rfl ?_ | refine wp_geqD (c := true) (.inr (by decide +kernel)) rfl ?_)
local macro_rules | `(tactic| walk_at "wk") => `(tactic| first
  | with_reducible refine step_of ?_ | ((with_reducible apply wp_var); rfl)
  | ((with_reducible refine gate_wp ?_); (first
    | with_reducible refine wp_geqsD (c := false) (by decide +kernel) ?_ | with_reducible refine wp_geqsD (c := true) (by decide +kernel) ?_
    | with_reducible refine wp_gnesD (c := false) (by decide +kernel) ?_ | with_reducible refine wp_gnesD (c := true) (by decide +kernel) ?_
    | with_reducible refine wp_gin_lit (c := true) (by decide +kernel) ?_ | with_reducible refine wp_gin_lit (c := false) (by decide +kernel) ?_))
  | with_reducible refine ite_t rfl ?_ | with_reducible refine ite_f rfl ?_
  | walk_at "wpx")
local macro_rules | `(tactic| walk_at "w1") => `(tactic| (fail_if_success (with_reducible refine th_nx ?_)); walk_at "wk")
/-! ### terms -/
inductive Hd where
  | atom (w : Str) (r : List PyData)
  | arrow
  | cell
  | tuple
  | row (w : Str) (ls : List Str) (tl : Option Int)
  | data (d : Str)
inductive Tm where
  | letter (k : Int)
  | node (hd : Hd) (ps : List Tm)
def optI : Option Int → PyData
  | some r => .int r
  | none => .none
def fieldsD (ls : List Str) (ps : List PyData) : List PyData := (ls.zip ps).map fun q => .tuple [.str q.1, q.2]
def Hd.word : Hd → Str
  | .atom w _ => w
  | .arrow => "arrow"
  | .cell => "cell"
  | .tuple => "tuple"
  | .row w _ _ => w
  | .data _ => "data"
def Hd.rest : Hd → List PyData → List PyData
  | .atom _ r, _ => r
  | .arrow, ps => ps
  | .cell, ps => ps
  | .tuple, ps => [.tuple ps]
  | .row _ ls t, ps => [.tuple (fieldsD ls ps), optI t]
  | .data d, ps => [.str d, .tuple ps]
def Hd.build (hd : Hd) (ps : List PyData) : PyData := .tuple (.str hd.word :: hd.rest ps)
/-- n parts; b: a row may stand here -/
def Hd.fits (b : Bool) : Hd → Nat → Prop
  | .atom w r, n => (w = "int" ∨ w = "bool" ∨ w = "hidden" ∨ w = "stone") ∧ n = 0 ∧ ∃ ss : List Str, ss.length ≤ 2 ∧ r = ss.map .str
  | .arrow, n => n = 2
  | .cell, n => n = 1
  | .tuple, n => n ≤ 5
  | .row w ls _, n => (w = "record" ∨ w = "variant" ∨ (b = true ∧ w = "row")) ∧ ls.length = n ∧ n ≤ 5
  | .data _, n => n ≤ 5
def Hd.tail : Hd → Option Int
  | .row _ _ t => t
  | _ => none
def Hd.setTail (t : Option Int) : Hd → Hd
  | .row w ls _ => .row w ls t
  | h => h
def Hd.labels : Hd → List Str
  | .row _ ls _ => ls
  | _ => []
mutual
def Tm.enc : Tm → PyData
  | .letter k => .tuple [.str "letter", .int k]
  | .node hd ps => hd.build (encM ps)
def encM : List Tm → List PyData
  | [] => []
  | p :: ps => p.enc :: encM ps
end
/-- h: as many levels; PL, PR: of the letters, the row letters -/
inductive TOk (PL PR : Int → Prop) : Bool → Nat → Tm → Prop
  | letter {b : Bool} {h : Nat} {k : Int} : PL k → TOk PL PR b h (.letter k)
  | leaf {b : Bool} {h : Nat} {hd : Hd} : hd.fits b 0 → hd.tail = none → TOk PL PR b h (.node hd [])
  | node {b : Bool} {h : Nat} {hd : Hd} {ps : List Tm} : hd.fits b ps.length → (∀ r, hd.tail = some r → PR r) → (∀ p ∈ ps, TOk PL PR false h p) → TOk PL PR b (h + 1) (.node hd ps)
theorem TOk.mono {PL PR : Int → Prop} {b : Bool} {h : Nat} {t : Tm} (o : TOk PL PR b h t) : ∀ {k : Nat}, h ≤ k → TOk PL PR b k t := by
  induction o with
  | letter a => intro k _; exact .letter a
  | leaf a c => intro k _; exact .leaf a c
  | node a c d ih => intro k hk; obtain ⟨k, rfl⟩ : ∃ x, k = x + 1 := ⟨k - 1, by omega⟩; exact .node a c fun p hp => ih p hp (by omega)
theorem TOk.imp {PL PR PL' PR' : Int → Prop} {b : Bool} {h : Nat} {t : Tm} (o : TOk PL PR b h t) (i : ∀ k, PL k → PL' k) (j : ∀ k, PR k → PR' k) : TOk PL' PR' b h t := by
  induction o with
  | letter a => exact .letter (i _ a)
  | leaf a c => exact .leaf a c
  | node a c d ih => exact .node a (fun r e => j r (c r e)) ih
end EA
namespace EA
open PySem PySem.Spec PyProof.Rows L2
local macro_rules | `(tactic| walk_at "ix") => `(tactic| first | rfl | exact atI_cons0 | exact atI_map0)
local macro_rules | `(tactic| walk_at "st") => `(tactic| first | assumption | rfl | exact get_set (by assumption) | exact get_set (get_set (by assumption)) | exact get_last | exact get_setlast | exact get_setapp (by assumption) | exact get_app (by assumption) | exact get_app (get_set (by assumption)))
local macro_rules | `(tactic| walk_at "tk") => `(tactic| first | exact List.take_length | exact take_set | exact take_set2 | exact take_set3 | exact take_app | exact take_aset | exact take_setapp | rfl)
local macro_rules | `(tactic| walk_at "sd") => `(tactic| first | omega | assumption | decide)
local macro_rules | `(tactic| walk_at "wpx") => `(tactic| first
  | with_reducible refine ite2 (fun _ => ?_) (fun z => absurd rfl z)
  | with_reducible refine ite2 (fun z => absurd z Bool.false_ne_true) (fun _ => ?_)
  | ((with_reducible refine gate_wp ?_); (first
    | ((with_reducible apply wp_viewr); (walk_at "st")) | ((with_reducible apply wp_lat); (walk_at "st"))
    | ((with_reducible refine gate_eq ?_); (first | with_reducible refine wp_geqs ?_ | with_reducible refine wp_geqb ?_ | with_reducible refine wp_geq_nil ?_))
    | ((with_reducible refine gate_ne ?_); (first | with_reducible refine wp_gnes ?_ | with_reducible refine wp_gneb ?_ | with_reducible refine wp_gne_nil ?_))
    | ((with_reducible refine gate_ix ?_); (first | ((with_reducible apply wp_ixd); (walk_at "ix")) | ((with_reducible apply wp_ixt); (walk_at "ix")) | ((with_reducible apply wp_ixr); (walk_at "st"); (walk_at "ix"))))
    | ((with_reducible apply wp_trur); (walk_at "st"))
    | ((with_reducible refine wp_l4s ?_ ?_); (first | omega | assumption | decide +kernel)) | with_reducible refine wp_l4 ?_ | ((with_reducible apply wp_l3r); (walk_at "st"))
    | ((with_reducible refine wp_mod ?_ ?_); (walk_at "sd")) | ((with_reducible refine wp_fdiv ?_ ?_); (walk_at "sd")) | ((with_reducible refine wp_mulr ?_ ?_); (walk_at "sd")) | ((with_reducible refine wp_mull ?_ ?_); (walk_at "sd")) | ((with_reducible refine wp_pow ?_ ?_); (walk_at "sd"))
    | ((with_reducible apply wp_lenr); (walk_at "st"))
    | ((with_reducible refine wp_gis ?_ ?_); rfl) | ((with_reducible refine wp_gisn ?_ ?_); rfl)
    | ((with_reducible refine gate_isi ?_); (first | ((with_reducible refine isi_t (r := true) ?_ ?_); (decide +kernel)) | ((with_reducible refine isi_t (r := false) ?_ ?_); (decide +kernel)) | ((with_reducible refine isi_b (r := true) ?_ ?_); (decide +kernel)) | ((with_reducible refine isi_b (r := false) ?_ ?_); (decide +kernel)) | ((with_reducible refine isi_i (r := true) ?_ ?_); (decide +kernel)) | ((with_reducible refine isi_i (r := false) ?_ ?_); (decide +kernel)) | ((with_reducible refine isi_s (r := true) ?_ ?_); (decide +kernel)) | ((with_reducible refine isi_s (r := false) ?_ ?_); (decide +kernel)) | ((with_reducible refine isi_l (r := true) ?_ ?_); (decide +kernel)) | ((with_reducible refine isi_l (r := false) ?_ ?_); (decide +kernel)) | ((with_reducible refine isi_n (r := true) ?_ ?_); (decide +kernel)) | ((with_reducible refine isi_n (r := false) ?_ ?_); (decide +kernel))))
    | ((with_reducible apply wp_tupr); (walk_at "st"))))
  | ((with_reducible refine gate_rq ?_); (first | ((with_reducible apply rq_dt); (walk_at "tk")) | ((with_reducible apply rq_nxt); (walk_at "tk"))))
  | ((with_reducible apply fz_r); (walk_at "st")) | ((with_reducible apply sq_r); (walk_at "st"))
  | ((with_reducible apply atSet_i); (walk_at "st"); rfl) | ((with_reducible apply atLst_i); (walk_at "st")) | ((with_reducible apply nowLst_i); (walk_at "st"))
  | ((with_reducible refine rng1_i ?_ ?_); (walk_at "sd")) | ((with_reducible refine rng2_i ?_ ?_); (walk_at "sd")))
local macro_rules | `(tactic| walk_at "wp") => `(tactic| first
  | with_reducible refine step_of ?_ | ((with_reducible apply wp_var); rfl) | walk_at "wpx")
local macro_rules | `(tactic| walk_at "fdef") => `(tactic| (refine wp_fdef rfl ?_; simp only [List.map_cons, List.map_nil, List.replicate_succ, List.replicate_zero, List.cons_append, List.nil_append]))
local macro_rules | `(tactic| walk_at "keq") => `(tactic| first
  | refine wp_geqD (c := false) (.inr (by decide +kernel)) rfl ?_ | refine wp_geqD (c := true) (.inr (by decide +kernel)) rfl ?_)
local macro_rules | `(tactic| walk_at "wk") => `(tactic| first
  | with_reducible refine step_of ?_ | ((with_reducible apply wp_var); rfl)
  | ((with_reducible refine gate_wp ?_); (first
    | with_reducible refine wp_geqsD (c := false) (by decide +kernel) ?_ | with_reducible refine wp_geqsD (c := true) (by decide +kernel) ?_
    | with_reducible refine wp_gnesD (c := false) (by decide +kernel) ?_ | with_reducible refine wp_gnesD (c := true) (by decide +kernel) ?_
    | with_reducible refine wp_gin_lit (c := true) (by decide +kernel) ?_ | with_reducible refine wp_gin_lit (c := false) (by decide +kernel) ?_))
  | with_reducible refine ite_t rfl ?_ | with_reducible refine ite_f rfl ?_
  | walk_at "wpx")
local macro_rules | `(tactic| walk_at "w1") => `(tactic| (fail_if_success (with_reducible refine th_nx ?_)); walk_at "wk")
end EA
namespace EA
open PySem PySem.Spec PyProof.Rows L2
local macro_rules | `(tactic| walk_at "ix") => `(tactic| first | rfl | exact atI_cons0 | exact atI_map0)
local macro_rules | `(tactic| walk_at "st") => `(tactic| first | assumption | rfl | exact get_set (by assumption) | exact get_set (get_set (by assumption)) | exact get_last | exact get_setlast | exact get_setapp (by assumption) | exact get_app (by assumption) | exact get_app (get_set (by assumption)))
local macro_rules | `(tactic| walk_at "tk") => `(tactic| first | exact List.take_length | exact take_set | exact take_set2 | exact take_set3 | exact take_app | exact take_aset | exact take_setapp | rfl)
local macro_rules | `(tactic| walk_at "sd") => `(tactic| first | omega | assumption | decide)
local macro_rules | `(tactic| walk_at "wpx") => `(tactic| first
  | with_reducible refine ite2 (fun _ => ?_) (fun z => absurd rfl z)
  | with_reducible refine ite2 (fun z => absurd z Bool.false_ne_true) (fun _ => ?_)
  | ((with_reducible refine gate_wp ?_); (first
    | ((with_reducible apply wp_viewr); (walk_at "st")) | ((with_reducible apply wp_lat); (walk_at "st"))
    | ((with_reducible refine gate_eq ?_); (first | with_reducible refine wp_geqs ?_ | with_reducible refine wp_geqb ?_ | with_reducible refine wp_geq_nil ?_))
    | ((with_reducible refine gate_ne ?_); (first | with_reducible refine wp_gnes ?_ | with_reducible refine wp_gneb ?_ | with_reducible refine wp_gne_nil ?_))
    | ((with_reducible refine gate_ix ?_); (first | ((with_reducible apply wp_ixd); (walk_at "ix")) | ((with_reducible apply wp_ixt); (walk_at "ix")) | ((with_reducible apply wp_ixr); (walk_at "st"); (walk_at "ix"))))
    | ((with_reducible apply wp_trur); (walk_at "st"))
    | ((with_reducible refine wp_l4s ?_ ?_); (first | omega | assumption | decide +kernel)) | with_reducible refine wp_l4 ?_ | ((with_reducible apply wp_l3r); (walk_at "st"))
    | ((with_reducible refine wp_mod ?_ ?_); (walk_at "sd")) | ((with_reducible refine wp_fdiv ?_ ?_); (walk_at "sd")) | ((with_reducible refine wp_mulr ?_ ?_); (walk_at "sd")) | ((with_reducible refine wp_mull ?_ ?_); (walk_at "sd")) | ((with_reducible refine wp_pow ?_ ?_); (walk_at "sd"))
    | ((with_reducible apply wp_lenr); (walk_at "st"))
    | ((with_reducible refine wp_gis ?_ ?_); rfl) | ((with_reducible refine wp_gisn ?_ ?_); rfl)
    | ((with_reducible refine gate_isi ?_); (first | ((with_reducible refine isi_t (r := true) ?_ ?_); (decide +kernel)) | ((with_reducible refine isi_t (r := false) ?_ ?_); (decide +kernel)) | ((with_reducible refine isi_b (r := true) ?_ ?_); (decide +kernel)) | ((with_reducible refine isi_b (r := false) ?_ ?_); (decide +kernel)) | ((with_reducible refine isi_i (r := true) ?_ ?_); (decide +kernel)) | ((with_reducible refine isi_i (r := false) ?_ ?_); (decide +kernel)) | ((with_reducible refine isi_s (r := true) ?_ ?_); (decide +kernel)) | ((with_reducible refine isi_s (r := false) ?_ ?_); (decide +kernel)) | ((with_reducible refine isi_l (r := true) ?_ ?_); (decide +kernel)) | ((with_reducible refine isi_l (r := false) ?_ ?_); (decide +kernel)) | ((with_reducible refine isi_n (r := true) ?_ ?_); (decide +kernel)) | ((with_reducible refine isi_n (r := false) ?_ ?_); (decide +kernel))))
    | ((with_reducible apply wp_tupr); (walk_at "st"))))
  | ((with_reducible refine gate_rq ?_); (first | ((with_reducible apply rq_dt); (walk_at "tk")) | ((with_reducible apply rq_nxt); (walk_at "tk"))))
  | ((with_reducible apply fz_r); (walk_at "st")) | ((with_reducible apply sq_r); (walk_at "st"))
  | ((with_reducible apply atSet_i); (walk_at "st"); rfl) | ((with_reducible apply atLst_i); (walk_at "st")) | ((with_reducible apply nowLst_i); (walk_at "st"))
  | ((with_reducible refine rng1_i ?_ ?_); (walk_at "sd")) | ((with_reducible refine rng2_i ?_ ?_); (walk_at "sd")))
local macro_rules | `(tactic| walk_at "wp") => `(tactic| first
  | with_reducible refine step_of ?_ | ((with_reducible apply wp_var); rfl) | walk_at "wpx")
local macro_rules | `(tactic| walk_at "fdef") => `(tactic| (refine wp_fdef rfl ?_; simp only [List.map_cons, List.map_nil, List.replicate_succ, List.replicate_zero, List.cons_append, List.nil_append]))
local macro_rules | `(tactic| walk_at "keq") => `(tactic| first
  | refine wp_geqD (c := false) (.inr (by decide +kernel)) rfl ?_ | refine wp_geqD (c := true) (.inr (by decide +kernel)) rfl ?_)
local macro_rules | `(tactic| walk_at "wk") => `(tactic| first
  | with_reducible refine step_of ?_ | ((with_reducible apply wp_var); rfl)
  | ((with_reducible refine gate_wp ?_); (first
    | with_reducible refine wp_geqsD (c := false) (by decide +kernel) ?_ | with_reducible refine wp_geqsD (c := true) (by decide +kernel) ?_
    | with_reducible refine wp_gnesD (c := false) (by decide +kernel) ?_ | with_reducible refine wp_gnesD (c := true) (by decide +kernel) ?_
    | with_reducible refine wp_gin_lit (c := true) (by decide +kernel) ?_ | with_reducible refine wp_gin_lit (c := false) (by decide +kernel) ?_))
  | with_reducible refine ite_t rfl ?_ | with_reducible refine ite_f rfl ?_
  | walk_at "wpx")
local macro_rules | `(tactic| walk_at "w1") => `(tactic| (fail_if_success (with_reducible refine th_nx ?_)); walk_at "wk")
/-! ### of the law -/
end EA
namespace EA
open PySem PySem.Spec PyProof.Rows L2
local macro_rules | `(tactic| walk_at "ix") => `(tactic| first | rfl | exact atI_cons0 | exact atI_map0)
local macro_rules | `(tactic| walk_at "st") => `(tactic| first | assumption | rfl | exact get_set (by assumption) | exact get_set (get_set (by assumption)) | exact get_last | exact get_setlast | exact get_setapp (by assumption) | exact get_app (by assumption) | exact get_app (get_set (by assumption)))
local macro_rules | `(tactic| walk_at "tk") => `(tactic| first | exact List.take_length | exact take_set | exact take_set2 | exact take_set3 | exact take_app | exact take_aset | exact take_setapp | rfl)
local macro_rules | `(tactic| walk_at "sd") => `(tactic| first | omega | assumption | decide)
local macro_rules | `(tactic| walk_at "wpx") => `(tactic| first
  | with_reducible refine ite2 (fun _ => ?_) (fun z => absurd rfl z)
  | with_reducible refine ite2 (fun z => absurd z Bool.false_ne_true) (fun _ => ?_)
  | ((with_reducible refine gate_wp ?_); (first
    | ((with_reducible apply wp_viewr); (walk_at "st")) | ((with_reducible apply wp_lat); (walk_at "st"))
    | ((with_reducible refine gate_eq ?_); (first | with_reducible refine wp_geqs ?_ | with_reducible refine wp_geqb ?_ | with_reducible refine wp_geq_nil ?_))
    | ((with_reducible refine gate_ne ?_); (first | with_reducible refine wp_gnes ?_ | with_reducible refine wp_gneb ?_ | with_reducible refine wp_gne_nil ?_))
    | ((with_reducible refine gate_ix ?_); (first | ((with_reducible apply wp_ixd); (walk_at "ix")) | ((with_reducible apply wp_ixt); (walk_at "ix")) | ((with_reducible apply wp_ixr); (walk_at "st"); (walk_at "ix"))))
    | ((with_reducible apply wp_trur); (walk_at "st"))
    | ((with_reducible refine wp_l4s ?_ ?_); (first | omega | assumption | decide +kernel)) | with_reducible refine wp_l4 ?_ | ((with_reducible apply wp_l3r); (walk_at "st"))
    | ((with_reducible refine wp_mod ?_ ?_); (walk_at "sd")) | ((with_reducible refine wp_fdiv ?_ ?_); (walk_at "sd")) | ((with_reducible refine wp_mulr ?_ ?_); (walk_at "sd")) | ((with_reducible refine wp_mull ?_ ?_); (walk_at "sd")) | ((with_reducible refine wp_pow ?_ ?_); (walk_at "sd"))
    | ((with_reducible apply wp_lenr); (walk_at "st"))
    | ((with_reducible refine wp_gis ?_ ?_); rfl) | ((with_reducible refine wp_gisn ?_ ?_); rfl)
    | ((with_reducible refine gate_isi ?_); (first | ((with_reducible refine isi_t (r := true) ?_ ?_); (decide +kernel)) | ((with_reducible refine isi_t (r := false) ?_ ?_); (decide +kernel)) | ((with_reducible refine isi_b (r := true) ?_ ?_); (decide +kernel)) | ((with_reducible refine isi_b (r := false) ?_ ?_); (decide +kernel)) | ((with_reducible refine isi_i (r := true) ?_ ?_); (decide +kernel)) | ((with_reducible refine isi_i (r := false) ?_ ?_); (decide +kernel)) | ((with_reducible refine isi_s (r := true) ?_ ?_); (decide +kernel)) | ((with_reducible refine isi_s (r := false) ?_ ?_); (decide +kernel)) | ((with_reducible refine isi_l (r := true) ?_ ?_); (decide +kernel)) | ((with_reducible refine isi_l (r := false) ?_ ?_); (decide +kernel)) | ((with_reducible refine isi_n (r := true) ?_ ?_); (decide +kernel)) | ((with_reducible refine isi_n (r := false) ?_ ?_); (decide +kernel))))
    | ((with_reducible apply wp_tupr); (walk_at "st"))))
  | ((with_reducible refine gate_rq ?_); (first | ((with_reducible apply rq_dt); (walk_at "tk")) | ((with_reducible apply rq_nxt); (walk_at "tk"))))
  | ((with_reducible apply fz_r); (walk_at "st")) | ((with_reducible apply sq_r); (walk_at "st"))
  | ((with_reducible apply atSet_i); (walk_at "st"); rfl) | ((with_reducible apply atLst_i); (walk_at "st")) | ((with_reducible apply nowLst_i); (walk_at "st"))
  | ((with_reducible refine rng1_i ?_ ?_); (walk_at "sd")) | ((with_reducible refine rng2_i ?_ ?_); (walk_at "sd")))
local macro_rules | `(tactic| walk_at "wp") => `(tactic| first
  | with_reducible refine step_of ?_ | ((with_reducible apply wp_var); rfl) | walk_at "wpx")
local macro_rules | `(tactic| walk_at "fdef") => `(tactic| (refine wp_fdef rfl ?_; simp only [List.map_cons, List.map_nil, List.replicate_succ, List.replicate_zero, List.cons_append, List.nil_append]))
local macro_rules | `(tactic| walk_at "keq") => `(tactic| first
  | refine wp_geqD (c := false) (.inr (by decide +kernel)) rfl ?_ | refine wp_geqD (c := true) (.inr (by decide +kernel)) rfl ?_)
local macro_rules | `(tactic| walk_at "wk") => `(tactic| first
  | with_reducible refine step_of ?_ | ((with_reducible apply wp_var); rfl)
  | ((with_reducible refine gate_wp ?_); (first
    | with_reducible refine wp_geqsD (c := false) (by decide +kernel) ?_ | with_reducible refine wp_geqsD (c := true) (by decide +kernel) ?_
    | with_reducible refine wp_gnesD (c := false) (by decide +kernel) ?_ | with_reducible refine wp_gnesD (c := true) (by decide +kernel) ?_
    | with_reducible refine wp_gin_lit (c := true) (by decide +kernel) ?_ | with_reducible refine wp_gin_lit (c := false) (by decide +kernel) ?_))
  | with_reducible refine ite_t rfl ?_ | with_reducible refine ite_f rfl ?_
  | walk_at "wpx")
local macro_rules | `(tactic| walk_at "w1") => `(tactic| (fail_if_success (with_reducible refine th_nx ?_)); walk_at "wk")
/-! ### the labels beside row letters -/
def Hd.bl (r : Int) (hd : Hd) : List Str := if hd.tail = some r then hd.labels else []
abbrev BM := List (Int × List Str)
def lkB : BM → Int → List Str
  | [], _ => []
  | (q, l) :: m, r => if q = r then l else lkB m r
/-- what a walk does to what is told -/
structure BesQ (sn : List (Bool × Int)) (bs : Int → List Str) (m m' : BM) : Prop where
  keys : ∀ r, r ∈ m'.map (·.1) ↔ r ∈ m.map (·.1) ∨ (true, r) ∈ sn
  mem : ∀ r s, s ∈ lkB m' r ↔ s ∈ lkB m r ∨ s ∈ bs r
  len : ∀ r, (lkB m' r).length = (lkB m r).length + (bs r).length
  num : m'.length ≤ m.length + sn.length
theorem BesQ.nil {m : BM} : BesQ [] (fun _ => []) m m := ⟨fun r => by simp, fun r s => by simp, fun r => rfl, Nat.le_refl _⟩
theorem BesQ.trans {s1 s2 : List (Bool × Int)} {b1 b2 : Int → List Str} {m m1 m2 : BM} (h : BesQ s1 b1 m m1) (k : BesQ s2 b2 m1 m2) : BesQ (s1 ++ s2) (fun r => b1 r ++ b2 r) m m2 :=
  ⟨fun r => by rw [k.keys, h.keys, List.mem_append, or_assoc], fun r s => by rw [k.mem, h.mem, List.mem_append, or_assoc], fun r => by rw [k.len, h.len, List.length_append]; omega, by have := h.num; have := k.num; rw [List.length_append]; omega⟩
end EA
namespace EA
open PySem PySem.Spec PyProof.Rows L2
local macro_rules | `(tactic| walk_at "ix") => `(tactic| first | rfl | exact atI_cons0 | exact atI_map0)
local macro_rules | `(tactic| walk_at "st") => `(tactic| first | assumption | rfl | exact get_set (by assumption) | exact get_set (get_set (by assumption)) | exact get_last | exact get_setlast | exact get_setapp (by assumption) | exact get_app (by assumption) | exact get_app (get_set (by assumption)))
local macro_rules | `(tactic| walk_at "tk") => `(tactic| first | exact List.take_length | exact take_set | exact take_set2 | exact take_set3 | exact take_app | exact take_aset | exact take_setapp | rfl)
local macro_rules | `(tactic| walk_at "sd") => `(tactic| first | omega | assumption | decide)
local macro_rules | `(tactic| walk_at "wpx") => `(tactic| first
  | with_reducible refine ite2 (fun _ => ?_) (fun z => absurd rfl z)
  | with_reducible refine ite2 (fun z => absurd z Bool.false_ne_true) (fun _ => ?_)
  | ((with_reducible refine gate_wp ?_); (first
    | ((with_reducible apply wp_viewr); (walk_at "st")) | ((with_reducible apply wp_lat); (walk_at "st"))
    | ((with_reducible refine gate_eq ?_); (first | with_reducible refine wp_geqs ?_ | with_reducible refine wp_geqb ?_ | with_reducible refine wp_geq_nil ?_))
    | ((with_reducible refine gate_ne ?_); (first | with_reducible refine wp_gnes ?_ | with_reducible refine wp_gneb ?_ | with_reducible refine wp_gne_nil ?_))
    | ((with_reducible refine gate_ix ?_); (first | ((with_reducible apply wp_ixd); (walk_at "ix")) | ((with_reducible apply wp_ixt); (walk_at "ix")) | ((with_reducible apply wp_ixr); (walk_at "st"); (walk_at "ix"))))
    | ((with_reducible apply wp_trur); (walk_at "st"))
    | ((with_reducible refine wp_l4s ?_ ?_); (first | omega | assumption | decide +kernel)) | with_reducible refine wp_l4 ?_ | ((with_reducible apply wp_l3r); (walk_at "st"))
    | ((with_reducible refine wp_mod ?_ ?_); (walk_at "sd")) | ((with_reducible refine wp_fdiv ?_ ?_); (walk_at "sd")) | ((with_reducible refine wp_mulr ?_ ?_); (walk_at "sd")) | ((with_reducible refine wp_mull ?_ ?_); (walk_at "sd")) | ((with_reducible refine wp_pow ?_ ?_); (walk_at "sd"))
    | ((with_reducible apply wp_lenr); (walk_at "st"))
    | ((with_reducible refine wp_gis ?_ ?_); rfl) | ((with_reducible refine wp_gisn ?_ ?_); rfl)
    | ((with_reducible refine gate_isi ?_); (first | ((with_reducible refine isi_t (r := true) ?_ ?_); (decide +kernel)) | ((with_reducible refine isi_t (r := false) ?_ ?_); (decide +kernel)) | ((with_reducible refine isi_b (r := true) ?_ ?_); (decide +kernel)) | ((with_reducible refine isi_b (r := false) ?_ ?_); (decide +kernel)) | ((with_reducible refine isi_i (r := true) ?_ ?_); (decide +kernel)) | ((with_reducible refine isi_i (r := false) ?_ ?_); (decide +kernel)) | ((with_reducible refine isi_s (r := true) ?_ ?_); (decide +kernel)) | ((with_reducible refine isi_s (r := false) ?_ ?_); (decide +kernel)) | ((with_reducible refine isi_l (r := true) ?_ ?_); (decide +kernel)) | ((with_reducible refine isi_l (r := false) ?_ ?_); (decide +kernel)) | ((with_reducible refine isi_n (r := true) ?_ ?_); (decide +kernel)) | ((with_reducible refine isi_n (r := false) ?_ ?_); (decide +kernel))))
    | ((with_reducible apply wp_tupr); (walk_at "st"))))
  | ((with_reducible refine gate_rq ?_); (first | ((with_reducible apply rq_dt); (walk_at "tk")) | ((with_reducible apply rq_nxt); (walk_at "tk"))))
  | ((with_reducible apply fz_r); (walk_at "st")) | ((with_reducible apply sq_r); (walk_at "st"))
  | ((with_reducible apply atSet_i); (walk_at "st"); rfl) | ((with_reducible apply atLst_i); (walk_at "st")) | ((with_reducible apply nowLst_i); (walk_at "st"))
  | ((with_reducible refine rng1_i ?_ ?_); (walk_at "sd")) | ((with_reducible refine rng2_i ?_ ?_); (walk_at "sd")))
local macro_rules | `(tactic| walk_at "wp") => `(tactic| first
  | with_reducible refine step_of ?_ | ((with_reducible apply wp_var); rfl) | walk_at "wpx")
local macro_rules | `(tactic| walk_at "fdef") => `(tactic| (refine wp_fdef rfl ?_; simp only [List.map_cons, List.map_nil, List.replicate_succ, List.replicate_zero, List.cons_append, List.nil_append]))
local macro_rules | `(tactic| walk_at "keq") => `(tactic| first
  | refine wp_geqD (c := false) (.inr (by decide +kernel)) rfl ?_ | refine wp_geqD (c := true) (.inr (by decide +kernel)) rfl ?_)
local macro_rules | `(tactic| walk_at "wk") => `(tactic| first
  | with_reducible refine step_of ?_ | ((with_reducible apply wp_var); rfl)
  | ((with_reducible refine gate_wp ?_); (first
    | with_reducible refine wp_geqsD (c := false) (by decide +kernel) ?_ | with_reducible refine wp_geqsD (c := true) (by decide +kernel) ?_
    | with_reducible refine wp_gnesD (c := false) (by decide +kernel) ?_ | with_reducible refine wp_gnesD (c := true) (by decide +kernel) ?_
    | with_reducible refine wp_gin_lit (c := true) (by decide +kernel) ?_ | with_reducible refine wp_gin_lit (c := false) (by decide +kernel) ?_))
  | with_reducible refine ite_t rfl ?_ | with_reducible refine ite_f rfl ?_
  | walk_at "wpx")
local macro_rules | `(tactic| walk_at "w1") => `(tactic| (fail_if_success (with_reducible refine th_nx ?_)); walk_at "wk")
end EA
namespace EA
open PySem PySem.Spec PyProof.Rows L2
local macro_rules | `(tactic| walk_at "ix") => `(tactic| first | rfl | exact atI_cons0 | exact atI_map0)
local macro_rules | `(tactic| walk_at "st") => `(tactic| first | assumption | rfl | exact get_set (by assumption) | exact get_set (get_set (by assumption)) | exact get_last | exact get_setlast | exact get_setapp (by assumption) | exact get_app (by assumption) | exact get_app (get_set (by assumption)))
local macro_rules | `(tactic| walk_at "tk") => `(tactic| first | exact List.take_length | exact take_set | exact take_set2 | exact take_set3 | exact take_app | exact take_aset | exact take_setapp | rfl)
local macro_rules | `(tactic| walk_at "sd") => `(tactic| first | omega | assumption | decide)
local macro_rules | `(tactic| walk_at "wpx") => `(tactic| first
  | with_reducible refine ite2 (fun _ => ?_) (fun z => absurd rfl z)
  | with_reducible refine ite2 (fun z => absurd z Bool.false_ne_true) (fun _ => ?_)
  | ((with_reducible refine gate_wp ?_); (first
    | ((with_reducible apply wp_viewr); (walk_at "st")) | ((with_reducible apply wp_lat); (walk_at "st"))
    | ((with_reducible refine gate_eq ?_); (first | with_reducible refine wp_geqs ?_ | with_reducible refine wp_geqb ?_ | with_reducible refine wp_geq_nil ?_))
    | ((with_reducible refine gate_ne ?_); (first | with_reducible refine wp_gnes ?_ | with_reducible refine wp_gneb ?_ | with_reducible refine wp_gne_nil ?_))
    | ((with_reducible refine gate_ix ?_); (first | ((with_reducible apply wp_ixd); (walk_at "ix")) | ((with_reducible apply wp_ixt); (walk_at "ix")) | ((with_reducible apply wp_ixr); (walk_at "st"); (walk_at "ix"))))
    | ((with_reducible apply wp_trur); (walk_at "st"))
    | ((with_reducible refine wp_l4s ?_ ?_); (first | omega | assumption | decide +kernel)) | with_reducible refine wp_l4 ?_ | ((with_reducible apply wp_l3r); (walk_at "st"))
    | ((with_reducible refine wp_mod ?_ ?_); (walk_at "sd")) | ((with_reducible refine wp_fdiv ?_ ?_); (walk_at "sd")) | ((with_reducible refine wp_mulr ?_ ?_); (walk_at "sd")) | ((with_reducible refine wp_mull ?_ ?_); (walk_at "sd")) | ((with_reducible refine wp_pow ?_ ?_); (walk_at "sd"))
    | ((with_reducible apply wp_lenr); (walk_at "st"))
    | ((with_reducible refine wp_gis ?_ ?_); rfl) | ((with_reducible refine wp_gisn ?_ ?_); rfl)
    | ((with_reducible refine gate_isi ?_); (first | ((with_reducible refine isi_t (r := true) ?_ ?_); (decide +kernel)) | ((with_reducible refine isi_t (r := false) ?_ ?_); (decide +kernel)) | ((with_reducible refine isi_b (r := true) ?_ ?_); (decide +kernel)) | ((with_reducible refine isi_b (r := false) ?_ ?_); (decide +kernel)) | ((with_reducible refine isi_i (r := true) ?_ ?_); (decide +kernel)) | ((with_reducible refine isi_i (r := false) ?_ ?_); (decide +kernel)) | ((with_reducible refine isi_s (r := true) ?_ ?_); (decide +kernel)) | ((with_reducible refine isi_s (r := false) ?_ ?_); (decide +kernel)) | ((with_reducible refine isi_l (r := true) ?_ ?_); (decide +kernel)) | ((with_reducible refine isi_l (r := false) ?_ ?_); (decide +kernel)) | ((with_reducible refine isi_n (r := true) ?_ ?_); (decide +kernel)) | ((with_reducible refine isi_n (r := false) ?_ ?_); (decide +kernel))))
    | ((with_reducible apply wp_tupr); (walk_at "st"))))
  | ((with_reducible refine gate_rq ?_); (first | ((with_reducible apply rq_dt); (walk_at "tk")) | ((with_reducible apply rq_nxt); (walk_at "tk"))))
  | ((with_reducible apply fz_r); (walk_at "st")) | ((with_reducible apply sq_r); (walk_at "st"))
  | ((with_reducible apply atSet_i); (walk_at "st"); rfl) | ((with_reducible apply atLst_i); (walk_at "st")) | ((with_reducible apply nowLst_i); (walk_at "st"))
  | ((with_reducible refine rng1_i ?_ ?_); (walk_at "sd")) | ((with_reducible refine rng2_i ?_ ?_); (walk_at "sd")))
local macro_rules | `(tactic| walk_at "wp") => `(tactic| first
  | with_reducible refine step_of ?_ | ((with_reducible apply wp_var); rfl) | walk_at "wpx")
local macro_rules | `(tactic| walk_at "fdef") => `(tactic| (refine wp_fdef rfl ?_; simp only [List.map_cons, List.map_nil, List.replicate_succ, List.replicate_zero, List.cons_append, List.nil_append]))
local macro_rules | `(tactic| walk_at "keq") => `(tactic| first
  | refine wp_geqD (c := false) (.inr (by decide +kernel)) rfl ?_ | refine wp_geqD (c := true) (.inr (by decide +kernel)) rfl ?_)
local macro_rules | `(tactic| walk_at "wk") => `(tactic| first
  | with_reducible refine step_of ?_ | ((with_reducible apply wp_var); rfl)
  | ((with_reducible refine gate_wp ?_); (first
    | with_reducible refine wp_geqsD (c := false) (by decide +kernel) ?_ | with_reducible refine wp_geqsD (c := true) (by decide +kernel) ?_
    | with_reducible refine wp_gnesD (c := false) (by decide +kernel) ?_ | with_reducible refine wp_gnesD (c := true) (by decide +kernel) ?_
    | with_reducible refine wp_gin_lit (c := true) (by decide +kernel) ?_ | with_reducible refine wp_gin_lit (c := false) (by decide +kernel) ?_))
  | with_reducible refine ite_t rfl ?_ | with_reducible refine ite_f rfl ?_
  | walk_at "wpx")
local macro_rules | `(tactic| walk_at "w1") => `(tactic| (fail_if_success (with_reducible refine th_nx ?_)); walk_at "wk")
/-! ### other numbers -/
mutual
def Tm.mp (φ ψ : Int → Int) : Tm → Tm
  | .letter k => .letter (φ k)
  | .node hd ps => .node (hd.setTail (hd.tail.map ψ)) (mpM φ ψ ps)
def mpM (φ ψ : Int → Int) : List Tm → List Tm
  | [] => []
  | p :: ps => p.mp φ ψ :: mpM φ ψ ps
end
theorem mpM_map (φ ψ : Int → Int) : ∀ ps : List Tm, mpM φ ψ ps = ps.map (Tm.mp φ ψ)
  | [] => rfl
  | p :: ps => by rw [mpM, mpM_map φ ψ ps]; rfl
theorem Tm.mp_node {φ ψ : Int → Int} {hd : Hd} {ps : List Tm} : (Tm.node hd ps).mp φ ψ = .node (hd.setTail (hd.tail.map ψ)) (ps.map (Tm.mp φ ψ)) := by rw [Tm.mp, mpM_map]
theorem Hd.tail_set {hd : Hd} {ψ : Int → Int} : (hd.setTail (hd.tail.map ψ)).tail = hd.tail.map ψ := by cases hd <;> rfl
theorem Hd.fits_set {b : Bool} {hd : Hd} {n : Nat} {u : Option Int} (h : hd.fits b n) : (hd.setTail u).fits b n := by cases hd <;> exact h
theorem TOk.mp {PL PR PL' PR' : Int → Prop} {φ ψ : Int → Int} {b : Bool} {h : Nat} {t : Tm} (o : TOk PL PR b h t) (i : ∀ k, PL k → PL' (φ k)) (j : ∀ k, PR k → PR' (ψ k)) : TOk PL' PR' b h (t.mp φ ψ) := by
  induction o with
  | letter a => rw [Tm.mp]; exact .letter (i _ a)
  | leaf a c => rw [Tm.mp_node]; exact .leaf (Hd.fits_set a) (by rw [Hd.tail_set, c]; rfl)
  | node a c d ih =>
    rw [Tm.mp_node]
    refine .node (by rw [List.length_map]; exact Hd.fits_set a) (fun r e => ?_) (fun p hp => ?_)
    · rw [Hd.tail_set] at e
      obtain ⟨q, e1, rfl⟩ := Option.map_eq_some_iff.mp e
      exact j q (c q e1)
    · obtain ⟨q, hq, rfl⟩ := List.mem_map.mp hp
      exact ih q hq
end EA
namespace EA
open PySem PySem.Spec PyProof.Rows L2
local macro_rules | `(tactic| walk_at "ix") => `(tactic| first | rfl | exact atI_cons0 | exact atI_map0)
local macro_rules | `(tactic| walk_at "st") => `(tactic| first | assumption | rfl | exact get_set (by assumption) | exact get_set (get_set (by assumption)) | exact get_last | exact get_setlast | exact get_setapp (by assumption) | exact get_app (by assumption) | exact get_app (get_set (by assumption)))
local macro_rules | `(tactic| walk_at "tk") => `(tactic| first | exact List.take_length | exact take_set | exact take_set2 | exact take_set3 | exact take_app | exact take_aset | exact take_setapp | rfl)
local macro_rules | `(tactic| walk_at "sd") => `(tactic| first | omega | assumption | decide)
local macro_rules | `(tactic| walk_at "wpx") => `(tactic| first
  | with_reducible refine ite2 (fun _ => ?_) (fun z => absurd rfl z)
  | with_reducible refine ite2 (fun z => absurd z Bool.false_ne_true) (fun _ => ?_)
  | ((with_reducible refine gate_wp ?_); (first
    | ((with_reducible apply wp_viewr); (walk_at "st")) | ((with_reducible apply wp_lat); (walk_at "st"))
    | ((with_reducible refine gate_eq ?_); (first | with_reducible refine wp_geqs ?_ | with_reducible refine wp_geqb ?_ | with_reducible refine wp_geq_nil ?_))
    | ((with_reducible refine gate_ne ?_); (first | with_reducible refine wp_gnes ?_ | with_reducible refine wp_gneb ?_ | with_reducible refine wp_gne_nil ?_))
    | ((with_reducible refine gate_ix ?_); (first | ((with_reducible apply wp_ixd); (walk_at "ix")) | ((with_reducible apply wp_ixt); (walk_at "ix")) | ((with_reducible apply wp_ixr); (walk_at "st"); (walk_at "ix"))))
    | ((with_reducible apply wp_trur); (walk_at "st"))
    | ((with_reducible refine wp_l4s ?_ ?_); (first | omega | assumption | decide +kernel)) | with_reducible refine wp_l4 ?_ | ((with_reducible apply wp_l3r); (walk_at "st"))
    | ((with_reducible refine wp_mod ?_ ?_); (walk_at "sd")) | ((with_reducible refine wp_fdiv ?_ ?_); (walk_at "sd")) | ((with_reducible refine wp_mulr ?_ ?_); (walk_at "sd")) | ((with_reducible refine wp_mull ?_ ?_); (walk_at "sd")) | ((with_reducible refine wp_pow ?_ ?_); (walk_at "sd"))
    | ((with_reducible apply wp_lenr); (walk_at "st"))
    | ((with_reducible refine wp_gis ?_ ?_); rfl) | ((with_reducible refine wp_gisn ?_ ?_); rfl)
    | ((with_reducible refine gate_isi ?_); (first | ((with_reducible refine isi_t (r := true) ?_ ?_); (decide +kernel)) | ((with_reducible refine isi_t (r := false) ?_ ?_); (decide +kernel)) | ((with_reducible refine isi_b (r := true) ?_ ?_); (decide +kernel)) | ((with_reducible refine isi_b (r := false) ?_ ?_); (decide +kernel)) | ((with_reducible refine isi_i (r := true) ?_ ?_); (decide +kernel)) | ((with_reducible refine isi_i (r := false) ?_ ?_); (decide +kernel)) | ((with_reducible refine isi_s (r := true) ?_ ?_); (decide +kernel)) | ((with_reducible refine isi_s (r := false) ?_ ?_); (decide +kernel)) | ((with_reducible refine isi_l (r := true) ?_ ?_); (decide +kernel)) | ((with_reducible refine isi_l (r := false) ?_ ?_); (decide +kernel)) | ((with_reducible refine isi_n (r := true) ?_ ?_); (decide +kernel)) | ((with_reducible refine isi_n (r := false) ?_ ?_); (decide +kernel))))
    | ((with_reducible apply wp_tupr); (walk_at "st"))))
  | ((with_reducible refine gate_rq ?_); (first | ((with_reducible apply rq_dt); (walk_at "tk")) | ((with_reducible apply rq_nxt); (walk_at "tk"))))
  | ((with_reducible apply fz_r); (walk_at "st")) | ((with_reducible apply sq_r); (walk_at "st"))
  | ((with_reducible apply atSet_i); (walk_at "st"); rfl) | ((with_reducible apply atLst_i); (walk_at "st")) | ((with_reducible apply nowLst_i); (walk_at "st"))
  | ((with_reducible refine rng1_i ?_ ?_); (walk_at "sd")) | ((with_reducible refine rng2_i ?_ ?_); (walk_at "sd")))
local macro_rules | `(tactic| walk_at "wp") => `(tactic| first
  | with_reducible refine step_of ?_ | ((with_reducible apply wp_var); rfl) | walk_at "wpx")
local macro_rules | `(tactic| walk_at "fdef") => `(tactic| (refine wp_fdef rfl ?_; simp only [List.map_cons, List.map_nil, List.replicate_succ, List.replicate_zero, List.cons_append, List.nil_append]))
local macro_rules | `(tactic| walk_at "keq") => `(tactic| first
  | refine wp_geqD (c := false) (.inr (by decide +kernel)) rfl ?_ | refine wp_geqD (c := true) (.inr (by decide +kernel)) rfl ?_)
local macro_rules | `(tactic| walk_at "wk") => `(tactic| first
  | with_reducible refine step_of ?_ | ((with_reducible apply wp_var); rfl)
  | ((with_reducible refine gate_wp ?_); (first
    | with_reducible refine wp_geqsD (c := false) (by decide +kernel) ?_ | with_reducible refine wp_geqsD (c := true) (by decide +kernel) ?_
    | with_reducible refine wp_gnesD (c := false) (by decide +kernel) ?_ | with_reducible refine wp_gnesD (c := true) (by decide +kernel) ?_
    | with_reducible refine wp_gin_lit (c := true) (by decide +kernel) ?_ | with_reducible refine wp_gin_lit (c := false) (by decide +kernel) ?_))
  | with_reducible refine ite_t rfl ?_ | with_reducible refine ite_f rfl ?_
  | walk_at "wpx")
local macro_rules | `(tactic| walk_at "w1") => `(tactic| (fail_if_success (with_reducible refine th_nx ?_)); walk_at "wk")
/-! ### schemes -/
/-! ### of the program -/
/-! ### the same scheme for other numbers -/
end EA
namespace EA
open PySem PySem.Spec PyProof.Rows L2
local macro_rules | `(tactic| walk_at "ix") => `(tactic| first | rfl | exact atI_cons0 | exact atI_map0)
local macro_rules | `(tactic| walk_at "st") => `(tactic| first | assumption | rfl | exact get_set (by assumption) | exact get_set (get_set (by assumption)) | exact get_last | exact get_setlast | exact get_setapp (by assumption) | exact get_app (by assumption) | exact get_app (get_set (by assumption)))
local macro_rules | `(tactic| walk_at "tk") => `(tactic| first | exact List.take_length | exact take_set | exact take_set2 | exact take_set3 | exact take_app | exact take_aset | exact take_setapp | rfl)
local macro_rules | `(tactic| walk_at "sd") => `(tactic| first | omega | assumption | decide)
local macro_rules | `(tactic| walk_at "wpx") => `(tactic| first
  | with_reducible refine ite2 (fun _ => ?_) (fun z => absurd rfl z)
  | with_reducible refine ite2 (fun z => absurd z Bool.false_ne_true) (fun _ => ?_)
  | ((with_reducible refine gate_wp ?_); (first
    | ((with_reducible apply wp_viewr); (walk_at "st")) | ((with_reducible apply wp_lat); (walk_at "st"))
    | ((with_reducible refine gate_eq ?_); (first | with_reducible refine wp_geqs ?_ | with_reducible refine wp_geqb ?_ | with_reducible refine wp_geq_nil ?_))
    | ((with_reducible refine gate_ne ?_); (first | with_reducible refine wp_gnes ?_ | with_reducible refine wp_gneb ?_ | with_reducible refine wp_gne_nil ?_))
    | ((with_reducible refine gate_ix ?_); (first | ((with_reducible apply wp_ixd); (walk_at "ix")) | ((with_reducible apply wp_ixt); (walk_at "ix")) | ((with_reducible apply wp_ixr); (walk_at "st"); (walk_at "ix"))))
    | ((with_reducible apply wp_trur); (walk_at "st"))
    | ((with_reducible refine wp_l4s ?_ ?_); (first | omega | assumption | decide +kernel)) | with_reducible refine wp_l4 ?_ | ((with_reducible apply wp_l3r); (walk_at "st"))
    | ((with_reducible refine wp_mod ?_ ?_); (walk_at "sd")) | ((with_reducible refine wp_fdiv ?_ ?_); (walk_at "sd")) | ((with_reducible refine wp_mulr ?_ ?_); (walk_at "sd")) | ((with_reducible refine wp_mull ?_ ?_); (walk_at "sd")) | ((with_reducible refine wp_pow ?_ ?_); (walk_at "sd"))
    | ((with_reducible apply wp_lenr); (walk_at "st"))
    | ((with_reducible refine wp_gis ?_ ?_); rfl) | ((with_reducible refine wp_gisn ?_ ?_); rfl)
    | ((with_reducible refine gate_isi ?_); (first | ((with_reducible refine isi_t (r := true) ?_ ?_); (decide +kernel)) | ((with_reducible refine isi_t (r := false) ?_ ?_); (decide +kernel)) | ((with_reducible refine isi_b (r := true) ?_ ?_); (decide +kernel)) | ((with_reducible refine isi_b (r := false) ?_ ?_); (decide +kernel)) | ((with_reducible refine isi_i (r := true) ?_ ?_); (decide +kernel)) | ((with_reducible refine isi_i (r := false) ?_ ?_); (decide +kernel)) | ((with_reducible refine isi_s (r := true) ?_ ?_); (decide +kernel)) | ((with_reducible refine isi_s (r := false) ?_ ?_); (decide +kernel)) | ((with_reducible refine isi_l (r := true) ?_ ?_); (decide +kernel)) | ((with_reducible refine isi_l (r := false) ?_ ?_); (decide +kernel)) | ((with_reducible refine isi_n (r := true) ?_ ?_); (decide +kernel)) | ((with_reducible refine isi_n (r := false) ?_ ?_); (decide +kernel))))
    | ((with_reducible apply wp_tupr); (walk_at "st"))))
  | ((with_reducible refine gate_rq ?_); (first | ((with_reducible apply rq_dt); (walk_at "tk")) | ((with_reducible apply rq_nxt); (walk_at "tk"))))
  | ((with_reducible apply fz_r); (walk_at "st")) | ((with_reducible apply sq_r); (walk_at "st"))
  | ((with_reducible apply atSet_i); (walk_at "st"); rfl) | ((with_reducible apply atLst_i); (walk_at "st")) | ((with_reducible apply nowLst_i); (walk_at "st"))
  | ((with_reducible refine rng1_i ?_ ?_); (walk_at "sd")) | ((with_reducible refine rng2_i ?_ ?_); (walk_at "sd")))
local macro_rules | `(tactic| walk_at "wp") => `(tactic| first
  | with_reducible refine step_of ?_ | ((with_reducible apply wp_var); rfl) | walk_at "wpx")
local macro_rules | `(tactic| walk_at "fdef") => `(tactic| (refine wp_fdef rfl ?_; simp only [List.map_cons, List.map_nil, List.replicate_succ, List.replicate_zero, List.cons_append, List.nil_append]))
local macro_rules | `(tactic| walk_at "keq") => `(tactic| first
  | refine wp_geqD (c := false) (.inr (by decide +kernel)) rfl ?_ | refine wp_geqD (c := true) (.inr (by decide +kernel)) rfl ?_)
local macro_rules | `(tactic| walk_at "wk") => `(tactic| first
  | with_reducible refine step_of ?_ | ((with_reducible apply wp_var); rfl)
  | ((with_reducible refine gate_wp ?_); (first
    | with_reducible refine wp_geqsD (c := false) (by decide +kernel) ?_ | with_reducible refine wp_geqsD (c := true) (by decide +kernel) ?_
    | with_reducible refine wp_gnesD (c := false) (by decide +kernel) ?_ | with_reducible refine wp_gnesD (c := true) (by decide +kernel) ?_
    | with_reducible refine wp_gin_lit (c := true) (by decide +kernel) ?_ | with_reducible refine wp_gin_lit (c := false) (by decide +kernel) ?_))
  | with_reducible refine ite_t rfl ?_ | with_reducible refine ite_f rfl ?_
  | walk_at "wpx")
local macro_rules | `(tactic| walk_at "w1") => `(tactic| (fail_if_success (with_reducible refine th_nx ?_)); walk_at "wk")
noncomputable def f3_same : Nat → F3
  | 0 => fun _ _ => none
  | n + 1 => fdef false 2 1
      (sSeq (sIf (tTr (eB gIsi (aCons (eVar 0) (aCons (eTy "tuple") aNil))))
        (sRt (eAn (eB gIsi (aCons (eVar 1) (aCons (eTy "tuple") aNil))) (eAn (eCmp gEq (eB gLen (aCons (eVar 0) aNil)) (eB gLen (aCons (eVar 1) aNil))) (eB (g1 (anyD fun bs => bs.all id)) (aCons (eNd (nLc [2] (iR1 (aCons (eB gLen (aCons (eVar 0) aNil)) aNil)) (gNm 2) tYes3 (eCall (f3_same n) (aCons (eOp gIx (eVar 0) (eVar 2)) (aCons (eOp gIx (eVar 1) (eVar 2)) aNil))))) aNil)))))
        sNx)
        (sSeq (sIf (tOr3 (tTr (eB gIsi (aCons (eVar 0) (aCons (eTy "bool") aNil)))) (tTr (eB gIsi (aCons (eVar 1) (aCons (eTy "bool") aNil)))))
        (sRt (eAn (eB gIsi (aCons (eVar 0) (aCons (eTy "bool") aNil))) (eAn (eB gIsi (aCons (eVar 1) (aCons (eTy "bool") aNil))) (eCmp gEq (eVar 0) (eVar 1)))))
        sNx)
        (sSeq (sIf (tTr (eB gIsi (aCons (eVar 0) (aCons (eTy "str") aNil))))
        (sRt (eAn (eB gIsi (aCons (eVar 1) (aCons (eTy "str") aNil))) (eCmp gEq (eVar 0) (eVar 1))))
        sNx)
        (sSeq (sIf (tOr3 (tCmp gIs (eVar 0) (eD .none)) (tCmp gIs (eVar 1) (eD .none)))
        (sRt (eAn (eCmp gIs (eVar 0) (eD .none)) (eCmp gIs (eVar 1) (eD .none))))
        sNx)
        (sRt (eAn (eCall f3_whole (aCons (eVar 1) aNil)) (eCmp gEq (eVar 0) (eVar 1))))))))
inductive SD : Nat → PyData → Prop
  | int {h : Nat} (i : Int) : SD h (.int i)
  | str {h : Nat} (x : Str) : SD h (.str x)
  | bool {h : Nat} (b : Bool) : SD h (.bool b)
  | none {h : Nat} : SD h .none
  | tup {h : Nat} {xs : List PyData} : xs.length ≤ 90000 → (∀ x ∈ xs, SD h x) → SD (h + 1) (.tuple xs)
theorem SD.mono {h : Nat} {d : PyData} (o : SD h d) : ∀ {k : Nat}, h ≤ k → SD k d := by
  induction o with
  | int i => intro k _; exact .int i
  | str i => intro k _; exact .str i
  | bool i => intro k _; exact .bool i
  | none => intro k _; exact .none
  | tup a b ih => intro k hk; obtain ⟨k, rfl⟩ : ∃ x, k = x + 1 := ⟨k - 1, by omega⟩; exact .tup a fun x hx => ih x hx (by omega)
theorem same3 : ∀ (n : Nat) {h : Nat} {d : PyData} {S : List MO}, SD h d → h < n → f3_same n [.d d, .d d] S = some (.d (.bool true), S)
  | 0, _, _, _, _, hn => absurd hn (by omega)
  | n + 1, h, d, S, o, hn => by
    refine eq_of ?_
    unfold f3_same
    cases o with
    | int i =>
      walk_at "fdef"
      repeat walk_at "wk"
      refine wp2_eq (show f3_whole [.d (.int i)] S = some (.d (.bool true), S) from eq_of (by
        unfold f3_whole
        walk_at "fdef"
        repeat walk_at "wk"
        exact ⟨rfl, rfl⟩)) ?_
      repeat walk_at "wk"
      exact ⟨by simp, rfl⟩
    | str x =>
      walk_at "fdef"
      repeat walk_at "wk"
      exact ⟨by simp, rfl⟩
    | bool b =>
      walk_at "fdef"
      repeat walk_at "wk"
      exact ⟨by simp, rfl⟩
    | none =>
      walk_at "fdef"
      repeat walk_at "wk"
      exact ⟨rfl, rfl⟩
    | @tup h xs hl hx =>
      walk_at "fdef"
      repeat walk_at "wk"
      refine ite_t (by simp) ?_
      repeat walk_at "wk"
      refine ⟨by dsimp only; rw [intsW_len, Int.toNat_natCast]; omega, ?_⟩
      refine wp_all (xs := List.range xs.length) (w := fun j => .d (.int (j : Nat))) (v := fun _ => .bool true) (intsW_of rfl) rfl (fun j hj => ?_) ?_ gnm_st
      · have hj := List.mem_range.mp hj
        have hat : atI xs (j : Int) = some xs[j] := atI_at (List.getElem?_eq_getElem hj)
        repeat walk_at "wk"
        refine wp_ixt hat ?_
        repeat walk_at "wk"
        refine wp_ixt hat ?_
        repeat walk_at "wk"
        refine wp2_eq (same3 n (hx _ (List.getElem_mem hj)) (by omega)) ?_
        exact ⟨rfl, rfl⟩
      · repeat walk_at "wk"
        refine wp_anyb (bs := (List.range xs.length).map fun _ => true) (by rw [List.map_map]; rfl) ?_
        repeat walk_at "wk"
        refine ⟨?_, rfl⟩
        have : ((List.range xs.length).map fun _ => true).all id = true := List.all_eq_true.mpr fun b hb => by
          obtain ⟨_, _, rfl⟩ := List.mem_map.mp hb
          rfl
        rw [this]
theorem sd_two {h : Nat} {x y : PyData} (hx : SD h x) (hy : SD h y) : SD (h + 1) (.tuple [x, y]) := .tup (by show 2 ≤ _; decide) fun z hz => by
  simp only [List.mem_cons, List.not_mem_nil, or_false] at hz
  rcases hz with rfl | rfl
  · exact hx
  · exact hy
theorem sd_three {h : Nat} {x y w : PyData} (hx : SD h x) (hy : SD h y) (hw : SD h w) : SD (h + 1) (.tuple [x, y, w]) := .tup (by show 3 ≤ _; decide) fun z hz => by
  simp only [List.mem_cons, List.not_mem_nil, or_false] at hz
  rcases hz with rfl | rfl | rfl
  · exact hx
  · exact hy
  · exact hw
end EA
namespace EA
open PySem PySem.Spec PyProof.Rows L2
local macro_rules | `(tactic| walk_at "ix") => `(tactic| first | rfl | exact atI_cons0 | exact atI_map0)
local macro_rules | `(tactic| walk_at "st") => `(tactic| first | assumption | rfl | exact get_set (by assumption) | exact get_set (get_set (by assumption)) | exact get_last | exact get_setlast | exact get_setapp (by assumption) | exact get_app (by assumption) | exact get_app (get_set (by assumption)))
local macro_rules | `(tactic| walk_at "tk") => `(tactic| first | exact List.take_length | exact take_set | exact take_set2 | exact take_set3 | exact take_app | exact take_aset | exact take_setapp | rfl)
local macro_rules | `(tactic| walk_at "sd") => `(tactic| first | omega | assumption | decide)
local macro_rules | `(tactic| walk_at "wpx") => `(tactic| first
  | with_reducible refine ite2 (fun _ => ?_) (fun z => absurd rfl z)
  | with_reducible refine ite2 (fun z => absurd z Bool.false_ne_true) (fun _ => ?_)
  | ((with_reducible refine gate_wp ?_); (first
    | ((with_reducible apply wp_viewr); (walk_at "st")) | ((with_reducible apply wp_lat); (walk_at "st"))
    | ((with_reducible refine gate_eq ?_); (first | with_reducible refine wp_geqs ?_ | with_reducible refine wp_geqb ?_ | with_reducible refine wp_geq_nil ?_))
    | ((with_reducible refine gate_ne ?_); (first | with_reducible refine wp_gnes ?_ | with_reducible refine wp_gneb ?_ | with_reducible refine wp_gne_nil ?_))
    | ((with_reducible refine gate_ix ?_); (first | ((with_reducible apply wp_ixd); (walk_at "ix")) | ((with_reducible apply wp_ixt); (walk_at "ix")) | ((with_reducible apply wp_ixr); (walk_at "st"); (walk_at "ix"))))
    | ((with_reducible apply wp_trur); (walk_at "st"))
    | ((with_reducible refine wp_l4s ?_ ?_); (first | omega | assumption | decide +kernel)) | with_reducible refine wp_l4 ?_ | ((with_reducible apply wp_l3r); (walk_at "st"))
    | ((with_reducible refine wp_mod ?_ ?_); (walk_at "sd")) | ((with_reducible refine wp_fdiv ?_ ?_); (walk_at "sd")) | ((with_reducible refine wp_mulr ?_ ?_); (walk_at "sd")) | ((with_reducible refine wp_mull ?_ ?_); (walk_at "sd")) | ((with_reducible refine wp_pow ?_ ?_); (walk_at "sd"))
    | ((with_reducible apply wp_lenr); (walk_at "st"))
    | ((with_reducible refine wp_gis ?_ ?_); rfl) | ((with_reducible refine wp_gisn ?_ ?_); rfl)
    | ((with_reducible refine gate_isi ?_); (first | ((with_reducible refine isi_t (r := true) ?_ ?_); (decide +kernel)) | ((with_reducible refine isi_t (r := false) ?_ ?_); (decide +kernel)) | ((with_reducible refine isi_b (r := true) ?_ ?_); (decide +kernel)) | ((with_reducible refine isi_b (r := false) ?_ ?_); (decide +kernel)) | ((with_reducible refine isi_i (r := true) ?_ ?_); (decide +kernel)) | ((with_reducible refine isi_i (r := false) ?_ ?_); (decide +kernel)) | ((with_reducible refine isi_s (r := true) ?_ ?_); (decide +kernel)) | ((with_reducible refine isi_s (r := false) ?_ ?_); (decide +kernel)) | ((with_reducible refine isi_l (r := true) ?_ ?_); (decide +kernel)) | ((with_reducible refine isi_l (r := false) ?_ ?_); (decide +kernel)) | ((with_reducible refine isi_n (r := true) ?_ ?_); (decide +kernel)) | ((with_reducible refine isi_n (r := false) ?_ ?_); (decide +kernel))))
    | ((with_reducible apply wp_tupr); (walk_at "st"))))
  | ((with_reducible refine gate_rq ?_); (first | ((with_reducible apply rq_dt); (walk_at "tk")) | ((with_reducible apply rq_nxt); (walk_at "tk"))))
  | ((with_reducible apply fz_r); (walk_at "st")) | ((with_reducible apply sq_r); (walk_at "st"))
  | ((with_reducible apply atSet_i); (walk_at "st"); rfl) | ((with_reducible apply atLst_i); (walk_at "st")) | ((with_reducible apply nowLst_i); (walk_at "st"))
  | ((with_reducible refine rng1_i ?_ ?_); (walk_at "sd")) | ((with_reducible refine rng2_i ?_ ?_); (walk_at "sd")))
local macro_rules | `(tactic| walk_at "wp") => `(tactic| first
  | with_reducible refine step_of ?_ | ((with_reducible apply wp_var); rfl) | walk_at "wpx")
local macro_rules | `(tactic| walk_at "fdef") => `(tactic| (refine wp_fdef rfl ?_; simp only [List.map_cons, List.map_nil, List.replicate_succ, List.replicate_zero, List.cons_append, List.nil_append]))
local macro_rules | `(tactic| walk_at "keq") => `(tactic| first
  | refine wp_geqD (c := false) (.inr (by decide +kernel)) rfl ?_ | refine wp_geqD (c := true) (.inr (by decide +kernel)) rfl ?_)
local macro_rules | `(tactic| walk_at "wk") => `(tactic| first
  | with_reducible refine step_of ?_ | ((with_reducible apply wp_var); rfl)
  | ((with_reducible refine gate_wp ?_); (first
    | with_reducible refine wp_geqsD (c := false) (by decide +kernel) ?_ | with_reducible refine wp_geqsD (c := true) (by decide +kernel) ?_
    | with_reducible refine wp_gnesD (c := false) (by decide +kernel) ?_ | with_reducible refine wp_gnesD (c := true) (by decide +kernel) ?_
    | with_reducible refine wp_gin_lit (c := true) (by decide +kernel) ?_ | with_reducible refine wp_gin_lit (c := false) (by decide +kernel) ?_))
  | with_reducible refine ite_t rfl ?_ | with_reducible refine ite_f rfl ?_
  | walk_at "wpx")
local macro_rules | `(tactic| walk_at "w1") => `(tactic| (fail_if_success (with_reducible refine th_nx ?_)); walk_at "wk")
/-! ### the world -/
abbrev wdR (left words L : Int) (labels : List Str) : List (Str × W3) := [("hand", .r 0), ("left", .d (.int left)), ("words", .d (.int words)), ("letters", .d (.int L)), ("labels", .d (.list (labels.map .str))), ("beside", .r 1)]
def strsL (l : List Str) : PyData := .list (l.map .str)
def Ws (L : Int) (labels : List Str) (bs : List (List Str)) (o : List PyData) (left words : Int) (T : List MO) : List MO := .lst o :: .lst (bs.map strsL) :: .rcd (wdR left words L labels) :: T
section
variable {L : Int} {labels : List Str} {bs : List (List Str)} {o : List PyData} {left words : Int} {T : List MO} {sl : Sl} {Q : W3 → List MO → Prop}
theorem wrg_hand (h : sl[0]?.join = some (.r 2)) (q : Q (.r 0) (Ws L labels bs o left words T)) : Wp2 (eRG (eVar 0) "hand" sl (Ws L labels bs o left words T)) Q := wp_rg (wp_var h ⟨_, _, rfl, rfl, q⟩)
theorem wrg_left (h : sl[0]?.join = some (.r 2)) (q : Q (.d (.int left)) (Ws L labels bs o left words T)) : Wp2 (eRG (eVar 0) "left" sl (Ws L labels bs o left words T)) Q := wp_rg (wp_var h ⟨_, _, rfl, rfl, q⟩)
theorem wrg_words (h : sl[0]?.join = some (.r 2)) (q : Q (.d (.int words)) (Ws L labels bs o left words T)) : Wp2 (eRG (eVar 0) "words" sl (Ws L labels bs o left words T)) Q := wp_rg (wp_var h ⟨_, _, rfl, rfl, q⟩)
theorem wrg_letters (h : sl[0]?.join = some (.r 2)) (q : Q (.d (.int L)) (Ws L labels bs o left words T)) : Wp2 (eRG (eVar 0) "letters" sl (Ws L labels bs o left words T)) Q := wp_rg (wp_var h ⟨_, _, rfl, rfl, q⟩)
theorem wrg_labels (h : sl[0]?.join = some (.r 2)) (q : Q (.d (.list (labels.map .str))) (Ws L labels bs o left words T)) : Wp2 (eRG (eVar 0) "labels" sl (Ws L labels bs o left words T)) Q := wp_rg (wp_var h ⟨_, _, rfl, rfl, q⟩)
theorem wrg_beside (h : sl[0]?.join = some (.r 2)) (q : Q (.r 1) (Ws L labels bs o left words T)) : Wp2 (eRG (eVar 0) "beside" sl (Ws L labels bs o left words T)) Q := wp_rg (wp_var h ⟨_, _, rfl, rfl, q⟩)
theorem rq_dW {own : Bool} {Se : List MO} {x : PyData} [CutR Se (Ws L labels bs o left words T)] (e : T.length + 3 = Se.length) (h : Q (.d x) (Ws L labels bs o left words T)) : retQ own Se Q (.rt (.d x) (Ws L labels bs o left words T)) := rq_dt (by
  rw [List.take_of_length_le]
  rw [← e]; exact Nat.le_refl _) h
instance ws_cut {o' : List PyData} {left' words' : Int} : CutR (Ws L labels bs o left words T) (Ws L labels bs o' left' words' T) := ⟨fun i u hi e => by
  match i with
  | 0 => cases e; exact .inl trivial
  | 1 => exact .inr e
  | 2 => cases e; exact .inl trivial
  | i + 3 => exact .inr e⟩
end
local macro_rules | `(tactic| walk_at "rg") => `(tactic| first
  | ((with_reducible apply wrg_hand); rfl) | ((with_reducible apply wrg_left); rfl) | ((with_reducible apply wrg_words); rfl) | ((with_reducible apply wrg_letters); rfl) | ((with_reducible apply wrg_labels); rfl) | ((with_reducible apply wrg_beside); rfl)
  | ((with_reducible refine rq_dW ?_ ?_); rfl)
  | walk_at "wk")
local macro_rules | `(tactic| walk_at "r1") => `(tactic| (fail_if_success (with_reducible refine th_nx ?_)); walk_at "rg")
/-! ### terms drawn -/
end EA
namespace EA
open PySem PySem.Spec PyProof.Rows L2
local macro_rules | `(tactic| walk_at "ix") => `(tactic| first | rfl | exact atI_cons0 | exact atI_map0)
local macro_rules | `(tactic| walk_at "st") => `(tactic| first | assumption | rfl | exact get_set (by assumption) | exact get_set (get_set (by assumption)) | exact get_last | exact get_setlast | exact get_setapp (by assumption) | exact get_app (by assumption) | exact get_app (get_set (by assumption)))
local macro_rules | `(tactic| walk_at "tk") => `(tactic| first | exact List.take_length | exact take_set | exact take_set2 | exact take_set3 | exact take_app | exact take_aset | exact take_setapp | rfl)
local macro_rules | `(tactic| walk_at "sd") => `(tactic| first | omega | assumption | decide)
local macro_rules | `(tactic| walk_at "wpx") => `(tactic| first
  | with_reducible refine ite2 (fun _ => ?_) (fun z => absurd rfl z)
  | with_reducible refine ite2 (fun z => absurd z Bool.false_ne_true) (fun _ => ?_)
  | ((with_reducible refine gate_wp ?_); (first
    | ((with_reducible apply wp_viewr); (walk_at "st")) | ((with_reducible apply wp_lat); (walk_at "st"))
    | ((with_reducible refine gate_eq ?_); (first | with_reducible refine wp_geqs ?_ | with_reducible refine wp_geqb ?_ | with_reducible refine wp_geq_nil ?_))
    | ((with_reducible refine gate_ne ?_); (first | with_reducible refine wp_gnes ?_ | with_reducible refine wp_gneb ?_ | with_reducible refine wp_gne_nil ?_))
    | ((with_reducible refine gate_ix ?_); (first | ((with_reducible apply wp_ixd); (walk_at "ix")) | ((with_reducible apply wp_ixt); (walk_at "ix")) | ((with_reducible apply wp_ixr); (walk_at "st"); (walk_at "ix"))))
    | ((with_reducible apply wp_trur); (walk_at "st"))
    | ((with_reducible refine wp_l4s ?_ ?_); (first | omega | assumption | decide +kernel)) | with_reducible refine wp_l4 ?_ | ((with_reducible apply wp_l3r); (walk_at "st"))
    | ((with_reducible refine wp_mod ?_ ?_); (walk_at "sd")) | ((with_reducible refine wp_fdiv ?_ ?_); (walk_at "sd")) | ((with_reducible refine wp_mulr ?_ ?_); (walk_at "sd")) | ((with_reducible refine wp_mull ?_ ?_); (walk_at "sd")) | ((with_reducible refine wp_pow ?_ ?_); (walk_at "sd"))
    | ((with_reducible apply wp_lenr); (walk_at "st"))
    | ((with_reducible refine wp_gis ?_ ?_); rfl) | ((with_reducible refine wp_gisn ?_ ?_); rfl)
    | ((with_reducible refine gate_isi ?_); (first | ((with_reducible refine isi_t (r := true) ?_ ?_); (decide +kernel)) | ((with_reducible refine isi_t (r := false) ?_ ?_); (decide +kernel)) | ((with_reducible refine isi_b (r := true) ?_ ?_); (decide +kernel)) | ((with_reducible refine isi_b (r := false) ?_ ?_); (decide +kernel)) | ((with_reducible refine isi_i (r := true) ?_ ?_); (decide +kernel)) | ((with_reducible refine isi_i (r := false) ?_ ?_); (decide +kernel)) | ((with_reducible refine isi_s (r := true) ?_ ?_); (decide +kernel)) | ((with_reducible refine isi_s (r := false) ?_ ?_); (decide +kernel)) | ((with_reducible refine isi_l (r := true) ?_ ?_); (decide +kernel)) | ((with_reducible refine isi_l (r := false) ?_ ?_); (decide +kernel)) | ((with_reducible refine isi_n (r := true) ?_ ?_); (decide +kernel)) | ((with_reducible refine isi_n (r := false) ?_ ?_); (decide +kernel))))
    | ((with_reducible apply wp_tupr); (walk_at "st"))))
  | ((with_reducible refine gate_rq ?_); (first | ((with_reducible apply rq_dt); (walk_at "tk")) | ((with_reducible apply rq_nxt); (walk_at "tk"))))
  | ((with_reducible apply fz_r); (walk_at "st")) | ((with_reducible apply sq_r); (walk_at "st"))
  | ((with_reducible apply atSet_i); (walk_at "st"); rfl) | ((with_reducible apply atLst_i); (walk_at "st")) | ((with_reducible apply nowLst_i); (walk_at "st"))
  | ((with_reducible refine rng1_i ?_ ?_); (walk_at "sd")) | ((with_reducible refine rng2_i ?_ ?_); (walk_at "sd")))
local macro_rules | `(tactic| walk_at "wp") => `(tactic| first
  | with_reducible refine step_of ?_ | ((with_reducible apply wp_var); rfl) | walk_at "wpx")
local macro_rules | `(tactic| walk_at "fdef") => `(tactic| (refine wp_fdef rfl ?_; simp only [List.map_cons, List.map_nil, List.replicate_succ, List.replicate_zero, List.cons_append, List.nil_append]))
local macro_rules | `(tactic| walk_at "keq") => `(tactic| first
  | refine wp_geqD (c := false) (.inr (by decide +kernel)) rfl ?_ | refine wp_geqD (c := true) (.inr (by decide +kernel)) rfl ?_)
local macro_rules | `(tactic| walk_at "wk") => `(tactic| first
  | with_reducible refine step_of ?_ | ((with_reducible apply wp_var); rfl)
  | ((with_reducible refine gate_wp ?_); (first
    | with_reducible refine wp_geqsD (c := false) (by decide +kernel) ?_ | with_reducible refine wp_geqsD (c := true) (by decide +kernel) ?_
    | with_reducible refine wp_gnesD (c := false) (by decide +kernel) ?_ | with_reducible refine wp_gnesD (c := true) (by decide +kernel) ?_
    | with_reducible refine wp_gin_lit (c := true) (by decide +kernel) ?_ | with_reducible refine wp_gin_lit (c := false) (by decide +kernel) ?_))
  | with_reducible refine ite_t rfl ?_ | with_reducible refine ite_f rfl ?_
  | walk_at "wpx")
local macro_rules | `(tactic| walk_at "w1") => `(tactic| (fail_if_success (with_reducible refine th_nx ?_)); walk_at "wk")
local macro_rules | `(tactic| walk_at "rg") => `(tactic| first
  | ((with_reducible apply wrg_hand); rfl) | ((with_reducible apply wrg_left); rfl) | ((with_reducible apply wrg_words); rfl) | ((with_reducible apply wrg_letters); rfl) | ((with_reducible apply wrg_labels); rfl) | ((with_reducible apply wrg_beside); rfl)
  | ((with_reducible refine rq_dW ?_ ?_); rfl)
  | walk_at "wk")
local macro_rules | `(tactic| walk_at "r1") => `(tactic| (fail_if_success (with_reducible refine th_nx ?_)); walk_at "rg")
end EA
namespace EA
open PySem PySem.Spec PyProof.Rows L2
local macro_rules | `(tactic| walk_at "ix") => `(tactic| first | rfl | exact atI_cons0 | exact atI_map0)
local macro_rules | `(tactic| walk_at "st") => `(tactic| first | assumption | rfl | exact get_set (by assumption) | exact get_set (get_set (by assumption)) | exact get_last | exact get_setlast | exact get_setapp (by assumption) | exact get_app (by assumption) | exact get_app (get_set (by assumption)))
local macro_rules | `(tactic| walk_at "tk") => `(tactic| first | exact List.take_length | exact take_set | exact take_set2 | exact take_set3 | exact take_app | exact take_aset | exact take_setapp | rfl)
local macro_rules | `(tactic| walk_at "sd") => `(tactic| first | omega | assumption | decide)
local macro_rules | `(tactic| walk_at "wpx") => `(tactic| first
  | with_reducible refine ite2 (fun _ => ?_) (fun z => absurd rfl z)
  | with_reducible refine ite2 (fun z => absurd z Bool.false_ne_true) (fun _ => ?_)
  | ((with_reducible refine gate_wp ?_); (first
    | ((with_reducible apply wp_viewr); (walk_at "st")) | ((with_reducible apply wp_lat); (walk_at "st"))
    | ((with_reducible refine gate_eq ?_); (first | with_reducible refine wp_geqs ?_ | with_reducible refine wp_geqb ?_ | with_reducible refine wp_geq_nil ?_))
    | ((with_reducible refine gate_ne ?_); (first | with_reducible refine wp_gnes ?_ | with_reducible refine wp_gneb ?_ | with_reducible refine wp_gne_nil ?_))
    | ((with_reducible refine gate_ix ?_); (first | ((with_reducible apply wp_ixd); (walk_at "ix")) | ((with_reducible apply wp_ixt); (walk_at "ix")) | ((with_reducible apply wp_ixr); (walk_at "st"); (walk_at "ix"))))
    | ((with_reducible apply wp_trur); (walk_at "st"))
    | ((with_reducible refine wp_l4s ?_ ?_); (first | omega | assumption | decide +kernel)) | with_reducible refine wp_l4 ?_ | ((with_reducible apply wp_l3r); (walk_at "st"))
    | ((with_reducible refine wp_mod ?_ ?_); (walk_at "sd")) | ((with_reducible refine wp_fdiv ?_ ?_); (walk_at "sd")) | ((with_reducible refine wp_mulr ?_ ?_); (walk_at "sd")) | ((with_reducible refine wp_mull ?_ ?_); (walk_at "sd")) | ((with_reducible refine wp_pow ?_ ?_); (walk_at "sd"))
    | ((with_reducible apply wp_lenr); (walk_at "st"))
    | ((with_reducible refine wp_gis ?_ ?_); rfl) | ((with_reducible refine wp_gisn ?_ ?_); rfl)
    | ((with_reducible refine gate_isi ?_); (first | ((with_reducible refine isi_t (r := true) ?_ ?_); (decide +kernel)) | ((with_reducible refine isi_t (r := false) ?_ ?_); (decide +kernel)) | ((with_reducible refine isi_b (r := true) ?_ ?_); (decide +kernel)) | ((with_reducible refine isi_b (r := false) ?_ ?_); (decide +kernel)) | ((with_reducible refine isi_i (r := true) ?_ ?_); (decide +kernel)) | ((with_reducible refine isi_i (r := false) ?_ ?_); (decide +kernel)) | ((with_reducible refine isi_s (r := true) ?_ ?_); (decide +kernel)) | ((with_reducible refine isi_s (r := false) ?_ ?_); (decide +kernel)) | ((with_reducible refine isi_l (r := true) ?_ ?_); (decide +kernel)) | ((with_reducible refine isi_l (r := false) ?_ ?_); (decide +kernel)) | ((with_reducible refine isi_n (r := true) ?_ ?_); (decide +kernel)) | ((with_reducible refine isi_n (r := false) ?_ ?_); (decide +kernel))))
    | ((with_reducible apply wp_tupr); (walk_at "st"))))
  | ((with_reducible refine gate_rq ?_); (first | ((with_reducible apply rq_dt); (walk_at "tk")) | ((with_reducible apply rq_nxt); (walk_at "tk"))))
  | ((with_reducible apply fz_r); (walk_at "st")) | ((with_reducible apply sq_r); (walk_at "st"))
  | ((with_reducible apply atSet_i); (walk_at "st"); rfl) | ((with_reducible apply atLst_i); (walk_at "st")) | ((with_reducible apply nowLst_i); (walk_at "st"))
  | ((with_reducible refine rng1_i ?_ ?_); (walk_at "sd")) | ((with_reducible refine rng2_i ?_ ?_); (walk_at "sd")))
local macro_rules | `(tactic| walk_at "wp") => `(tactic| first
  | with_reducible refine step_of ?_ | ((with_reducible apply wp_var); rfl) | walk_at "wpx")
local macro_rules | `(tactic| walk_at "fdef") => `(tactic| (refine wp_fdef rfl ?_; simp only [List.map_cons, List.map_nil, List.replicate_succ, List.replicate_zero, List.cons_append, List.nil_append]))
local macro_rules | `(tactic| walk_at "keq") => `(tactic| first
  | refine wp_geqD (c := false) (.inr (by decide +kernel)) rfl ?_ | refine wp_geqD (c := true) (.inr (by decide +kernel)) rfl ?_)
local macro_rules | `(tactic| walk_at "wk") => `(tactic| first
  | with_reducible refine step_of ?_ | ((with_reducible apply wp_var); rfl)
  | ((with_reducible refine gate_wp ?_); (first
    | with_reducible refine wp_geqsD (c := false) (by decide +kernel) ?_ | with_reducible refine wp_geqsD (c := true) (by decide +kernel) ?_
    | with_reducible refine wp_gnesD (c := false) (by decide +kernel) ?_ | with_reducible refine wp_gnesD (c := true) (by decide +kernel) ?_
    | with_reducible refine wp_gin_lit (c := true) (by decide +kernel) ?_ | with_reducible refine wp_gin_lit (c := false) (by decide +kernel) ?_))
  | with_reducible refine ite_t rfl ?_ | with_reducible refine ite_f rfl ?_
  | walk_at "wpx")
local macro_rules | `(tactic| walk_at "w1") => `(tactic| (fail_if_success (with_reducible refine th_nx ?_)); walk_at "wk")
/-! ### numberings -/
end EA
namespace EA
open PySem PySem.Spec PyProof.Rows L2
local macro_rules | `(tactic| walk_at "ix") => `(tactic| first | rfl | exact atI_cons0 | exact atI_map0)
local macro_rules | `(tactic| walk_at "st") => `(tactic| first | assumption | rfl | exact get_set (by assumption) | exact get_set (get_set (by assumption)) | exact get_last | exact get_setlast | exact get_setapp (by assumption) | exact get_app (by assumption) | exact get_app (get_set (by assumption)))
local macro_rules | `(tactic| walk_at "tk") => `(tactic| first | exact List.take_length | exact take_set | exact take_set2 | exact take_set3 | exact take_app | exact take_aset | exact take_setapp | rfl)
local macro_rules | `(tactic| walk_at "sd") => `(tactic| first | omega | assumption | decide)
local macro_rules | `(tactic| walk_at "wpx") => `(tactic| first
  | with_reducible refine ite2 (fun _ => ?_) (fun z => absurd rfl z)
  | with_reducible refine ite2 (fun z => absurd z Bool.false_ne_true) (fun _ => ?_)
  | ((with_reducible refine gate_wp ?_); (first
    | ((with_reducible apply wp_viewr); (walk_at "st")) | ((with_reducible apply wp_lat); (walk_at "st"))
    | ((with_reducible refine gate_eq ?_); (first | with_reducible refine wp_geqs ?_ | with_reducible refine wp_geqb ?_ | with_reducible refine wp_geq_nil ?_))
    | ((with_reducible refine gate_ne ?_); (first | with_reducible refine wp_gnes ?_ | with_reducible refine wp_gneb ?_ | with_reducible refine wp_gne_nil ?_))
    | ((with_reducible refine gate_ix ?_); (first | ((with_reducible apply wp_ixd); (walk_at "ix")) | ((with_reducible apply wp_ixt); (walk_at "ix")) | ((with_reducible apply wp_ixr); (walk_at "st"); (walk_at "ix"))))
    | ((with_reducible apply wp_trur); (walk_at "st"))
    | ((with_reducible refine wp_l4s ?_ ?_); (first | omega | assumption | decide +kernel)) | with_reducible refine wp_l4 ?_ | ((with_reducible apply wp_l3r); (walk_at "st"))
    | ((with_reducible refine wp_mod ?_ ?_); (walk_at "sd")) | ((with_reducible refine wp_fdiv ?_ ?_); (walk_at "sd")) | ((with_reducible refine wp_mulr ?_ ?_); (walk_at "sd")) | ((with_reducible refine wp_mull ?_ ?_); (walk_at "sd")) | ((with_reducible refine wp_pow ?_ ?_); (walk_at "sd"))
    | ((with_reducible apply wp_lenr); (walk_at "st"))
    | ((with_reducible refine wp_gis ?_ ?_); rfl) | ((with_reducible refine wp_gisn ?_ ?_); rfl)
    | ((with_reducible refine gate_isi ?_); (first | ((with_reducible refine isi_t (r := true) ?_ ?_); (decide +kernel)) | ((with_reducible refine isi_t (r := false) ?_ ?_); (decide +kernel)) | ((with_reducible refine isi_b (r := true) ?_ ?_); (decide +kernel)) | ((with_reducible refine isi_b (r := false) ?_ ?_); (decide +kernel)) | ((with_reducible refine isi_i (r := true) ?_ ?_); (decide +kernel)) | ((with_reducible refine isi_i (r := false) ?_ ?_); (decide +kernel)) | ((with_reducible refine isi_s (r := true) ?_ ?_); (decide +kernel)) | ((with_reducible refine isi_s (r := false) ?_ ?_); (decide +kernel)) | ((with_reducible refine isi_l (r := true) ?_ ?_); (decide +kernel)) | ((with_reducible refine isi_l (r := false) ?_ ?_); (decide +kernel)) | ((with_reducible refine isi_n (r := true) ?_ ?_); (decide +kernel)) | ((with_reducible refine isi_n (r := false) ?_ ?_); (decide +kernel))))
    | ((with_reducible apply wp_tupr); (walk_at "st"))))
  | ((with_reducible refine gate_rq ?_); (first | ((with_reducible apply rq_dt); (walk_at "tk")) | ((with_reducible apply rq_nxt); (walk_at "tk"))))
  | ((with_reducible apply fz_r); (walk_at "st")) | ((with_reducible apply sq_r); (walk_at "st"))
  | ((with_reducible apply atSet_i); (walk_at "st"); rfl) | ((with_reducible apply atLst_i); (walk_at "st")) | ((with_reducible apply nowLst_i); (walk_at "st"))
  | ((with_reducible refine rng1_i ?_ ?_); (walk_at "sd")) | ((with_reducible refine rng2_i ?_ ?_); (walk_at "sd")))
local macro_rules | `(tactic| walk_at "wp") => `(tactic| first
  | with_reducible refine step_of ?_ | ((with_reducible apply wp_var); rfl) | walk_at "wpx")
local macro_rules | `(tactic| walk_at "fdef") => `(tactic| (refine wp_fdef rfl ?_; simp only [List.map_cons, List.map_nil, List.replicate_succ, List.replicate_zero, List.cons_append, List.nil_append]))
local macro_rules | `(tactic| walk_at "keq") => `(tactic| first
  | refine wp_geqD (c := false) (.inr (by decide +kernel)) rfl ?_ | refine wp_geqD (c := true) (.inr (by decide +kernel)) rfl ?_)
local macro_rules | `(tactic| walk_at "wk") => `(tactic| first
  | with_reducible refine step_of ?_ | ((with_reducible apply wp_var); rfl)
  | ((with_reducible refine gate_wp ?_); (first
    | with_reducible refine wp_geqsD (c := false) (by decide +kernel) ?_ | with_reducible refine wp_geqsD (c := true) (by decide +kernel) ?_
    | with_reducible refine wp_gnesD (c := false) (by decide +kernel) ?_ | with_reducible refine wp_gnesD (c := true) (by decide +kernel) ?_
    | with_reducible refine wp_gin_lit (c := true) (by decide +kernel) ?_ | with_reducible refine wp_gin_lit (c := false) (by decide +kernel) ?_))
  | with_reducible refine ite_t rfl ?_ | with_reducible refine ite_f rfl ?_
  | walk_at "wpx")
local macro_rules | `(tactic| walk_at "w1") => `(tactic| (fail_if_success (with_reducible refine th_nx ?_)); walk_at "wk")
/-! ### dicts of lists of texts -/
def LT (d : PyData) : Prop := ∃ ss : List Str, ss.length ≤ 10 ∧ (d = .list (ss.map .str) ∨ d = .tuple (ss.map .str))
def DOk (D : List (Key × PyData)) : Prop := ∀ kv ∈ D, (∃ k, kv.1 = .inl k) ∧ LT kv.2
theorem mem_put {k : Key} {v : PyData} {D : List (Key × PyData)} {kv : Key × PyData} (h : kv ∈ putD D k v) : kv = (k, v) ∨ kv ∈ D := by
  unfold putD at h
  split at h
  · obtain ⟨q, hq, rfl⟩ := List.mem_map.mp h
    split
    · rename_i z
      exact .inl (by rw [z])
    · exact .inr hq
  · rcases List.mem_append.mp h with h | h
    · exact .inr h
    · exact .inl (List.mem_singleton.mp h)
theorem DOk.put {D : List (Key × PyData)} {k : Int} {d : PyData} (h : DOk D) (hd : LT d) : DOk (putD D (.inl k) d) := fun kv hkv => by
  rcases mem_put hkv with rfl | hkv
  · exact ⟨⟨k, rfl⟩, hd⟩
  · exact h kv hkv
end EA
namespace EA
open PySem PySem.Spec PyProof.Rows L2
/-! ### defs that make lambdas; the law that starts with tables -/
/-- a def whose code object stands at c -/
structure FunL (K : PySem.W.Frag) (x qual : Str) (st : Stmt) (f : Addr) (fd : FuncData) (c : Addr) : Prop where
  ex : ∃ (oc : Value) (od : Option Addr) (kV doc pm : Value) (an : Option Addr) (ct : Value) (osl : Array (Option Value)),
    fd = PySem.W.fnOf x qual (defArgs st) (defBody st) (defScope st) .none kV doc pm an (.ref c) ct ∧ K.lookup f = some ⟨oc, od, .func fd, osl⟩ ∧ PySem.W.codeIn K (.ref c) qual = true
  kp : PySem.W.keepIn K (.ref f) = true
section
variable {P : Program} {w : World} {K : PySem.W.Frag} {mg : Str → Option Value} {base : Heap} {x qual : Str} {st : Stmt} {f c : Addr} {fd : FuncData} {N ps : List Str} {k : Nat}
theorem FunL.ok {sp : Sp} (F : FunL K x qual st f fd c) (S : FnScope N ps (defScope st)) (len : ∀ vs H Q E, sp vs H Q E → vs.length = ps.length)
    (hbody : ∀ (A : Around) (outer : List Env) (s : Shared) (H : Hp) (vs : List V) (Q : VK) (E : XK), Room k (A.deeper (envOfC qual (defScope st) s.heap.objs.size f (.ref c))) → sp vs H Q E →
      ∃ t, PSs (cxOf CX0 P w K mg base N qual (defScope st) f (.ref c) A outer s H E).nox (defBody st) t ∧ t { nx := fun _ H' => Q .non H', rt := Q } (start N vs) H) : FnOk P w K mg base CX0 (k + 1) f fd ps sp := by
  obtain ⟨oc, od, kV, doc, pm, an, ct, osl, rfl, lk, hcd⟩ := F.ex
  refine fn_of lk hcd S len fun A outer s H vs Q E hr hsp => ?_
  obtain ⟨t, h, q⟩ := hbody A outer s H vs Q E hr hsp
  exact ⟨t, h.nox, q⟩
end
end EA
namespace EA
open PySem PySem.Spec PyProof.Rows L2
/-! ### {8: x, ..}: written numbers, data -/
section
variable {K : PySem.W.Frag} {X : Cx} {σ : L2.St} {sl : Sl}
def idF : List (Int × FE) → Sl → List MO → Option (List (Key × PyData) × List MO)
  | [], _, S => some ([], S)
  | (k, f) :: r, sl, S => (f sl S).bind fun p => match p.1 with
    | .d x => (idF r sl p.2).map fun q => ((.inl k, x) :: q.1, q.2)
    | _ => none
def eID (fs : List (Int × FE)) : FE := fun sl S => (idF fs sl S).bind fun p => if (p.1.map (·.1)).Nodup ∧ p.1.length ≤ 15 then some (.r p.2.length, p.2 ++ [.dic p.1]) else none
theorem DaK.keys {G : Hp} {vs : List (Key × V)} {ds : List (Key × PyData)} (h : DaK K G vs ds) : vs.map (·.1) = ds.map (·.1) := by
  induction h with
  | nil => rfl
  | cons _ _ ih => rw [List.map_cons, List.map_cons, ih]
end
end EA
namespace EA
open PySem PySem.Spec PyProof.Rows L2
/-! ### rules for S28, S30, S31: sorting by the first, d.pop, d.setdefault, displays with number keys -/
section
variable {sl : Sl} {S : List MO} {Q : W3 → List MO → Prop} {QN : List PyData → List MO → Prop} {QK : List (Key × PyData) → List MO → Prop}
theorem wp_id {fs : List (Int × FE)} (h : Wp2 (idF fs sl S) fun kvs S1 => ((kvs.map (·.1)).Nodup ∧ kvs.length ≤ 15) ∧ Q (.r S1.length) (S1 ++ [.dic kvs])) : Wp2 (eID fs sl S) Q := by
  obtain ⟨⟨kvs, S1⟩, e, z, q⟩ := h
  refine ⟨(.r S1.length, S1 ++ [.dic kvs]), ?_, q⟩
  unfold eID
  rw [e]
  exact if_pos z
theorem wp_id0 (q : QK [] S) : Wp2 (idF [] sl S) QK := ⟨([], S), rfl, q⟩
theorem wp_id1 {k : Int} {f : FE} {r : List (Int × FE)} (h : Wp2 (f sl S) fun p1 p2 => ∃ x, p1 = .d x ∧ Wp2 (idF r sl p2) fun q1 q2 => QK ((.inl k, x) :: q1) q2) : Wp2 (idF ((k, f) :: r) sl S) QK := by
  obtain ⟨⟨p1, p2⟩, e1, x, h1, ⟨q1, q2⟩, e2, q⟩ := h
  dsimp only at h1 e2 q
  subst h1
  refine ⟨((.inl k, x) :: q1, q2), ?_, q⟩
  unfold idF
  rw [e1]
  simp only [Option.bind_some, e2, Option.map_some]
instance st_id0 : Step (Wp2 (idF [] sl S) QK) (QK [] S) := ⟨wp_id0⟩
instance st_id1 {k : Int} {f : FE} {r : List (Int × FE)} : Step (Wp2 (idF ((k, f) :: r) sl S) QK) (Wp2 (f sl S) fun p1 p2 => ∃ x, p1 = .d x ∧ Wp2 (idF r sl p2) fun q1 q2 => QK ((.inl k, x) :: q1) q2) := ⟨wp_id1⟩
instance st_id {fs : List (Int × FE)} : Step (Wp2 (eID fs sl S) Q) (Wp2 (idF fs sl S) fun kvs S1 => ((kvs.map (·.1)).Nodup ∧ kvs.length ≤ 15) ∧ Q (.r S1.length) (S1 ++ [.dic kvs])) := ⟨wp_id⟩
end
/-! ### a dict without a key -/
end EA
namespace EA
open PySem PySem.Spec PyProof.Rows L2
/-! ### instances of the program's own classes: fields, methods, their making -/
def insAt (S : List MO) (n : Str) : W3 → Option (List (Str × W3))
  | .r i => match S[i]? with
    | some (.ins m kvs) => if m = n then some kvs else none
    | _ => none
  | _ => none
def fput (f : Str) (w : W3) : List (Str × W3) → List (Str × W3)
  | [] => [(f, w)]
  | (g, x) :: r => if g = f then (g, w) :: r else (g, x) :: fput f w r
section
variable {K : PySem.W.Frag} {X : Cx} {A B C : Wd} {S S' : List MO} {σ : L2.St} {sl : Sl} {v : V} {w : W3}
theorem insAt_of {n : Str} {Ca : Addr} {kvs : List (Str × W3)} (hc : clsAt K n Ca) (R : Rl K A S) (r : RW K A v w) (e : insAt S n w = some kvs) : ∃ i a dx ks, w = .r i ∧ A.ι[i]? = some a ∧ S[i]? = some (.ins n kvs) ∧ v = .ref a ∧ A.G a = none ∧ A.H a = some (.ins Ca dx ks) ∧ FsA K A ks kvs := by
  cases w with
  | r i =>
    obtain ⟨a, ha, rfl⟩ := r
    unfold insAt at e
    dsimp only at e
    cases o : S[i]? with
    | none => rw [o] at e; cases e
    | some m =>
      rw [o] at e
      cases m with
      | ins m ys =>
        dsimp only at e
        by_cases z : m = n
        · rw [if_pos z] at e
          cases e
          subst z
          obtain ⟨g, C', dx, ks, h0, h3, h4⟩ := R.ob i _ a o ha
          have : C' = Ca := by
            have h0' : PySem.W.nsIn K mainGlobals m = some (some (.ref C')) := h0
            have hc' : PySem.W.nsIn K mainGlobals m = some (some (.ref Ca)) := hc
            rw [h0'] at hc'
            cases hc'
            rfl
          subst this
          exact ⟨i, a, dx, ks, rfl, ha, o, rfl, g, h3, h4⟩
        · rw [if_neg z] at e; cases e
      | _ => cases e
  | _ => cases e
theorem FsA.len {ks : List (Str × V)} {kvs : List (Str × W3)} (h : FsA K A ks kvs) : ks.length = kvs.length := by
  induction h with
  | nil => rfl
  | cons _ _ ih => rw [List.length_cons, List.length_cons, ih]
theorem FsA.val {ks : List (Str × V)} {kvs : List (Str × W3)} {k : Str} (h : FsA K A ks kvs) : (∀ w, kvs.lookup k = some w → ∃ v, ks.lookup k = some v ∧ RW K A v w) ∧ (kvs.lookup k = none → ks.lookup k = none) := by
  induction h with
  | nil => exact ⟨(fun w e => nomatch e), fun _ => rfl⟩
  | @cons s v' w' ks kvs hv _ ih =>
    rw [List.lookup_cons, List.lookup_cons]
    by_cases c : k = s
    · subst c
      rw [beq_self_eq_true]
      exact ⟨(fun w e => by cases e; exact ⟨v', rfl, hv⟩), fun e => nomatch e⟩
    · rw [show (k == s) = false from beq_eq_false_iff_ne.mpr c]
      exact ih
theorem FsA.put {ks : List (Str × V)} {kvs : List (Str × W3)} {k : Str} {v : V} {w : W3} (h : FsA K A ks kvs) (hv : RW K A v w) : FsA K A (putF k v ks) (fput k w kvs) := by
  induction h with
  | nil => exact .cons hv .nil
  | @cons s v' w' ks kvs hv' h ih =>
    show FsA K A (if s = k then (s, v) :: ks else (s, v') :: putF k v ks) (if s = k then (s, w) :: kvs else (s, w') :: fput k w kvs)
    by_cases c : s = k
    · rw [if_pos c, if_pos c]; exact .cons hv h
    · rw [if_neg c, if_neg c]; exact .cons hv' ih
/-! o.f -/
def eFG (n : Str) (o : FE) (f : Str) : FE := fun sl S => (o sl S).bind fun p => (insAt p.2 n p.1).bind fun kvs => (kvs.lookup f).map fun w => (w, p.2)
theorem e_fg {n : Str} {Ca : Addr} {o : Expr} {fo : FE} {f : Str} {pos : Pos} (hK : X.K = K) (hc : clsAt K n Ca) (c : Cls K Ca) (na : NoAttr K Ca f) (ho : PE3 K X o fo) (hb : attributeBase o f X.env (eval o X.env) = eval o X.env := by rfl) : PE3 K X (.Attribute o f pos) (eFG n fo f) := ⟨pe_imp (pe_fld ho.p hb) fun σ H Q h => by
  subst hK
  obtain ⟨A, S, sl, w, S', rfl, R, s, e, q⟩ := h
  obtain ⟨⟨w1, S1⟩, e1, e⟩ := Option.bind_eq_some_iff.mp e
  refine ⟨A, S, sl, w1, S1, rfl, R, s, e1, fun B v n R1 r1 => ?_⟩
  dsimp only at e
  obtain ⟨kvs, e2, e⟩ := Option.bind_eq_some_iff.mp e
  obtain ⟨w2, e3, e⟩ := Option.map_eq_some_iff.mp e
  cases e
  obtain ⟨i, a, dx, ks, rfl, ha, hS, rfl, g, hH, hF⟩ := insAt_of hc R1 r1 e2
  obtain ⟨u, hu, ru⟩ := hF.val.1 _ e3
  exact ⟨a, Ca, dx, ks, u, rfl, hH, c, na, hu, q B u n R1 ru⟩⟩
theorem Rl.ins {n : Str} {Ca a dx : Addr} {i : Nat} {ks : List (Str × V)} {kvs : List (Str × W3)} (hc : clsAt K n Ca) (R : Rl K A S) (ha : A.ι[i]? = some a) (g : A.G a = none) (hz : nfz (A.H a) = true) (h : FsA K A ks kvs) : Nx A ⟨A.G, upd A.H a (.ins Ca dx ks), A.ι⟩ ∧ Rl K ⟨A.G, upd A.H a (.ins Ca dx ks), A.ι⟩ (S.set i (.ins n kvs)) :=
  Nx.wr R ha g ⟨g, Ca, dx, ks, hc, upd_same, FsA.monov (A := A) (B := ⟨A.G, upd A.H a (.ins Ca dx ks), A.ι⟩) ⟨Same.refl _, List.prefix_rfl⟩ h⟩ hz
/-! o.f = e -/
def sFS (n : Str) (o : FE) (f : Str) (v : FE) : FS := fun sl S => (v sl S).bind fun p => (o sl p.2).bind fun q => (insAt q.2 n q.1).bind fun kvs => if kvs.length < 900 then some (.nx sl (setAt q.2 q.1 (.ins n (fput f p.1 kvs)))) else none
theorem s_fs {n : Str} {Ca : Addr} {o v : Expr} {fo fv : FE} {f : Str} {pos pos' : Pos} (hK : X.K = K) (hc : clsAt K n Ca) (c : Cls K Ca) (na : NoAttr K Ca f) (ho : PE3 K X o fo) (hv : PE3 K X v fv) (hs : swapsWith v (some (.Attribute o f pos')) pos.line X.env = pure false := by rfl) : PS3 K X (.Assign [.Attribute o f pos'] v pos) (sFS n fo f fv) := ⟨ps_imp (ps_fld ho.p hv.p hs) fun D σ H h => by
  subst hK
  obtain ⟨A, S, sl, oo, rfl, R, s, e, q⟩ := h
  obtain ⟨⟨w1, S1⟩, e1, e⟩ := Option.bind_eq_some_iff.mp e
  obtain ⟨⟨w2, S2⟩, e2, e⟩ := Option.bind_eq_some_iff.mp e
  dsimp only at e
  obtain ⟨kvs, e3, e⟩ := Option.bind_eq_some_iff.mp e
  by_cases z : kvs.length < 900
  · rw [if_pos z] at e
    cases e
    refine ⟨A, S, sl, w1, S1, rfl, R, s, e1, fun B v1 n R1 r1 => ⟨B, S1, sl, w2, S2, rfl, R1, s.mono n, e2, fun D2 v2 n2 R2 r2 => ?_⟩⟩
    obtain ⟨i, a, dx, ks, rfl, ha, hS, rfl, g, hH, hF⟩ := insAt_of hc R2 r2 e3
    refine ⟨a, Ca, dx, ks, rfl, hH, c, na, by rw [hF.len]; omega, ?_⟩
    obtain ⟨n3, R3⟩ := Rl.ins (dx := dx) hc R2 ha g (by rw [hH]; rfl) (hF.put (r1.mono n2))
    exact q _ σ ((n.trans n2).trans n3) R3 (s.mono ((n.trans n2).trans n3))
  · rw [if_neg z] at e; cases e⟩
/-! o.f += i -/
def sFA (n : Str) (o : FE) (f : Str) (v : FE) : FS := fun sl S => (o sl S).bind fun p => (insAt p.2 n p.1).bind fun kvs => match kvs.lookup f with
  | some (.d (.int i)) => (v sl p.2).bind fun q => match q.1 with
    | .d (.int j) => (insAt q.2 n p.1).bind fun kvs2 => if kvs2.length < 900 then some (.nx sl (setAt q.2 p.1 (.ins n (fput f (.d (.int (i + j))) kvs2)))) else none
    | _ => none
  | _ => none
theorem s_fa {n : Str} {Ca : Addr} {o v : Expr} {fo fv : FE} {f : Str} {pos pos' : Pos} (hK : X.K = K) (hc : clsAt K n Ca) (c : Cls K Ca) (na : NoAttr K Ca f) (ho : PE3 K X o fo) (hv : PE3 K X v fv) : PS3 K X (.AugAssign (.Attribute o f pos') .Add v pos) (sFA n fo f fv) := ⟨ps_imp (ps_fldaug ho.p hv.p in_add) fun D σ H h => by
  subst hK
  obtain ⟨A, S, sl, oo, rfl, R, s, e, q⟩ := h
  obtain ⟨⟨w1, S1⟩, e1, e⟩ := Option.bind_eq_some_iff.mp e
  dsimp only at e
  obtain ⟨kvs, e2, e⟩ := Option.bind_eq_some_iff.mp e
  refine ⟨A, S, sl, w1, S1, rfl, R, s, e1, fun B v1 n R1 r1 => ?_⟩
  obtain ⟨i, a, dx, ks, rfl, ha, hS, rfl, g, hH, hF⟩ := insAt_of hc R1 r1 e2
  split at e
  · rename_i iv hl
    obtain ⟨⟨w2, S2⟩, e3, e⟩ := Option.bind_eq_some_iff.mp e
    dsimp only at e
    split at e
    · rename_i jv
      obtain ⟨kvs2, e4, e⟩ := Option.bind_eq_some_iff.mp e
      by_cases z : kvs2.length < 900
      · rw [if_pos z] at e
        cases e
        obtain ⟨u, hu, ru⟩ := hF.val.1 _ hl
        have ru := Da.int_inv ru
        subst ru
        refine ⟨a, Ca, dx, ks, _, rfl, hH, c, na, hu, B, S1, sl, .d (.int jv), S2, rfl, R1, s.mono n, e3, fun D2 v2 n2 R2 r2 => ?_⟩
        obtain ⟨i', a', dx', ks', ew, ha', hS', ev, g', hH', hF'⟩ := insAt_of hc R2 (r1.mono n2) e4
        cases ew
        cases ev
        have r2 := Da.int_inv r2
        subst r2
        refine ⟨iv, jv, rfl, rfl, dx', ks', hH', by rw [hF'.len]; omega, ?_⟩
        obtain ⟨n3, R3⟩ := Rl.ins (dx := dx') (ks := putF f (.int (iv + jv)) ks') (kvs := fput f (.d (.int (iv + jv))) kvs2) hc R2 ha' g' (by rw [hH']; rfl) (hF'.put (Da.int _))
        exact q _ σ ((n.trans n2).trans n3) R3 (s.mono ((n.trans n2).trans n3))
      · rw [if_neg z] at e; cases e
    · cases e
  · cases e⟩
/-! o.m(..) -/
def eMt (n : Str) (m : Str) (f3 : F3) (o : FE) (a : FA) : FE := fun sl S => (o sl S).bind fun p => (insAt p.2 n p.1).bind fun kvs => if kvs.lookup m = none then (a sl p.2).bind fun u => f3 (p.1 :: u.1) u.2 else none
theorem mt_imp {n m : Str} {Ca : Addr} {f3 : F3} {fo : FE} {fa : FA} (hc : clsAt K n Ca) {σ : L2.St} {H : Hp} {Q : VK} {E : XK} (h : teO K (eMt n m f3 fo fa) σ H Q) : tMeth Ca m (sp3 K f3) [] E (teO K fo) (taO K fa) σ H Q := by
  obtain ⟨A, S, sl, w, S', rfl, R, s, e, q⟩ := h
  obtain ⟨⟨w1, S1⟩, e1, e⟩ := Option.bind_eq_some_iff.mp e
  dsimp only at e
  obtain ⟨kvs, e2, e⟩ := Option.bind_eq_some_iff.mp e
  by_cases z : kvs.lookup m = none
  · rw [if_pos z] at e
    obtain ⟨⟨ws, S2⟩, e3, e⟩ := Option.bind_eq_some_iff.mp e
    refine ⟨A, S, sl, w1, S1, rfl, R, s, e1, fun B v1 n R1 r1 => ?_⟩
    obtain ⟨i, a, dx, ks, rfl, ha, hS, rfl, g, hH, hF⟩ := insAt_of hc R1 r1 e2
    refine ⟨a, dx, ks, rfl, hH, hF.val.2 z, B, S1, sl, ws, S2, rfl, R1, s.mono n, e3, fun D vs n2 R2 r2 => ⟨D, S2, .r i :: ws, w, S', rfl, R2, by rw [List.append_nil]; exact .cons (r1.mono n2) r2, e, fun D2 v n3 R3 r3 => q D2 v ((n.trans n2).trans n3) R3 r3⟩⟩
  · rw [if_neg z] at e; cases e
theorem meth_nil {m : Str} {Ca : Addr} {sp : Sp} {fo : FE} {σ : L2.St} {H : Hp} {Q : VK} {E : XK} (h : tMeth Ca m sp [] E (teO K fo) (taO K aNil) σ H Q) : tMeth Ca m sp [] E (teO K fo) tNil σ H Q := by
  obtain ⟨A, S, sl, w1, S1, rfl, R, s, e1, q⟩ := h
  refine ⟨A, S, sl, w1, S1, rfl, R, s, e1, fun B v n R1 r1 => ?_⟩
  obtain ⟨a, dx, fs, h1, h2, h3, A2, S2, sl2, ws, S3, eH, R2, s2, e2, q2⟩ := q B v n R1 r1
  cases e2
  refine ⟨a, dx, fs, h1, h2, h3, ?_⟩
  have := q2 A2 [] (Nx.refl A2) R2 .nil
  rw [eH] at this
  exact this
theorem e_mt {n m : Str} {Ca : Addr} {k : Nat} {f : Addr} {fd : FuncData} {ps : List Str} {o e : Expr} {es : List Expr} {fo : FE} {fa : FA} {f3 : F3} {pos apos : Pos} {pl : Sem Bool} (hK : X.K = K) (hc : clsAt K n Ca) (c : Cls K Ca) (hm : Meth K Ca m f) (F : FnOk X.prog X.w X.K X.mg X.base CX0 k f fd ps (sp3 K f3)) (hr : Room k X.A) (hb : Binds X.K fd ps []) (ho : PE3 K X o fo) (ha : PA3 K X (e :: es) fa)
    (hst : starEach (e :: es) X.env = (false, eval e X.env) :: starEach es X.env := by rfl) (hpl : (backTo pos (starEach es X.env)).any (·.1) = false := by rfl)
    (ht : eval (.Call (.Attribute o m apos) (e :: es) [] pos) X.env = (do
      let ov ← eval o X.env
      standAt apos.atName
      let (f, first) ← holding [ov] (getMethod ov m pl)
      callWith pos f first (backTo pos (starEach (e :: es) X.env)) (backToKw pos (keywordEach [] X.env))) := by rfl) : PE3 K X (.Call (.Attribute o m apos) (e :: es) [] pos) (eMt n m f3 fo fa) := by
  subst hK
  exact ⟨pe_imp (pe_meth (dvs := []) ho.p c hm F hr hb .nil pass0 ha.p hst hpl ht) fun σ H Q h => mt_imp hc h⟩
theorem e_mt0 {n m : Str} {Ca : Addr} {k : Nat} {f : Addr} {fd : FuncData} {ps : List Str} {o : Expr} {fo : FE} {f3 : F3} {pos apos : Pos} {pl : Sem Bool} (hK : X.K = K) (hc : clsAt K n Ca) (c : Cls K Ca) (hm : Meth K Ca m f) (F : FnOk X.prog X.w X.K X.mg X.base CX0 k f fd ps (sp3 K f3)) (hr : Room k X.A) (hb : Binds X.K fd ps []) (ho : PE3 K X o fo)
    (ht : eval (.Call (.Attribute o m apos) [] [] pos) X.env = (do
      let ov ← eval o X.env
      standAt apos.atName
      let (f, first) ← holding [ov] (getMethod ov m pl)
      callWith pos f first (backTo pos (starEach [] X.env)) (backToKw pos (keywordEach [] X.env))) := by rfl) : PE3 K X (.Call (.Attribute o m apos) [] [] pos) (eMt n m f3 fo aNil) := by
  subst hK
  exact ⟨pe_imp (pe_meth0 (dvs := []) ho.p c hm F hr hb .nil pass0 ht) fun σ H Q h => meth_nil (mt_imp hc h)⟩
/-! C(..) -/
def eMk (n : Str) (f3 : F3) (a : FA) : FE := fun sl S => (a sl S).bind fun p => (f3 (.r p.2.length :: p.1) (p.2 ++ [.ins n []])).bind fun q => match q.1 with
  | .d .none => some (.r p.2.length, q.2)
  | _ => none
theorem mk_imp {n : Str} {Ca : Addr} {f3 : F3} {fa : FA} (hc : clsAt K n Ca) {σ : L2.St} {H : Hp} {Q : VK} {E : XK} (h : teO K (eMk n f3 fa) σ H Q) : tMake Ca (sp3 K f3) [] E (taO K fa) σ H Q := by
  obtain ⟨A, S, sl, w, S', rfl, R, s, e, q⟩ := h
  obtain ⟨⟨ws, S1⟩, e1, e⟩ := Option.bind_eq_some_iff.mp e
  dsimp only at e
  obtain ⟨⟨w2, S2⟩, e2, e⟩ := Option.bind_eq_some_iff.mp e
  dsimp only at e
  split at e
  · rename_i hw
    cases e
    refine ⟨A, S, sl, ws, S1, rfl, R, s, e1, fun B vs nn R1 r1 x dx hx hd hne => ?_⟩
    obtain ⟨n1, R2⟩ := Nx.junk R1 (o := .own x) hd
    have hx2 : (upd B.H dx (.own x)) x = none := by rw [upd_ne hne.symm]; exact hx
    obtain ⟨n2, R3⟩ := Nx.own (A := ⟨B.G, upd B.H dx (.own x), B.ι⟩) (u := .ins Ca dx []) (o := .ins n []) R2 hx2 ⟨R2.gh.free hx2, Ca, dx, [], hc, upd_same, .nil⟩
    have n3 := n1.trans n2
    have rl := RW.last (K := K) (B := ⟨B.G, upd (upd B.H dx (.own x)) x (.ins Ca dx []), B.ι⟩) (p := x) (S := S1) R1.len
    refine ⟨⟨B.G, upd (upd B.H dx (.own x)) x (.ins Ca dx []), B.ι ++ [x]⟩, S1 ++ [.ins n []], .r S1.length :: ws, .d .none, _, rfl, R3, by rw [List.append_nil]; exact .cons rl (r1.mono n3), e2, fun D v n4 R4 r4 => ⟨Da.non_inv r4, q D _ ((nn.trans n3).trans n4) R4 (rl.mono n4)⟩⟩
  · cases e
theorem e_mk {n : Str} {Ca : Addr} {k : Nat} {f : Addr} {fd : FuncData} {ps : List Str} {e : Expr} {es : List Expr} {fa : FA} {f3 : F3} {x : Str} {pos p : Pos} (hK : X.K = K) (hc : clsAt K n Ca) (M : Mk K Ca f) (F : FnOk X.prog X.w X.K X.mg X.base CX0 k f fd ps (sp3 K f3)) (hr : Room (k + 1) X.A) (hg : Gl X x) (hm : X.mg x = some (.ref Ca)) (hb : Binds X.K fd ps []) (ha : PA3 K X (e :: es) fa)
    (hdb : (x == ("__debug__" : Str)) = false := by decide) (he : starEach (e :: es) X.env = (false, eval e X.env) :: starEach es X.env := by rfl) (hpl : (backTo pos (starEach es X.env)).any (·.1) = false := by rfl) : PE3 K X (.Call (.Name x p) (e :: es) [] pos) (eMk n f3 fa) := by
  subst hK
  exact ⟨pe_imp (pe_make (dvs := []) M F hr hg hm hb .nil pass0 ha.p hdb he hpl) fun σ H Q h => mk_imp hc h⟩
end
end EA
namespace EA
open PySem PySem.Spec PyProof.Rows L2
/-! ### written whole numbers of the top; statements that are never reached; defs with a number as a default -/
section
variable {K : PySem.W.Frag} {X : Cx} {st : Stmt} {pos : Pos}
theorem e_topI {x : Str} {i : Int} {t : Tok} (hg : Gl X x) (hm : X.mg x = some (.int i t)) (hd : (x == ("__debug__" : Str)) = false := by decide) : PE3 K X (.Name x pos) (eD (.int i)) := ⟨pe_imp (pe_glob (v := .int i) hg hm ⟨t, rfl⟩ hd) fun σ H Q h' => by
  obtain ⟨A, S, sl, w, S', rfl, R, s, e, q⟩ := h'
  cases e
  exact q A (.int i) (Nx.refl A) R (Da.int i)⟩
/-- never reached -/
def sNo : FS := fun _ _ => none
theorem s_no : PS3 K X st sNo := ⟨⟨fun pins s σ H D I h => by
  obtain ⟨A, S, sl, o, _, _, _, e, _⟩ := h
  cases e⟩⟩
end
theorem fd_posI {K : PySem.W.Frag} {x qual : Str} {st : Stmt} {f T : Addr} {oc kV : Value} {od an : Option Addr} {doc pm cdv ct : Value} {osl tsl : Array (Option Value)} {n : Nat} {i : Int} {t : Tok}
    (l : K.lookup f = some ⟨oc, od, .func (PySem.W.fnOf x qual (defArgs st) (defBody st) (defScope st) (.ref T) kV doc pm an cdv ct), osl⟩) (c : PySem.W.codeIn K cdv qual = true) (k : PySem.W.keepIn K (.ref f) = true) (tl : K.lookup T = some ⟨.type "tuple", none, .seq #[.int i t] n, tsl⟩) :
    FunD K x qual (defArgs st) (defBody st) (defScope st) [.int i] [] f (PySem.W.fnOf x qual (defArgs st) (defBody st) (defScope st) (.ref T) kV doc pm an cdv ct) :=
  ⟨⟨oc, od, .ref T, kV, doc, pm, an, cdv, ct, osl, rfl, l, c, .inr ⟨by simp, T, _, [.int i t], n, rfl, tl, rfl, .cons ⟨t, rfl⟩ .nil⟩, .inl rfl⟩, k⟩
/-- a def with defaults, called with all its parameters, the last of them by name -/
theorem kb_mkD {K : PySem.W.Frag} {x qual : Str} {params : Arguments} {body : List Stmt} {scope : Scope} {dvs : List V} {f : Addr} {fd : FuncData} {ps ks : List Str} {m : Nat} (F : FunD K x qual params body scope dvs [] f fd) (hd : dvs ≠ []) (hm : ps.length = m + ks.length) (hp : 0 < ps.length)
    (h : ∀ (T : Addr) (kV doc pm : Value) (an : Option Addr) (cdv ct : Value) (us its ws : List Value), us.length = m → its.length = dvs.length → ws.length = ks.length → ∃ k, bindArgs (PySem.W.fnOf x qual params body scope (.ref T) kV doc pm an cdv ct) ⟨us, ks.zip ws⟩ = seqItems? (.ref T) >>= k ∧ k (some its.toArray) = pure (ps.zip (us ++ ws))) : KBinds K fd ps ks (kG m ks.length) (kG m ks.length) := by
  obtain ⟨oc, od, dV, kV, doc, pm, an, cdv, ct, osl, rfl, lk, hcd, hD, hK⟩ := F.ex
  rcases hD with ⟨e, _⟩ | ⟨_, T, o, its, n, rfl, lT, oT, rT⟩
  · exact absurd e hd
  · refine ⟨fun s us ws X hl => ?_, fun {vs us zs ws} r rz => ?_⟩
    · unfold kG at hl ⊢
      by_cases z : us.length = m ∧ ws.length = ks.length
      · rw [if_pos z] at hl ⊢
        obtain ⟨k, e1, e2⟩ := h T kV doc pm an cdv ct us its ws z.1 rT.length.symm z.2
        refine BindsTo.of_looks fun M => ?_
        rw [e1]
        exact looks_items X lT oT (.of_pure e2)
      · rw [if_neg z, List.length_nil] at hl; omega
    · unfold kG
      rw [r.length, rz.length]
      by_cases z : us.length = m ∧ ws.length = ks.length
      · rw [if_pos z, if_pos z]; exact r.append rz
      · rw [if_neg z, if_neg z]; exact .nil
end EA
namespace EA
open PySem PySem.Spec PyProof.Rows L2
/-! ### rules for instances: fields, methods, their making; calls by keyword -/
def InsF (n : Str) (w : W3) (S : List MO) (f : Str) (K : W3 → Prop) : Prop := ∃ kvs x, insAt S n w = some kvs ∧ kvs.lookup f = some x ∧ K x
def InsP (n : Str) (w : W3) (S : List MO) (f : Str) (v : W3) (K : List MO → Prop) : Prop := ∃ kvs, insAt S n w = some kvs ∧ kvs.length < 900 ∧ K (setAt S w (.ins n (fput f v kvs)))
def InsM (n : Str) (w : W3) (S : List MO) (m : Str) (G : Prop) : Prop := ∃ kvs, insAt S n w = some kvs ∧ kvs.lookup m = none ∧ G
def NonW (w : W3) (G : Prop) : Prop := w = .d .none ∧ G
theorem nonW_i {G : Prop} (g : G) : NonW (.d .none) G := ⟨rfl, g⟩
section
variable {sl : Sl} {S : List MO} {Q : W3 → List MO → Prop} {QS : Out → Prop} {n f m : Str} {f3 : F3} {o v : FE} {a k : FA}
theorem wp_fg (h : Wp2 (o sl S) fun p1 p2 => InsF n p1 p2 f fun w => Q w p2) : Wp2 (eFG n o f sl S) Q := wp_bind.mpr (Wp.imp h fun p ⟨kvs, x, e1, e2, q⟩ => wp_bind.mpr (wp_eq e1 (wp_map.mpr (wp_eq e2 q))))
theorem wp_fs (h : Wp2 (v sl S) fun p1 p2 => Wp2 (o sl p2) fun q1 q2 => InsP n q1 q2 f p1 fun S' => QS (.nx sl S')) : Wp (sFS n o f v sl S) QS := wp_bind.mpr (Wp.imp h fun p h => wp_bind.mpr (Wp.imp h fun q ⟨kvs, e1, e2, q⟩ => wp_bind.mpr (wp_eq e1 (by
  rw [if_pos e2]
  exact wp_some.mpr q))))
theorem wp_fa (h : Wp2 (o sl S) fun p1 p2 => InsF n p1 p2 f fun x => IntW x fun i => Wp2 (v sl p2) fun q1 q2 => IntW q1 fun j => InsP n p1 q2 f (.d (.int (i + j))) fun S' => QS (.nx sl S')) : Wp (sFA n o f v sl S) QS := wp_bind.mpr (Wp.imp h fun p ⟨kvs, x, e1, e2, i, e3, h⟩ => wp_bind.mpr (wp_eq e1 (by
  rw [e2, e3]
  exact wp_bind.mpr (Wp.imp h fun q ⟨j, e4, kv2, e5, e6, q⟩ => by
    dsimp only at e4 e5 q ⊢
    rw [e4]
    exact wp_bind.mpr (wp_eq e5 (by rw [if_pos e6]; exact wp_some.mpr q))))))
theorem wp_mt (h : Wp2 (o sl S) fun p1 p2 => InsM n p1 p2 m (Wp2 (a sl p2) fun u1 u2 => Wp2 (f3 (p1 :: u1) u2) Q)) : Wp2 (eMt n m f3 o a sl S) Q := wp_bind.mpr (Wp.imp h fun p ⟨kvs, e1, e2, h⟩ => wp_bind.mpr (wp_eq e1 (by
  rw [if_pos e2]
  exact wp_bind.mpr h)))
theorem wp_mk (h : Wp2 (a sl S) fun p1 p2 => Wp2 (f3 (.r p2.length :: p1) (p2 ++ [.ins n []])) fun q1 q2 => NonW q1 (Q (.r p2.length) q2)) : Wp2 (eMk n f3 a sl S) Q := wp_bind.mpr (Wp.imp h fun p h => wp_bind.mpr (Wp.imp h fun q ⟨e, q⟩ => by
  rw [e]
  exact wp_some.mpr q))
theorem wp_callK {mm nn : Nat} (h : Wp2 (a sl S) fun p1 p2 => Wp2 (k sl p2) fun q1 q2 => (p1.length = mm ∧ q1.length = nn) ∧ Wp2 (f3 (p1 ++ q1) q2) Q) : Wp2 (eCallK mm nn f3 a k sl S) Q := wp_bind.mpr (Wp.imp h fun p h => wp_bind.mpr (Wp.imp h fun q ⟨e, q⟩ => by
  rw [if_pos e]
  exact q))
instance st_fg : Step (Wp2 (eFG n o f sl S) Q) (Wp2 (o sl S) fun p1 p2 => InsF n p1 p2 f fun w => Q w p2) := ⟨wp_fg⟩
instance st_fs : Step (Wp (sFS n o f v sl S) QS) (Wp2 (v sl S) fun p1 p2 => Wp2 (o sl p2) fun q1 q2 => InsP n q1 q2 f p1 fun S' => QS (.nx sl S')) := ⟨wp_fs⟩
instance st_fa : Step (Wp (sFA n o f v sl S) QS) (Wp2 (o sl S) fun p1 p2 => InsF n p1 p2 f fun x => IntW x fun i => Wp2 (v sl p2) fun q1 q2 => IntW q1 fun j => InsP n p1 q2 f (.d (.int (i + j))) fun S' => QS (.nx sl S')) := ⟨wp_fa⟩
instance st_mt : Step (Wp2 (eMt n m f3 o a sl S) Q) (Wp2 (o sl S) fun p1 p2 => InsM n p1 p2 m (Wp2 (a sl p2) fun u1 u2 => Wp2 (f3 (p1 :: u1) u2) Q)) := ⟨wp_mt⟩
instance st_mk : Step (Wp2 (eMk n f3 a sl S) Q) (Wp2 (a sl S) fun p1 p2 => Wp2 (f3 (.r p2.length :: p1) (p2 ++ [.ins n []])) fun q1 q2 => NonW q1 (Q (.r p2.length) q2)) := ⟨wp_mk⟩
instance st_nonW {G : Prop} : Step (NonW (.d .none) G) G := ⟨nonW_i⟩
instance st_callK {mm nn : Nat} : Step (Wp2 (eCallK mm nn f3 a k sl S) Q) (Wp2 (a sl S) fun p1 p2 => Wp2 (k sl p2) fun q1 q2 => (p1.length = mm ∧ q1.length = nn) ∧ Wp2 (f3 (p1 ++ q1) q2) Q) := ⟨wp_callK⟩
end
/-! a prefix of the store -/
section
variable {S T : List MO} {n f m : Str} {w v : W3}
theorem insAt_app {i : Nat} {kvs : List (Str × W3)} (h : insAt S n (.r i) = some kvs) : insAt (S ++ T) n (.r i) = some kvs ∧ i < S.length := by
  unfold insAt at h ⊢
  dsimp only at h ⊢
  by_cases c : i < S.length
  · rw [List.getElem?_append_left c]; exact ⟨h, c⟩
  · rw [List.getElem?_eq_none (by omega)] at h; cases h
theorem insF_app {i : Nat} {K : W3 → Prop} (h : InsF n (.r i) S f K) : InsF n (.r i) (S ++ T) f K := by
  obtain ⟨kvs, x, e, h⟩ := h
  exact ⟨kvs, x, (insAt_app e).1, h⟩
theorem insM_app {i : Nat} {G : Prop} (h : InsM n (.r i) S m G) : InsM n (.r i) (S ++ T) m G := by
  obtain ⟨kvs, e, h⟩ := h
  exact ⟨kvs, (insAt_app e).1, h⟩
theorem insP_app {i : Nat} {K : List MO → Prop} (h : InsP n (.r i) S f v fun S' => K (S' ++ T)) : InsP n (.r i) (S ++ T) f v K := by
  obtain ⟨kvs, e, h1, h2⟩ := h
  refine ⟨kvs, (insAt_app e).1, h1, ?_⟩
  have : setAt (S ++ T) (.r i) (.ins n (fput f v kvs)) = setAt S (.r i) (.ins n (fput f v kvs)) ++ T := List.set_append_left _ _ (insAt_app (T := T) e).2
  rw [this]
  exact h2
end
end EA
namespace EA
open PySem PySem.Spec PyProof.Rows L2
/-! ### the machine as an object of the store -/
structure Mc where
  prog : PyData
  fuel : Int
  outc : PyData
  wait : PyData
  dec : PyData
  calls : Int
  cells : List PyData
  value : PyData
  pile : PyData
def mflds (k : Nat) (m : Mc) : List (Str × W3) := [("program", .d m.prog), ("fuel", .d (.int m.fuel)), ("outcome", .d m.outc), ("waiting", .d m.wait), ("decided", .d m.dec), ("calls", .d (.int m.calls)), ("cells", .r k), ("value", .d m.value), ("pile", .d m.pile)]
def MS (S0 : List MO) (m : Mc) : List MO := S0 ++ [.ins "Machine" (mflds (S0.length + 1) m), .lst m.cells]
section
variable {S0 : List MO} {m m' : Mc}
theorem ms_len : (MS S0 m).length = S0.length + 2 := by unfold MS; rw [List.length_append]; rfl
theorem ms_ins : insAt (MS S0 m) "Machine" (.r S0.length) = some (mflds (S0.length + 1) m) := by
  unfold insAt MS
  dsimp only
  rw [List.getElem?_append_right (Nat.le_refl _), Nat.sub_self]
  rfl
theorem ms_cells : (MS S0 m)[S0.length + 1]? = some (.lst m.cells) := by
  unfold MS
  rw [List.getElem?_append_right (by omega), show S0.length + 1 - S0.length = 1 by omega]
  rfl
theorem ms_setc {xs : List PyData} : (MS S0 m).set (S0.length + 1) (.lst xs) = MS S0 { m with cells := xs } := by
  unfold MS
  rw [List.set_append_right _ _ (by omega), show S0.length + 1 - S0.length = 1 by omega]
  rfl
theorem ms_seti : (MS S0 m).set S0.length (.ins "Machine" (mflds (S0.length + 1) m')) = S0 ++ [.ins "Machine" (mflds (S0.length + 1) m'), .lst m.cells] := by
  unfold MS
  rw [List.set_append_right _ _ (Nat.le_refl _), Nat.sub_self]
  rfl
theorem ms_put {K : List MO → Prop} {f : Str} {v : W3} (e : fput f v (mflds (S0.length + 1) m) = mflds (S0.length + 1) m') (c : m'.cells = m.cells) (h : K (MS S0 m')) : InsP "Machine" (.r S0.length) (MS S0 m) f v K := by
  refine ⟨_, ms_ins, (by show 9 < 900; decide), ?_⟩
  have : setAt (MS S0 m) (.r S0.length) (.ins "Machine" (fput f v (mflds (S0.length + 1) m))) = MS S0 m' := by
    rw [e]
    refine ms_seti.trans ?_
    rw [← c]
    rfl
  rw [this]
  exact h
theorem ms_get {K : W3 → Prop} {f : Str} {w : W3} (e : (mflds (S0.length + 1) m).lookup f = some w) (h : K w) : InsF "Machine" (.r S0.length) (MS S0 m) f K := ⟨_, w, ms_ins, e, h⟩
theorem ms_meth {G : Prop} {f : Str} (e : (mflds (S0.length + 1) m).lookup f = none) (h : G) : InsM "Machine" (.r S0.length) (MS S0 m) f G := ⟨_, ms_ins, e, h⟩
theorem ms_take : (MS S0 m').take (MS S0 m).length = MS S0 m' := by rw [ms_len, ← ms_len (m := m'), List.take_length]
theorem ms_takeT {T : List MO} : (MS S0 m' ++ T).take (MS S0 m).length = MS S0 m' := by rw [ms_len, ← ms_len (m := m'), List.take_left]
instance ms_cut : CutR (MS S0 m) (MS S0 m') := ⟨fun i o hi e => by
  unfold MS at e ⊢
  by_cases c : i < S0.length
  · rw [List.getElem?_append_left c] at e ⊢
    exact .inr e
  · refine .inl ?_
    rw [List.getElem?_append_right (by omega)] at e
    rw [List.length_append]
    have hi' : i - S0.length < 2 := by
      rw [ms_len] at hi
      omega
    generalize i - S0.length = j at e hi'
    match j, e, hi' with
    | 0, e, _ =>
      cases e
      show MO.inn _ (.ins "Machine" (mflds (S0.length + 1) m'))
      intro s j hp
      simp only [mflds, List.mem_cons, Prod.mk.injEq, List.not_mem_nil, or_false, reduceCtorEq, and_false, false_or, W3.r.injEq] at hp
      show j < S0.length + 2
      omega
    | 1, e, _ =>
      cases e
      exact trivial⟩
end
section
variable {S0 T : List MO} {P o w d v p : PyData} {F c : Int} {cs : List PyData} {K : W3 → Prop} {KP : List MO → Prop} {G : Prop}
instance ms_get_program : Step (InsF "Machine" (.r S0.length) (MS S0 ⟨P, F, o, w, d, c, cs, v, p⟩) "program" K) (K (.d P)) := ⟨fun h => ms_get (by rfl) h⟩
instance ms_get_fuel : Step (InsF "Machine" (.r S0.length) (MS S0 ⟨P, F, o, w, d, c, cs, v, p⟩) "fuel" K) (K (.d (.int F))) := ⟨fun h => ms_get (by rfl) h⟩
instance ms_get_outcome : Step (InsF "Machine" (.r S0.length) (MS S0 ⟨P, F, o, w, d, c, cs, v, p⟩) "outcome" K) (K (.d o)) := ⟨fun h => ms_get (by rfl) h⟩
instance ms_get_waiting : Step (InsF "Machine" (.r S0.length) (MS S0 ⟨P, F, o, w, d, c, cs, v, p⟩) "waiting" K) (K (.d w)) := ⟨fun h => ms_get (by rfl) h⟩
instance ms_get_decided : Step (InsF "Machine" (.r S0.length) (MS S0 ⟨P, F, o, w, d, c, cs, v, p⟩) "decided" K) (K (.d d)) := ⟨fun h => ms_get (by rfl) h⟩
instance ms_get_calls : Step (InsF "Machine" (.r S0.length) (MS S0 ⟨P, F, o, w, d, c, cs, v, p⟩) "calls" K) (K (.d (.int c))) := ⟨fun h => ms_get (by rfl) h⟩
instance ms_get_cells : Step (InsF "Machine" (.r S0.length) (MS S0 ⟨P, F, o, w, d, c, cs, v, p⟩) "cells" K) (K (.r (S0.length + 1))) := ⟨fun h => ms_get (by rfl) h⟩
instance ms_get_value : Step (InsF "Machine" (.r S0.length) (MS S0 ⟨P, F, o, w, d, c, cs, v, p⟩) "value" K) (K (.d v)) := ⟨fun h => ms_get (by rfl) h⟩
instance ms_get_pile : Step (InsF "Machine" (.r S0.length) (MS S0 ⟨P, F, o, w, d, c, cs, v, p⟩) "pile" K) (K (.d p)) := ⟨fun h => ms_get (by rfl) h⟩
instance ms_put_program {x : PyData} : Step (InsP "Machine" (.r S0.length) (MS S0 ⟨P, F, o, w, d, c, cs, v, p⟩) "program" (.d x) KP) (KP (MS S0 ⟨x, F, o, w, d, c, cs, v, p⟩)) := ⟨fun h => ms_put (m' := ⟨x, F, o, w, d, c, cs, v, p⟩) (by rfl) rfl h⟩
instance ms_put_fuel {x : Int} : Step (InsP "Machine" (.r S0.length) (MS S0 ⟨P, F, o, w, d, c, cs, v, p⟩) "fuel" (.d (.int x)) KP) (KP (MS S0 ⟨P, x, o, w, d, c, cs, v, p⟩)) := ⟨fun h => ms_put (m' := ⟨P, x, o, w, d, c, cs, v, p⟩) (by rfl) rfl h⟩
instance ms_put_outcome {x : PyData} : Step (InsP "Machine" (.r S0.length) (MS S0 ⟨P, F, o, w, d, c, cs, v, p⟩) "outcome" (.d x) KP) (KP (MS S0 ⟨P, F, x, w, d, c, cs, v, p⟩)) := ⟨fun h => ms_put (m' := ⟨P, F, x, w, d, c, cs, v, p⟩) (by rfl) rfl h⟩
instance ms_put_waiting {x : PyData} : Step (InsP "Machine" (.r S0.length) (MS S0 ⟨P, F, o, w, d, c, cs, v, p⟩) "waiting" (.d x) KP) (KP (MS S0 ⟨P, F, o, x, d, c, cs, v, p⟩)) := ⟨fun h => ms_put (m' := ⟨P, F, o, x, d, c, cs, v, p⟩) (by rfl) rfl h⟩
instance ms_put_decided {x : PyData} : Step (InsP "Machine" (.r S0.length) (MS S0 ⟨P, F, o, w, d, c, cs, v, p⟩) "decided" (.d x) KP) (KP (MS S0 ⟨P, F, o, w, x, c, cs, v, p⟩)) := ⟨fun h => ms_put (m' := ⟨P, F, o, w, x, c, cs, v, p⟩) (by rfl) rfl h⟩
instance ms_put_calls {x : Int} : Step (InsP "Machine" (.r S0.length) (MS S0 ⟨P, F, o, w, d, c, cs, v, p⟩) "calls" (.d (.int x)) KP) (KP (MS S0 ⟨P, F, o, w, d, x, cs, v, p⟩)) := ⟨fun h => ms_put (m' := ⟨P, F, o, w, d, x, cs, v, p⟩) (by rfl) rfl h⟩
instance ms_put_value {x : PyData} : Step (InsP "Machine" (.r S0.length) (MS S0 ⟨P, F, o, w, d, c, cs, v, p⟩) "value" (.d x) KP) (KP (MS S0 ⟨P, F, o, w, d, c, cs, x, p⟩)) := ⟨fun h => ms_put (m' := ⟨P, F, o, w, d, c, cs, x, p⟩) (by rfl) rfl h⟩
instance ms_put_pile {x : PyData} : Step (InsP "Machine" (.r S0.length) (MS S0 ⟨P, F, o, w, d, c, cs, v, p⟩) "pile" (.d x) KP) (KP (MS S0 ⟨P, F, o, w, d, c, cs, v, x⟩)) := ⟨fun h => ms_put (m' := ⟨P, F, o, w, d, c, cs, v, x⟩) (by rfl) rfl h⟩
instance ms_me_advance {m : Mc} : Step (InsM "Machine" (.r S0.length) (MS S0 m) "advance" G) G := ⟨fun h => ms_meth (by rfl) h⟩
instance ms_me_step_on {m : Mc} : Step (InsM "Machine" (.r S0.length) (MS S0 m) "step_on" G) G := ⟨fun h => ms_meth (by rfl) h⟩
instance ms_me_asked {m : Mc} : Step (InsM "Machine" (.r S0.length) (MS S0 m) "asked" G) G := ⟨fun h => ms_meth (by rfl) h⟩
instance ms_me_stop_stuck {m : Mc} : Step (InsM "Machine" (.r S0.length) (MS S0 m) "stop_stuck" G) G := ⟨fun h => ms_meth (by rfl) h⟩
instance ms_me_give {m : Mc} : Step (InsM "Machine" (.r S0.length) (MS S0 m) "give" G) G := ⟨fun h => ms_meth (by rfl) h⟩
instance ms_me_go_on {m : Mc} : Step (InsM "Machine" (.r S0.length) (MS S0 m) "go_on" G) G := ⟨fun h => ms_meth (by rfl) h⟩
instance ms_me_evaluate {m : Mc} : Step (InsM "Machine" (.r S0.length) (MS S0 m) "evaluate" G) G := ⟨fun h => ms_meth (by rfl) h⟩
instance ms_me_sides_of {m : Mc} : Step (InsM "Machine" (.r S0.length) (MS S0 m) "sides_of" G) G := ⟨fun h => ms_meth (by rfl) h⟩
instance ms_me_next_part {m : Mc} : Step (InsM "Machine" (.r S0.length) (MS S0 m) "next_part" G) G := ⟨fun h => ms_meth (by rfl) h⟩
instance ms_me_perform {m : Mc} : Step (InsM "Machine" (.r S0.length) (MS S0 m) "perform" G) G := ⟨fun h => ms_meth (by rfl) h⟩
instance ms_me_call_fn {m : Mc} : Step (InsM "Machine" (.r S0.length) (MS S0 m) "call_fn" G) G := ⟨fun h => ms_meth (by rfl) h⟩
instance ms_me_go_case {m : Mc} : Step (InsM "Machine" (.r S0.length) (MS S0 m) "go_case" G) G := ⟨fun h => ms_meth (by rfl) h⟩
instance ms_me_go_match {m : Mc} : Step (InsM "Machine" (.r S0.length) (MS S0 m) "go_match" G) G := ⟨fun h => ms_meth (by rfl) h⟩
instance ms_me_go_rows {m : Mc} : Step (InsM "Machine" (.r S0.length) (MS S0 m) "go_rows" G) G := ⟨fun h => ms_meth (by rfl) h⟩
instance ms_me_end_rows {m : Mc} : Step (InsM "Machine" (.r S0.length) (MS S0 m) "end_rows" G) G := ⟨fun h => ms_meth (by rfl) h⟩
instance ms_me_go_body {m : Mc} : Step (InsM "Machine" (.r S0.length) (MS S0 m) "go_body" G) G := ⟨fun h => ms_meth (by rfl) h⟩
instance ms_getT {i : Nat} {n f : Str} {S : List MO} : Step (InsF n (.r i) (S ++ T) f K) (InsF n (.r i) S f K) := ⟨insF_app⟩
instance ms_putT {i : Nat} {n f : Str} {S : List MO} {x : W3} : Step (InsP n (.r i) (S ++ T) f x KP) (InsP n (.r i) S f x fun S' => KP (S' ++ T)) := ⟨insP_app⟩
instance ms_meT {i : Nat} {n f : Str} {S : List MO} : Step (InsM n (.r i) (S ++ T) f G) (InsM n (.r i) S f G) := ⟨insM_app⟩
end
end EA
namespace EA
open PySem PySem.Spec PyProof.Rows L2
local macro_rules | `(tactic| walk_at "ix") => `(tactic| first | rfl | exact atI_cons0 | exact atI_map0)
local macro_rules | `(tactic| walk_at "st") => `(tactic| first | assumption | rfl | exact get_set (by assumption) | exact get_set (get_set (by assumption)) | exact get_last | exact get_setlast | exact get_setapp (by assumption) | exact get_app (by assumption) | exact get_app (get_set (by assumption)))
local macro_rules | `(tactic| walk_at "tk") => `(tactic| first | exact List.take_length | exact take_set | exact take_set2 | exact take_set3 | exact take_app | exact take_aset | exact take_setapp | rfl)
local macro_rules | `(tactic| walk_at "sd") => `(tactic| first | omega | assumption | decide)
local macro_rules | `(tactic| walk_at "wpx") => `(tactic| first
  | with_reducible refine ite2 (fun _ => ?_) (fun z => absurd rfl z)
  | with_reducible refine ite2 (fun z => absurd z Bool.false_ne_true) (fun _ => ?_)
  | ((with_reducible refine gate_wp ?_); (first
    | ((with_reducible apply wp_viewr); (walk_at "st")) | ((with_reducible apply wp_lat); (walk_at "st"))
    | ((with_reducible refine gate_eq ?_); (first | with_reducible refine wp_geqs ?_ | with_reducible refine wp_geqb ?_ | with_reducible refine wp_geq_nil ?_))
    | ((with_reducible refine gate_ne ?_); (first | with_reducible refine wp_gnes ?_ | with_reducible refine wp_gneb ?_ | with_reducible refine wp_gne_nil ?_))
    | ((with_reducible refine gate_ix ?_); (first | ((with_reducible apply wp_ixd); (walk_at "ix")) | ((with_reducible apply wp_ixt); (walk_at "ix")) | ((with_reducible apply wp_ixr); (walk_at "st"); (walk_at "ix"))))
    | ((with_reducible apply wp_trur); (walk_at "st"))
    | ((with_reducible refine wp_l4s ?_ ?_); (first | omega | assumption | decide +kernel)) | with_reducible refine wp_l4 ?_ | ((with_reducible apply wp_l3r); (walk_at "st"))
    | ((with_reducible refine wp_mod ?_ ?_); (walk_at "sd")) | ((with_reducible refine wp_fdiv ?_ ?_); (walk_at "sd")) | ((with_reducible refine wp_mulr ?_ ?_); (walk_at "sd")) | ((with_reducible refine wp_mull ?_ ?_); (walk_at "sd")) | ((with_reducible refine wp_pow ?_ ?_); (walk_at "sd"))
    | ((with_reducible apply wp_lenr); (walk_at "st"))
    | ((with_reducible refine wp_gis ?_ ?_); rfl) | ((with_reducible refine wp_gisn ?_ ?_); rfl)
    | ((with_reducible refine gate_isi ?_); (first | ((with_reducible refine isi_t (r := true) ?_ ?_); (decide +kernel)) | ((with_reducible refine isi_t (r := false) ?_ ?_); (decide +kernel)) | ((with_reducible refine isi_b (r := true) ?_ ?_); (decide +kernel)) | ((with_reducible refine isi_b (r := false) ?_ ?_); (decide +kernel)) | ((with_reducible refine isi_i (r := true) ?_ ?_); (decide +kernel)) | ((with_reducible refine isi_i (r := false) ?_ ?_); (decide +kernel)) | ((with_reducible refine isi_s (r := true) ?_ ?_); (decide +kernel)) | ((with_reducible refine isi_s (r := false) ?_ ?_); (decide +kernel)) | ((with_reducible refine isi_l (r := true) ?_ ?_); (decide +kernel)) | ((with_reducible refine isi_l (r := false) ?_ ?_); (decide +kernel)) | ((with_reducible refine isi_n (r := true) ?_ ?_); (decide +kernel)) | ((with_reducible refine isi_n (r := false) ?_ ?_); (decide +kernel))))
    | ((with_reducible apply wp_tupr); (walk_at "st"))))
  | ((with_reducible refine gate_rq ?_); (first | ((with_reducible apply rq_dt); (walk_at "tk")) | ((with_reducible apply rq_nxt); (walk_at "tk"))))
  | ((with_reducible apply fz_r); (walk_at "st")) | ((with_reducible apply sq_r); (walk_at "st"))
  | ((with_reducible apply atSet_i); (walk_at "st"); rfl) | ((with_reducible apply atLst_i); (walk_at "st")) | ((with_reducible apply nowLst_i); (walk_at "st"))
  | ((with_reducible refine rng1_i ?_ ?_); (walk_at "sd")) | ((with_reducible refine rng2_i ?_ ?_); (walk_at "sd")))
local macro_rules | `(tactic| walk_at "wp") => `(tactic| first
  | with_reducible refine step_of ?_ | ((with_reducible apply wp_var); rfl) | walk_at "wpx")
local macro_rules | `(tactic| walk_at "fdef") => `(tactic| (refine wp_fdef rfl ?_; simp only [List.map_cons, List.map_nil, List.replicate_succ, List.replicate_zero, List.cons_append, List.nil_append]))
local macro_rules | `(tactic| walk_at "keq") => `(tactic| first
  | refine wp_geqD (c := false) (.inr (by decide +kernel)) rfl ?_ | refine wp_geqD (c := true) (.inr (by decide +kernel)) rfl ?_)
local macro_rules | `(tactic| walk_at "wk") => `(tactic| first
  | with_reducible refine step_of ?_ | ((with_reducible apply wp_var); rfl)
  | ((with_reducible refine gate_wp ?_); (first
    | with_reducible refine wp_geqsD (c := false) (by decide +kernel) ?_ | with_reducible refine wp_geqsD (c := true) (by decide +kernel) ?_
    | with_reducible refine wp_gnesD (c := false) (by decide +kernel) ?_ | with_reducible refine wp_gnesD (c := true) (by decide +kernel) ?_
    | with_reducible refine wp_gin_lit (c := true) (by decide +kernel) ?_ | with_reducible refine wp_gin_lit (c := false) (by decide +kernel) ?_))
  | with_reducible refine ite_t rfl ?_ | with_reducible refine ite_f rfl ?_
  | walk_at "wpx")
local macro_rules | `(tactic| walk_at "w1") => `(tactic| (fail_if_success (with_reducible refine th_nx ?_)); walk_at "wk")
noncomputable def f3_looked_up : F3 := fdef false 3 0
  (sSeq (sWh (tCmp gIsN (eVar 0) (eD .none))
  (sSeq (sIf (tAn (tCmp gEq (eOp gIx (eVar 0) (eD (.int (0)))) (eVar 1)) (tCmp gEq (eOp gIx (eVar 0) (eD (.int (1)))) (eVar 2)))
  (sRt (eOp gIx (eVar 0) (eD (.int (2)))))
  sNx)
  (sSet 0 (eOp gIx (eVar 0) (eD (.int (3)))))))
  (sRt (eD .none)))
noncomputable def f3_group_bound : F3 := fdef false 2 3
  (sSeq (sSet 2 (eVar 0))
  (sSeq (sFor (iSq (eVar 1)) (gTp (gsCons (gNm 3) (gsCons (gNm 4) gsNil)))
  (sSet 2 (eTup (aCons (eD (.str "value")) (aCons (eVar 3) (aCons (eTup (aCons (eD (.str "fn")) (aCons (eOp gIx (eVar 4) (eD (.int (2)))) (aCons (eOp gIx (eVar 4) (eD (.int (3)))) (aCons (eVar 0) (aCons (eVar 1) aNil)))))) (aCons (eVar 2) aNil)))))))
  (sRt (eVar 2))))
noncomputable def f3_struct_values : F3 := fdef false 1 1
  (sSeq (sSet 1 (eNo (nLst aNil)))
  (sSeq (sWh (tCmp gNe (eOp gIx (eVar 0) (eD (.int (0)))) (eD (.str "start")))
  (sSeq (sIf (tCmp gEq (eOp gIx (eVar 0) (eD (.int (0)))) (eD (.str "value")))
  (sEx (eM mApp (eVar 1) (aCons (eTup (aCons (eOp gIx (eVar 0) (eD (.int (1)))) (aCons (eOp gIx (eVar 0) (eD (.int (2)))) aNil))) aNil)))
  sNx)
  (sSet 0 (eOp gIx (eVar 0) (eD (.int (3)))))))
  (sRt (eB gTupOf (aCons (eVar 1) aNil)))))
noncomputable def f3_parts_of : F3 := fdef false 1 3
  (sSeq (sSet 1 (eOp gIx (eVar 0) (eD (.int (0)))))
  (sSeq (sIf (tCmp gIn (eVar 1) (eTup (aCons (eD (.str "app")) (aCons (eD (.str "write")) aNil))))
  (sRt (eTup (aCons (eOp gIx (eVar 0) (eD (.int (2)))) (aCons (eOp gIx (eVar 0) (eD (.int (3)))) aNil))))
  sNx)
  (sSeq (sIf (tCmp gIn (eVar 1) (eTup (aCons (eD (.str "op")) (aCons (eD (.str "extend")) (aCons (eD (.str "update")) aNil)))))
  (sRt (eTup (aCons (eOp gIx (eVar 0) (eD (.int (3)))) (aCons (eOp gIx (eVar 0) (eD (.int (4)))) aNil))))
  sNx)
  (sSeq (sIf (tCmp gEq (eVar 1) (eD (.str "tuple")))
  (sRt (eOp gIx (eVar 0) (eD (.int (2)))))
  sNx)
  (sSeq (sIf (tCmp gEq (eVar 1) (eD (.str "record")))
  (sRt (eB gTupOf (aCons (eNd (nLc [2, 3] (iSq (eOp gIx (eVar 0) (eD (.int (2))))) (gTp (gsCons (gNm 2) (gsCons (gNm 3) gsNil))) tYes3 (eVar 3))) aNil)))
  sNx)
  (sSeq (sIf (tCmp gIn (eVar 1) (eTup (aCons (eD (.str "if")) (aCons (eD (.str "case")) (aCons (eD (.str "match")) (aCons (eD (.str "read")) aNil))))))
  (sRt (eTup (aCons (eOp gIx (eVar 0) (eD (.int (2)))) aNil)))
  sNx)
  (sRt (eTup (aCons (eOp gIx (eVar 0) (eD (.int (3)))) aNil)))))))))
noncomputable def f3_plain_value : F3 := fdef false 2 4
  (sSeq (sSet 2 (eOp gIx (eVar 0) (eD (.int (0)))))
  (sSeq (sIf (tOr3 (tCmp gEq (eVar 2) (eD (.str "number"))) (tCmp gEq (eVar 2) (eD (.str "truth"))))
  (sRt (eTup (aCons (eVar 2) (aCons (eOp gIx (eVar 0) (eD (.int (2)))) aNil))))
  sNx)
  (sSeq (sIf (tCmp gEq (eVar 2) (eD (.str "fn")))
  (sRt (eTup (aCons (eD (.str "fn")) (aCons (eOp gIx (eVar 0) (eD (.int (2)))) (aCons (eOp gIx (eVar 0) (eD (.int (3)))) (aCons (eVar 1) (aCons (eTup aNil) aNil)))))))
  sNx)
  (sSeq (sIf (tCmp gEq (eVar 2) (eD (.str "name")))
  (sRt (eCall f3_looked_up (aCons (eVar 1) (aCons (eD (.str "value")) (aCons (eOp gIx (eVar 0) (eD (.int (2)))) aNil)))))
  sNx)
  (sSeq (sSet 3 (eCall f3_looked_up (aCons (eVar 1) (aCons (eD (.str "module")) (aCons (eOp gIx (eVar 0) (eD (.int (2)))) aNil)))))
  (sSeq (sIf (tCmp gIsN (eVar 3) (eD .none))
  (sFor (iSq (eVar 3)) (gTp (gsCons (gNm 4) (gsCons (gNm 5) gsNil)))
  (sIf (tCmp gEq (eVar 4) (eOp gIx (eVar 0) (eD (.int (3)))))
  (sRt (eVar 5))
  sNx))
  sNx)
  (sRt (eD .none))))))))
noncomputable def f3_op_value : F3 := fdef false 3 0
  (sSeq (sIf (tOr3 (tCmp gNe (eOp gIx (eVar 1) (eD (.int (0)))) (eD (.str "number"))) (tCmp gNe (eOp gIx (eVar 2) (eD (.int (0)))) (eD (.str "number"))))
  (sRt (eD .none))
  sNx)
  (sSeq (sIf (tCmp gEq (eVar 0) (eD (.str "+")))
  (sRt (eTup (aCons (eD (.str "number")) (aCons (eOp gAdd (eOp gIx (eVar 1) (eD (.int (1)))) (eOp gIx (eVar 2) (eD (.int (1))))) aNil))))
  sNx)
  (sSeq (sIf (tCmp gEq (eVar 0) (eD (.str "-")))
  (sRt (eTup (aCons (eD (.str "number")) (aCons (eOp gSub (eOp gIx (eVar 1) (eD (.int (1)))) (eOp gIx (eVar 2) (eD (.int (1))))) aNil))))
  sNx)
  (sSeq (sIf (tCmp gEq (eVar 0) (eD (.str "<")))
  (sRt (eTup (aCons (eD (.str "truth")) (aCons (eCmp gLt (eOp gIx (eVar 1) (eD (.int (1)))) (eOp gIx (eVar 2) (eD (.int (1))))) aNil))))
  sNx)
  (sRt (eTup (aCons (eD (.str "truth")) (aCons (eCmp gEq (eOp gIx (eVar 1) (eD (.int (1)))) (eOp gIx (eVar 2) (eD (.int (1))))) aNil))))))))
noncomputable def f3_record_value : F3 := fun _ _ => none
noncomputable def f3_field_value : F3 := fun _ _ => none
noncomputable def f3_made_value : F3 := fdef false 2 1
  (sSeq (sSet 2 (eOp gIx (eVar 0) (eD (.int (0)))))
  (sSeq (sIf (tCmp gEq (eVar 2) (eD (.str "op")))
  (sRt (eCall f3_op_value (aCons (eOp gIx (eVar 0) (eD (.int (2)))) (aCons (eOp gIx (eVar 1) (eD (.int (0)))) (aCons (eOp gIx (eVar 1) (eD (.int (1)))) aNil)))))
  sNx)
  (sSeq (sIf (tCmp gEq (eVar 2) (eD (.str "tuple")))
  (sRt (eTup (aCons (eD (.str "tuple")) (aCons (eVar 1) aNil))))
  sNx)
  (sSeq (sIf (tCmp gEq (eVar 2) (eD (.str "record")))
  (sRt (eCall f3_record_value (aCons (eVar 0) (aCons (eVar 1) aNil))))
  sNx)
  (sSeq (sIf (tOr3 (tCmp gEq (eVar 2) (eD (.str "tag"))) (tCmp gEq (eVar 2) (eD (.str "make"))))
  (sRt (eTup (aCons (eVar 2) (aCons (eOp gIx (eVar 0) (eD (.int (2)))) (aCons (eOp gIx (eVar 1) (eD (.int (0)))) aNil)))))
  sNx)
  (sRt (eCall f3_field_value (aCons (eVar 0) (aCons (eVar 1) aNil)))))))))
theorem wp_wh1 {t : FT} {b : FS} {sl : Sl} {S : List MO} {Q : Out → Prop} (h : Wp2 (t sl S) fun c S1 => if c = true then Wp (b sl S1) (loopQ (fun sl' S' => Wp (sWh t b sl' S') Q) Q) else Q (.nx sl S1)) : Wp (sWh t b sl S) Q := by
  obtain ⟨⟨c, S1⟩, e1, h1⟩ := h
  dsimp only at h1
  cases c with
  | false =>
    rw [if_neg Bool.false_ne_true] at h1
    exact ⟨.nx sl S1, sWh_of (n := 1) (by rw [wRun, e1]; rfl), h1⟩
  | true =>
    rw [if_pos rfl] at h1
    obtain ⟨o, e2, h2⟩ := h1
    cases o with
    | nx sl' S' =>
      obtain ⟨o, e3, q⟩ := h2
      obtain ⟨n, e3⟩ := sWh_inv e3
      exact ⟨o, sWh_of (n := n + 1) ((wRun_step e1 e2).trans e3), q⟩
    | ct sl' S' =>
      obtain ⟨o, e3, q⟩ := h2
      obtain ⟨n, e3⟩ := sWh_inv e3
      exact ⟨o, sWh_of (n := n + 1) ((wRun_step e1 e2).trans e3), q⟩
    | bk sl' S' => exact ⟨.nx sl' S', sWh_of (n := 1) (by rw [wRun, e1]; dsimp only [Option.bind_some]; rw [if_pos rfl, e2]; rfl), h2⟩
    | rt w S' => exact ⟨.rt w S', sWh_of (n := 1) (by rw [wRun, e1]; dsimp only [Option.bind_some]; rw [if_pos rfl, e2]; rfl), h2⟩
inductive Lk (s n : Str) : PyData → PyData → Prop
  | here {v r : PyData} : Lk s n (.tuple [.str s, .str n, v, r]) v
  | there {s' n' : Str} {v' r v : PyData} : ¬ (s' = s ∧ n' = n) → Lk s n r v → Lk s n (.tuple [.str s', .str n', v', r]) v
theorem looked_up3 {s n : Str} {env v : PyData} {S : List MO} {Q : W3 → List MO → Prop} (h : Lk s n env v) (q : Q (.d v) S) : Wp2 (f3_looked_up [.d env, .d (.str s), .d (.str n)] S) Q := by
  unfold f3_looked_up
  walk_at "fdef"
  refine wp_seq ?_
  induction h with
  | here =>
    refine wp_wh1 ?_
    repeat walk_at "wk"
    rw [if_pos (beq_self_eq_true _)]
    repeat walk_at "wk"
    rw [if_pos (beq_self_eq_true _)]
    repeat walk_at "wk"
    exact q
  | there h1 h2 ih =>
    refine wp_wh1 ?_
    repeat walk_at "wk"
    refine ite2 (fun c => ?_) (fun c => ?_)
    · repeat walk_at "wk"
      refine ite2 (fun c2 => absurd ⟨beq_iff_eq.mp c, beq_iff_eq.mp c2⟩ h1) (fun c2 => ?_)
      repeat walk_at "wk"
      exact ih q
    · repeat walk_at "wk"
      exact ih q
theorem fl_nil {ok : List MO → Bool} {g : FG} {b : FS} {QS : Out → Prop} {sl : Sl} {S : List MO} (h : ok S = true) (q : QS (.nx sl S)) : Wp (fLoop ok g b [] sl S) QS := by
  unfold fLoop
  rw [if_pos h]
  exact wp_some.mpr q
theorem fl_cons {ok : List MO → Bool} {g : FG} {b : FS} {QS : Out → Prop} {sl : Sl} {S : List MO} {w : W3} {ws : List W3} (h : ok S = true) (q : Wp2 (g w sl S) fun p1 p2 => Wp (b p1 p2) (loopQ (fun sl' S' => Wp (fLoop ok g b ws sl' S') QS) QS)) : Wp (fLoop ok g b (w :: ws) sl S) QS := by
  unfold fLoop
  rw [if_pos h]
  refine wp_bind.mpr (Wp.imp q fun p h => wp_bind.mpr (Wp.imp h fun o h => ?_))
  cases o with
  | nx sl S => exact h
  | ct sl S => exact h
  | bk sl S => exact wp_some.mpr h
  | rt w S => exact wp_some.mpr h
/-- a side of a group: name, number, parameter, body -/
structure Sd where
  name : Str
  k : Int
  x : Str
  body : PyData
def fnN (k : Int) (x : Str) (body : PyData) : PyData := .tuple [.str "fn", .int k, .str x, body]
def sdD (s : Sd) : PyData := .tuple [.str s.name, fnN s.k s.x s.body]
def clo (x : Str) (body env : PyData) (all : List Sd) : PyData := .tuple [.str "fn", .str x, body, env, .tuple (all.map sdD)]
def eb (s n : Str) (v r : PyData) : PyData := .tuple [.str s, .str n, v, r]
def gbF (env : PyData) (all : List Sd) : List Sd → PyData → PyData
  | [], i => i
  | s :: ss, i => gbF env all ss (eb "value" s.name (clo s.x s.body env all) i)
def gb (env : PyData) (ss : List Sd) : PyData := gbF env ss ss env
theorem group_bound3 {env : PyData} {ss : List Sd} {S : List MO} {Q : W3 → List MO → Prop} (q : Q (.d (gb env ss)) S) : Wp2 (f3_group_bound [.d env, .d (.tuple (ss.map sdD))] S) Q := by
  unfold f3_group_bound
  walk_at "fdef"
  repeat walk_at "wk"
  have go : ∀ (all ts : List Sd) (i : PyData) (x y : Option W3), Q (.d (gbF env all ts i)) S → Wp (fLoop yes (gTp (gsCons (gNm 3) (gsCons (gNm 4) gsNil))) (sSet 2 (eTup (aCons (eD (PyData.str "value")) (aCons (eVar 3) (aCons (eTup (aCons (eD (.str "fn")) (aCons (eOp gIx (eVar 4) (eD (.int (2)))) (aCons (eOp gIx (eVar 4) (eD (.int (3)))) (aCons (eVar 0) (aCons (eVar 1) aNil)))))) (aCons (eVar 2) aNil)))))) ((ts.map sdD).map W3.d) [some (.d env), some (.d (.tuple (all.map sdD))), some (.d i), x, y] S) (then3 (sRt (eVar 2)) (retQ false S Q)) := by
    intro all ts
    induction ts with
    | nil =>
      intro i x y q
      refine fl_nil rfl ?_
      repeat walk_at "wk"
      exact q
    | cons t ts ih =>
      intro i x y q
      refine fl_cons rfl ?_
      unfold sdD fnN
      repeat walk_at "wk"
      exact ih _ _ _ q
  exact go ss ss env none none q
theorem op_add3 {i j : Int} {S : List MO} {Q : W3 → List MO → Prop} (q : Q (.d (.tuple [.str "number", .int (i + j)])) S) : Wp2 (f3_op_value [.d (.str "+"), .d (.tuple [.str "number", .int i]), .d (.tuple [.str "number", .int j])] S) Q := by
  unfold f3_op_value
  walk_at "fdef"
  repeat walk_at "wk"
  exact q
theorem op_sub3 {i j : Int} {S : List MO} {Q : W3 → List MO → Prop} (q : Q (.d (.tuple [.str "number", .int (i - j)])) S) : Wp2 (f3_op_value [.d (.str "-"), .d (.tuple [.str "number", .int i]), .d (.tuple [.str "number", .int j])] S) Q := by
  unfold f3_op_value
  walk_at "fdef"
  repeat walk_at "wk"
  exact q
theorem op_lt3 {i j : Int} {S : List MO} {Q : W3 → List MO → Prop} (q : Q (.d (.tuple [.str "truth", .bool (decide (i < j))])) S) : Wp2 (f3_op_value [.d (.str "<"), .d (.tuple [.str "number", .int i]), .d (.tuple [.str "number", .int j])] S) Q := by
  unfold f3_op_value
  walk_at "fdef"
  repeat walk_at "wk"
  exact q
end EA
namespace EA
open PySem PySem.Spec PyProof.Rows L2
local macro_rules | `(tactic| walk_at "ix") => `(tactic| first | rfl | exact atI_cons0 | exact atI_map0)
local macro_rules | `(tactic| walk_at "st") => `(tactic| first | assumption | rfl | exact get_set (by assumption) | exact get_set (get_set (by assumption)) | exact get_last | exact get_setlast | exact get_setapp (by assumption) | exact get_app (by assumption) | exact get_app (get_set (by assumption)))
local macro_rules | `(tactic| walk_at "tk") => `(tactic| first | exact List.take_length | exact take_set | exact take_set2 | exact take_set3 | exact take_app | exact take_aset | exact take_setapp | rfl)
local macro_rules | `(tactic| walk_at "sd") => `(tactic| first | omega | assumption | decide)
local macro_rules | `(tactic| walk_at "wpx") => `(tactic| first
  | with_reducible refine ite2 (fun _ => ?_) (fun z => absurd rfl z)
  | with_reducible refine ite2 (fun z => absurd z Bool.false_ne_true) (fun _ => ?_)
  | ((with_reducible refine gate_wp ?_); (first
    | ((with_reducible apply wp_viewr); (walk_at "st")) | ((with_reducible apply wp_lat); (walk_at "st"))
    | ((with_reducible refine gate_eq ?_); (first | with_reducible refine wp_geqs ?_ | with_reducible refine wp_geqb ?_ | with_reducible refine wp_geq_nil ?_))
    | ((with_reducible refine gate_ne ?_); (first | with_reducible refine wp_gnes ?_ | with_reducible refine wp_gneb ?_ | with_reducible refine wp_gne_nil ?_))
    | ((with_reducible refine gate_ix ?_); (first | ((with_reducible apply wp_ixd); (walk_at "ix")) | ((with_reducible apply wp_ixt); (walk_at "ix")) | ((with_reducible apply wp_ixr); (walk_at "st"); (walk_at "ix"))))
    | ((with_reducible apply wp_trur); (walk_at "st"))
    | ((with_reducible refine wp_l4s ?_ ?_); (first | omega | assumption | decide +kernel)) | with_reducible refine wp_l4 ?_ | ((with_reducible apply wp_l3r); (walk_at "st"))
    | ((with_reducible refine wp_mod ?_ ?_); (walk_at "sd")) | ((with_reducible refine wp_fdiv ?_ ?_); (walk_at "sd")) | ((with_reducible refine wp_mulr ?_ ?_); (walk_at "sd")) | ((with_reducible refine wp_mull ?_ ?_); (walk_at "sd")) | ((with_reducible refine wp_pow ?_ ?_); (walk_at "sd"))
    | ((with_reducible apply wp_lenr); (walk_at "st"))
    | ((with_reducible refine wp_gis ?_ ?_); rfl) | ((with_reducible refine wp_gisn ?_ ?_); rfl)
    | ((with_reducible refine gate_isi ?_); (first | ((with_reducible refine isi_t (r := true) ?_ ?_); (decide +kernel)) | ((with_reducible refine isi_t (r := false) ?_ ?_); (decide +kernel)) | ((with_reducible refine isi_b (r := true) ?_ ?_); (decide +kernel)) | ((with_reducible refine isi_b (r := false) ?_ ?_); (decide +kernel)) | ((with_reducible refine isi_i (r := true) ?_ ?_); (decide +kernel)) | ((with_reducible refine isi_i (r := false) ?_ ?_); (decide +kernel)) | ((with_reducible refine isi_s (r := true) ?_ ?_); (decide +kernel)) | ((with_reducible refine isi_s (r := false) ?_ ?_); (decide +kernel)) | ((with_reducible refine isi_l (r := true) ?_ ?_); (decide +kernel)) | ((with_reducible refine isi_l (r := false) ?_ ?_); (decide +kernel)) | ((with_reducible refine isi_n (r := true) ?_ ?_); (decide +kernel)) | ((with_reducible refine isi_n (r := false) ?_ ?_); (decide +kernel))))
    | ((with_reducible apply wp_tupr); (walk_at "st"))))
  | ((with_reducible refine gate_rq ?_); (first | ((with_reducible apply rq_dt); (walk_at "tk")) | ((with_reducible apply rq_nxt); (walk_at "tk"))))
  | ((with_reducible apply fz_r); (walk_at "st")) | ((with_reducible apply sq_r); (walk_at "st"))
  | ((with_reducible apply atSet_i); (walk_at "st"); rfl) | ((with_reducible apply atLst_i); (walk_at "st")) | ((with_reducible apply nowLst_i); (walk_at "st"))
  | ((with_reducible refine rng1_i ?_ ?_); (walk_at "sd")) | ((with_reducible refine rng2_i ?_ ?_); (walk_at "sd")))
local macro_rules | `(tactic| walk_at "wp") => `(tactic| first
  | with_reducible refine step_of ?_ | ((with_reducible apply wp_var); rfl) | walk_at "wpx")
local macro_rules | `(tactic| walk_at "fdef") => `(tactic| (refine wp_fdef rfl ?_; simp only [List.map_cons, List.map_nil, List.replicate_succ, List.replicate_zero, List.cons_append, List.nil_append]))
local macro_rules | `(tactic| walk_at "keq") => `(tactic| first
  | refine wp_geqD (c := false) (.inr (by decide +kernel)) rfl ?_ | refine wp_geqD (c := true) (.inr (by decide +kernel)) rfl ?_)
local macro_rules | `(tactic| walk_at "wk") => `(tactic| first
  | with_reducible refine step_of ?_ | ((with_reducible apply wp_var); rfl)
  | ((with_reducible refine gate_wp ?_); (first
    | with_reducible refine wp_geqsD (c := false) (by decide +kernel) ?_ | with_reducible refine wp_geqsD (c := true) (by decide +kernel) ?_
    | with_reducible refine wp_gnesD (c := false) (by decide +kernel) ?_ | with_reducible refine wp_gnesD (c := true) (by decide +kernel) ?_
    | with_reducible refine wp_gin_lit (c := true) (by decide +kernel) ?_ | with_reducible refine wp_gin_lit (c := false) (by decide +kernel) ?_))
  | with_reducible refine ite_t rfl ?_ | with_reducible refine ite_f rfl ?_
  | walk_at "wpx")
local macro_rules | `(tactic| walk_at "w1") => `(tactic| (fail_if_success (with_reducible refine th_nx ?_)); walk_at "wk")
def nmN (k : Int) (x : Str) : PyData := .tuple [.str "name", .int k, .str x]
def nuN (k i : Int) : PyData := .tuple [.str "number", .int k, .int i]
def mbN (k : Int) (m x : Str) : PyData := .tuple [.str "member", .int k, .str m, .str x]
def opN (k : Int) (s : Str) (a b : PyData) : PyData := .tuple [.str "op", .int k, .str s, a, b]
def apN (k : Int) (a b : PyData) : PyData := .tuple [.str "app", .int k, a, b]
def mkN (k : Int) (s : Str) (a : PyData) : PyData := .tuple [.str "make", .int k, .str s, a]
def tgN (k : Int) (s : Str) (a : PyData) : PyData := .tuple [.str "tag", .int k, .str s, a]
def rdN (k : Int) (a : PyData) : PyData := .tuple [.str "read", .int k, a]
def wrN (k : Int) (a b : PyData) : PyData := .tuple [.str "write", .int k, a, b]
def ltN (k : Int) (x : Str) (a b : PyData) : PyData := .tuple [.str "let", .int k, .str x, a, b]
def ifN (k : Int) (t a b : PyData) : PyData := .tuple [.str "if", .int k, t, a, b]
def clN (k : Int) (t a : PyData) : PyData := .tuple [.str "cell", .int k, t, a]
def rcN (k : Int) (ss : List Sd) (b : PyData) : PyData := .tuple [.str "rec", .int k, .tuple (ss.map sdD), b]
def nuV (i : Int) : PyData := .tuple [.str "number", .int i]
def trV (b : Bool) : PyData := .tuple [.str "truth", .bool b]
def pairD (p : Str × PyData) : PyData := .tuple [.str p.1, p.2]
/-- what a plain node is worth -/
inductive PV (env : PyData) : PyData → PyData → Prop
  | num {k i : Int} : PV env (nuN k i) (nuV i)
  | fn {k : Int} {x : Str} {b : PyData} : PV env (fnN k x b) (clo x b env [])
  | name {k : Int} {x : Str} {xs : List PyData} : Lk "value" x env (.tuple xs) → PV env (nmN k x) (.tuple xs)
  | mem {k : Int} {m x : Str} {l : List (Str × PyData)} {xs : List PyData} : Lk "module" m env (.tuple (l.map pairD)) → l.lookup x = some (.tuple xs) → PV env (mbN k m x) (.tuple xs)
theorem plain_value3 {env e v : PyData} {S : List MO} {Q : W3 → List MO → Prop} (h : PV env e v) (q : Q (.d v) S) : Wp2 (f3_plain_value [.d e, .d env] S) Q := by
  cases h with
  | num =>
    unfold f3_plain_value nuN
    walk_at "fdef"
    repeat walk_at "wk"
    exact q
  | fn =>
    unfold f3_plain_value fnN
    walk_at "fdef"
    repeat walk_at "wk"
    exact q
  | name h =>
    unfold f3_plain_value nmN
    walk_at "fdef"
    repeat walk_at "wk"
    refine looked_up3 h ?_
    repeat walk_at "wk"
    exact q
  | @mem k m x l xs h h2 =>
    unfold f3_plain_value mbN
    walk_at "fdef"
    repeat walk_at "wk"
    refine looked_up3 h ?_
    repeat walk_at "wk"
    have go : ∀ (ts : List (Str × PyData)) (y z : Option W3), ts.lookup x = some (.tuple xs) → Wp (fLoop yes (gTp (gsCons (gNm 4) (gsCons (gNm 5) gsNil))) (sIf (tCmp gEq (eVar 4) (eOp gIx (eVar 0) (eD (.int (3))))) (sRt (eVar 5)) sNx) ((ts.map pairD).map W3.d) [some (.d (.tuple [.str "member", .int k, .str m, .str x])), some (.d env), some (.d (.str "member")), some (.d (.tuple (l.map pairD))), y, z] S) (then3 (sRt (eD PyData.none)) (retQ false S Q)) := by
      intro ts
      induction ts with
      | nil => intro y z h; cases h
      | cons t ts ih =>
        intro y z h
        obtain ⟨n, u⟩ := t
        refine fl_cons rfl ?_
        unfold pairD
        rw [List.lookup_cons] at h
        repeat walk_at "wk"
        refine ite2 (fun c => ?_) (fun c => ?_)
        · have c := beq_iff_eq.mp c
          subst c
          rw [beq_self_eq_true] at h
          cases h
          repeat walk_at "wk"
          exact q
        · have c : ¬ n = x := fun z => c (beq_iff_eq.mpr z)
          rw [show (x == n) = false from beq_eq_false_iff_ne.mpr fun z => c z.symm] at h
          repeat walk_at "wk"
          exact ih _ _ h
    exact go l none none h2
theorem made_value_op {k : Int} {s : Str} {a b va vb r : PyData} {S : List MO} {Q : W3 → List MO → Prop} (h : ∀ Q' : W3 → List MO → Prop, Q' (.d r) S → Wp2 (f3_op_value [.d (.str s), .d va, .d vb] S) Q') (q : Q (.d r) S) : Wp2 (f3_made_value [.d (opN k s a b), .d (.tuple [va, vb])] S) Q := by
  unfold f3_made_value opN
  walk_at "fdef"
  repeat walk_at "wk"
  refine h _ ?_
  repeat walk_at "wk"
  exact q
theorem made_value_mk {k : Int} {s : Str} {a va : PyData} {S : List MO} {Q : W3 → List MO → Prop} (q : Q (.d (.tuple [.str "make", .str s, va])) S) : Wp2 (f3_made_value [.d (mkN k s a), .d (.tuple [va])] S) Q := by
  unfold f3_made_value mkN
  walk_at "fdef"
  repeat walk_at "wk"
  exact q
theorem made_value_tg {k : Int} {s : Str} {a va : PyData} {S : List MO} {Q : W3 → List MO → Prop} (q : Q (.d (.tuple [.str "tag", .str s, va])) S) : Wp2 (f3_made_value [.d (tgN k s a), .d (.tuple [va])] S) Q := by
  unfold f3_made_value tgN
  walk_at "fdef"
  repeat walk_at "wk"
  exact q
/-- the parts of a node that are run first -/
inductive PT : PyData → List PyData → Prop
  | app {k : Int} {a b : PyData} : PT (apN k a b) [a, b]
  | wr {k : Int} {a b : PyData} : PT (wrN k a b) [a, b]
  | op {k : Int} {s : Str} {a b : PyData} : PT (opN k s a b) [a, b]
  | ite {k : Int} {t a b : PyData} : PT (ifN k t a b) [t]
  | rd {k : Int} {a : PyData} : PT (rdN k a) [a]
  | lt {k : Int} {x : Str} {a b : PyData} : PT (ltN k x a b) [a]
  | mk {k : Int} {x : Str} {a : PyData} : PT (mkN k x a) [a]
  | tg {k : Int} {x : Str} {a : PyData} : PT (tgN k x a) [a]
  | cl {k : Int} {t a : PyData} : PT (clN k t a) [a]
theorem parts_of3 {e : PyData} {ps : List PyData} {S : List MO} {Q : W3 → List MO → Prop} (h : PT e ps) (q : Q (.d (.tuple ps)) S) : Wp2 (f3_parts_of [.d e] S) Q := by
  unfold f3_parts_of
  cases h
  all_goals first | unfold apN | unfold wrN | unfold opN | unfold ifN | unfold rdN | unfold ltN | unfold mkN | unfold tgN | unfold clN
  all_goals
    walk_at "fdef"
    repeat walk_at "wk"
    exact q
/-- the values of a structure -/
inductive Sv : PyData → List (Str × PyData) → Prop
  | start {n : Str} {v r : PyData} : Sv (eb "start" n v r) []
  | val {n : Str} {v r : PyData} {l : List (Str × PyData)} : Sv r l → Sv (eb "value" n v r) ((n, v) :: l)
theorem struct_values3 {e : PyData} {l : List (Str × PyData)} {S : List MO} {Q : W3 → List MO → Prop} (h : Sv e l) (hl : l.length ≤ 1000) (q : Q (.d (.tuple (l.map pairD))) S) : Wp2 (f3_struct_values [.d e] S) Q := by
  unfold f3_struct_values
  walk_at "fdef"
  repeat walk_at "wk"
  have go : ∀ (e : PyData) (ts l0 : List (Str × PyData)), Sv e ts → l0.length + ts.length ≤ 1000 → Q (.d (.tuple ((l0 ++ ts).map pairD))) S → Wp (sWh (tCmp gNe (eOp gIx (eVar 0) (eD (.int (0)))) (eD (.str "start")))
  (sSeq (sIf (tCmp gEq (eOp gIx (eVar 0) (eD (.int (0)))) (eD (.str "value")))
  (sEx (eM mApp (eVar 1) (aCons (eTup (aCons (eOp gIx (eVar 0) (eD (.int (1)))) (aCons (eOp gIx (eVar 0) (eD (.int (2)))) aNil))) aNil)))
  sNx)
  (sSet 0 (eOp gIx (eVar 0) (eD (.int (3)))))) [some (.d e), some (.r S.length)] (S ++ [.lst (l0.map pairD)])) (then3 (sRt (eB gTupOf (aCons (eVar 1) aNil))) (retQ false S Q)) := by
    intro e ts l0 h
    induction h generalizing l0 with
    | start =>
      intro hl q
      unfold eb
      refine wp_wh1 ?_
      repeat walk_at "wk"
      rw [List.append_nil] at q
      exact q
    | @val n v r l h ih =>
      intro hl q
      unfold eb
      refine wp_wh1 ?_
      repeat walk_at "wk"
      refine wp_app (by rw [List.length_map]; rw [List.length_cons] at hl; omega) ?_
      repeat walk_at "wk"
      rw [set_last]
      have := ih (l0 ++ [(n, v)]) (by rw [List.length_append]; rw [List.length_cons] at hl; simp only [List.length_cons, List.length_nil]; omega) (by rw [List.append_assoc]; exact q)
      rw [List.map_append] at this
      exact this
  exact go e l [] h (by rw [List.length_nil]; omega) q
end EA
namespace EA
open PySem PySem.Spec PyProof.Rows L2
local macro_rules | `(tactic| walk_at "ix") => `(tactic| first | rfl | exact atI_cons0 | exact atI_map0)
local macro_rules | `(tactic| walk_at "st") => `(tactic| first | assumption | rfl | exact get_set (by assumption) | exact get_set (get_set (by assumption)) | exact get_last | exact get_setlast | exact get_setapp (by assumption) | exact get_app (by assumption) | exact get_app (get_set (by assumption)))
local macro_rules | `(tactic| walk_at "tk") => `(tactic| first | exact List.take_length | exact take_set | exact take_set2 | exact take_set3 | exact take_app | exact take_aset | exact take_setapp | rfl)
local macro_rules | `(tactic| walk_at "sd") => `(tactic| first | omega | assumption | decide)
local macro_rules | `(tactic| walk_at "wpx") => `(tactic| first
  | with_reducible refine ite2 (fun _ => ?_) (fun z => absurd rfl z)
  | with_reducible refine ite2 (fun z => absurd z Bool.false_ne_true) (fun _ => ?_)
  | ((with_reducible refine gate_wp ?_); (first
    | ((with_reducible apply wp_viewr); (walk_at "st")) | ((with_reducible apply wp_lat); (walk_at "st"))
    | ((with_reducible refine gate_eq ?_); (first | with_reducible refine wp_geqs ?_ | with_reducible refine wp_geqb ?_ | with_reducible refine wp_geq_nil ?_))
    | ((with_reducible refine gate_ne ?_); (first | with_reducible refine wp_gnes ?_ | with_reducible refine wp_gneb ?_ | with_reducible refine wp_gne_nil ?_))
    | ((with_reducible refine gate_ix ?_); (first | ((with_reducible apply wp_ixd); (walk_at "ix")) | ((with_reducible apply wp_ixt); (walk_at "ix")) | ((with_reducible apply wp_ixr); (walk_at "st"); (walk_at "ix"))))
    | ((with_reducible apply wp_trur); (walk_at "st"))
    | ((with_reducible refine wp_l4s ?_ ?_); (first | omega | assumption | decide +kernel)) | with_reducible refine wp_l4 ?_ | ((with_reducible apply wp_l3r); (walk_at "st"))
    | ((with_reducible refine wp_mod ?_ ?_); (walk_at "sd")) | ((with_reducible refine wp_fdiv ?_ ?_); (walk_at "sd")) | ((with_reducible refine wp_mulr ?_ ?_); (walk_at "sd")) | ((with_reducible refine wp_mull ?_ ?_); (walk_at "sd")) | ((with_reducible refine wp_pow ?_ ?_); (walk_at "sd"))
    | ((with_reducible apply wp_lenr); (walk_at "st"))
    | ((with_reducible refine wp_gis ?_ ?_); rfl) | ((with_reducible refine wp_gisn ?_ ?_); rfl)
    | ((with_reducible refine gate_isi ?_); (first | ((with_reducible refine isi_t (r := true) ?_ ?_); (decide +kernel)) | ((with_reducible refine isi_t (r := false) ?_ ?_); (decide +kernel)) | ((with_reducible refine isi_b (r := true) ?_ ?_); (decide +kernel)) | ((with_reducible refine isi_b (r := false) ?_ ?_); (decide +kernel)) | ((with_reducible refine isi_i (r := true) ?_ ?_); (decide +kernel)) | ((with_reducible refine isi_i (r := false) ?_ ?_); (decide +kernel)) | ((with_reducible refine isi_s (r := true) ?_ ?_); (decide +kernel)) | ((with_reducible refine isi_s (r := false) ?_ ?_); (decide +kernel)) | ((with_reducible refine isi_l (r := true) ?_ ?_); (decide +kernel)) | ((with_reducible refine isi_l (r := false) ?_ ?_); (decide +kernel)) | ((with_reducible refine isi_n (r := true) ?_ ?_); (decide +kernel)) | ((with_reducible refine isi_n (r := false) ?_ ?_); (decide +kernel))))
    | ((with_reducible apply wp_tupr); (walk_at "st"))))
  | ((with_reducible refine gate_rq ?_); (first | ((with_reducible apply rq_dt); (walk_at "tk")) | ((with_reducible apply rq_nxt); (walk_at "tk"))))
  | ((with_reducible apply fz_r); (walk_at "st")) | ((with_reducible apply sq_r); (walk_at "st"))
  | ((with_reducible apply atSet_i); (walk_at "st"); rfl) | ((with_reducible apply atLst_i); (walk_at "st")) | ((with_reducible apply nowLst_i); (walk_at "st"))
  | ((with_reducible refine rng1_i ?_ ?_); (walk_at "sd")) | ((with_reducible refine rng2_i ?_ ?_); (walk_at "sd")))
local macro_rules | `(tactic| walk_at "wp") => `(tactic| first
  | with_reducible refine step_of ?_ | ((with_reducible apply wp_var); rfl) | walk_at "wpx")
local macro_rules | `(tactic| walk_at "fdef") => `(tactic| (refine wp_fdef rfl ?_; simp only [List.map_cons, List.map_nil, List.replicate_succ, List.replicate_zero, List.cons_append, List.nil_append]))
local macro_rules | `(tactic| walk_at "keq") => `(tactic| first
  | refine wp_geqD (c := false) (.inr (by decide +kernel)) rfl ?_ | refine wp_geqD (c := true) (.inr (by decide +kernel)) rfl ?_)
local macro_rules | `(tactic| walk_at "wk") => `(tactic| first
  | with_reducible refine step_of ?_ | ((with_reducible apply wp_var); rfl)
  | ((with_reducible refine gate_wp ?_); (first
    | with_reducible refine wp_geqsD (c := false) (by decide +kernel) ?_ | with_reducible refine wp_geqsD (c := true) (by decide +kernel) ?_
    | with_reducible refine wp_gnesD (c := false) (by decide +kernel) ?_ | with_reducible refine wp_gnesD (c := true) (by decide +kernel) ?_
    | with_reducible refine wp_gin_lit (c := true) (by decide +kernel) ?_ | with_reducible refine wp_gin_lit (c := false) (by decide +kernel) ?_))
  | with_reducible refine ite_t rfl ?_ | with_reducible refine ite_f rfl ?_
  | walk_at "wpx")
local macro_rules | `(tactic| walk_at "w1") => `(tactic| (fail_if_success (with_reducible refine th_nx ?_)); walk_at "wk")
local macro_rules | `(tactic| walk_at "ms") => `(tactic| first
  | with_reducible refine rq_nxt ms_take ?_ | with_reducible refine rq_dt ms_take ?_ | with_reducible refine rq_nxt ms_takeT ?_ | with_reducible refine rq_dt ms_takeT ?_
  | walk_at "wk")
noncomputable def f3_Machine_asked : F3 := fdef false 2 1
  (sSeq (sSet 2 (eDct (aCons (eFG "Machine" (eVar 0) "decided") aNil)))
  (sSeq (sIf (tDIn true (eVar 1) (eVar 2))
  (sSeq (sFS "Machine" (eVar 0) "waiting" (eVar 1))
  (sRt (eD .none)))
  sNx)
  (sRt (eDG (eVar 2) (eVar 1)))))
noncomputable def f3_Machine_give : F3 := fdef false 3 0
  (sSeq (sFS "Machine" (eVar 0) "value" (eVar 1))
  (sFS "Machine" (eVar 0) "pile" (eVar 2)))
noncomputable def f3_Machine_go_on : F3 := fdef false 4 0
  (sFS "Machine" (eVar 0) "pile" (eTup (aCons (eTup (aCons (eD (.str "eval")) (aCons (eVar 1) (aCons (eVar 2) aNil)))) (aCons (eVar 3) aNil))))
noncomputable def f3_Machine_stop_stuck : F3 := fdef false 2 0
  (sFS "Machine" (eVar 0) "outcome" (eTup (aCons (eD (.str "stuck")) (aCons (eOp gIx (eVar 1) (eD (.int (1)))) (aCons (eFG "Machine" (eVar 0) "calls") aNil)))))
noncomputable def f3_Machine_call_fn : F3 := fdef false 4 1
  (sSeq (sSet 4 (eOp gIx (eVar 2) (eD (.int (0)))))
  (sIf (tCmp gNe (eOp gIx (eVar 4) (eD (.int (0)))) (eD (.str "fn")))
  (sEx (eMt "Machine" "stop_stuck" f3_Machine_stop_stuck (eVar 0) (aCons (eVar 1) aNil)))
  (sIf (tCmp gGe (eFG "Machine" (eVar 0) "calls") (eFG "Machine" (eVar 0) "fuel"))
  (sFS "Machine" (eVar 0) "outcome" (eTup (aCons (eD (.str "fuel")) (aCons (eD .none) (aCons (eFG "Machine" (eVar 0) "calls") aNil)))))
  (sSeq (sFA "Machine" (eVar 0) "calls" (eD (.int (1))))
  (sEx (eMt "Machine" "go_on" f3_Machine_go_on (eVar 0) (aCons (eOp gIx (eVar 4) (eD (.int (2)))) (aCons (eTup (aCons (eD (.str "value")) (aCons (eOp gIx (eVar 4) (eD (.int (1)))) (aCons (eOp gIx (eVar 2) (eD (.int (1)))) (aCons (eCall f3_group_bound (aCons (eOp gIx (eVar 4) (eD (.int (3)))) (aCons (eOp gIx (eVar 4) (eD (.int (4)))) aNil))) aNil))))) (aCons (eVar 3) aNil)))))))))
noncomputable def f3_Machine_go_case : F3 := fun _ _ => none
noncomputable def f3_Machine_go_match : F3 := fun _ _ => none
noncomputable def f3_Machine_perform : F3 := fdef false 5 2
  (sSeq (sSet 5 (eOp gIx (eVar 1) (eD (.int (0)))))
  (sIf (tCmp gEq (eVar 5) (eD (.str "app")))
  (sEx (eMt "Machine" "call_fn" f3_Machine_call_fn (eVar 0) (aCons (eVar 1) (aCons (eVar 3) (aCons (eVar 4) aNil)))))
  (sIf (tCmp gEq (eVar 5) (eD (.str "let")))
  (sEx (eMt "Machine" "go_on" f3_Machine_go_on (eVar 0) (aCons (eOp gIx (eVar 1) (eD (.int (4)))) (aCons (eTup (aCons (eD (.str "value")) (aCons (eOp gIx (eVar 1) (eD (.int (2)))) (aCons (eOp gIx (eVar 3) (eD (.int (0)))) (aCons (eVar 2) aNil))))) (aCons (eVar 4) aNil)))))
  (sIf (tAn (tCmp gEq (eVar 5) (eD (.str "if"))) (tCmp gEq (eOp gIx (eOp gIx (eVar 3) (eD (.int (0)))) (eD (.int (0)))) (eD (.str "truth"))))
  (sEx (eMt "Machine" "go_on" f3_Machine_go_on (eVar 0) (aCons (eIf (tTr (eOp gIx (eOp gIx (eVar 3) (eD (.int (0)))) (eD (.int (1))))) (eOp gIx (eVar 1) (eD (.int (3)))) (eOp gIx (eVar 1) (eD (.int (4))))) (aCons (eVar 2) (aCons (eVar 4) aNil)))))
  (sIf (tCmp gEq (eVar 5) (eD (.str "case")))
  (sEx (eMt "Machine" "go_case" f3_Machine_go_case (eVar 0) (aCons (eVar 1) (aCons (eVar 2) (aCons (eOp gIx (eVar 3) (eD (.int (0)))) (aCons (eVar 4) aNil))))))
  (sIf (tCmp gEq (eVar 5) (eD (.str "match")))
  (sEx (eMt "Machine" "go_match" f3_Machine_go_match (eVar 0) (aCons (eVar 1) (aCons (eVar 2) (aCons (eOp gIx (eVar 3) (eD (.int (0)))) (aCons (eVar 4) aNil))))))
  (sIf (tCmp gEq (eVar 5) (eD (.str "cell")))
  (sSeq (sEx (eM mApp (eFG "Machine" (eVar 0) "cells") (aCons (eOp gIx (eVar 3) (eD (.int (0)))) aNil)))
  (sEx (eMt "Machine" "give" f3_Machine_give (eVar 0) (aCons (eTup (aCons (eD (.str "cell")) (aCons (eOp gSub (eB gLen (aCons (eFG "Machine" (eVar 0) "cells") aNil)) (eD (.int (1)))) aNil))) (aCons (eVar 4) aNil)))))
  (sIf (tAn (tCmp gEq (eVar 5) (eD (.str "read"))) (tCmp gEq (eOp gIx (eOp gIx (eVar 3) (eD (.int (0)))) (eD (.int (0)))) (eD (.str "cell"))))
  (sEx (eMt "Machine" "give" f3_Machine_give (eVar 0) (aCons (eOp gIx (eFG "Machine" (eVar 0) "cells") (eOp gIx (eOp gIx (eVar 3) (eD (.int (0)))) (eD (.int (1))))) (aCons (eVar 4) aNil))))
  (sIf (tAn (tCmp gEq (eVar 5) (eD (.str "write"))) (tCmp gEq (eOp gIx (eOp gIx (eVar 3) (eD (.int (0)))) (eD (.int (0)))) (eD (.str "cell"))))
  (sSeq (sAsg (eOp gIx (eVar 3) (eD (.int (1)))) (gSubL (eFG "Machine" (eVar 0) "cells") (eOp gIx (eOp gIx (eVar 3) (eD (.int (0)))) (eD (.int (1))))))
  (sEx (eMt "Machine" "give" f3_Machine_give (eVar 0) (aCons (eTup (aCons (eD (.str "record")) (aCons (eTup aNil) aNil))) (aCons (eVar 4) aNil)))))
  (sIf (tCmp gIn (eVar 5) (eTup (aCons (eD (.str "if")) (aCons (eD (.str "read")) (aCons (eD (.str "write")) aNil)))))
  (sEx (eMt "Machine" "stop_stuck" f3_Machine_stop_stuck (eVar 0) (aCons (eVar 1) aNil)))
  (sSeq (sSet 6 (eCall f3_made_value (aCons (eVar 1) (aCons (eVar 3) aNil))))
  (sIf (tCmp gIs (eVar 6) (eD .none))
  (sEx (eMt "Machine" "stop_stuck" f3_Machine_stop_stuck (eVar 0) (aCons (eVar 1) aNil)))
  (sEx (eMt "Machine" "give" f3_Machine_give (eVar 0) (aCons (eVar 6) (aCons (eVar 4) aNil))))))))))))))))
noncomputable def f3_Machine_next_part : F3 := fdef false 5 1
  (sSeq (sSet 5 (eCall f3_parts_of (aCons (eVar 1) aNil)))
  (sIf (tCmp gLt (eB gLen (aCons (eVar 3) aNil)) (eB gLen (aCons (eVar 5) aNil)))
  (sFS "Machine" (eVar 0) "pile" (eTup (aCons (eTup (aCons (eD (.str "eval")) (aCons (eOp gIx (eVar 5) (eB gLen (aCons (eVar 3) aNil))) (aCons (eVar 2) aNil)))) (aCons (eTup (aCons (eTup (aCons (eD (.str "gather")) (aCons (eVar 1) (aCons (eVar 2) (aCons (eVar 3) aNil))))) (aCons (eVar 4) aNil))) aNil))))
  (sEx (eMt "Machine" "perform" f3_Machine_perform (eVar 0) (aCons (eVar 1) (aCons (eVar 2) (aCons (eVar 3) (aCons (eVar 4) aNil))))))))
noncomputable def f3_Machine_sides_of : F3 := fdef false 2 4
  (sSeq (sSet 2 (eNo (nLst aNil)))
  (sSeq (sFor (iSq (eOp gIx (eVar 1) (eD (.int (2))))) (gTp (gsCons (gNm 3) (gsCons (gNm 4) gsNil)))
  (sSeq (sWh (tCmp gIn (eOp gIx (eVar 4) (eD (.int (0)))) (eTup (aCons (eD (.str "mark")) (aCons (eD (.str "choose")) aNil))))
  (sSeq (sSet 5 (eIf (tCmp gEq (eOp gIx (eVar 4) (eD (.int (0)))) (eD (.str "mark"))) (eD (.bool true)) (eMt "Machine" "asked" f3_Machine_asked (eVar 0) (aCons (eOp gIx (eVar 4) (eD (.int (2)))) aNil))))
  (sSeq (sIf (tCmp gIs (eVar 5) (eD .none))
  (sRt (eD .none))
  sNx)
  (sSet 4 (eIf (tTr (eVar 5)) (eOp gIx (eVar 4) (eD (.int (3)))) (eOp gIx (eVar 4) (eD (.int (4)))))))))
  (sSeq (sIf (tCmp gEq (eOp gIx (eVar 4) (eD (.int (0)))) (eD (.str "hole")))
  (sSeq (sFS "Machine" (eVar 0) "outcome" (eTup (aCons (eD (.str "hole")) (aCons (eOp gIx (eVar 4) (eD (.int (1)))) (aCons (eFG "Machine" (eVar 0) "calls") aNil)))))
  (sRt (eD .none)))
  sNx)
  (sSeq (sIf (tCmp gNe (eOp gIx (eVar 4) (eD (.int (0)))) (eD (.str "fn")))
  (sSeq (sEx (eMt "Machine" "stop_stuck" f3_Machine_stop_stuck (eVar 0) (aCons (eVar 1) aNil)))
  (sRt (eD .none)))
  sNx)
  (sEx (eM mApp (eVar 2) (aCons (eTup (aCons (eVar 3) (aCons (eVar 4) aNil))) aNil)))))))
  (sRt (eB gTupOf (aCons (eVar 2) aNil)))))
noncomputable def f3_Machine_evaluate : F3 := fdef false 4 4
  (sSeq (sSet 4 (eOp gIx (eVar 1) (eD (.int (0)))))
  (sIf (tCmp gIn (eVar 4) (eD (.tuple [.str "number", .str "truth", .str "fn", .str "name", .str "member"])))
  (sSeq (sSet 5 (eCall f3_plain_value (aCons (eVar 1) (aCons (eVar 2) aNil))))
  (sIf (tCmp gIs (eVar 5) (eD .none))
  (sEx (eMt "Machine" "stop_stuck" f3_Machine_stop_stuck (eVar 0) (aCons (eVar 1) aNil)))
  (sEx (eMt "Machine" "give" f3_Machine_give (eVar 0) (aCons (eVar 5) (aCons (eVar 3) aNil))))))
  (sIf (tCmp gEq (eVar 4) (eD (.str "mark")))
  (sEx (eMt "Machine" "go_on" f3_Machine_go_on (eVar 0) (aCons (eOp gIx (eVar 1) (eD (.int (3)))) (aCons (eVar 2) (aCons (eVar 3) aNil)))))
  (sIf (tCmp gEq (eVar 4) (eD (.str "is")))
  (sEx (eMt "Machine" "go_on" f3_Machine_go_on (eVar 0) (aCons (eOp gIx (eVar 1) (eD (.int (2)))) (aCons (eVar 2) (aCons (eVar 3) aNil)))))
  (sIf (tCmp gEq (eVar 4) (eD (.str "hole")))
  (sFS "Machine" (eVar 0) "outcome" (eTup (aCons (eD (.str "hole")) (aCons (eOp gIx (eVar 1) (eD (.int (1)))) (aCons (eFG "Machine" (eVar 0) "calls") aNil)))))
  (sIf (tCmp gEq (eVar 4) (eD (.str "choose")))
  (sSeq (sSet 6 (eMt "Machine" "asked" f3_Machine_asked (eVar 0) (aCons (eOp gIx (eVar 1) (eD (.int (2)))) aNil)))
  (sIf (tCmp gIsN (eVar 6) (eD .none))
  (sEx (eMt "Machine" "go_on" f3_Machine_go_on (eVar 0) (aCons (eIf (tTr (eVar 6)) (eOp gIx (eVar 1) (eD (.int (3)))) (eOp gIx (eVar 1) (eD (.int (4))))) (aCons (eVar 2) (aCons (eVar 3) aNil)))))
  sNx))
  (sIf (tCmp gEq (eVar 4) (eD (.str "rec")))
  (sSeq (sSet 7 (eMt "Machine" "sides_of" f3_Machine_sides_of (eVar 0) (aCons (eVar 1) aNil)))
  (sIf (tCmp gIsN (eVar 7) (eD .none))
  (sEx (eMt "Machine" "go_on" f3_Machine_go_on (eVar 0) (aCons (eOp gIx (eVar 1) (eD (.int (3)))) (aCons (eCall f3_group_bound (aCons (eVar 2) (aCons (eVar 7) aNil))) (aCons (eVar 3) aNil)))))
  sNx))
  (sEx (eMt "Machine" "next_part" f3_Machine_next_part (eVar 0) (aCons (eVar 1) (aCons (eVar 2) (aCons (eTup aNil) (aCons (eVar 3) aNil)))))))))))))
noncomputable def f3_Machine_end_rows : F3 := fdef false 4 1
  (sIf (tCmp gEq (eOp gIx (eVar 2) (eD (.int (0)))) (eD (.str "main")))
  (sEx (eMt "Machine" "go_on" f3_Machine_go_on (eVar 0) (aCons (eOp gIx (eVar 2) (eD (.int (1)))) (aCons (eVar 1) (aCons (eVar 3) aNil)))))
  (sSeq (sSet 4 (eTup (aCons (eD (.str "module")) (aCons (eOp gIx (eVar 2) (eD (.int (1)))) (aCons (eCall f3_struct_values (aCons (eVar 1) aNil)) (aCons (eOp gIx (eVar 2) (eD (.int (3)))) aNil))))))
  (sFS "Machine" (eVar 0) "pile" (eTup (aCons (eTup (aCons (eD (.str "rows")) (aCons (eOp gIx (eVar 2) (eD (.int (2)))) (aCons (eVar 4) (aCons (eOp gIx (eVar 2) (eD (.int (4)))) aNil))))) (aCons (eVar 3) aNil))))))
noncomputable def f3_Machine_go_body : F3 := fdef false 4 6
  (sSeq (sSet 4 (eOp gIx (eVar 1) (eD (.int (3)))))
  (sSeq (sSet 5 (eOp gIx (eVar 2) (eD (.int (3)))))
  (sSeq (sWh (tCmp gEq (eOp gIx (eVar 4) (eD (.int (0)))) (eD (.str "choose")))
  (sSeq (sSet 6 (eMt "Machine" "asked" f3_Machine_asked (eVar 0) (aCons (eOp gIx (eVar 4) (eD (.int (2)))) aNil)))
  (sSeq (sIf (tCmp gIs (eVar 6) (eD .none))
  sRtN
  sNx)
  (sSet 4 (eIf (tTr (eVar 6)) (eOp gIx (eVar 4) (eD (.int (3)))) (eOp gIx (eVar 4) (eD (.int (4)))))))))
  (sSeq (sIf (tCmp gEq (eOp gIx (eVar 4) (eD (.int (0)))) (eD (.str "struct")))
  (sSeq (sFS "Machine" (eVar 0) "pile" (eTup (aCons (eTup (aCons (eD (.str "rows")) (aCons (eOp gIx (eVar 4) (eD (.int (2)))) (aCons (eTup (aCons (eD (.str "start")) (aCons (eD (.str "")) (aCons (eD .none) (aCons (eVar 5) aNil))))) (aCons (eVar 2) aNil))))) (aCons (eVar 3) aNil))))
  sRtN)
  sNx)
  (sSeq (sSet 7 (eCall f3_looked_up (aCons (eVar 5) (aCons (eD (.str "functor")) (aCons (eOp gIx (eVar 4) (eD (.int (2)))) aNil)))))
  (sSeq (sSet 8 (eCall f3_looked_up (aCons (eVar 5) (aCons (eD (.str "module")) (aCons (eOp gIx (eVar 4) (eD (.int (3)))) aNil)))))
  (sSeq (sIf (tOr3 (tCmp gIs (eVar 7) (eD .none)) (tCmp gIs (eVar 8) (eD .none)))
  (sSeq (sEx (eMt "Machine" "stop_stuck" f3_Machine_stop_stuck (eVar 0) (aCons (eVar 4) aNil)))
  sRtN)
  sNx)
  (sSeq (sSet 9 (eTup (aCons (eD (.str "start")) (aCons (eD (.str "")) (aCons (eD .none) (aCons (eTup (aCons (eD (.str "module")) (aCons (eOp gIx (eVar 7) (eD (.int (0)))) (aCons (eVar 8) (aCons (eOp gIx (eVar 7) (eD (.int (2)))) aNil))))) aNil))))))
  (sFS "Machine" (eVar 0) "pile" (eTup (aCons (eTup (aCons (eD (.str "rows")) (aCons (eOp gIx (eVar 7) (eD (.int (1)))) (aCons (eVar 9) (aCons (eVar 2) aNil))))) (aCons (eVar 3) aNil))))))))))))
noncomputable def f3_Machine_go_rows : F3 := fdef false 3 8
  (sSeq (sAsg (eVar 1) (gTp (gsCons (gNm 3) (gsCons (gNm 4) (gsCons (gNm 5) (gsCons (gNm 6) gsNil))))))
  (sSeq (sIf (tNt (tTr (eVar 4)))
  (sSeq (sEx (eMt "Machine" "end_rows" f3_Machine_end_rows (eVar 0) (aCons (eVar 5) (aCons (eVar 6) (aCons (eVar 2) aNil)))))
  sRtN)
  sNx)
  (sSeq (sSet 7 (eOp gIx (eVar 4) (eD (.int (0)))))
  (sSeq (sSet 8 (eSl (eVar 4) (oSome (eD (.int (1)))) oNone))
  (sSeq (sIf (tCmp gEq (eOp gIx (eVar 7) (eD (.int (0)))) (eD (.str "def")))
  (sSeq (sEx (eMt "Machine" "go_on" f3_Machine_go_on (eVar 0) (aCons (eOp gIx (eVar 7) (eD (.int (3)))) (aCons (eVar 5) (aCons (eTup (aCons (eTup (aCons (eD (.str "named")) (aCons (eVar 7) (aCons (eVar 8) (aCons (eVar 5) (aCons (eVar 6) aNil)))))) (aCons (eVar 2) aNil))) aNil)))))
  sRtN)
  sNx)
  (sSeq (sIf (tCmp gEq (eOp gIx (eVar 7) (eD (.int (0)))) (eD (.str "when")))
  (sSeq (sSet 9 (eMt "Machine" "asked" f3_Machine_asked (eVar 0) (aCons (eOp gIx (eVar 7) (eD (.int (2)))) aNil)))
  (sSeq (sIf (tCmp gIs (eVar 9) (eD .none))
  sRtN
  sNx)
  (sSet 8 (eOp gAdd (eIf (tTr (eVar 9)) (eOp gIx (eVar 7) (eD (.int (3)))) (eOp gIx (eVar 7) (eD (.int (4))))) (eVar 8)))))
  (sIf (tCmp gEq (eOp gIx (eVar 7) (eD (.int (0)))) (eD (.str "defrec")))
  (sSeq (sSet 10 (eMt "Machine" "sides_of" f3_Machine_sides_of (eVar 0) (aCons (eVar 7) aNil)))
  (sSeq (sIf (tCmp gIs (eVar 10) (eD .none))
  sRtN
  sNx)
  (sSet 5 (eCall f3_group_bound (aCons (eVar 5) (aCons (eVar 10) aNil))))))
  (sIf (tCmp gEq (eOp gIx (eVar 7) (eD (.int (0)))) (eD (.str "functor")))
  (sSet 5 (eTup (aCons (eD (.str "functor")) (aCons (eOp gIx (eVar 7) (eD (.int (2)))) (aCons (eTup (aCons (eOp gIx (eVar 7) (eD (.int (3)))) (aCons (eOp gIx (eVar 7) (eD (.int (5)))) (aCons (eVar 5) aNil)))) (aCons (eVar 5) aNil))))))
  (sIf (tCmp gEq (eOp gIx (eVar 7) (eD (.int (0)))) (eD (.str "module")))
  (sSeq (sEx (eMt "Machine" "go_body" f3_Machine_go_body (eVar 0) (aCons (eVar 7) (aCons (eTup (aCons (eD (.str "module")) (aCons (eOp gIx (eVar 7) (eD (.int (2)))) (aCons (eVar 8) (aCons (eVar 5) (aCons (eVar 6) aNil)))))) (aCons (eVar 2) aNil)))))
  sRtN)
  sNx))))
  (sFS "Machine" (eVar 0) "pile" (eTup (aCons (eTup (aCons (eD (.str "rows")) (aCons (eVar 8) (aCons (eVar 5) (aCons (eVar 6) aNil))))) (aCons (eVar 2) aNil))))))))))
noncomputable def f3_Machine_step_on : F3 := fdef false 1 3
  (sSeq (sAsg (eFG "Machine" (eVar 0) "pile") (gTp (gsCons (gNm 1) (gsCons (gNm 2) gsNil))))
  (sIf (tCmp gEq (eOp gIx (eVar 1) (eD (.int (0)))) (eD (.str "eval")))
  (sEx (eMt "Machine" "evaluate" f3_Machine_evaluate (eVar 0) (aCons (eOp gIx (eVar 1) (eD (.int (1)))) (aCons (eOp gIx (eVar 1) (eD (.int (2)))) (aCons (eVar 2) aNil)))))
  (sIf (tCmp gEq (eOp gIx (eVar 1) (eD (.int (0)))) (eD (.str "gather")))
  (sEx (eMt "Machine" "next_part" f3_Machine_next_part (eVar 0) (aCons (eOp gIx (eVar 1) (eD (.int (1)))) (aCons (eOp gIx (eVar 1) (eD (.int (2)))) (aCons (eOp gAdd (eOp gIx (eVar 1) (eD (.int (3)))) (eTup (aCons (eFG "Machine" (eVar 0) "value") aNil))) (aCons (eVar 2) aNil))))))
  (sIf (tCmp gEq (eOp gIx (eVar 1) (eD (.int (0)))) (eD (.str "rows")))
  (sEx (eMt "Machine" "go_rows" f3_Machine_go_rows (eVar 0) (aCons (eVar 1) (aCons (eVar 2) aNil))))
  (sSeq (sSet 3 (eTup (aCons (eD (.str "value")) (aCons (eOp gIx (eOp gIx (eVar 1) (eD (.int (1)))) (eD (.int (2)))) (aCons (eFG "Machine" (eVar 0) "value") (aCons (eOp gIx (eVar 1) (eD (.int (3)))) aNil))))))
  (sFS "Machine" (eVar 0) "pile" (eTup (aCons (eTup (aCons (eD (.str "rows")) (aCons (eOp gIx (eVar 1) (eD (.int (2)))) (aCons (eVar 3) (aCons (eOp gIx (eVar 1) (eD (.int (4)))) aNil))))) (aCons (eVar 2) aNil)))))))))
section
variable {S0 : List MO} {P d v p : PyData} {F c : Int} {cs : List PyData} {Q : W3 → List MO → Prop}
theorem give3 {x r : PyData} (q : Q (.d .none) (MS S0 ⟨P, F, .none, .none, d, c, cs, x, r⟩)) : Wp2 (f3_Machine_give [.r S0.length, .d x, .d r] (MS S0 ⟨P, F, .none, .none, d, c, cs, v, p⟩)) Q := by
  unfold f3_Machine_give
  walk_at "fdef"
  repeat walk_at "ms"
  exact q
theorem go_on3 {n env r : PyData} (q : Q (.d .none) (MS S0 ⟨P, F, .none, .none, d, c, cs, v, .tuple [.tuple [.str "eval", n, env], r]⟩)) : Wp2 (f3_Machine_go_on [.r S0.length, .d n, .d env, .d r] (MS S0 ⟨P, F, .none, .none, d, c, cs, v, p⟩)) Q := by
  unfold f3_Machine_go_on
  walk_at "fdef"
  repeat walk_at "ms"
  exact q
theorem call_fn3 {node body env r a : PyData} {xn : Str} {ss : List Sd} (hc : c < F) (q : Q (.d .none) (MS S0 ⟨P, F, .none, .none, d, c + 1, cs, v, .tuple [.tuple [.str "eval", body, eb "value" xn a (gb env ss)], r]⟩)) : Wp2 (f3_Machine_call_fn [.r S0.length, .d node, .d (.tuple [clo xn body env ss, a]), .d r] (MS S0 ⟨P, F, .none, .none, d, c, cs, v, p⟩)) Q := by
  unfold f3_Machine_call_fn clo
  walk_at "fdef"
  repeat walk_at "ms"
  refine ite2 (fun z => absurd (of_decide_eq_true z) (by omega)) (fun _ => ?_)
  repeat walk_at "ms"
  refine group_bound3 ?_
  repeat walk_at "ms"
  refine go_on3 ?_
  repeat walk_at "ms"
  exact q
theorem call_fn3x {node body env r a : PyData} {xn : Str} {ss : List Sd} (hc : F ≤ c) (q : Q (.d .none) (MS S0 ⟨P, F, .tuple [.str "fuel", .none, .int c], .none, d, c, cs, v, p⟩)) : Wp2 (f3_Machine_call_fn [.r S0.length, .d node, .d (.tuple [clo xn body env ss, a]), .d r] (MS S0 ⟨P, F, .none, .none, d, c, cs, v, p⟩)) Q := by
  unfold f3_Machine_call_fn clo
  walk_at "fdef"
  repeat walk_at "ms"
  refine ite2 (fun _ => ?_) (fun z => absurd (decide_eq_true (show F ≤ c from hc)) z)
  repeat walk_at "ms"
  exact q
end
end EA
namespace EA
open PySem PySem.Spec PyProof.Rows L2
local macro_rules | `(tactic| walk_at "ix") => `(tactic| first | rfl | exact atI_cons0 | exact atI_map0)
local macro_rules | `(tactic| walk_at "st") => `(tactic| first | assumption | rfl | exact get_set (by assumption) | exact get_set (get_set (by assumption)) | exact get_last | exact get_setlast | exact get_setapp (by assumption) | exact get_app (by assumption) | exact get_app (get_set (by assumption)))
local macro_rules | `(tactic| walk_at "tk") => `(tactic| first | exact List.take_length | exact take_set | exact take_set2 | exact take_set3 | exact take_app | exact take_aset | exact take_setapp | rfl)
local macro_rules | `(tactic| walk_at "sd") => `(tactic| first | omega | assumption | decide)
local macro_rules | `(tactic| walk_at "wpx") => `(tactic| first
  | with_reducible refine ite2 (fun _ => ?_) (fun z => absurd rfl z)
  | with_reducible refine ite2 (fun z => absurd z Bool.false_ne_true) (fun _ => ?_)
  | ((with_reducible refine gate_wp ?_); (first
    | ((with_reducible apply wp_viewr); (walk_at "st")) | ((with_reducible apply wp_lat); (walk_at "st"))
    | ((with_reducible refine gate_eq ?_); (first | with_reducible refine wp_geqs ?_ | with_reducible refine wp_geqb ?_ | with_reducible refine wp_geq_nil ?_))
    | ((with_reducible refine gate_ne ?_); (first | with_reducible refine wp_gnes ?_ | with_reducible refine wp_gneb ?_ | with_reducible refine wp_gne_nil ?_))
    | ((with_reducible refine gate_ix ?_); (first | ((with_reducible apply wp_ixd); (walk_at "ix")) | ((with_reducible apply wp_ixt); (walk_at "ix")) | ((with_reducible apply wp_ixr); (walk_at "st"); (walk_at "ix"))))
    | ((with_reducible apply wp_trur); (walk_at "st"))
    | ((with_reducible refine wp_l4s ?_ ?_); (first | omega | assumption | decide +kernel)) | with_reducible refine wp_l4 ?_ | ((with_reducible apply wp_l3r); (walk_at "st"))
    | ((with_reducible refine wp_mod ?_ ?_); (walk_at "sd")) | ((with_reducible refine wp_fdiv ?_ ?_); (walk_at "sd")) | ((with_reducible refine wp_mulr ?_ ?_); (walk_at "sd")) | ((with_reducible refine wp_mull ?_ ?_); (walk_at "sd")) | ((with_reducible refine wp_pow ?_ ?_); (walk_at "sd"))
    | ((with_reducible apply wp_lenr); (walk_at "st"))
    | ((with_reducible refine wp_gis ?_ ?_); rfl) | ((with_reducible refine wp_gisn ?_ ?_); rfl)
    | ((with_reducible refine gate_isi ?_); (first | ((with_reducible refine isi_t (r := true) ?_ ?_); (decide +kernel)) | ((with_reducible refine isi_t (r := false) ?_ ?_); (decide +kernel)) | ((with_reducible refine isi_b (r := true) ?_ ?_); (decide +kernel)) | ((with_reducible refine isi_b (r := false) ?_ ?_); (decide +kernel)) | ((with_reducible refine isi_i (r := true) ?_ ?_); (decide +kernel)) | ((with_reducible refine isi_i (r := false) ?_ ?_); (decide +kernel)) | ((with_reducible refine isi_s (r := true) ?_ ?_); (decide +kernel)) | ((with_reducible refine isi_s (r := false) ?_ ?_); (decide +kernel)) | ((with_reducible refine isi_l (r := true) ?_ ?_); (decide +kernel)) | ((with_reducible refine isi_l (r := false) ?_ ?_); (decide +kernel)) | ((with_reducible refine isi_n (r := true) ?_ ?_); (decide +kernel)) | ((with_reducible refine isi_n (r := false) ?_ ?_); (decide +kernel))))
    | ((with_reducible apply wp_tupr); (walk_at "st"))))
  | ((with_reducible refine gate_rq ?_); (first | ((with_reducible apply rq_dt); (walk_at "tk")) | ((with_reducible apply rq_nxt); (walk_at "tk"))))
  | ((with_reducible apply fz_r); (walk_at "st")) | ((with_reducible apply sq_r); (walk_at "st"))
  | ((with_reducible apply atSet_i); (walk_at "st"); rfl) | ((with_reducible apply atLst_i); (walk_at "st")) | ((with_reducible apply nowLst_i); (walk_at "st"))
  | ((with_reducible refine rng1_i ?_ ?_); (walk_at "sd")) | ((with_reducible refine rng2_i ?_ ?_); (walk_at "sd")))
local macro_rules | `(tactic| walk_at "wp") => `(tactic| first
  | with_reducible refine step_of ?_ | ((with_reducible apply wp_var); rfl) | walk_at "wpx")
local macro_rules | `(tactic| walk_at "fdef") => `(tactic| (refine wp_fdef rfl ?_; simp only [List.map_cons, List.map_nil, List.replicate_succ, List.replicate_zero, List.cons_append, List.nil_append]))
local macro_rules | `(tactic| walk_at "keq") => `(tactic| first
  | refine wp_geqD (c := false) (.inr (by decide +kernel)) rfl ?_ | refine wp_geqD (c := true) (.inr (by decide +kernel)) rfl ?_)
local macro_rules | `(tactic| walk_at "wk") => `(tactic| first
  | with_reducible refine step_of ?_ | ((with_reducible apply wp_var); rfl)
  | ((with_reducible refine gate_wp ?_); (first
    | with_reducible refine wp_geqsD (c := false) (by decide +kernel) ?_ | with_reducible refine wp_geqsD (c := true) (by decide +kernel) ?_
    | with_reducible refine wp_gnesD (c := false) (by decide +kernel) ?_ | with_reducible refine wp_gnesD (c := true) (by decide +kernel) ?_
    | with_reducible refine wp_gin_lit (c := true) (by decide +kernel) ?_ | with_reducible refine wp_gin_lit (c := false) (by decide +kernel) ?_))
  | with_reducible refine ite_t rfl ?_ | with_reducible refine ite_f rfl ?_
  | walk_at "wpx")
local macro_rules | `(tactic| walk_at "w1") => `(tactic| (fail_if_success (with_reducible refine th_nx ?_)); walk_at "wk")
local macro_rules | `(tactic| walk_at "ms") => `(tactic| first
  | with_reducible refine rq_nxt ms_take ?_ | with_reducible refine rq_dt ms_take ?_ | with_reducible refine rq_nxt ms_takeT ?_ | with_reducible refine rq_dt ms_takeT ?_
  | walk_at "wk")
/-- the machine with nothing told yet -/
abbrev Mrun (P : PyData) (F : Int) (d : PyData) (c : Int) (cs : List PyData) (v p : PyData) : Mc := ⟨P, F, .none, .none, d, c, cs, v, p⟩
def evT (e env r : PyData) : PyData := .tuple [.tuple [.str "eval", e, env], r]
def gaT (e env : PyData) (done : List PyData) (r : PyData) : PyData := .tuple [.tuple [.str "gather", e, env, .tuple done], r]
section
variable {S0 : List MO} {P d v p env r : PyData} {F c : Int} {cs : List PyData} {Q : W3 → List MO → Prop}
theorem pf_app {k : Int} {a b body env1 va : PyData} {xn : Str} {ss : List Sd} (hc : c < F) (q : Q (.d .none) (MS S0 (Mrun P F d (c + 1) cs v (evT body (eb "value" xn va (gb env1 ss)) r)))) : Wp2 (f3_Machine_perform [.r S0.length, .d (apN k a b), .d env, .d (.tuple [clo xn body env1 ss, va]), .d r] (MS S0 (Mrun P F d c cs v p))) Q := by
  unfold f3_Machine_perform apN
  walk_at "fdef"
  repeat walk_at "ms"
  refine call_fn3 hc ?_
  repeat walk_at "ms"
  exact q
theorem pf_appx {k : Int} {a b body env1 va : PyData} {xn : Str} {ss : List Sd} (hc : F ≤ c) (q : Q (.d .none) (MS S0 ⟨P, F, .tuple [.str "fuel", .none, .int c], .none, d, c, cs, v, p⟩)) : Wp2 (f3_Machine_perform [.r S0.length, .d (apN k a b), .d env, .d (.tuple [clo xn body env1 ss, va]), .d r] (MS S0 (Mrun P F d c cs v p))) Q := by
  unfold f3_Machine_perform apN
  walk_at "fdef"
  repeat walk_at "ms"
  refine call_fn3x hc ?_
  repeat walk_at "ms"
  exact q
theorem pf_let {k : Int} {x : Str} {a b va : PyData} (q : Q (.d .none) (MS S0 (Mrun P F d c cs v (evT b (eb "value" x va env) r)))) : Wp2 (f3_Machine_perform [.r S0.length, .d (ltN k x a b), .d env, .d (.tuple [va]), .d r] (MS S0 (Mrun P F d c cs v p))) Q := by
  unfold f3_Machine_perform ltN
  walk_at "fdef"
  repeat walk_at "ms"
  refine go_on3 ?_
  repeat walk_at "ms"
  exact q
theorem pf_if {k : Int} {t a b : PyData} {y : Bool} (q : Q (.d .none) (MS S0 (Mrun P F d c cs v (evT (if y = true then a else b) env r)))) : Wp2 (f3_Machine_perform [.r S0.length, .d (ifN k t a b), .d env, .d (.tuple [trV y]), .d r] (MS S0 (Mrun P F d c cs v p))) Q := by
  unfold f3_Machine_perform ifN trV
  walk_at "fdef"
  repeat walk_at "ms"
  cases y with
  | true =>
    rw [if_pos rfl] at q ⊢
    repeat walk_at "ms"
    refine go_on3 ?_
    repeat walk_at "ms"
    exact q
  | false =>
    rw [if_neg Bool.false_ne_true] at q ⊢
    repeat walk_at "ms"
    refine go_on3 ?_
    repeat walk_at "ms"
    exact q
theorem pf_op {k : Int} {s : Str} {a b va vb : PyData} {w : List PyData} (h : ∀ (S : List MO) (Q' : W3 → List MO → Prop), Q' (.d (.tuple w)) S → Wp2 (f3_op_value [.d (.str s), .d va, .d vb] S) Q') (q : Q (.d .none) (MS S0 (Mrun P F d c cs (.tuple w) r))) : Wp2 (f3_Machine_perform [.r S0.length, .d (opN k s a b), .d env, .d (.tuple [va, vb]), .d r] (MS S0 (Mrun P F d c cs v p))) Q := by
  unfold f3_Machine_perform
  walk_at "fdef"
  have e : opN k s a b = .tuple [.str "op", .int k, .str s, a, b] := rfl
  rw [e]
  repeat walk_at "ms"
  rw [← e]
  refine made_value_op (h _) ?_
  repeat walk_at "ms"
  refine give3 ?_
  repeat walk_at "ms"
  exact q
theorem pf_mk {k : Int} {s : Str} {a va : PyData} (q : Q (.d .none) (MS S0 (Mrun P F d c cs (.tuple [.str "make", .str s, va]) r))) : Wp2 (f3_Machine_perform [.r S0.length, .d (mkN k s a), .d env, .d (.tuple [va]), .d r] (MS S0 (Mrun P F d c cs v p))) Q := by
  unfold f3_Machine_perform
  walk_at "fdef"
  have e : mkN k s a = .tuple [.str "make", .int k, .str s, a] := rfl
  rw [e]
  repeat walk_at "ms"
  rw [← e]
  refine made_value_mk ?_
  repeat walk_at "ms"
  refine give3 ?_
  repeat walk_at "ms"
  exact q
theorem pf_tg {k : Int} {s : Str} {a va : PyData} (q : Q (.d .none) (MS S0 (Mrun P F d c cs (.tuple [.str "tag", .str s, va]) r))) : Wp2 (f3_Machine_perform [.r S0.length, .d (tgN k s a), .d env, .d (.tuple [va]), .d r] (MS S0 (Mrun P F d c cs v p))) Q := by
  unfold f3_Machine_perform
  walk_at "fdef"
  have e : tgN k s a = .tuple [.str "tag", .int k, .str s, a] := rfl
  rw [e]
  repeat walk_at "ms"
  rw [← e]
  refine made_value_tg ?_
  repeat walk_at "ms"
  refine give3 ?_
  repeat walk_at "ms"
  exact q
def clV (i : Int) : PyData := .tuple [.str "cell", .int i]
theorem pf_cl {k : Int} {t a va : PyData} (hl : cs.length < 100000) (q : Q (.d .none) (MS S0 (Mrun P F d c (cs ++ [va]) (clV cs.length) r))) : Wp2 (f3_Machine_perform [.r S0.length, .d (clN k t a), .d env, .d (.tuple [va]), .d r] (MS S0 (Mrun P F d c cs v p))) Q := by
  unfold f3_Machine_perform clN
  walk_at "fdef"
  repeat walk_at "ms"
  refine atLst_i ms_cells ?_
  repeat walk_at "ms"
  refine nowLst_i ms_cells ?_
  repeat walk_at "ms"
  refine wp_app (by show cs.length ≤ 100000; omega) ?_
  rw [ms_setc]
  repeat walk_at "ms"
  refine wp_lenr ms_cells ?_
  repeat walk_at "ms"
  refine give3 ?_
  repeat walk_at "ms"
  rw [show ((cs ++ [va]).length : Int) - 1 = cs.length by rw [List.length_append]; simp only [List.length_cons, List.length_nil]; omega]
  exact q
end
end EA
namespace EA
open PySem PySem.Spec PyProof.Rows L2
local macro_rules | `(tactic| walk_at "ix") => `(tactic| first | rfl | exact atI_cons0 | exact atI_map0)
local macro_rules | `(tactic| walk_at "st") => `(tactic| first | assumption | rfl | exact get_set (by assumption) | exact get_set (get_set (by assumption)) | exact get_last | exact get_setlast | exact get_setapp (by assumption) | exact get_app (by assumption) | exact get_app (get_set (by assumption)))
local macro_rules | `(tactic| walk_at "tk") => `(tactic| first | exact List.take_length | exact take_set | exact take_set2 | exact take_set3 | exact take_app | exact take_aset | exact take_setapp | rfl)
local macro_rules | `(tactic| walk_at "sd") => `(tactic| first | omega | assumption | decide)
local macro_rules | `(tactic| walk_at "wpx") => `(tactic| first
  | with_reducible refine ite2 (fun _ => ?_) (fun z => absurd rfl z)
  | with_reducible refine ite2 (fun z => absurd z Bool.false_ne_true) (fun _ => ?_)
  | ((with_reducible refine gate_wp ?_); (first
    | ((with_reducible apply wp_viewr); (walk_at "st")) | ((with_reducible apply wp_lat); (walk_at "st"))
    | ((with_reducible refine gate_eq ?_); (first | with_reducible refine wp_geqs ?_ | with_reducible refine wp_geqb ?_ | with_reducible refine wp_geq_nil ?_))
    | ((with_reducible refine gate_ne ?_); (first | with_reducible refine wp_gnes ?_ | with_reducible refine wp_gneb ?_ | with_reducible refine wp_gne_nil ?_))
    | ((with_reducible refine gate_ix ?_); (first | ((with_reducible apply wp_ixd); (walk_at "ix")) | ((with_reducible apply wp_ixt); (walk_at "ix")) | ((with_reducible apply wp_ixr); (walk_at "st"); (walk_at "ix"))))
    | ((with_reducible apply wp_trur); (walk_at "st"))
    | ((with_reducible refine wp_l4s ?_ ?_); (first | omega | assumption | decide +kernel)) | with_reducible refine wp_l4 ?_ | ((with_reducible apply wp_l3r); (walk_at "st"))
    | ((with_reducible refine wp_mod ?_ ?_); (walk_at "sd")) | ((with_reducible refine wp_fdiv ?_ ?_); (walk_at "sd")) | ((with_reducible refine wp_mulr ?_ ?_); (walk_at "sd")) | ((with_reducible refine wp_mull ?_ ?_); (walk_at "sd")) | ((with_reducible refine wp_pow ?_ ?_); (walk_at "sd"))
    | ((with_reducible apply wp_lenr); (walk_at "st"))
    | ((with_reducible refine wp_gis ?_ ?_); rfl) | ((with_reducible refine wp_gisn ?_ ?_); rfl)
    | ((with_reducible refine gate_isi ?_); (first | ((with_reducible refine isi_t (r := true) ?_ ?_); (decide +kernel)) | ((with_reducible refine isi_t (r := false) ?_ ?_); (decide +kernel)) | ((with_reducible refine isi_b (r := true) ?_ ?_); (decide +kernel)) | ((with_reducible refine isi_b (r := false) ?_ ?_); (decide +kernel)) | ((with_reducible refine isi_i (r := true) ?_ ?_); (decide +kernel)) | ((with_reducible refine isi_i (r := false) ?_ ?_); (decide +kernel)) | ((with_reducible refine isi_s (r := true) ?_ ?_); (decide +kernel)) | ((with_reducible refine isi_s (r := false) ?_ ?_); (decide +kernel)) | ((with_reducible refine isi_l (r := true) ?_ ?_); (decide +kernel)) | ((with_reducible refine isi_l (r := false) ?_ ?_); (decide +kernel)) | ((with_reducible refine isi_n (r := true) ?_ ?_); (decide +kernel)) | ((with_reducible refine isi_n (r := false) ?_ ?_); (decide +kernel))))
    | ((with_reducible apply wp_tupr); (walk_at "st"))))
  | ((with_reducible refine gate_rq ?_); (first | ((with_reducible apply rq_dt); (walk_at "tk")) | ((with_reducible apply rq_nxt); (walk_at "tk"))))
  | ((with_reducible apply fz_r); (walk_at "st")) | ((with_reducible apply sq_r); (walk_at "st"))
  | ((with_reducible apply atSet_i); (walk_at "st"); rfl) | ((with_reducible apply atLst_i); (walk_at "st")) | ((with_reducible apply nowLst_i); (walk_at "st"))
  | ((with_reducible refine rng1_i ?_ ?_); (walk_at "sd")) | ((with_reducible refine rng2_i ?_ ?_); (walk_at "sd")))
local macro_rules | `(tactic| walk_at "wp") => `(tactic| first
  | with_reducible refine step_of ?_ | ((with_reducible apply wp_var); rfl) | walk_at "wpx")
local macro_rules | `(tactic| walk_at "fdef") => `(tactic| (refine wp_fdef rfl ?_; simp only [List.map_cons, List.map_nil, List.replicate_succ, List.replicate_zero, List.cons_append, List.nil_append]))
local macro_rules | `(tactic| walk_at "keq") => `(tactic| first
  | refine wp_geqD (c := false) (.inr (by decide +kernel)) rfl ?_ | refine wp_geqD (c := true) (.inr (by decide +kernel)) rfl ?_)
local macro_rules | `(tactic| walk_at "wk") => `(tactic| first
  | with_reducible refine step_of ?_ | ((with_reducible apply wp_var); rfl)
  | ((with_reducible refine gate_wp ?_); (first
    | with_reducible refine wp_geqsD (c := false) (by decide +kernel) ?_ | with_reducible refine wp_geqsD (c := true) (by decide +kernel) ?_
    | with_reducible refine wp_gnesD (c := false) (by decide +kernel) ?_ | with_reducible refine wp_gnesD (c := true) (by decide +kernel) ?_
    | with_reducible refine wp_gin_lit (c := true) (by decide +kernel) ?_ | with_reducible refine wp_gin_lit (c := false) (by decide +kernel) ?_))
  | with_reducible refine ite_t rfl ?_ | with_reducible refine ite_f rfl ?_
  | walk_at "wpx")
local macro_rules | `(tactic| walk_at "w1") => `(tactic| (fail_if_success (with_reducible refine th_nx ?_)); walk_at "wk")
local macro_rules | `(tactic| walk_at "ms") => `(tactic| first
  | with_reducible refine rq_nxt ms_take ?_ | with_reducible refine rq_dt ms_take ?_ | with_reducible refine rq_nxt ms_takeT ?_ | with_reducible refine rq_dt ms_takeT ?_
  | walk_at "wk")
section
variable {S0 : List MO} {P d v p env r : PyData} {F c : Int} {cs : List PyData} {Q : W3 → List MO → Prop}
theorem pf_rd {k : Int} {i : Nat} {a x : PyData} (hi : cs[i]? = some x) (q : Q (.d .none) (MS S0 (Mrun P F d c cs x r))) : Wp2 (f3_Machine_perform [.r S0.length, .d (rdN k a), .d env, .d (.tuple [clV i]), .d r] (MS S0 (Mrun P F d c cs v p))) Q := by
  unfold f3_Machine_perform rdN clV
  walk_at "fdef"
  repeat walk_at "ms"
  refine wp_ixr ms_cells (atI_of (by omega) (by rw [Int.toNat_natCast]; exact hi)) ?_
  repeat walk_at "ms"
  refine give3 ?_
  repeat walk_at "ms"
  exact q
theorem pf_wr {k : Int} {i : Nat} {a b x : PyData} (hi : i < cs.length) (q : Q (.d .none) (MS S0 (Mrun P F d c (cs.set i x) (.tuple [.str "record", .tuple []]) r))) : Wp2 (f3_Machine_perform [.r S0.length, .d (wrN k a b), .d env, .d (.tuple [clV i, x]), .d r] (MS S0 (Mrun P F d c cs v p))) Q := by
  unfold f3_Machine_perform wrN clV
  walk_at "fdef"
  repeat walk_at "ms"
  refine atSet_i (j := i) ms_cells ((ixN_of (by omega) (by show (i : Int) < cs.length; omega)).trans (by rw [Int.toNat_natCast])) ?_
  rw [ms_setc]
  repeat walk_at "ms"
  refine give3 ?_
  repeat walk_at "ms"
  exact q
/-- the next part -/
theorem np_more {e x : PyData} {ps done : List PyData} (hp : PT e ps) (hx : ps[done.length]? = some x) (q : Q (.d .none) (MS S0 (Mrun P F d c cs v (evT x env (gaT e env done r))))) : Wp2 (f3_Machine_next_part [.r S0.length, .d e, .d env, .d (.tuple done), .d r] (MS S0 (Mrun P F d c cs v p))) Q := by
  have hl : done.length < ps.length := (List.getElem?_eq_some_iff.mp hx).1
  unfold f3_Machine_next_part
  walk_at "fdef"
  repeat walk_at "ms"
  refine parts_of3 hp ?_
  repeat walk_at "ms"
  refine ite2 (fun _ => ?_) (fun z => absurd (decide_eq_true (show (done.length : Int) < ps.length by omega)) z)
  repeat walk_at "ms"
  refine wp_ixt (atI_of (by omega) (by rw [Int.toNat_natCast]; exact hx)) ?_
  repeat walk_at "ms"
  exact q
theorem np_all {e : PyData} {ps done : List PyData} (hp : PT e ps) (hl : done.length = ps.length) (q : Wp2 (f3_Machine_perform [.r S0.length, .d e, .d env, .d (.tuple done), .d r] (MS S0 (Mrun P F d c cs v p))) fun _ S => ∃ m', S = MS S0 m' ∧ Q (.d .none) (MS S0 m')) : Wp2 (f3_Machine_next_part [.r S0.length, .d e, .d env, .d (.tuple done), .d r] (MS S0 (Mrun P F d c cs v p))) Q := by
  unfold f3_Machine_next_part
  walk_at "fdef"
  repeat walk_at "ms"
  refine parts_of3 hp ?_
  repeat walk_at "ms"
  refine ite2 (fun z => absurd (of_decide_eq_true z) (by omega)) (fun _ => ?_)
  repeat walk_at "ms"
  refine q.imp fun w S ⟨m', e, q⟩ => ?_
  subst e
  repeat walk_at "ms"
  exact q
theorem ev_plain {e : PyData} {xs : List PyData} (h : PV env e (.tuple xs)) (q : Q (.d .none) (MS S0 (Mrun P F d c cs (.tuple xs) r))) : Wp2 (f3_Machine_evaluate [.r S0.length, .d e, .d env, .d r] (MS S0 (Mrun P F d c cs v p))) Q := by
  unfold f3_Machine_evaluate
  walk_at "fdef"
  generalize hx : PyData.tuple xs = x at h
  cases h
  case num k i =>
    have e : nuN k i = .tuple [.str "number", .int k, .int i] := rfl
    rw [e]
    repeat walk_at "ms"
    rw [← e]
    refine plain_value3 .num ?_
    rw [← hx]
    repeat walk_at "ms"
    refine give3 ?_
    repeat walk_at "ms"
    exact q
  case fn k y b =>
    have e : fnN k y b = .tuple [.str "fn", .int k, .str y, b] := rfl
    rw [e]
    repeat walk_at "ms"
    rw [← e]
    refine plain_value3 .fn ?_
    rw [← hx]
    repeat walk_at "ms"
    refine give3 ?_
    repeat walk_at "ms"
    exact q
  case name k y ys h =>
    have e : nmN k y = .tuple [.str "name", .int k, .str y] := rfl
    rw [e]
    repeat walk_at "ms"
    rw [← e]
    refine plain_value3 (.name h) ?_
    rw [← hx]
    repeat walk_at "ms"
    refine give3 ?_
    repeat walk_at "ms"
    exact q
  case mem k m y l ys h h2 =>
    have e : mbN k m y = .tuple [.str "member", .int k, .str m, .str y] := rfl
    rw [e]
    repeat walk_at "ms"
    rw [← e]
    refine plain_value3 (.mem h h2) ?_
    rw [← hx]
    repeat walk_at "ms"
    refine give3 ?_
    repeat walk_at "ms"
    exact q
theorem ev_part {e x : PyData} {ps : List PyData} (hp : PT e (x :: ps)) (q : Q (.d .none) (MS S0 (Mrun P F d c cs v (evT x env (gaT e env [] r))))) : Wp2 (f3_Machine_evaluate [.r S0.length, .d e, .d env, .d r] (MS S0 (Mrun P F d c cs v p))) Q := by
  have np := fun {r' : PyData} {Q' : W3 → List MO → Prop} => np_more (S0 := S0) (P := P) (d := d) (v := v) (p := p) (env := env) (r := r') (F := F) (c := c) (cs := cs) (Q := Q') (done := []) hp rfl
  unfold f3_Machine_evaluate
  walk_at "fdef"
  generalize hps : x :: ps = zs at hp
  cases hp
  all_goals first | unfold apN | unfold wrN | unfold opN | unfold ifN | unfold rdN | unfold ltN | unfold mkN | unfold tgN | unfold clN
  all_goals
    repeat walk_at "ms"
    refine np ?_
    repeat walk_at "ms"
    exact q
end
end EA
namespace EA
open PySem PySem.Spec PyProof.Rows L2
local macro_rules | `(tactic| walk_at "ix") => `(tactic| first | rfl | exact atI_cons0 | exact atI_map0)
local macro_rules | `(tactic| walk_at "st") => `(tactic| first | assumption | rfl | exact get_set (by assumption) | exact get_set (get_set (by assumption)) | exact get_last | exact get_setlast | exact get_setapp (by assumption) | exact get_app (by assumption) | exact get_app (get_set (by assumption)))
local macro_rules | `(tactic| walk_at "tk") => `(tactic| first | exact List.take_length | exact take_set | exact take_set2 | exact take_set3 | exact take_app | exact take_aset | exact take_setapp | rfl)
local macro_rules | `(tactic| walk_at "sd") => `(tactic| first | omega | assumption | decide)
local macro_rules | `(tactic| walk_at "wpx") => `(tactic| first
  | with_reducible refine ite2 (fun _ => ?_) (fun z => absurd rfl z)
  | with_reducible refine ite2 (fun z => absurd z Bool.false_ne_true) (fun _ => ?_)
  | ((with_reducible refine gate_wp ?_); (first
    | ((with_reducible apply wp_viewr); (walk_at "st")) | ((with_reducible apply wp_lat); (walk_at "st"))
    | ((with_reducible refine gate_eq ?_); (first | with_reducible refine wp_geqs ?_ | with_reducible refine wp_geqb ?_ | with_reducible refine wp_geq_nil ?_))
    | ((with_reducible refine gate_ne ?_); (first | with_reducible refine wp_gnes ?_ | with_reducible refine wp_gneb ?_ | with_reducible refine wp_gne_nil ?_))
    | ((with_reducible refine gate_ix ?_); (first | ((with_reducible apply wp_ixd); (walk_at "ix")) | ((with_reducible apply wp_ixt); (walk_at "ix")) | ((with_reducible apply wp_ixr); (walk_at "st"); (walk_at "ix"))))
    | ((with_reducible apply wp_trur); (walk_at "st"))
    | ((with_reducible refine wp_l4s ?_ ?_); (first | omega | assumption | decide +kernel)) | with_reducible refine wp_l4 ?_ | ((with_reducible apply wp_l3r); (walk_at "st"))
    | ((with_reducible refine wp_mod ?_ ?_); (walk_at "sd")) | ((with_reducible refine wp_fdiv ?_ ?_); (walk_at "sd")) | ((with_reducible refine wp_mulr ?_ ?_); (walk_at "sd")) | ((with_reducible refine wp_mull ?_ ?_); (walk_at "sd")) | ((with_reducible refine wp_pow ?_ ?_); (walk_at "sd"))
    | ((with_reducible apply wp_lenr); (walk_at "st"))
    | ((with_reducible refine wp_gis ?_ ?_); rfl) | ((with_reducible refine wp_gisn ?_ ?_); rfl)
    | ((with_reducible refine gate_isi ?_); (first | ((with_reducible refine isi_t (r := true) ?_ ?_); (decide +kernel)) | ((with_reducible refine isi_t (r := false) ?_ ?_); (decide +kernel)) | ((with_reducible refine isi_b (r := true) ?_ ?_); (decide +kernel)) | ((with_reducible refine isi_b (r := false) ?_ ?_); (decide +kernel)) | ((with_reducible refine isi_i (r := true) ?_ ?_); (decide +kernel)) | ((with_reducible refine isi_i (r := false) ?_ ?_); (decide +kernel)) | ((with_reducible refine isi_s (r := true) ?_ ?_); (decide +kernel)) | ((with_reducible refine isi_s (r := false) ?_ ?_); (decide +kernel)) | ((with_reducible refine isi_l (r := true) ?_ ?_); (decide +kernel)) | ((with_reducible refine isi_l (r := false) ?_ ?_); (decide +kernel)) | ((with_reducible refine isi_n (r := true) ?_ ?_); (decide +kernel)) | ((with_reducible refine isi_n (r := false) ?_ ?_); (decide +kernel))))
    | ((with_reducible apply wp_tupr); (walk_at "st"))))
  | ((with_reducible refine gate_rq ?_); (first | ((with_reducible apply rq_dt); (walk_at "tk")) | ((with_reducible apply rq_nxt); (walk_at "tk"))))
  | ((with_reducible apply fz_r); (walk_at "st")) | ((with_reducible apply sq_r); (walk_at "st"))
  | ((with_reducible apply atSet_i); (walk_at "st"); rfl) | ((with_reducible apply atLst_i); (walk_at "st")) | ((with_reducible apply nowLst_i); (walk_at "st"))
  | ((with_reducible refine rng1_i ?_ ?_); (walk_at "sd")) | ((with_reducible refine rng2_i ?_ ?_); (walk_at "sd")))
local macro_rules | `(tactic| walk_at "wp") => `(tactic| first
  | with_reducible refine step_of ?_ | ((with_reducible apply wp_var); rfl) | walk_at "wpx")
local macro_rules | `(tactic| walk_at "fdef") => `(tactic| (refine wp_fdef rfl ?_; simp only [List.map_cons, List.map_nil, List.replicate_succ, List.replicate_zero, List.cons_append, List.nil_append]))
local macro_rules | `(tactic| walk_at "keq") => `(tactic| first
  | refine wp_geqD (c := false) (.inr (by decide +kernel)) rfl ?_ | refine wp_geqD (c := true) (.inr (by decide +kernel)) rfl ?_)
local macro_rules | `(tactic| walk_at "wk") => `(tactic| first
  | with_reducible refine step_of ?_ | ((with_reducible apply wp_var); rfl)
  | ((with_reducible refine gate_wp ?_); (first
    | with_reducible refine wp_geqsD (c := false) (by decide +kernel) ?_ | with_reducible refine wp_geqsD (c := true) (by decide +kernel) ?_
    | with_reducible refine wp_gnesD (c := false) (by decide +kernel) ?_ | with_reducible refine wp_gnesD (c := true) (by decide +kernel) ?_
    | with_reducible refine wp_gin_lit (c := true) (by decide +kernel) ?_ | with_reducible refine wp_gin_lit (c := false) (by decide +kernel) ?_))
  | with_reducible refine ite_t rfl ?_ | with_reducible refine ite_f rfl ?_
  | walk_at "wpx")
local macro_rules | `(tactic| walk_at "w1") => `(tactic| (fail_if_success (with_reducible refine th_nx ?_)); walk_at "wk")
local macro_rules | `(tactic| walk_at "ms") => `(tactic| first
  | with_reducible refine rq_nxt ms_take ?_ | with_reducible refine rq_dt ms_take ?_ | with_reducible refine rq_nxt ms_takeT ?_ | with_reducible refine rq_dt ms_takeT ?_
  | walk_at "wk")
theorem cut1c {α : Type} {x : α} {xs : List α} : cutD (x :: xs) (some 1) none = xs := cutD_from (x :: xs) 1
section
variable {S0 : List MO} {P d v p env r : PyData} {F c : Int} {cs : List PyData} {Q : W3 → List MO → Prop}
theorem sides_of3 {w : Str} {k : Int} {ss : List Sd} {rs : List PyData} (hl : ss.length ≤ 1000) (q : Q (.d (.tuple (ss.map sdD))) (MS S0 (Mrun P F d c cs v p))) : Wp2 (f3_Machine_sides_of [.r S0.length, .d (.tuple (.str w :: .int k :: .tuple (ss.map sdD) :: rs))] (MS S0 (Mrun P F d c cs v p))) Q := by
  unfold f3_Machine_sides_of
  walk_at "fdef"
  repeat walk_at "ms"
  have go : ∀ (ts l0 : List Sd) (x y : Option W3), l0.length + ts.length ≤ 1000 → Q (.d (.tuple ((l0 ++ ts).map sdD))) (MS S0 (Mrun P F d c cs v p)) → Wp (fLoop yes (gTp (gsCons (gNm 3) (gsCons (gNm 4) gsNil))) (sSeq (sWh (tCmp gIn (eOp gIx (eVar 4) (eD (.int (0)))) (eTup (aCons (eD (.str "mark")) (aCons (eD (.str "choose")) aNil))))
  (sSeq (sSet 5 (eIf (tCmp gEq (eOp gIx (eVar 4) (eD (.int (0)))) (eD (.str "mark"))) (eD (.bool true)) (eMt "Machine" "asked" f3_Machine_asked (eVar 0) (aCons (eOp gIx (eVar 4) (eD (.int (2)))) aNil))))
  (sSeq (sIf (tCmp gIs (eVar 5) (eD .none))
  (sRt (eD .none))
  sNx)
  (sSet 4 (eIf (tTr (eVar 5)) (eOp gIx (eVar 4) (eD (.int (3)))) (eOp gIx (eVar 4) (eD (.int (4)))))))))
  (sSeq (sIf (tCmp gEq (eOp gIx (eVar 4) (eD (.int (0)))) (eD (.str "hole")))
  (sSeq (sFS "Machine" (eVar 0) "outcome" (eTup (aCons (eD (.str "hole")) (aCons (eOp gIx (eVar 4) (eD (.int (1)))) (aCons (eFG "Machine" (eVar 0) "calls") aNil)))))
  (sRt (eD .none)))
  sNx)
  (sSeq (sIf (tCmp gNe (eOp gIx (eVar 4) (eD (.int (0)))) (eD (.str "fn")))
  (sSeq (sEx (eMt "Machine" "stop_stuck" f3_Machine_stop_stuck (eVar 0) (aCons (eVar 1) aNil)))
  (sRt (eD .none)))
  sNx)
  (sEx (eM mApp (eVar 2) (aCons (eTup (aCons (eVar 3) (aCons (eVar 4) aNil))) aNil)))))) ((ts.map sdD).map W3.d) [some (.r S0.length), some (.d (.tuple (.str w :: .int k :: .tuple (ss.map sdD) :: rs))), some (.r (MS S0 (Mrun P F d c cs v p)).length), x, y, none] (MS S0 (Mrun P F d c cs v p) ++ [.lst (l0.map sdD)])) (then3 (sRt (eB gTupOf (aCons (eVar 2) aNil))) (retQ false (MS S0 (Mrun P F d c cs v p)) Q)) := by
    intro ts
    induction ts with
    | nil =>
      intro l0 x y hl q
      refine fl_nil rfl ?_
      rw [List.append_nil] at q
      repeat walk_at "ms"
      exact q
    | cons t ts ih =>
      intro l0 x y hl q
      refine fl_cons rfl ?_
      rw [List.length_cons] at hl
      have e : sdD t = .tuple [.str t.name, .tuple [.str "fn", .int t.k, .str t.x, t.body]] := rfl
      rw [e]
      repeat walk_at "ms"
      refine wp_wh1 ?_
      repeat walk_at "ms"
      refine wp_app (by rw [List.length_map]; omega) ?_
      rw [set_last, ← e]
      repeat walk_at "ms"
      have := ih (l0 ++ [t]) (some (.d (.str t.name))) (some (.d (.tuple [.str "fn", .int t.k, .str t.x, t.body]))) (by rw [List.length_append]; simp only [List.length_cons, List.length_nil]; omega) (by rw [List.append_assoc]; exact q)
      rw [List.map_append] at this
      exact this
  refine wp_ixt (d := .tuple (ss.map sdD)) (atI_of (by decide) rfl) ?_
  repeat walk_at "ms"
  exact go ss [] none none (by rw [List.length_nil]; omega) q
theorem ev_rec {k : Int} {ss : List Sd} {b : PyData} (hl : ss.length ≤ 1000) (q : Q (.d .none) (MS S0 (Mrun P F d c cs v (evT b (gb env ss) r)))) : Wp2 (f3_Machine_evaluate [.r S0.length, .d (rcN k ss b), .d env, .d r] (MS S0 (Mrun P F d c cs v p))) Q := by
  unfold f3_Machine_evaluate rcN
  walk_at "fdef"
  repeat walk_at "ms"
  refine sides_of3 hl ?_
  repeat walk_at "ms"
  refine group_bound3 ?_
  repeat walk_at "ms"
  refine go_on3 ?_
  repeat walk_at "ms"
  exact q
def rwT (rows : List PyData) (env th r : PyData) : PyData := .tuple [.tuple [.str "rows", .tuple rows, env, th], r]
theorem gr_end {node : PyData} (q : Q (.d .none) (MS S0 (Mrun P F d c cs v (evT node env r)))) : Wp2 (f3_Machine_go_rows [.r S0.length, .d (.tuple [.str "rows", .tuple [], env, .tuple [.str "main", node]]), .d r] (MS S0 (Mrun P F d c cs v p))) Q := by
  unfold f3_Machine_go_rows
  walk_at "fdef"
  repeat walk_at "ms"
  unfold f3_Machine_end_rows
  walk_at "fdef"
  repeat walk_at "ms"
  refine go_on3 ?_
  repeat walk_at "ms"
  exact q
theorem gr_endm {name : Str} {later : List PyData} {env1 th : PyData} {l : List (Str × PyData)} (h : Sv env l) (hl : l.length ≤ 1000) (q : Q (.d .none) (MS S0 (Mrun P F d c cs v (rwT later (eb "module" name (.tuple (l.map pairD)) env1) th r)))) : Wp2 (f3_Machine_go_rows [.r S0.length, .d (.tuple [.str "rows", .tuple [], env, .tuple [.str "module", .str name, .tuple later, env1, th]]), .d r] (MS S0 (Mrun P F d c cs v p))) Q := by
  unfold f3_Machine_go_rows
  walk_at "fdef"
  repeat walk_at "ms"
  unfold f3_Machine_end_rows
  walk_at "fdef"
  repeat walk_at "ms"
  refine struct_values3 h hl ?_
  repeat walk_at "ms"
  exact q
theorem gr_def {k : Int} {x : Str} {e th : PyData} {rows : List PyData} (q : Q (.d .none) (MS S0 (Mrun P F d c cs v (evT e env (.tuple [.tuple [.str "named", .tuple [.str "def", .int k, .str x, e], .tuple rows, env, th], r]))))) : Wp2 (f3_Machine_go_rows [.r S0.length, .d (.tuple [.str "rows", .tuple (.tuple [.str "def", .int k, .str x, e] :: rows), env, th]), .d r] (MS S0 (Mrun P F d c cs v p))) Q := by
  unfold f3_Machine_go_rows
  walk_at "fdef"
  repeat walk_at "ms"
  refine go_on3 ?_
  repeat walk_at "ms"
  rw [cut1c]
  exact q
theorem gr_rec {k : Int} {ss : List Sd} {th : PyData} {rows : List PyData} (hl : ss.length ≤ 1000) (q : Q (.d .none) (MS S0 (Mrun P F d c cs v (rwT rows (gb env ss) th r)))) : Wp2 (f3_Machine_go_rows [.r S0.length, .d (.tuple [.str "rows", .tuple (.tuple [.str "defrec", .int k, .tuple (ss.map sdD)] :: rows), env, th]), .d r] (MS S0 (Mrun P F d c cs v p))) Q := by
  unfold f3_Machine_go_rows
  walk_at "fdef"
  repeat walk_at "ms"
  refine sides_of3 hl ?_
  repeat walk_at "ms"
  refine group_bound3 ?_
  repeat walk_at "ms"
  rw [cut1c]
  exact q
theorem gr_fun {k : Int} {x y s th sg : PyData} {body rows : List PyData} (q : Q (.d .none) (MS S0 (Mrun P F d c cs v (rwT rows (.tuple [.str "functor", x, .tuple [y, .tuple body, env], env]) th r)))) : Wp2 (f3_Machine_go_rows [.r S0.length, .d (.tuple [.str "rows", .tuple (.tuple [.str "functor", .int k, x, y, s, .tuple body, sg] :: rows), env, th]), .d r] (MS S0 (Mrun P F d c cs v p))) Q := by
  unfold f3_Machine_go_rows
  walk_at "fdef"
  repeat walk_at "ms"
  rw [cut1c]
  exact q
theorem gr_mod {k k2 : Int} {x : Str} {th z : PyData} {body rows : List PyData} (q : Q (.d .none) (MS S0 (Mrun P F d c cs v (rwT body (eb "start" "" .none env) (.tuple [.str "module", .str x, .tuple rows, env, th]) r)))) : Wp2 (f3_Machine_go_rows [.r S0.length, .d (.tuple [.str "rows", .tuple (.tuple [.str "module", .int k, .str x, .tuple [.str "struct", .int k2, .tuple body], z] :: rows), env, th]), .d r] (MS S0 (Mrun P F d c cs v p))) Q := by
  unfold f3_Machine_go_rows
  walk_at "fdef"
  repeat walk_at "ms"
  unfold f3_Machine_go_body
  walk_at "fdef"
  repeat walk_at "ms"
  refine wp_wh1 ?_
  repeat walk_at "ms"
  rw [cut1c]
  exact q
theorem gr_app {k k2 : Int} {x m y yn : Str} {th z env2 : PyData} {vals body rows : List PyData} (h1 : Lk "functor" m env (.tuple [.str yn, .tuple body, env2])) (h2 : Lk "module" y env (.tuple vals)) (q : Q (.d .none) (MS S0 (Mrun P F d c cs v (rwT body (eb "start" "" .none (eb "module" yn (.tuple vals) env2)) (.tuple [.str "module", .str x, .tuple rows, env, th]) r)))) : Wp2 (f3_Machine_go_rows [.r S0.length, .d (.tuple [.str "rows", .tuple (.tuple [.str "module", .int k, .str x, .tuple [.str "apply", .int k2, .str m, .str y], z] :: rows), env, th]), .d r] (MS S0 (Mrun P F d c cs v p))) Q := by
  unfold f3_Machine_go_rows
  walk_at "fdef"
  repeat walk_at "ms"
  unfold f3_Machine_go_body
  walk_at "fdef"
  repeat walk_at "ms"
  refine wp_wh1 ?_
  repeat walk_at "ms"
  refine looked_up3 h1 ?_
  repeat walk_at "ms"
  refine looked_up3 h2 ?_
  repeat walk_at "ms"
  rw [cut1c]
  exact q
end
end EA
namespace EA
open PySem PySem.Spec PyProof.Rows L2
local macro_rules | `(tactic| walk_at "ix") => `(tactic| first | rfl | exact atI_cons0 | exact atI_map0)
local macro_rules | `(tactic| walk_at "st") => `(tactic| first | assumption | rfl | exact get_set (by assumption) | exact get_set (get_set (by assumption)) | exact get_last | exact get_setlast | exact get_setapp (by assumption) | exact get_app (by assumption) | exact get_app (get_set (by assumption)))
local macro_rules | `(tactic| walk_at "tk") => `(tactic| first | exact List.take_length | exact take_set | exact take_set2 | exact take_set3 | exact take_app | exact take_aset | exact take_setapp | rfl)
local macro_rules | `(tactic| walk_at "sd") => `(tactic| first | omega | assumption | decide)
local macro_rules | `(tactic| walk_at "wpx") => `(tactic| first
  | with_reducible refine ite2 (fun _ => ?_) (fun z => absurd rfl z)
  | with_reducible refine ite2 (fun z => absurd z Bool.false_ne_true) (fun _ => ?_)
  | ((with_reducible refine gate_wp ?_); (first
    | ((with_reducible apply wp_viewr); (walk_at "st")) | ((with_reducible apply wp_lat); (walk_at "st"))
    | ((with_reducible refine gate_eq ?_); (first | with_reducible refine wp_geqs ?_ | with_reducible refine wp_geqb ?_ | with_reducible refine wp_geq_nil ?_))
    | ((with_reducible refine gate_ne ?_); (first | with_reducible refine wp_gnes ?_ | with_reducible refine wp_gneb ?_ | with_reducible refine wp_gne_nil ?_))
    | ((with_reducible refine gate_ix ?_); (first | ((with_reducible apply wp_ixd); (walk_at "ix")) | ((with_reducible apply wp_ixt); (walk_at "ix")) | ((with_reducible apply wp_ixr); (walk_at "st"); (walk_at "ix"))))
    | ((with_reducible apply wp_trur); (walk_at "st"))
    | ((with_reducible refine wp_l4s ?_ ?_); (first | omega | assumption | decide +kernel)) | with_reducible refine wp_l4 ?_ | ((with_reducible apply wp_l3r); (walk_at "st"))
    | ((with_reducible refine wp_mod ?_ ?_); (walk_at "sd")) | ((with_reducible refine wp_fdiv ?_ ?_); (walk_at "sd")) | ((with_reducible refine wp_mulr ?_ ?_); (walk_at "sd")) | ((with_reducible refine wp_mull ?_ ?_); (walk_at "sd")) | ((with_reducible refine wp_pow ?_ ?_); (walk_at "sd"))
    | ((with_reducible apply wp_lenr); (walk_at "st"))
    | ((with_reducible refine wp_gis ?_ ?_); rfl) | ((with_reducible refine wp_gisn ?_ ?_); rfl)
    | ((with_reducible refine gate_isi ?_); (first | ((with_reducible refine isi_t (r := true) ?_ ?_); (decide +kernel)) | ((with_reducible refine isi_t (r := false) ?_ ?_); (decide +kernel)) | ((with_reducible refine isi_b (r := true) ?_ ?_); (decide +kernel)) | ((with_reducible refine isi_b (r := false) ?_ ?_); (decide +kernel)) | ((with_reducible refine isi_i (r := true) ?_ ?_); (decide +kernel)) | ((with_reducible refine isi_i (r := false) ?_ ?_); (decide +kernel)) | ((with_reducible refine isi_s (r := true) ?_ ?_); (decide +kernel)) | ((with_reducible refine isi_s (r := false) ?_ ?_); (decide +kernel)) | ((with_reducible refine isi_l (r := true) ?_ ?_); (decide +kernel)) | ((with_reducible refine isi_l (r := false) ?_ ?_); (decide +kernel)) | ((with_reducible refine isi_n (r := true) ?_ ?_); (decide +kernel)) | ((with_reducible refine isi_n (r := false) ?_ ?_); (decide +kernel))))
    | ((with_reducible apply wp_tupr); (walk_at "st"))))
  | ((with_reducible refine gate_rq ?_); (first | ((with_reducible apply rq_dt); (walk_at "tk")) | ((with_reducible apply rq_nxt); (walk_at "tk"))))
  | ((with_reducible apply fz_r); (walk_at "st")) | ((with_reducible apply sq_r); (walk_at "st"))
  | ((with_reducible apply atSet_i); (walk_at "st"); rfl) | ((with_reducible apply atLst_i); (walk_at "st")) | ((with_reducible apply nowLst_i); (walk_at "st"))
  | ((with_reducible refine rng1_i ?_ ?_); (walk_at "sd")) | ((with_reducible refine rng2_i ?_ ?_); (walk_at "sd")))
local macro_rules | `(tactic| walk_at "wp") => `(tactic| first
  | with_reducible refine step_of ?_ | ((with_reducible apply wp_var); rfl) | walk_at "wpx")
local macro_rules | `(tactic| walk_at "fdef") => `(tactic| (refine wp_fdef rfl ?_; simp only [List.map_cons, List.map_nil, List.replicate_succ, List.replicate_zero, List.cons_append, List.nil_append]))
local macro_rules | `(tactic| walk_at "keq") => `(tactic| first
  | refine wp_geqD (c := false) (.inr (by decide +kernel)) rfl ?_ | refine wp_geqD (c := true) (.inr (by decide +kernel)) rfl ?_)
local macro_rules | `(tactic| walk_at "wk") => `(tactic| first
  | with_reducible refine step_of ?_ | ((with_reducible apply wp_var); rfl)
  | ((with_reducible refine gate_wp ?_); (first
    | with_reducible refine wp_geqsD (c := false) (by decide +kernel) ?_ | with_reducible refine wp_geqsD (c := true) (by decide +kernel) ?_
    | with_reducible refine wp_gnesD (c := false) (by decide +kernel) ?_ | with_reducible refine wp_gnesD (c := true) (by decide +kernel) ?_
    | with_reducible refine wp_gin_lit (c := true) (by decide +kernel) ?_ | with_reducible refine wp_gin_lit (c := false) (by decide +kernel) ?_))
  | with_reducible refine ite_t rfl ?_ | with_reducible refine ite_f rfl ?_
  | walk_at "wpx")
local macro_rules | `(tactic| walk_at "w1") => `(tactic| (fail_if_success (with_reducible refine th_nx ?_)); walk_at "wk")
local macro_rules | `(tactic| walk_at "ms") => `(tactic| first
  | with_reducible refine rq_nxt ms_take ?_ | with_reducible refine rq_dt ms_take ?_ | with_reducible refine rq_nxt ms_takeT ?_ | with_reducible refine rq_dt ms_takeT ?_
  | walk_at "wk")
noncomputable def f3_told_value : Nat → F3
  | 0 => fun _ _ => none
  | n + 1 => fdef false 3 3
      (sSeq (sIf (tCmp gGt (eVar 2) (eD (.int (6))))
        (sRt (eTup (aCons (eD (.str "deep")) aNil)))
        sNx)
        (sSeq (sSet 3 (eOp gIx (eVar 0) (eD (.int (0)))))
        (sSeq (sIf (tCmp gEq (eVar 3) (eD (.str "fn")))
        (sRt (eTup (aCons (eD (.str "fn")) aNil)))
        sNx)
        (sSeq (sIf (tCmp gEq (eVar 3) (eD (.str "cell")))
        (sRt (eTup (aCons (eD (.str "cell")) (aCons (eCall (f3_told_value n) (aCons (eOp gIx (eVar 1) (eOp gIx (eVar 0) (eD (.int (1))))) (aCons (eVar 1) (aCons (eOp gAdd (eVar 2) (eD (.int (1)))) aNil)))) aNil))))
        sNx)
        (sSeq (sIf (tCmp gEq (eVar 3) (eD (.str "tuple")))
        (sRt (eTup (aCons (eD (.str "tuple")) (aCons (eB gTupOf (aCons (eNd (nLc [4] (iSq (eOp gIx (eVar 0) (eD (.int (1))))) (gNm 4) tYes3 (eCall (f3_told_value n) (aCons (eVar 4) (aCons (eVar 1) (aCons (eOp gAdd (eVar 2) (eD (.int (1)))) aNil)))))) aNil)) aNil))))
        sNx)
        (sSeq (sIf (tCmp gEq (eVar 3) (eD (.str "record")))
        (sRt (eTup (aCons (eD (.str "record")) (aCons (eB gTupOf (aCons (eNd (nLc [5, 4] (iSq (eOp gIx (eVar 0) (eD (.int (1))))) (gTp (gsCons (gNm 5) (gsCons (gNm 4) gsNil))) tYes3 (eTup (aCons (eVar 5) (aCons (eCall (f3_told_value n) (aCons (eVar 4) (aCons (eVar 1) (aCons (eOp gAdd (eVar 2) (eD (.int (1)))) aNil)))) aNil))))) aNil)) aNil))))
        sNx)
        (sSeq (sIf (tOr3 (tCmp gEq (eVar 3) (eD (.str "tag"))) (tCmp gEq (eVar 3) (eD (.str "make"))))
        (sRt (eTup (aCons (eVar 3) (aCons (eOp gIx (eVar 0) (eD (.int (1)))) (aCons (eCall (f3_told_value n) (aCons (eOp gIx (eVar 0) (eD (.int (2)))) (aCons (eVar 1) (aCons (eOp gAdd (eVar 2) (eD (.int (1)))) aNil)))) aNil)))))
        sNx)
        (sRt (eVar 0)))))))))
noncomputable def f3_Machine_advance : F3 := fdef false 1 0
  (sWh (tAn (tCmp gIs (eFG "Machine" (eVar 0) "outcome") (eD .none)) (tCmp gIs (eFG "Machine" (eVar 0) "waiting") (eD .none)))
  (sIf (tCmp gIs (eFG "Machine" (eVar 0) "pile") (eD .none))
  (sFS "Machine" (eVar 0) "outcome" (eTup (aCons (eD (.str "value")) (aCons (eCall (f3_told_value 12) (aCons (eFG "Machine" (eVar 0) "value") (aCons (eFG "Machine" (eVar 0) "cells") (aCons (eD (.int (0))) aNil)))) (aCons (eFG "Machine" (eVar 0) "calls") aNil)))))
  (sEx (eMt "Machine" "step_on" f3_Machine_step_on (eVar 0) aNil))))
section
variable {S0 : List MO} {P d v p env r : PyData} {F c : Int} {cs : List PyData} {Q : W3 → List MO → Prop}
def MsQ (S0 : List MO) (Q : Mc → Prop) : W3 → List MO → Prop := fun w S => w = .d .none ∧ ∃ m, S = MS S0 m ∧ Q m
theorem so_ev {e : PyData} (q : Wp2 (f3_Machine_evaluate [.r S0.length, .d e, .d env, .d r] (MS S0 (Mrun P F d c cs v (evT e env r)))) (MsQ S0 fun m => Q (.d .none) (MS S0 m))) : Wp2 (f3_Machine_step_on [.r S0.length] (MS S0 (Mrun P F d c cs v (evT e env r)))) Q := by
  unfold f3_Machine_step_on
  walk_at "fdef"
  repeat walk_at "ms"
  unfold evT at q ⊢
  repeat walk_at "ms"
  refine q.imp fun w S ⟨_, m', e, q⟩ => ?_
  subst e
  repeat walk_at "ms"
  exact q
theorem so_ga {e : PyData} {done : List PyData} (hd : done.length ≤ 1000) (q : Wp2 (f3_Machine_next_part [.r S0.length, .d e, .d env, .d (.tuple (done ++ [v])), .d r] (MS S0 (Mrun P F d c cs v (gaT e env done r)))) (MsQ S0 fun m => Q (.d .none) (MS S0 m))) : Wp2 (f3_Machine_step_on [.r S0.length] (MS S0 (Mrun P F d c cs v (gaT e env done r)))) Q := by
  unfold f3_Machine_step_on
  walk_at "fdef"
  repeat walk_at "ms"
  unfold gaT at q ⊢
  repeat walk_at "ms"
  refine wp_addt (by simp only [List.length_cons, List.length_nil]; omega) ?_
  repeat walk_at "ms"
  refine q.imp fun w S ⟨_, m', e, q⟩ => ?_
  subst e
  repeat walk_at "ms"
  exact q
theorem so_rw {th : PyData} {rows : List PyData} (q : Wp2 (f3_Machine_go_rows [.r S0.length, .d (.tuple [.str "rows", .tuple rows, env, th]), .d r] (MS S0 (Mrun P F d c cs v (rwT rows env th r)))) (MsQ S0 fun m => Q (.d .none) (MS S0 m))) : Wp2 (f3_Machine_step_on [.r S0.length] (MS S0 (Mrun P F d c cs v (rwT rows env th r)))) Q := by
  unfold f3_Machine_step_on
  walk_at "fdef"
  repeat walk_at "ms"
  unfold rwT at q ⊢
  repeat walk_at "ms"
  refine q.imp fun w S ⟨_, m', e, q⟩ => ?_
  subst e
  repeat walk_at "ms"
  exact q
def naT (k : Int) (x : Str) (e : PyData) (rows : List PyData) (env th r : PyData) : PyData := .tuple [.tuple [.str "named", .tuple [.str "def", .int k, .str x, e], .tuple rows, env, th], r]
theorem so_na {k : Int} {x : Str} {e th : PyData} {rows : List PyData} (q : Q (.d .none) (MS S0 (Mrun P F d c cs v (rwT rows (eb "value" x v env) th r)))) : Wp2 (f3_Machine_step_on [.r S0.length] (MS S0 (Mrun P F d c cs v (naT k x e rows env th r)))) Q := by
  unfold f3_Machine_step_on
  walk_at "fdef"
  repeat walk_at "ms"
  unfold naT
  repeat walk_at "ms"
  exact q
end
noncomputable def tAdv : FT := tAn (tCmp gIs (eFG "Machine" (eVar 0) "outcome") (eD .none)) (tCmp gIs (eFG "Machine" (eVar 0) "waiting") (eD .none))
noncomputable def bAdv : FS := sIf (tCmp gIs (eFG "Machine" (eVar 0) "pile") (eD .none))
  (sFS "Machine" (eVar 0) "outcome" (eTup (aCons (eD (.str "value")) (aCons (eCall (f3_told_value 12) (aCons (eFG "Machine" (eVar 0) "value") (aCons (eFG "Machine" (eVar 0) "cells") (aCons (eD (.int (0))) aNil)))) (aCons (eFG "Machine" (eVar 0) "calls") aNil)))))
  (sEx (eMt "Machine" "step_on" f3_Machine_step_on (eVar 0) aNil))
theorem advance_eq : f3_Machine_advance = fdef false 1 0 (sWh tAdv bAdv) := rfl
/-- the machine, run on, comes to this outcome -/
def Adv (S0 : List MO) (due : PyData) (m : Mc) : Prop := Wp (sWh tAdv bAdv [some (.r S0.length)] (MS S0 m)) fun o => ∃ m', o = .nx [some (.r S0.length)] (MS S0 m') ∧ m'.wait = .none ∧ m'.outc = due
section
variable {S0 : List MO} {P d v p env r due : PyData} {F c : Int} {cs : List PyData}
theorem adv_step {xs : List PyData} (h : Wp2 (f3_Machine_step_on [.r S0.length] (MS S0 (Mrun P F d c cs v (.tuple xs)))) (MsQ S0 (Adv S0 due))) : Adv S0 due (Mrun P F d c cs v (.tuple xs)) := by
  unfold Adv
  refine wp_wh1 ?_
  unfold tAdv bAdv
  repeat walk_at "ms"
  refine h.imp fun w S ⟨_, m', e, q⟩ => ?_
  subst e
  repeat walk_at "ms"
  exact q
theorem adv_end {xs : List PyData} : Adv S0 (.tuple xs) ⟨P, F, .tuple xs, .none, d, c, cs, v, p⟩ := by
  unfold Adv
  refine wp_wh1 ?_
  unfold tAdv
  repeat walk_at "ms"
  exact ⟨_, rfl, rfl, rfl⟩
theorem adv_told {y : PyData} (h : ∀ (S : List MO) (Q : W3 → List MO → Prop), S[S0.length + 1]? = some (.lst cs) → Q (.d y) S → Wp2 (f3_told_value 12 [.d v, .r (S0.length + 1), .d (.int 0)] S) Q) (hd : due = .tuple [.str "value", y, .int c]) : Adv S0 due (Mrun P F d c cs v .none) := by
  subst hd
  unfold Adv
  refine wp_wh1 ?_
  unfold tAdv bAdv
  repeat walk_at "ms"
  refine h _ _ ms_cells ?_
  repeat walk_at "ms"
  exact adv_end
/-- an expression comes to a value -/
def Ev (S0 : List MO) (due P d : PyData) (F : Int) (e env : PyData) (c : Int) (cs : List PyData) (c' : Int) (cs' : List PyData) (x : PyData) : Prop := ∀ v r, Adv S0 due (Mrun P F d c' cs' x r) → Adv S0 due (Mrun P F d c cs v (evT e env r))
/-- an expression runs out of fuel -/
def Fu (S0 : List MO) (due P d : PyData) (F : Int) (e env : PyData) (c : Int) (cs : List PyData) : Prop := ∀ v r, Adv S0 due (Mrun P F d c cs v (evT e env r))
variable {c1 c2 c3 : Int} {cs1 cs2 cs3 : List PyData} {e a b x y : PyData}
theorem ev_pl {xs : List PyData} (h : PV env e (.tuple xs)) : Ev S0 due P d F e env c cs c cs (.tuple xs) := fun v r q => adv_step (so_ev (ev_plain h ⟨rfl, _, rfl, rfl, _, rfl, q⟩))
theorem ev_go {ps : List PyData} (hp : PT e (a :: ps)) (q : Adv S0 due (Mrun P F d c cs v (evT a env (gaT e env [] r)))) : Adv S0 due (Mrun P F d c cs v (evT e env r)) := adv_step (so_ev (ev_part hp ⟨rfl, _, rfl, rfl, _, rfl, q⟩))
theorem ga_go {ps done : List PyData} (hd : done.length ≤ 1000) (hp : PT e ps) (hx : ps[(done ++ [v]).length]? = some b) (q : Adv S0 due (Mrun P F d c cs v (evT b env (gaT e env (done ++ [v]) r)))) : Adv S0 due (Mrun P F d c cs v (gaT e env done r)) := adv_step (so_ga hd (np_more hp hx ⟨rfl, _, rfl, rfl, _, rfl, q⟩))
theorem ga_all {ps done : List PyData} (hd : done.length ≤ 1000) (hp : PT e ps) (hl : (done ++ [v]).length = ps.length) (q : Wp2 (f3_Machine_perform [.r S0.length, .d e, .d env, .d (.tuple (done ++ [v])), .d r] (MS S0 (Mrun P F d c cs v (gaT e env done r)))) (MsQ S0 (Adv S0 due))) : Adv S0 due (Mrun P F d c cs v (gaT e env done r)) := adv_step (so_ga hd (np_all hp hl (q.imp fun w S ⟨_, m, e, q⟩ => ⟨m, e, rfl, _, rfl, rfl, _, rfl, q⟩)))
theorem ev_1 (hp : PT e [a]) (h : Ev S0 due P d F a env c cs c1 cs1 x) {v r : PyData} (q : ∀ p, Wp2 (f3_Machine_perform [.r S0.length, .d e, .d env, .d (.tuple [x]), .d r] (MS S0 (Mrun P F d c1 cs1 x p))) (MsQ S0 (Adv S0 due))) : Adv S0 due (Mrun P F d c cs v (evT e env r)) :=
  ev_go hp (h _ _ (ga_all (Nat.le_of_ble_eq_true rfl) hp rfl (q _)))
theorem ev_2 (hp : PT e [a, b]) (h : Ev S0 due P d F a env c cs c1 cs1 x) (h2 : Ev S0 due P d F b env c1 cs1 c2 cs2 y) {v r : PyData} (q : ∀ p, Wp2 (f3_Machine_perform [.r S0.length, .d e, .d env, .d (.tuple [x, y]), .d r] (MS S0 (Mrun P F d c2 cs2 y p))) (MsQ S0 (Adv S0 due))) : Adv S0 due (Mrun P F d c cs v (evT e env r)) :=
  ev_go hp (h _ _ (ga_go (Nat.le_of_ble_eq_true rfl) hp rfl (h2 _ _ (ga_all (Nat.le_of_ble_eq_true rfl) hp rfl (q _)))))
theorem ev_op {k : Int} {s : Str} {w : List PyData} (h : Ev S0 due P d F a env c cs c1 cs1 x) (h2 : Ev S0 due P d F b env c1 cs1 c2 cs2 y) (ho : ∀ (S : List MO) (Q' : W3 → List MO → Prop), Q' (.d (.tuple w)) S → Wp2 (f3_op_value [.d (.str s), .d x, .d y] S) Q') : Ev S0 due P d F (opN k s a b) env c cs c2 cs2 (.tuple w) := fun v r q => ev_2 .op h h2 fun p => pf_op ho ⟨rfl, _, rfl, q⟩
theorem ev_mk {k : Int} {s : Str} (h : Ev S0 due P d F a env c cs c1 cs1 x) : Ev S0 due P d F (mkN k s a) env c cs c1 cs1 (.tuple [.str "make", .str s, x]) := fun v r q => ev_1 .mk h fun p => pf_mk ⟨rfl, _, rfl, q⟩
theorem ev_tg {k : Int} {s : Str} (h : Ev S0 due P d F a env c cs c1 cs1 x) : Ev S0 due P d F (tgN k s a) env c cs c1 cs1 (.tuple [.str "tag", .str s, x]) := fun v r q => ev_1 .tg h fun p => pf_tg ⟨rfl, _, rfl, q⟩
theorem ev_cl {k : Int} {t : PyData} (h : Ev S0 due P d F a env c cs c1 cs1 x) (hl : cs1.length < 100000) : Ev S0 due P d F (clN k t a) env c cs c1 (cs1 ++ [x]) (clV cs1.length) := fun v r q => ev_1 .cl h fun p => pf_cl hl ⟨rfl, _, rfl, q⟩
theorem ev_rd {k : Int} {i : Nat} (h : Ev S0 due P d F a env c cs c1 cs1 (clV i)) (hi : cs1[i]? = some x) : Ev S0 due P d F (rdN k a) env c cs c1 cs1 x := fun v r q => ev_1 .rd h fun p => pf_rd hi ⟨rfl, _, rfl, q⟩
theorem ev_wr {k : Int} {i : Nat} (h : Ev S0 due P d F a env c cs c1 cs1 (clV i)) (h2 : Ev S0 due P d F b env c1 cs1 c2 cs2 y) (hi : i < cs2.length) : Ev S0 due P d F (wrN k a b) env c cs c2 (cs2.set i y) (.tuple [.str "record", .tuple []]) := fun v r q => ev_2 .wr h h2 fun p => pf_wr hi ⟨rfl, _, rfl, q⟩
theorem ev_if {k : Int} {t : PyData} {z : Bool} (h : Ev S0 due P d F t env c cs c1 cs1 (trV z)) (h2 : Ev S0 due P d F (if z = true then a else b) env c1 cs1 c2 cs2 x) : Ev S0 due P d F (ifN k t a b) env c cs c2 cs2 x := fun v r q => ev_1 .ite h fun p => pf_if ⟨rfl, _, rfl, h2 _ _ q⟩
theorem fu_if {k : Int} {t : PyData} {z : Bool} (h : Ev S0 due P d F t env c cs c1 cs1 (trV z)) (h2 : Fu S0 due P d F (if z = true then a else b) env c1 cs1) : Fu S0 due P d F (ifN k t a b) env c cs := fun v r => ev_1 .ite h fun p => pf_if ⟨rfl, _, rfl, h2 _ _⟩
theorem ev_lt {k : Int} {n : Str} (h : Ev S0 due P d F a env c cs c1 cs1 x) (h2 : Ev S0 due P d F b (eb "value" n x env) c1 cs1 c2 cs2 y) : Ev S0 due P d F (ltN k n a b) env c cs c2 cs2 y := fun v r q => ev_1 .lt h fun p => pf_let ⟨rfl, _, rfl, h2 _ _ q⟩
theorem fu_lt {k : Int} {n : Str} (h : Ev S0 due P d F a env c cs c1 cs1 x) (h2 : Fu S0 due P d F b (eb "value" n x env) c1 cs1) : Fu S0 due P d F (ltN k n a b) env c cs := fun v r => ev_1 .lt h fun p => pf_let ⟨rfl, _, rfl, h2 _ _⟩
theorem fu_1 {ps : List PyData} (hp : PT e (a :: ps)) (h : Fu S0 due P d F a env c cs) : Fu S0 due P d F e env c cs := fun v r => ev_go hp (h _ _)
theorem ev_ap {k : Int} {xn : Str} {body env1 : PyData} {ss : List Sd} (h : Ev S0 due P d F a env c cs c1 cs1 (clo xn body env1 ss)) (h2 : Ev S0 due P d F b env c1 cs1 c2 cs2 y) (hc : c2 < F) (h3 : Ev S0 due P d F body (eb "value" xn y (gb env1 ss)) (c2 + 1) cs2 c3 cs3 x) : Ev S0 due P d F (apN k a b) env c cs c3 cs3 x := fun v r q => ev_2 .app h h2 fun p => pf_app hc ⟨rfl, _, rfl, h3 _ _ q⟩
theorem fu_ap {k : Int} {xn : Str} {body env1 : PyData} {ss : List Sd} (h : Ev S0 due P d F a env c cs c1 cs1 (clo xn body env1 ss)) (h2 : Ev S0 due P d F b env c1 cs1 c2 cs2 y) (hc : c2 < F) (h3 : Fu S0 due P d F body (eb "value" xn y (gb env1 ss)) (c2 + 1) cs2) : Fu S0 due P d F (apN k a b) env c cs := fun v r => ev_2 .app h h2 fun p => pf_app hc ⟨rfl, _, rfl, h3 _ _⟩
theorem fu_now {k : Int} {xn : Str} {body env1 : PyData} {ss : List Sd} (h : Ev S0 due P d F a env c cs c1 cs1 (clo xn body env1 ss)) (h2 : Ev S0 due P d F b env c1 cs1 F cs2 y) (hd : due = .tuple [.str "fuel", .none, .int F]) : Fu S0 due P d F (apN k a b) env c cs := fun v r => ev_2 .app h h2 fun p => pf_appx (Int.le_refl _) ⟨rfl, _, rfl, by rw [hd]; exact adv_end⟩
end
end EA
namespace EA
open PySem PySem.Spec PyProof.Rows L2
/-! ### the deep calls -/
/-- the call of t with one less -/
inductive Going (t x : Str) : PyData → Prop
  | mk {k1 k2 k3 k4 k5 : Int} : Going t x (apN k1 (nmN k2 t) (opN k3 "-" (nmN k4 x) (nuN k5 1)))
inductive Lt (step base : Int) (t x : Str) : Int → PyData → PyData → Prop
  | k0 {a b m : Int} {g : PyData} : Going t x g → Lt step base t x 0 (opN a "+" g (nuN b step)) (nuN m base)
  | k1 {a m : Int} {g : PyData} : Going t x g → Lt step base t x 1 (mkN a "c" g) (nuN m base)
  | k2 {a m : Int} {g : PyData} : Going t x g → Lt step base t x 2 (tgN a "l" g) (nuN m base)
  | k3 {a b1 b2 b3 b4 b5 b6 m m2 : Int} {g : PyData} : Going t x g → Lt step base t x 3 (ltN a "w" (wrN b1 (nmN b2 "c") (opN b3 "+" (rdN b4 (nmN b5 "c")) (nuN b6 step))) g) (rdN m (nmN m2 "c"))
structure Sok (kind step base : Int) (ss : List Sd) (s : Sd) : Prop where
  ok : ∃ t ∈ ss, ∃ (later last : PyData) (k k1 k2 k3 : Int), Lt step base t.name s.x kind later last ∧ s.body = ifN k (opN k1 "<" (nmN k2 s.x) (nuN k3 1)) last later
structure Fam (env0 : PyData) (ss : List Sd) : Prop where
  look : ∀ s ∈ ss, ∀ t ∈ ss, ∀ w, Lk "value" t.name (eb "value" s.x w (gb env0 ss)) (clo t.x t.body env0 ss)
  lookw : ∀ s ∈ ss, ∀ t ∈ ss, ∀ w z, Lk "value" t.name (eb "value" "w" z (eb "value" s.x w (gb env0 ss))) (clo t.x t.body env0 ss)
  lookx : ∀ s ∈ ss, ∀ w z, Lk "value" s.x (eb "value" "w" z (eb "value" s.x w (gb env0 ss))) w
  cell : ∀ s ∈ ss, ∀ w, Lk "value" "c" (eb "value" s.x w (gb env0 ss)) (clV 0)
def twr (w s : Str) : Nat → PyData → PyData
  | 0, y => y
  | n + 1, y => .tuple [.str w, .str s, twr w s n y]
/-- the cells and the value after n calls -/
def resC (kind step : Int) (n : Nat) (b : Int) : Int := if kind = 3 then b + n * step else b
def resV (kind step base : Int) (n : Nat) (b : Int) : PyData := if kind = 3 then nuV (b + n * step) else if kind = 0 then nuV (base + n * step) else if kind = 1 then twr "make" "c" n (nuV base) else twr "tag" "l" n (nuV base)
section
variable {S0 : List MO} {P d due env0 : PyData} {F kind step base : Int} {ss : List Sd}
theorem ev_test {k1 k2 k3 : Int} {x : Str} {env : PyData} {n c : Int} {cs : List PyData} (h : Lk "value" x env (nuV n)) : Ev S0 due P d F (opN k1 "<" (nmN k2 x) (nuN k3 1)) env c cs c cs (trV (decide (n < 1))) :=
  ev_op (ev_pl (.name h)) (ev_pl .num) fun S Q q => op_lt3 q
theorem ev_less {k3 k4 k5 : Int} {x : Str} {env : PyData} {n : Nat} {c : Int} {cs : List PyData} (h : Lk "value" x env (nuV (n + 1 : Nat))) : Ev S0 due P d F (opN k3 "-" (nmN k4 x) (nuN k5 1)) env c cs c cs (nuV n) := by
  have := ev_op (S0 := S0) (due := due) (P := P) (d := d) (F := F) (k := k3) (s := "-") (c := c) (cs := cs) (ev_pl (.name (k := k4) h)) (ev_pl (.num (k := k5) (i := 1))) fun S Q q => op_sub3 q
  rw [show ((n + 1 : Nat) : Int) - 1 = n by omega] at this
  exact this
theorem ev_going {t s : Sd} {g env : PyData} {n : Nat} {c c' : Int} {cs cs' : List PyData} {y : PyData} (hg : Going t.name s.x g) (h1 : Lk "value" t.name env (clo t.x t.body env0 ss)) (h2 : Lk "value" s.x env (nuV (n + 1 : Nat))) (hc : c < F) (ih : Ev S0 due P d F t.body (eb "value" t.x (nuV n) (gb env0 ss)) (c + 1) cs c' cs' y) : Ev S0 due P d F g env c cs c' cs' y := by
  cases hg
  exact ev_ap (ev_pl (.name h1)) (ev_less h2) hc ih
theorem fu_going {t s : Sd} {g env : PyData} {n : Nat} {c : Int} {cs : List PyData} (hg : Going t.name s.x g) (h1 : Lk "value" t.name env (clo t.x t.body env0 ss)) (h2 : Lk "value" s.x env (nuV (n + 1 : Nat))) (hc : c ≤ F) (hd : due = .tuple [.str "fuel", .none, .int F]) (ih : c < F → Fu S0 due P d F t.body (eb "value" t.x (nuV n) (gb env0 ss)) (c + 1) cs) : Fu S0 due P d F g env c cs := by
  cases hg
  by_cases z : c < F
  · exact fu_ap (ev_pl (.name h1)) (ev_less h2) z (ih z)
  · have : c = F := by omega
    subst this
    exact fu_now (ev_pl (.name h1)) (ev_less h2) hd
theorem deep_val (hf : Fam env0 ss) (hs : ∀ s ∈ ss, Sok kind step base ss s) : ∀ (n : Nat) (s : Sd), s ∈ ss → ∀ (c b : Int), c + n ≤ F → (kind = 3 ∨ b = base) → Ev S0 due P d F s.body (eb "value" s.x (nuV n) (gb env0 ss)) c [nuV b] (c + n) [nuV (resC kind step n b)] (resV kind step base n b)
  | 0, s, hm, c, b, hc, hb => by
    obtain ⟨t, ht, later, last, k, k1, k2, k3, hl, e⟩ := (hs s hm).ok
    rw [e]
    refine ev_if (z := true) (ev_test (n := 0) .here) ?_
    rw [if_pos rfl, show c + ((0 : Nat) : Int) = c by omega]
    have e1 : resC kind step 0 b = b := by
      unfold resC
      split
      · rw [show ((0 : Nat) : Int) = 0 from rfl, Int.zero_mul, Int.add_zero]
      · rfl
    rw [e1]
    cases hl with
    | k0 => 
      have : resV 0 step base 0 b = nuV base := by
        unfold resV
        rw [if_neg (by decide), if_pos rfl, show ((0 : Nat) : Int) = 0 from rfl, Int.zero_mul, Int.add_zero]
      rw [this]
      exact ev_pl .num
    | k1 => exact ev_pl .num
    | k2 => exact ev_pl .num
    | k3 =>
      have : resV 3 step base 0 b = nuV b := by
        unfold resV
        rw [if_pos rfl, show ((0 : Nat) : Int) = 0 from rfl, Int.zero_mul, Int.add_zero]
      rw [this]
      exact ev_rd (i := 0) (ev_pl (.name (hf.cell s hm _))) rfl
  | n + 1, s, hm, c, b, hc, hb => by
    obtain ⟨t, ht, later, last, k, k1, k2, k3, hl, e⟩ := (hs s hm).ok
    rw [e]
    refine ev_if (z := false) (by
      have := ev_test (S0 := S0) (due := due) (P := P) (d := d) (F := F) (k1 := k1) (k2 := k2) (k3 := k3) (x := s.x) (env := eb "value" s.x (nuV (n + 1 : Nat)) (gb env0 ss)) (n := ((n + 1 : Nat) : Int)) (c := c) (cs := [nuV b]) .here
      rw [show decide (((n + 1 : Nat) : Int) < 1) = false from decide_eq_false (by omega)] at this
      exact this) ?_
    rw [if_neg Bool.false_ne_true]
    have hc1 : c + ((n + 1 : Nat) : Int) = c + 1 + n := by omega
    have lx : Lk "value" s.x (eb "value" s.x (nuV (n + 1 : Nat)) (gb env0 ss)) (nuV (n + 1 : Nat)) := .here
    have ih := fun b' hb' => deep_val hf hs n t ht (c + 1) b' (by omega) hb'
    rw [hc1]
    have em : ((n + 1 : Nat) : Int) * step = n * step + step := by rw [show ((n + 1 : Nat) : Int) = n + 1 by omega, Int.add_mul, Int.one_mul]
    cases hl with
    | k0 hg =>
      have g := ev_going hg (hf.look s hm t ht _) lx (by omega) (ih b hb)
      have e1 : resV 0 step base n b = nuV (base + n * step) := rfl
      have e2 : resV 0 step base (n + 1) b = nuV (base + n * step + step) := by
        show nuV (base + ((n + 1 : Nat) : Int) * step) = _
        rw [em, Int.add_assoc]
      rw [e1] at g
      rw [e2]
      exact ev_op g (ev_pl .num) fun S Q q => op_add3 q
    | k1 hg => exact ev_mk (ev_going hg (hf.look s hm t ht _) lx (by omega) (ih b hb))
    | k2 hg => exact ev_tg (ev_going hg (hf.look s hm t ht _) lx (by omega) (ih b hb))
    | k3 hg =>
      have g := ev_going hg (hf.lookw s hm t ht _ (.tuple [.str "record", .tuple []])) (hf.lookx s hm _ _) (by omega) (ih (b + step) (.inl rfl))
      have e1 : resC 3 step (n + 1) b = resC 3 step n (b + step) := by
        show b + ((n + 1 : Nat) : Int) * step = b + step + n * step
        rw [em]; omega
      have e2 : resV 3 step base (n + 1) b = resV 3 step base n (b + step) := by
        show nuV (b + ((n + 1 : Nat) : Int) * step) = nuV (b + step + n * step)
        rw [em, show b + (n * step + step) = b + step + n * step by omega]
      rw [e1, e2]
      have lc := hf.cell s hm (nuV (n + 1 : Nat))
      exact ev_lt (ev_wr (i := 0) (ev_pl (.name lc)) (ev_op (ev_rd (i := 0) (ev_pl (.name lc)) rfl) (ev_pl .num) fun S Q q => op_add3 q) (by show 0 < 1; omega)) g
theorem deep_fuel (hf : Fam env0 ss) (hs : ∀ s ∈ ss, Sok kind step base ss s) (hd : due = .tuple [.str "fuel", .none, .int F]) : ∀ (n : Nat) (s : Sd), s ∈ ss → ∀ (c b : Int), c ≤ F → F < c + n → Fu S0 due P d F s.body (eb "value" s.x (nuV n) (gb env0 ss)) c [nuV b]
  | 0, s, hm, c, b, hc, h => by omega
  | n + 1, s, hm, c, b, hc, h => by
    obtain ⟨t, ht, later, last, k, k1, k2, k3, hl, e⟩ := (hs s hm).ok
    rw [e]
    refine fu_if (z := false) (by
      have := ev_test (S0 := S0) (due := due) (P := P) (d := d) (F := F) (k1 := k1) (k2 := k2) (k3 := k3) (x := s.x) (env := eb "value" s.x (nuV (n + 1 : Nat)) (gb env0 ss)) (n := ((n + 1 : Nat) : Int)) (c := c) (cs := [nuV b]) .here
      rw [show decide (((n + 1 : Nat) : Int) < 1) = false from decide_eq_false (by omega)] at this
      exact this) ?_
    rw [if_neg Bool.false_ne_true]
    have lx : Lk "value" s.x (eb "value" s.x (nuV (n + 1 : Nat)) (gb env0 ss)) (nuV (n + 1 : Nat)) := .here
    have ih := fun b' (z : c < F) => deep_fuel hf hs hd n t ht (c + 1) b' (by omega) (by omega)
    cases hl with
    | k0 hg => exact fu_1 .op (fu_going hg (hf.look s hm t ht _) lx hc hd (ih b))
    | k1 hg => exact fu_1 .mk (fu_going hg (hf.look s hm t ht _) lx hc hd (ih b))
    | k2 hg => exact fu_1 .tg (fu_going hg (hf.look s hm t ht _) lx hc hd (ih b))
    | k3 hg =>
      have g := fu_going hg (hf.lookw s hm t ht _ (.tuple [.str "record", .tuple []])) (hf.lookx s hm _ _) hc hd (ih (b + step))
      have lc := hf.cell s hm (nuV (n + 1 : Nat))
      exact fu_lt (ev_wr (i := 0) (ev_pl (.name lc)) (ev_op (ev_rd (i := 0) (ev_pl (.name lc)) rfl) (ev_pl .num) fun S Q q => op_add3 q) (by show 0 < 1; omega)) g
end
end EA
namespace EA
open PySem PySem.Spec PyProof.Rows L2
local macro_rules | `(tactic| walk_at "ix") => `(tactic| first | rfl | exact atI_cons0 | exact atI_map0)
local macro_rules | `(tactic| walk_at "st") => `(tactic| first | assumption | rfl | exact get_set (by assumption) | exact get_set (get_set (by assumption)) | exact get_last | exact get_setlast | exact get_setapp (by assumption) | exact get_app (by assumption) | exact get_app (get_set (by assumption)))
local macro_rules | `(tactic| walk_at "tk") => `(tactic| first | exact List.take_length | exact take_set | exact take_set2 | exact take_set3 | exact take_app | exact take_aset | exact take_setapp | rfl)
local macro_rules | `(tactic| walk_at "sd") => `(tactic| first | omega | assumption | decide)
local macro_rules | `(tactic| walk_at "wpx") => `(tactic| first
  | with_reducible refine ite2 (fun _ => ?_) (fun z => absurd rfl z)
  | with_reducible refine ite2 (fun z => absurd z Bool.false_ne_true) (fun _ => ?_)
  | ((with_reducible refine gate_wp ?_); (first
    | ((with_reducible apply wp_viewr); (walk_at "st")) | ((with_reducible apply wp_lat); (walk_at "st"))
    | ((with_reducible refine gate_eq ?_); (first | with_reducible refine wp_geqs ?_ | with_reducible refine wp_geqb ?_ | with_reducible refine wp_geq_nil ?_))
    | ((with_reducible refine gate_ne ?_); (first | with_reducible refine wp_gnes ?_ | with_reducible refine wp_gneb ?_ | with_reducible refine wp_gne_nil ?_))
    | ((with_reducible refine gate_ix ?_); (first | ((with_reducible apply wp_ixd); (walk_at "ix")) | ((with_reducible apply wp_ixt); (walk_at "ix")) | ((with_reducible apply wp_ixr); (walk_at "st"); (walk_at "ix"))))
    | ((with_reducible apply wp_trur); (walk_at "st"))
    | ((with_reducible refine wp_l4s ?_ ?_); (first | omega | assumption | decide +kernel)) | with_reducible refine wp_l4 ?_ | ((with_reducible apply wp_l3r); (walk_at "st"))
    | ((with_reducible refine wp_mod ?_ ?_); (walk_at "sd")) | ((with_reducible refine wp_fdiv ?_ ?_); (walk_at "sd")) | ((with_reducible refine wp_mulr ?_ ?_); (walk_at "sd")) | ((with_reducible refine wp_mull ?_ ?_); (walk_at "sd")) | ((with_reducible refine wp_pow ?_ ?_); (walk_at "sd"))
    | ((with_reducible apply wp_lenr); (walk_at "st"))
    | ((with_reducible refine wp_gis ?_ ?_); rfl) | ((with_reducible refine wp_gisn ?_ ?_); rfl)
    | ((with_reducible refine gate_isi ?_); (first | ((with_reducible refine isi_t (r := true) ?_ ?_); (decide +kernel)) | ((with_reducible refine isi_t (r := false) ?_ ?_); (decide +kernel)) | ((with_reducible refine isi_b (r := true) ?_ ?_); (decide +kernel)) | ((with_reducible refine isi_b (r := false) ?_ ?_); (decide +kernel)) | ((with_reducible refine isi_i (r := true) ?_ ?_); (decide +kernel)) | ((with_reducible refine isi_i (r := false) ?_ ?_); (decide +kernel)) | ((with_reducible refine isi_s (r := true) ?_ ?_); (decide +kernel)) | ((with_reducible refine isi_s (r := false) ?_ ?_); (decide +kernel)) | ((with_reducible refine isi_l (r := true) ?_ ?_); (decide +kernel)) | ((with_reducible refine isi_l (r := false) ?_ ?_); (decide +kernel)) | ((with_reducible refine isi_n (r := true) ?_ ?_); (decide +kernel)) | ((with_reducible refine isi_n (r := false) ?_ ?_); (decide +kernel))))
    | ((with_reducible apply wp_tupr); (walk_at "st"))))
  | ((with_reducible refine gate_rq ?_); (first | ((with_reducible apply rq_dt); (walk_at "tk")) | ((with_reducible apply rq_nxt); (walk_at "tk"))))
  | ((with_reducible apply fz_r); (walk_at "st")) | ((with_reducible apply sq_r); (walk_at "st"))
  | ((with_reducible apply atSet_i); (walk_at "st"); rfl) | ((with_reducible apply atLst_i); (walk_at "st")) | ((with_reducible apply nowLst_i); (walk_at "st"))
  | ((with_reducible refine rng1_i ?_ ?_); (walk_at "sd")) | ((with_reducible refine rng2_i ?_ ?_); (walk_at "sd")))
local macro_rules | `(tactic| walk_at "wp") => `(tactic| first
  | with_reducible refine step_of ?_ | ((with_reducible apply wp_var); rfl) | walk_at "wpx")
local macro_rules | `(tactic| walk_at "fdef") => `(tactic| (refine wp_fdef rfl ?_; simp only [List.map_cons, List.map_nil, List.replicate_succ, List.replicate_zero, List.cons_append, List.nil_append]))
local macro_rules | `(tactic| walk_at "keq") => `(tactic| first
  | refine wp_geqD (c := false) (.inr (by decide +kernel)) rfl ?_ | refine wp_geqD (c := true) (.inr (by decide +kernel)) rfl ?_)
local macro_rules | `(tactic| walk_at "wk") => `(tactic| first
  | with_reducible refine step_of ?_ | ((with_reducible apply wp_var); rfl)
  | ((with_reducible refine gate_wp ?_); (first
    | with_reducible refine wp_geqsD (c := false) (by decide +kernel) ?_ | with_reducible refine wp_geqsD (c := true) (by decide +kernel) ?_
    | with_reducible refine wp_gnesD (c := false) (by decide +kernel) ?_ | with_reducible refine wp_gnesD (c := true) (by decide +kernel) ?_
    | with_reducible refine wp_gin_lit (c := true) (by decide +kernel) ?_ | with_reducible refine wp_gin_lit (c := false) (by decide +kernel) ?_))
  | with_reducible refine ite_t rfl ?_ | with_reducible refine ite_f rfl ?_
  | walk_at "wpx")
local macro_rules | `(tactic| walk_at "w1") => `(tactic| (fail_if_success (with_reducible refine th_nx ?_)); walk_at "wk")
local macro_rules | `(tactic| walk_at "ms") => `(tactic| first
  | with_reducible refine rq_nxt ms_take ?_ | with_reducible refine rq_dt ms_take ?_ | with_reducible refine rq_nxt ms_takeT ?_ | with_reducible refine rq_dt ms_takeT ?_
  | walk_at "wk")
noncomputable def f3_Machine___init__ : F3 := fdefK 3 0
  (sSeq (sFS "Machine" (eVar 0) "program" (eVar 1))
  (sSeq (sFS "Machine" (eVar 0) "fuel" (eVar 2))
  (sSeq (sFS "Machine" (eVar 0) "outcome" (eD .none))
  (sSeq (sFS "Machine" (eVar 0) "waiting" (eD .none))
  (sSeq (sFS "Machine" (eVar 0) "decided" (eTup aNil))
  (sSeq (sFS "Machine" (eVar 0) "calls" (eD (.int (0))))
  (sSeq (sFS "Machine" (eVar 0) "cells" (eNo (nLst aNil)))
  (sSeq (sFS "Machine" (eVar 0) "value" (eD .none))
  (sFS "Machine" (eVar 0) "pile" (eTup (aCons (eTup (aCons (eD (.str "rows")) (aCons (eOp gIx (eVar 1) (eD (.int (2)))) (aCons (eD .none) (aCons (eTup (aCons (eD (.str "main")) (aCons (eOp gIx (eVar 1) (eD (.int (3)))) aNil))) aNil))))) (aCons (eD .none) aNil))))))))))))
noncomputable def f3_run : F3 := fdef false 2 1
  (sSeq (sSet 2 (eMk "Machine" f3_Machine___init__ (aCons (eVar 0) (aCons (eVar 1) aNil))))
  (sSeq (sEx (eMt "Machine" "advance" f3_Machine_advance (eVar 2) aNil))
  (sSeq (sIf (tCmp gIsN (eFG "Machine" (eVar 2) "waiting") (eD .none))
  sNo
  sNx)
  (sRt (eFG "Machine" (eVar 2) "outcome")))))
theorem ins_put {S : List MO} {n f : Str} {kvs : List (Str × W3)} {v : W3} {KP : List MO → Prop} (h : kvs.length < 900 ∧ KP (S ++ [.ins n (fput f v kvs)])) : InsP n (.r S.length) (S ++ [.ins n kvs]) f v KP := by
  refine ⟨kvs, ?_, h.1, ?_⟩
  · unfold insAt
    dsimp only
    rw [List.getElem?_append_right (Nat.le_refl _), Nat.sub_self]
    exact if_pos rfl
  · have : setAt (S ++ [.ins n kvs]) (.r S.length) (.ins n (fput f v kvs)) = S ++ [.ins n (fput f v kvs)] := set_last
    rw [this]
    exact h.2
instance (priority := high) st_ins_put {S : List MO} {n f : Str} {kvs : List (Str × W3)} {v : W3} {KP : List MO → Prop} : Step (InsP n (.r S.length) (S ++ [.ins n kvs]) f v KP) (kvs.length < 900 ∧ KP (S ++ [.ins n (fput f v kvs)])) := ⟨ins_put⟩
instance ms_cut0 {S : List MO} {m : Mc} : CutR S (MS S m) := ⟨fun i o hi e => by
  unfold MS at e
  rw [List.getElem?_append_left hi] at e
  exact .inr e⟩
theorem init3 {S : List MO} {k F : Int} {rows : List PyData} {main : PyData} {Q : W3 → List MO → Prop} (q : Q (.d .none) (MS S (Mrun (.tuple [.str "program", .int k, .tuple rows, main]) F (.tuple []) 0 [] .none (rwT rows .none (.tuple [.str "main", main]) .none)))) : Wp2 (f3_Machine___init__ [.r S.length, .d (.tuple [.str "program", .int k, .tuple rows, main]), .d (.int F)] (S ++ [.ins "Machine" []])) Q := by
  unfold f3_Machine___init__
  refine wp_fdefK rfl ?_
  simp only [List.map_cons, List.map_nil, List.replicate_succ, List.replicate_zero, List.cons_append, List.nil_append]
  repeat (first | walk_at "wk" | refine ⟨Nat.le_of_ble_eq_true rfl, ?_⟩)
  rw [List.length_append, List.append_assoc]
  exact q
theorem run3 {S : List MO} {k F : Int} {rows : List PyData} {main : PyData} {xs : List PyData} {Q : W3 → List MO → Prop} (h : Adv S (.tuple xs) (Mrun (.tuple [.str "program", .int k, .tuple rows, main]) F (.tuple []) 0 [] .none (rwT rows .none (.tuple [.str "main", main]) .none))) (q : Q (.d (.tuple xs)) S) : Wp2 (f3_run [.d (.tuple [.str "program", .int k, .tuple rows, main]), .d (.int F)] S) Q := by
  unfold f3_run
  walk_at "fdef"
  repeat walk_at "ms"
  refine init3 ?_
  repeat walk_at "ms"
  rw [advance_eq]
  walk_at "fdef"
  refine h.imp fun o ⟨m', e, e1, e2⟩ => ?_
  subst e
  obtain ⟨P', F', o', w', d', c', cs', v', p'⟩ := m'
  dsimp only at e1 e2
  subst e1 e2
  repeat walk_at "ms"
  exact q
/-! what is told at the end -/
def dpV : PyData := .tuple [.str "deep"]
def tl (w s : Str) (base : Int) : Nat → Nat → PyData
  | 0, _ => dpV
  | _ + 1, 0 => nuV base
  | m + 1, n + 1 => .tuple [.str w, .str s, tl w s base m n]
theorem told3 {w s : Str} {base : Int} (hw : w = "make" ∨ w = "tag") : ∀ (m n j : Nat) (i : Nat) (S : List MO) (cs : List PyData) (Q : W3 → List MO → Prop), S[i]? = some (.lst cs) → m ≤ 7 → Q (.d (tl w s base m n)) S → Wp2 (f3_told_value (m + 1 + j) [.d (twr w s n (nuV base)), .r i, .d (.int (7 - (m : Int)))] S) Q
  | 0, n, j, i, S, cs, Q, hi, hm, q => by
    rw [show 0 + 1 + j = j + 1 by omega]
    unfold f3_told_value
    walk_at "fdef"
    repeat walk_at "ms"
    exact q
  | m + 1, 0, j, i, S, cs, Q, hi, hm, q => by
    rw [show m + 1 + 1 + j = (m + 1 + j) + 1 by omega]
    unfold f3_told_value
    walk_at "fdef"
    repeat walk_at "ms"
    refine ite2 (fun z => absurd (of_decide_eq_true z) (by omega)) (fun _ => ?_)
    unfold twr nuV
    repeat walk_at "ms"
    exact q
  | m + 1, n + 1, j, i, S, cs, Q, hi, hm, q => by
    have ih := fun Q' => told3 (s := s) (base := base) hw m n j i S cs Q' hi (by omega)
    rw [show m + 1 + 1 + j = (m + 1 + j) + 1 by omega]
    unfold f3_told_value
    walk_at "fdef"
    repeat walk_at "ms"
    refine ite2 (fun z => absurd (of_decide_eq_true z) (by omega)) (fun _ => ?_)
    unfold twr
    have e : (7 - ((m + 1 : Nat) : Int) + 1) = 7 - (m : Int) := by omega
    rcases hw with rfl | rfl
    · repeat walk_at "ms"
      rw [e]
      refine ih _ ?_
      repeat walk_at "ms"
      exact q
    · repeat walk_at "ms"
      rw [e]
      refine ih _ ?_
      repeat walk_at "ms"
      exact q
theorem told_nu {i j : Nat} {b : Int} {S : List MO} {Q : W3 → List MO → Prop} (q : Q (.d (nuV b)) S) : Wp2 (f3_told_value (j + 1) [.d (nuV b), .r i, .d (.int 0)] S) Q := by
  unfold f3_told_value nuV
  walk_at "fdef"
  repeat walk_at "ms"
  exact q
end EA
namespace EA
open PySem PySem.Spec PyProof.Rows L2
/-! ### the programs of the deep calls, run -/
section
variable {S0 : List MO} {P d due env0 th : PyData} {F kind step base : Int} {ss : List Sd} {c : Int} {cs : List PyData} {v env r : PyData} {rows : List PyData}
theorem rw_rec {k : Int} (hl : ss.length ≤ 1000) (q : Adv S0 due (Mrun P F d c cs v (rwT rows (gb env ss) th r))) : Adv S0 due (Mrun P F d c cs v (rwT (.tuple [.str "defrec", .int k, .tuple (ss.map sdD)] :: rows) env th r)) := adv_step (so_rw (gr_rec hl ⟨rfl, _, rfl, rfl, _, rfl, q⟩))
theorem rw_end {node : PyData} (q : Adv S0 due (Mrun P F d c cs v (evT node env r))) : Adv S0 due (Mrun P F d c cs v (rwT [] env (.tuple [.str "main", node]) r)) := adv_step (so_rw (gr_end ⟨rfl, _, rfl, rfl, _, rfl, q⟩))
theorem rw_endm {name : Str} {later : List PyData} {env1 : PyData} {l : List (Str × PyData)} (h : Sv env l) (hl : l.length ≤ 1000) (q : Adv S0 due (Mrun P F d c cs v (rwT later (eb "module" name (.tuple (l.map pairD)) env1) th r))) : Adv S0 due (Mrun P F d c cs v (rwT [] env (.tuple [.str "module", .str name, .tuple later, env1, th]) r)) := adv_step (so_rw (gr_endm h hl ⟨rfl, _, rfl, rfl, _, rfl, q⟩))
theorem rw_fun {k : Int} {x y s sg : PyData} {body : List PyData} (q : Adv S0 due (Mrun P F d c cs v (rwT rows (.tuple [.str "functor", x, .tuple [y, .tuple body, env], env]) th r))) : Adv S0 due (Mrun P F d c cs v (rwT (.tuple [.str "functor", .int k, x, y, s, .tuple body, sg] :: rows) env th r)) := adv_step (so_rw (gr_fun ⟨rfl, _, rfl, rfl, _, rfl, q⟩))
theorem rw_mod {k k2 : Int} {x : Str} {z : PyData} {body : List PyData} (q : Adv S0 due (Mrun P F d c cs v (rwT body (eb "start" "" .none env) (.tuple [.str "module", .str x, .tuple rows, env, th]) r))) : Adv S0 due (Mrun P F d c cs v (rwT (.tuple [.str "module", .int k, .str x, .tuple [.str "struct", .int k2, .tuple body], z] :: rows) env th r)) := adv_step (so_rw (gr_mod ⟨rfl, _, rfl, rfl, _, rfl, q⟩))
theorem rw_app {k k2 : Int} {x m y yn : Str} {z env2 : PyData} {vals body : List PyData} (h1 : Lk "functor" m env (.tuple [.str yn, .tuple body, env2])) (h2 : Lk "module" y env (.tuple vals)) (q : Adv S0 due (Mrun P F d c cs v (rwT body (eb "start" "" .none (eb "module" yn (.tuple vals) env2)) (.tuple [.str "module", .str x, .tuple rows, env, th]) r))) : Adv S0 due (Mrun P F d c cs v (rwT (.tuple [.str "module", .int k, .str x, .tuple [.str "apply", .int k2, .str m, .str y], z] :: rows) env th r)) := adv_step (so_rw (gr_app h1 h2 ⟨rfl, _, rfl, rfl, _, rfl, q⟩))
theorem rw_cell {k k2 k3 : Int} {x : Str} {t : PyData} (q : Adv S0 due (Mrun P F d c [nuV base] (clV 0) (rwT rows (eb "value" x (clV 0) env) th r))) : Adv S0 due (Mrun P F d c [] v (rwT (.tuple [.str "def", .int k, .str x, clN k2 t (nuN k3 base)] :: rows) env th r)) :=
  adv_step (so_rw (gr_def ⟨rfl, _, rfl, rfl, _, rfl, ev_cl (cs := []) (ev_pl .num) (by show 0 < 100000; omega) _ _ (adv_step (so_na ⟨rfl, _, rfl, q⟩))⟩))
/-- the main call -/
theorem main_val {k k2 : Int} {f : PyData} {n : Nat} {s : Sd} {y : PyData} (hf : Fam env0 ss) (hs : ∀ s ∈ ss, Sok kind step base ss s) (hm : s ∈ ss) (hp : PV env f (clo s.x s.body env0 ss)) (hF : 1 + (n : Int) ≤ F)
    (ht : ∀ (S : List MO) (Q : W3 → List MO → Prop), S[S0.length + 1]? = some (.lst [nuV (resC kind step n base)]) → Q (.d y) S → Wp2 (f3_told_value 12 [.d (resV kind step base n base), .r (S0.length + 1), .d (.int 0)] S) Q) (hd : due = .tuple [.str "value", y, .int (1 + (n : Int))]) : Adv S0 due (Mrun P F d 0 [nuV base] v (evT (apN k f (nuN k2 n)) env .none)) :=
  ev_ap (ev_pl hp) (ev_pl .num) (by omega) (deep_val hf hs n s hm (0 + 1) base (by omega) (.inr rfl)) _ _ (by
    rw [show (0 : Int) + 1 + (n : Int) = 1 + (n : Int) by omega]
    exact adv_told ht hd)
theorem main_fuel {k k2 : Int} {f : PyData} {n : Nat} {s : Sd} (hf : Fam env0 ss) (hs : ∀ s ∈ ss, Sok kind step base ss s) (hm : s ∈ ss) (hp : PV env f (clo s.x s.body env0 ss)) (h0 : 0 ≤ F) (hF : F ≤ (n : Int)) (hd : due = .tuple [.str "fuel", .none, .int F]) : Adv S0 due (Mrun P F d 0 [nuV base] v (evT (apN k f (nuN k2 n)) env .none)) := by
  by_cases z : 0 < F
  · exact fu_ap (ev_pl hp) (ev_pl .num) z (deep_fuel hf hs hd n s hm (0 + 1) base (by omega) (by omega)) _ _
  · have : F = 0 := by omega
    subst this
    exact fu_now (ev_pl hp) (ev_pl .num) hd _ _
end
/-- the family's names: f alone, or f and g -/
def Nms (ss : List Sd) : Prop := (∃ k b, ss = [⟨"f", k, "x", b⟩]) ∨ ∃ k b k' b', ss = [⟨"f", k, "x", b⟩, ⟨"g", k', "y", b'⟩]
theorem Nms.cases {ss : List Sd} (h : Nms ss) : (∃ k b, ss = [⟨"f", k, "x", b⟩]) ∨ ∃ k b k' b', ss = [⟨"f", k, "x", b⟩, ⟨"g", k', "y", b'⟩] := h
theorem fam_of {env0 : PyData} {ss : List Sd} (h : Nms ss) (hc : Lk "value" "c" env0 (clV 0)) : Fam env0 ss := by
  rcases h.cases with ⟨k, b, rfl⟩ | ⟨k, b, k', b', rfl⟩
  · refine ⟨fun s hs t ht w => ?_, fun s hs t ht w z => ?_, fun s hs w z => ?_, fun s hs w => ?_⟩
    · cases List.mem_singleton.mp hs; cases List.mem_singleton.mp ht
      exact .there (by first | decide | (dsimp only; decide)) .here
    · cases List.mem_singleton.mp hs; cases List.mem_singleton.mp ht
      exact .there (by first | decide | (dsimp only; decide)) (.there (by first | decide | (dsimp only; decide)) .here)
    · cases List.mem_singleton.mp hs
      exact .there (by first | decide | (dsimp only; decide)) .here
    · cases List.mem_singleton.mp hs
      exact .there (by first | decide | (dsimp only; decide)) (.there (by first | decide | (dsimp only; decide)) hc)
  · refine ⟨fun s hs t ht w => ?_, fun s hs t ht w z => ?_, fun s hs w z => ?_, fun s hs w => ?_⟩
    · simp only [List.mem_cons, List.not_mem_nil, or_false] at hs ht
      rcases hs with rfl | rfl <;> rcases ht with rfl | rfl
      · exact .there (by first | decide | (dsimp only; decide)) (.there (by first | decide | (dsimp only; decide)) .here)
      · exact .there (by first | decide | (dsimp only; decide)) .here
      · exact .there (by first | decide | (dsimp only; decide)) (.there (by first | decide | (dsimp only; decide)) .here)
      · exact .there (by first | decide | (dsimp only; decide)) .here
    · simp only [List.mem_cons, List.not_mem_nil, or_false] at hs ht
      rcases hs with rfl | rfl <;> rcases ht with rfl | rfl
      · exact .there (by first | decide | (dsimp only; decide)) (.there (by first | decide | (dsimp only; decide)) (.there (by first | decide | (dsimp only; decide)) .here))
      · exact .there (by first | decide | (dsimp only; decide)) (.there (by first | decide | (dsimp only; decide)) .here)
      · exact .there (by first | decide | (dsimp only; decide)) (.there (by first | decide | (dsimp only; decide)) (.there (by first | decide | (dsimp only; decide)) .here))
      · exact .there (by first | decide | (dsimp only; decide)) (.there (by first | decide | (dsimp only; decide)) .here)
    · simp only [List.mem_cons, List.not_mem_nil, or_false] at hs
      rcases hs with rfl | rfl
      · exact .there (by first | decide | (dsimp only; decide)) .here
      · exact .there (by first | decide | (dsimp only; decide)) .here
    · simp only [List.mem_cons, List.not_mem_nil, or_false] at hs
      rcases hs with rfl | rfl
      · exact .there (by first | decide | (dsimp only; decide)) (.there (by first | decide | (dsimp only; decide)) (.there (by first | decide | (dsimp only; decide)) hc))
      · exact .there (by first | decide | (dsimp only; decide)) (.there (by first | decide | (dsimp only; decide)) (.there (by first | decide | (dsimp only; decide)) hc))
/-- a name of the family, looked up behind it -/
theorem gb_look {env0 : PyData} {ss : List Sd} (h : Nms ss) {s : Sd} (hs : s ∈ ss) : Lk "value" s.name (gb env0 ss) (clo s.x s.body env0 ss) := by
  rcases h.cases with ⟨k, b, rfl⟩ | ⟨k, b, k', b', rfl⟩
  · cases List.mem_singleton.mp hs
    exact .here
  · simp only [List.mem_cons, List.not_mem_nil, or_false] at hs
    rcases hs with rfl | rfl
    · exact .there (by first | decide | (dsimp only; decide)) .here
    · exact .here
theorem gb_sv {e : PyData} {ss : List Sd} (h : Nms ss) : ∃ l : List (Str × PyData), Sv (gb (eb "start" "" .none e) ss) l ∧ l.length ≤ 1000 ∧ ∀ s ∈ ss, l.lookup s.name = some (clo s.x s.body (eb "start" "" .none e) ss) := by
  rcases h.cases with ⟨k, b, rfl⟩ | ⟨k, b, k', b', rfl⟩
  · refine ⟨_, .val .start, by show 1 ≤ 1000; omega, fun s hs => ?_⟩
    cases List.mem_singleton.mp hs
    rfl
  · refine ⟨_, .val (.val .start), by show 2 ≤ 1000; omega, fun s hs => ?_⟩
    simp only [List.mem_cons, List.not_mem_nil, or_false] at hs
    rcases hs with rfl | rfl
    · rfl
    · rfl
/-- the rows and the main expression of a program, by how the family is held -/
inductive Held (ss : List Sd) (first : Str) (n base : Int) : Int → List PyData → PyData → Prop
  | h0 {k1 k2 k3 k4 k5 k6 k7 : Int} {t : PyData} : Held ss first n base 0 [.tuple [.str "def", .int k1, .str "c", clN k2 t (nuN k3 base)], .tuple [.str "defrec", .int k4, .tuple (ss.map sdD)]] (apN k5 (nmN k6 first) (nuN k7 n))
  | h1 {k1 k2 k3 k4 k5 k6 k7 : Int} {t : PyData} : Held ss first n base 1 [.tuple [.str "def", .int k1, .str "c", clN k2 t (nuN k3 base)]] (rcN k4 ss (apN k5 (nmN k6 first) (nuN k7 n)))
  | h2 {k1 k2 k3 k4 k5 k6 k7 k8 k9 : Int} {t z : PyData} : Held ss first n base 2 [.tuple [.str "def", .int k1, .str "c", clN k2 t (nuN k3 base)], .tuple [.str "module", .int k8, .str "m", .tuple [.str "struct", .int k9, .tuple [.tuple [.str "defrec", .int k4, .tuple (ss.map sdD)]]], z]] (apN k5 (mbN k6 "m" first) (nuN k7 n))
  | h3 {k1 k2 k3 k4 k5 k6 k7 k8 k9 k10 k11 k12 : Int} {t z z2 y s sg : PyData} : Held ss first n base 3 [.tuple [.str "def", .int k1, .str "c", clN k2 t (nuN k3 base)], .tuple [.str "module", .int k10, .str "k", .tuple [.str "struct", .int k11, .tuple []], z2], .tuple [.str "functor", .int k12, .str "m", .str "k", s, .tuple [.tuple [.str "defrec", .int k4, .tuple (ss.map sdD)]], sg], .tuple [.str "module", .int k8, .str "m", .tuple [.str "apply", .int k9, .str "m", .str "k"], z]] (apN k5 (mbN k6 "m" first) (nuN k7 n))
theorem held_run {S0 : List MO} {P d due : PyData} {F held : Int} {ss : List Sd} {n base : Int} {s : Sd} {rows : List PyData} {main : PyData} (hn : Nms ss) (hm : s ∈ ss) (hh : Held ss s.name n base held rows main)
    (q : ∀ (env env0 f v : PyData) (k k2 : Int), Lk "value" "c" env0 (clV 0) → PV env f (clo s.x s.body env0 ss) → Adv S0 due (Mrun P F d 0 [nuV base] v (evT (apN k f (nuN k2 n)) env .none))) : Adv S0 due (Mrun P F d 0 [] .none (rwT rows .none (.tuple [.str "main", main]) .none)) := by
  have hl : ss.length ≤ 1000 := by
    rcases hn.cases with ⟨k, b, rfl⟩ | ⟨k, b, k', b', rfl⟩
    · show 1 ≤ 1000; omega
    · show 2 ≤ 1000; omega
  cases hh with
  | h0 => exact rw_cell (rw_rec hl (rw_end (q _ (eb "value" "c" (clV 0) .none) _ _ _ _ .here (.name (gb_look hn hm)))))
  | h1 => exact rw_cell (rw_end (adv_step (so_ev (ev_rec hl ⟨rfl, _, rfl, rfl, _, rfl, q _ (eb "value" "c" (clV 0) .none) _ _ _ _ .here (.name (gb_look hn hm))⟩))))
  | h2 =>
    obtain ⟨l, h1, h2, h3⟩ := gb_sv (e := eb "value" "c" (clV 0) .none) hn
    exact rw_cell (rw_mod (rw_rec hl (rw_endm h1 h2 (rw_end (q _ (eb "start" "" .none (eb "value" "c" (clV 0) .none)) _ _ _ _ (.there (by first | decide | (dsimp only; decide)) .here) (.mem .here (h3 s hm)))))))
  | h3 =>
    obtain ⟨l, h1, h2, h3⟩ := gb_sv (e := eb "module" "k" (.tuple []) (eb "module" "k" (.tuple []) (eb "value" "c" (clV 0) .none))) hn
    exact rw_cell (rw_mod (rw_endm (l := []) .start (by show 0 ≤ 1000; omega) (rw_fun (rw_app (yn := "k") (env2 := eb "module" "k" (.tuple []) (eb "value" "c" (clV 0) .none)) (vals := []) .here (.there (by first | decide | (dsimp only; decide)) .here) (rw_rec hl (rw_endm h1 h2 (rw_end (q _ (eb "start" "" .none (eb "module" "k" (.tuple []) (eb "module" "k" (.tuple []) (eb "value" "c" (clV 0) .none)))) _ _ _ _ (.there (by first | decide | (dsimp only; decide)) (.there (by first | decide | (dsimp only; decide)) (.there (by first | decide | (dsimp only; decide)) .here))) (.mem .here (h3 s hm))))))))))
end EA
namespace EA
open PySem PySem.Spec PyProof.Rows L2
local macro_rules | `(tactic| walk_at "ix") => `(tactic| first | rfl | exact atI_cons0 | exact atI_map0)
local macro_rules | `(tactic| walk_at "st") => `(tactic| first | assumption | rfl | exact get_set (by assumption) | exact get_set (get_set (by assumption)) | exact get_last | exact get_setlast | exact get_setapp (by assumption) | exact get_app (by assumption) | exact get_app (get_set (by assumption)))
local macro_rules | `(tactic| walk_at "tk") => `(tactic| first | exact List.take_length | exact take_set | exact take_set2 | exact take_set3 | exact take_app | exact take_aset | exact take_setapp | rfl)
local macro_rules | `(tactic| walk_at "sd") => `(tactic| first | omega | assumption | decide)
local macro_rules | `(tactic| walk_at "wpx") => `(tactic| first
  | with_reducible refine ite2 (fun _ => ?_) (fun z => absurd rfl z)
  | with_reducible refine ite2 (fun z => absurd z Bool.false_ne_true) (fun _ => ?_)
  | ((with_reducible refine gate_wp ?_); (first
    | ((with_reducible apply wp_viewr); (walk_at "st")) | ((with_reducible apply wp_lat); (walk_at "st"))
    | ((with_reducible refine gate_eq ?_); (first | with_reducible refine wp_geqs ?_ | with_reducible refine wp_geqb ?_ | with_reducible refine wp_geq_nil ?_))
    | ((with_reducible refine gate_ne ?_); (first | with_reducible refine wp_gnes ?_ | with_reducible refine wp_gneb ?_ | with_reducible refine wp_gne_nil ?_))
    | ((with_reducible refine gate_ix ?_); (first | ((with_reducible apply wp_ixd); (walk_at "ix")) | ((with_reducible apply wp_ixt); (walk_at "ix")) | ((with_reducible apply wp_ixr); (walk_at "st"); (walk_at "ix"))))
    | ((with_reducible apply wp_trur); (walk_at "st"))
    | ((with_reducible refine wp_l4s ?_ ?_); (first | omega | assumption | decide +kernel)) | with_reducible refine wp_l4 ?_ | ((with_reducible apply wp_l3r); (walk_at "st"))
    | ((with_reducible refine wp_mod ?_ ?_); (walk_at "sd")) | ((with_reducible refine wp_fdiv ?_ ?_); (walk_at "sd")) | ((with_reducible refine wp_mulr ?_ ?_); (walk_at "sd")) | ((with_reducible refine wp_mull ?_ ?_); (walk_at "sd")) | ((with_reducible refine wp_pow ?_ ?_); (walk_at "sd"))
    | ((with_reducible apply wp_lenr); (walk_at "st"))
    | ((with_reducible refine wp_gis ?_ ?_); rfl) | ((with_reducible refine wp_gisn ?_ ?_); rfl)
    | ((with_reducible refine gate_isi ?_); (first | ((with_reducible refine isi_t (r := true) ?_ ?_); (decide +kernel)) | ((with_reducible refine isi_t (r := false) ?_ ?_); (decide +kernel)) | ((with_reducible refine isi_b (r := true) ?_ ?_); (decide +kernel)) | ((with_reducible refine isi_b (r := false) ?_ ?_); (decide +kernel)) | ((with_reducible refine isi_i (r := true) ?_ ?_); (decide +kernel)) | ((with_reducible refine isi_i (r := false) ?_ ?_); (decide +kernel)) | ((with_reducible refine isi_s (r := true) ?_ ?_); (decide +kernel)) | ((with_reducible refine isi_s (r := false) ?_ ?_); (decide +kernel)) | ((with_reducible refine isi_l (r := true) ?_ ?_); (decide +kernel)) | ((with_reducible refine isi_l (r := false) ?_ ?_); (decide +kernel)) | ((with_reducible refine isi_n (r := true) ?_ ?_); (decide +kernel)) | ((with_reducible refine isi_n (r := false) ?_ ?_); (decide +kernel))))
    | ((with_reducible apply wp_tupr); (walk_at "st"))))
  | ((with_reducible refine gate_rq ?_); (first | ((with_reducible apply rq_dt); (walk_at "tk")) | ((with_reducible apply rq_nxt); (walk_at "tk"))))
  | ((with_reducible apply fz_r); (walk_at "st")) | ((with_reducible apply sq_r); (walk_at "st"))
  | ((with_reducible apply atSet_i); (walk_at "st"); rfl) | ((with_reducible apply atLst_i); (walk_at "st")) | ((with_reducible apply nowLst_i); (walk_at "st"))
  | ((with_reducible refine rng1_i ?_ ?_); (walk_at "sd")) | ((with_reducible refine rng2_i ?_ ?_); (walk_at "sd")))
local macro_rules | `(tactic| walk_at "wp") => `(tactic| first
  | with_reducible refine step_of ?_ | ((with_reducible apply wp_var); rfl) | walk_at "wpx")
local macro_rules | `(tactic| walk_at "fdef") => `(tactic| (refine wp_fdef rfl ?_; simp only [List.map_cons, List.map_nil, List.replicate_succ, List.replicate_zero, List.cons_append, List.nil_append]))
local macro_rules | `(tactic| walk_at "keq") => `(tactic| first
  | refine wp_geqD (c := false) (.inr (by decide +kernel)) rfl ?_ | refine wp_geqD (c := true) (.inr (by decide +kernel)) rfl ?_)
local macro_rules | `(tactic| walk_at "wk") => `(tactic| first
  | with_reducible refine step_of ?_ | ((with_reducible apply wp_var); rfl)
  | ((with_reducible refine gate_wp ?_); (first
    | with_reducible refine wp_geqsD (c := false) (by decide +kernel) ?_ | with_reducible refine wp_geqsD (c := true) (by decide +kernel) ?_
    | with_reducible refine wp_gnesD (c := false) (by decide +kernel) ?_ | with_reducible refine wp_gnesD (c := true) (by decide +kernel) ?_
    | with_reducible refine wp_gin_lit (c := true) (by decide +kernel) ?_ | with_reducible refine wp_gin_lit (c := false) (by decide +kernel) ?_))
  | with_reducible refine ite_t rfl ?_ | with_reducible refine ite_f rfl ?_
  | walk_at "wpx")
local macro_rules | `(tactic| walk_at "w1") => `(tactic| (fail_if_success (with_reducible refine th_nx ?_)); walk_at "wk")
noncomputable def f3_is_node : F3 := fdef false 1 0
  (sRt (eAn (eB gIsi (aCons (eVar 0) (aCons (eTy "tuple") aNil))) (eAn (eCmp gGt (eB gLen (aCons (eVar 0) aNil)) (eD (.int (1)))) (eAn (eB gIsi (aCons (eOp gIx (eVar 0) (eD (.int (0)))) (aCons (eTy "str") aNil))) (eCall f3_whole (aCons (eOp gIx (eVar 0) (eD (.int (1)))) aNil))))))
noncomputable def f3_numbered : Nat → F3
  | 0 => fun _ _ => none
  | n + 1 => fdef false 3 2
      (sSeq (sIf (tNt (tTr (eCall f3_is_node (aCons (eVar 0) aNil))))
        (sSeq (sIf (tNt (tTr (eB gIsi (aCons (eVar 0) (aCons (eTy "tuple") aNil)))))
        (sRt (eVar 0))
        sNx)
        (sRt (eB gTupOf (aCons (eNd (nLc [3] (iSq (eVar 0)) (gNm 3) tYes3 (eCall (f3_numbered n) (aCons (eVar 3) (aCons (eVar 1) (aCons (eVar 2) aNil)))))) aNil))))
        sNx)
        (sSeq (sIf (tCmp gEq (eOp gIx (eVar 0) (eD (.int (0)))) (eD (.str "spot")))
        (sSeq (sDP (eVar 2) (eOp gIx (eVar 0) (eD (.int (2)))) (eOp gIx (eVar 1) (eD (.int (0)))))
        (sRt (eCall (f3_numbered n) (aCons (eOp gIx (eVar 0) (eD (.int (3)))) (aCons (eVar 1) (aCons (eVar 2) aNil))))))
        sNx)
        (sSeq (sSet 4 (eOp gIx (eVar 1) (eD (.int (0)))))
        (sSeq (sAsg (eOp gAdd (eVar 4) (eD (.int (1)))) (gSubL (eVar 1) (eD (.int (0)))))
        (sRt (eOp gAdd (eTup (aCons (eOp gIx (eVar 0) (eD (.int (0)))) (aCons (eVar 4) aNil))) (eB gTupOf (aCons (eNd (nLc [3] (iSq (eSl (eVar 0) (oSome (eD (.int (2)))) oNone)) (gNm 3) tYes3 (eCall (f3_numbered n) (aCons (eVar 3) (aCons (eVar 1) (aCons (eVar 2) aNil)))))) aNil))))))))
/-! ### numbering a program -/
inductive Nt where
  | leaf (x : PyData)
  | tup (ps : List Nt)
  | node (w : Str) (k : Int) (ps : List Nt)
mutual
def Nt.enc : Nt → PyData
  | .leaf x => x
  | .tup ps => .tuple (encNs ps)
  | .node w k ps => .tuple (.str w :: .int k :: encNs ps)
def encNs : List Nt → List PyData
  | [] => []
  | p :: ps => p.enc :: encNs ps
end
mutual
def szt : Nt → Nat
  | .leaf _ => 0
  | .tup ps => szs ps
  | .node _ _ ps => szs ps + 1
def szs : List Nt → Nat
  | [] => 0
  | p :: ps => szt p + szs ps
end
mutual
def nmt : Nt → Nat → Nt
  | .leaf x, _ => .leaf x
  | .tup ps, k => .tup (nms ps k)
  | .node w _ ps, k => .node w k (nms ps (k + 1))
def nms : List Nt → Nat → List Nt
  | [], _ => []
  | p :: ps, k => nmt p k :: nms ps (k + szt p)
end
def atb : PyData → Bool
  | .str _ => true
  | .int _ => true
  | .bool _ => true
  | .none => true
  | _ => false
/-- not a node -/
def nnb : List PyData → Bool
  | [] => true
  | .tuple _ :: _ => true
  | .str _ :: .tuple _ :: _ => true
  | _ => false
mutual
def wfb : Nt → Nat → Bool
  | .leaf x, _ => atb x
  | .tup ps, h => match h with
    | 0 => false
    | h + 1 => Nat.ble ps.length 1000 && nnb (encNs ps) && wfs ps h
  | .node w _ ps, h => match h with
    | 0 => false
    | h + 1 => (w != "spot") && Nat.ble ps.length 1000 && wfs ps h
def wfs : List Nt → Nat → Bool
  | [], _ => true
  | p :: ps, h => wfb p h && wfs ps h
end
theorem encNs_len : ∀ {ps : List Nt}, (encNs ps).length = ps.length
  | [] => rfl
  | p :: ps => by rw [encNs, List.length_cons, List.length_cons, encNs_len]
theorem nms_len : ∀ {ps : List Nt} {k : Nat}, (nms ps k).length = ps.length
  | [], _ => rfl
  | p :: ps, k => by rw [nms, List.length_cons, List.length_cons, nms_len]
theorem is_node3t {ps : List PyData} {S : List MO} (h : nnb ps = true) : f3_is_node [.d (.tuple ps)] S = some (.d (.bool false), S) := by
  refine eq_of ?_
  unfold f3_is_node
  walk_at "fdef"
  match ps, h with
  | [], _ =>
    repeat walk_at "wk"
    exact ⟨rfl, rfl⟩
  | [.tuple xs], _ =>
    repeat walk_at "wk"
    exact ⟨rfl, rfl⟩
  | .tuple xs :: y :: r, _ =>
    repeat walk_at "wk"
    refine ite_t (decide_eq_true (by simp only [List.length_cons]; omega)) ?_
    repeat walk_at "wk"
    exact ⟨rfl, rfl⟩
  | .str s :: .tuple xs :: r, _ =>
    repeat walk_at "wk"
    refine ite_t (decide_eq_true (by simp only [List.length_cons]; omega)) ?_
    repeat walk_at "wk"
    refine wp_ixt (atI_of (by decide) rfl) ?_
    repeat walk_at "wk"
    unfold f3_whole
    walk_at "fdef"
    repeat walk_at "wk"
    exact ⟨rfl, rfl⟩
theorem is_node3n {w : Str} {k : Int} {ps : List PyData} {S : List MO} : f3_is_node [.d (.tuple (.str w :: .int k :: ps))] S = some (.d (.bool true), S) := by
  refine eq_of ?_
  unfold f3_is_node
  walk_at "fdef"
  repeat walk_at "wk"
  refine ite_t (decide_eq_true (by simp only [List.length_cons]; omega)) ?_
  repeat walk_at "wk"
  refine wp_ixt (atI_of (by decide) rfl) ?_
  repeat walk_at "wk"
  unfold f3_whole
  walk_at "fdef"
  repeat walk_at "wk"
  exact ⟨rfl, rfl⟩
theorem is_node3l {x : PyData} {S : List MO} (h : atb x = true) : f3_is_node [.d x] S = some (.d (.bool false), S) := by
  refine eq_of ?_
  unfold f3_is_node
  walk_at "fdef"
  cases x <;> first | ((repeat walk_at "wk"); exact ⟨rfl, rfl⟩) | cases h
theorem cl_nil {ok : List MO → Bool} {g : FG} {t : FT} {e : FE} {sl : Sl} {S : List MO} {QN : List PyData → List MO → Prop} (h : ok S = true) (q : QN [] S) : Wp2 (cLoop ok g t e sl [] S) QN := by
  unfold cLoop
  rw [if_pos h]
  exact wp_some.mpr q
theorem cl_cons {ok : List MO → Bool} {g : FG} {t : FT} {e : FE} {sl : Sl} {w : W3} {ws : List W3} {S : List MO} {QN : List PyData → List MO → Prop} (h : ok S = true) (q : Wp2 (g w sl S) fun p1 p2 => Wp2 (t p1 p2) fun c1 c2 => if c1 = true then Wp2 (e p1 c2) fun y1 y2 => DatW y1 fun x => Wp2 (cLoop ok g t e sl ws y2) fun zs S' => QN (x :: zs) S' else Wp2 (cLoop ok g t e sl ws c2) QN) : Wp2 (cLoop ok g t e sl (w :: ws) S) QN := by
  unfold cLoop
  rw [if_pos h]
  refine wp_bind.mpr (Wp.imp q fun p h => wp_bind.mpr (Wp.imp h fun b h => ?_))
  dsimp only at h
  by_cases c : b.1 = true
  · rw [if_pos c] at h ⊢
    refine wp_bind.mpr (Wp.imp h fun y h => ?_)
    obtain ⟨x, ex, h⟩ := h
    rw [ex]
    exact wp_map.mpr h
  · rw [if_neg c] at h ⊢
    exact h
theorem numb_rows {n : Nat} {i j : Nat} {X X4 : Option W3} {ok : List MO → Bool} (hok : ∀ S, ok S = true) : ∀ (ps : List Nt) (k : Nat) (S : List MO) (QN : List PyData → List MO → Prop) (Y : Option W3), S[i]? = some (.lst [.int (k : Int)]) →
    (∀ p ∈ ps, ∀ (S : List MO) (k : Nat), S[i]? = some (.lst [.int (k : Int)]) → f3_numbered n [.d p.enc, .r i, .r j] S = some (.d (nmt p k).enc, S.set i (.lst [.int ((k + szt p : Nat) : Int)]))) →
    QN (encNs (nms ps k)) (S.set i (.lst [.int ((k + szs ps : Nat) : Int)])) →
    Wp2 (cLoop ok (gNm 3) tYes3 (eCall (f3_numbered n) (aCons (eVar 3) (aCons (eVar 1) (aCons (eVar 2) aNil)))) [X, some (.r i), some (.r j), Y, X4] ((encNs ps).map .d) S) QN
  | [], k, S, QN, Y, hi, ih, q => by
    refine cl_nil (hok _) ?_
    rw [szs, Nat.add_zero, set_same hi] at q
    exact q
  | p :: ps, k, S, QN, Y, hi, ih, q => by
    refine cl_cons (hok _) ?_
    repeat walk_at "wk"
    refine wp2_eq (ih p List.mem_cons_self _ _ hi) ?_
    repeat walk_at "wk"
    refine numb_rows hok ps (k + szt p) _ _ _ (get_set hi) (fun p hp => ih p (List.mem_cons_of_mem _ hp)) ?_
    rw [nms, encNs, szs, ← Nat.add_assoc] at q
    rw [List.set_set]
    exact q
theorem wfs_mem : ∀ {ps : List Nt} {h : Nat}, wfs ps h = true → ∀ p ∈ ps, wfb p h = true
  | q :: ps, h, e, p, hp => by
    rw [wfs, Bool.and_eq_true] at e
    rcases List.mem_cons.mp hp with rfl | hp
    · exact e.1
    · exact wfs_mem e.2 p hp
theorem numbered3 : ∀ (n : Nat) {h : Nat} {t : Nt} {S : List MO} {i j k : Nat}, wfb t h = true → h < n → S[i]? = some (.lst [.int (k : Int)]) →
    f3_numbered n [.d t.enc, .r i, .r j] S = some (.d (nmt t k).enc, S.set i (.lst [.int ((k + szt t : Nat) : Int)]))
  | 0, _, _, _, _, _, _, _, hn, _ => absurd hn (by omega)
  | n + 1, h, t, S, i, j, k, ok, hn, hi => by
    refine eq_of ?_
    unfold f3_numbered
    walk_at "fdef"
    cases t with
    | leaf x =>
      rw [nmt, szt, Nat.add_zero, set_same hi]
      rw [wfb] at ok
      rw [Nt.enc]
      repeat walk_at "wk"
      refine wp2_eq (is_node3l ok) ?_
      cases x <;> first | ((repeat walk_at "wk"); exact ⟨rfl, rfl⟩) | cases ok
    | tup ps =>
      cases h with
      | zero => rw [wfb] at ok; cases ok
      | succ h =>
        rw [wfb, Bool.and_eq_true, Bool.and_eq_true] at ok
        obtain ⟨⟨lp, nn⟩, wp⟩ := ok
        have lp := Nat.le_of_ble_eq_true lp
        rw [nmt, szt, Nt.enc, Nt.enc]
        repeat walk_at "wk"
        refine wp2_eq (is_node3t nn) ?_
        repeat walk_at "wk"
        refine ⟨by show (List.map _ _).length ≤ _; rw [List.length_map, encNs_len]; omega, ?_⟩
        refine numb_rows (fun _ => rfl) ps k _ _ _ hi (fun p hp S k hk => numbered3 n (wfs_mem wp p hp) (by omega) hk) ?_
        repeat walk_at "wk"
        exact ⟨rfl, rfl⟩
    | node w m ps =>
      cases h with
      | zero => rw [wfb] at ok; cases ok
      | succ h =>
        rw [wfb, Bool.and_eq_true, Bool.and_eq_true] at ok
        obtain ⟨⟨hw, lp⟩, wp⟩ := ok
        have lp := Nat.le_of_ble_eq_true lp
        have hspot : w ≠ "spot" := bne_iff_ne.mp hw
        rw [nmt, szt, Nt.enc, Nt.enc]
        repeat walk_at "wk"
        refine wp2_eq is_node3n ?_
        repeat walk_at "wk"
        refine ite_f (beq_eq_false_iff_ne.mpr hspot) ?_
        repeat walk_at "wk"
        rw [show cutD (PyData.str w :: .int m :: encNs ps) (some 2) none = encNs ps by rw [show (2 : Int) = ((2 : Nat) : Int) from rfl, cutD_from]; rfl]
        rw [show ([PyData.int (k : Int)].set (Int.toNat 0) (PyData.int ((k : Int) + 1))) = [.int ((k + 1 : Nat) : Int)] from rfl]
        refine ⟨by show (List.map _ _).length ≤ _; rw [List.length_map, encNs_len]; omega, ?_⟩
        refine numb_rows (fun _ => rfl) ps (k + 1) _ _ _ (get_set hi) (fun p hp S k hk => numbered3 n (wfs_mem wp p hp) (by omega) hk) ?_
        repeat walk_at "wk"
        refine wp_addt (by rw [encNs_len]; have : (nms ps (k + 1)).length = ps.length := nms_len; simp only [List.length_cons, List.length_nil]; omega) ?_
        repeat walk_at "wk"
        refine ⟨rfl, ?_⟩
        rw [show k + 1 + szs ps = k + (szs ps + 1) by omega]
end EA
namespace EA
open PySem PySem.Spec PyProof.Rows L2
local macro_rules | `(tactic| walk_at "ix") => `(tactic| first | rfl | exact atI_cons0 | exact atI_map0)
local macro_rules | `(tactic| walk_at "st") => `(tactic| first | assumption | rfl | exact get_set (by assumption) | exact get_set (get_set (by assumption)) | exact get_last | exact get_setlast | exact get_setapp (by assumption) | exact get_app (by assumption) | exact get_app (get_set (by assumption)))
local macro_rules | `(tactic| walk_at "tk") => `(tactic| first | exact List.take_length | exact take_set | exact take_set2 | exact take_set3 | exact take_app | exact take_aset | exact take_setapp | rfl)
local macro_rules | `(tactic| walk_at "sd") => `(tactic| first | omega | assumption | decide)
local macro_rules | `(tactic| walk_at "wpx") => `(tactic| first
  | with_reducible refine ite2 (fun _ => ?_) (fun z => absurd rfl z)
  | with_reducible refine ite2 (fun z => absurd z Bool.false_ne_true) (fun _ => ?_)
  | ((with_reducible refine gate_wp ?_); (first
    | ((with_reducible apply wp_viewr); (walk_at "st")) | ((with_reducible apply wp_lat); (walk_at "st"))
    | ((with_reducible refine gate_eq ?_); (first | with_reducible refine wp_geqs ?_ | with_reducible refine wp_geqb ?_ | with_reducible refine wp_geq_nil ?_))
    | ((with_reducible refine gate_ne ?_); (first | with_reducible refine wp_gnes ?_ | with_reducible refine wp_gneb ?_ | with_reducible refine wp_gne_nil ?_))
    | ((with_reducible refine gate_ix ?_); (first | ((with_reducible apply wp_ixd); (walk_at "ix")) | ((with_reducible apply wp_ixt); (walk_at "ix")) | ((with_reducible apply wp_ixr); (walk_at "st"); (walk_at "ix"))))
    | ((with_reducible apply wp_trur); (walk_at "st"))
    | ((with_reducible refine wp_l4s ?_ ?_); (first | omega | assumption | decide +kernel)) | with_reducible refine wp_l4 ?_ | ((with_reducible apply wp_l3r); (walk_at "st"))
    | ((with_reducible refine wp_mod ?_ ?_); (walk_at "sd")) | ((with_reducible refine wp_fdiv ?_ ?_); (walk_at "sd")) | ((with_reducible refine wp_mulr ?_ ?_); (walk_at "sd")) | ((with_reducible refine wp_mull ?_ ?_); (walk_at "sd")) | ((with_reducible refine wp_pow ?_ ?_); (walk_at "sd"))
    | ((with_reducible apply wp_lenr); (walk_at "st"))
    | ((with_reducible refine wp_gis ?_ ?_); rfl) | ((with_reducible refine wp_gisn ?_ ?_); rfl)
    | ((with_reducible refine gate_isi ?_); (first | ((with_reducible refine isi_t (r := true) ?_ ?_); (decide +kernel)) | ((with_reducible refine isi_t (r := false) ?_ ?_); (decide +kernel)) | ((with_reducible refine isi_b (r := true) ?_ ?_); (decide +kernel)) | ((with_reducible refine isi_b (r := false) ?_ ?_); (decide +kernel)) | ((with_reducible refine isi_i (r := true) ?_ ?_); (decide +kernel)) | ((with_reducible refine isi_i (r := false) ?_ ?_); (decide +kernel)) | ((with_reducible refine isi_s (r := true) ?_ ?_); (decide +kernel)) | ((with_reducible refine isi_s (r := false) ?_ ?_); (decide +kernel)) | ((with_reducible refine isi_l (r := true) ?_ ?_); (decide +kernel)) | ((with_reducible refine isi_l (r := false) ?_ ?_); (decide +kernel)) | ((with_reducible refine isi_n (r := true) ?_ ?_); (decide +kernel)) | ((with_reducible refine isi_n (r := false) ?_ ?_); (decide +kernel))))
    | ((with_reducible apply wp_tupr); (walk_at "st"))))
  | ((with_reducible refine gate_rq ?_); (first | ((with_reducible apply rq_dt); (walk_at "tk")) | ((with_reducible apply rq_nxt); (walk_at "tk"))))
  | ((with_reducible apply fz_r); (walk_at "st")) | ((with_reducible apply sq_r); (walk_at "st"))
  | ((with_reducible apply atSet_i); (walk_at "st"); rfl) | ((with_reducible apply atLst_i); (walk_at "st")) | ((with_reducible apply nowLst_i); (walk_at "st"))
  | ((with_reducible refine rng1_i ?_ ?_); (walk_at "sd")) | ((with_reducible refine rng2_i ?_ ?_); (walk_at "sd")))
local macro_rules | `(tactic| walk_at "wp") => `(tactic| first
  | with_reducible refine step_of ?_ | ((with_reducible apply wp_var); rfl) | walk_at "wpx")
local macro_rules | `(tactic| walk_at "fdef") => `(tactic| (refine wp_fdef rfl ?_; simp only [List.map_cons, List.map_nil, List.replicate_succ, List.replicate_zero, List.cons_append, List.nil_append]))
local macro_rules | `(tactic| walk_at "keq") => `(tactic| first
  | refine wp_geqD (c := false) (.inr (by decide +kernel)) rfl ?_ | refine wp_geqD (c := true) (.inr (by decide +kernel)) rfl ?_)
local macro_rules | `(tactic| walk_at "wk") => `(tactic| first
  | with_reducible refine step_of ?_ | ((with_reducible apply wp_var); rfl)
  | ((with_reducible refine gate_wp ?_); (first
    | with_reducible refine wp_geqsD (c := false) (by decide +kernel) ?_ | with_reducible refine wp_geqsD (c := true) (by decide +kernel) ?_
    | with_reducible refine wp_gnesD (c := false) (by decide +kernel) ?_ | with_reducible refine wp_gnesD (c := true) (by decide +kernel) ?_
    | with_reducible refine wp_gin_lit (c := true) (by decide +kernel) ?_ | with_reducible refine wp_gin_lit (c := false) (by decide +kernel) ?_))
  | with_reducible refine ite_t rfl ?_ | with_reducible refine ite_f rfl ?_
  | walk_at "wpx")
local macro_rules | `(tactic| walk_at "w1") => `(tactic| (fail_if_success (with_reducible refine th_nx ?_)); walk_at "wk")
noncomputable def f3_drawn_number : F3 := fdef false 1 0
  (sSeq (sIf (tCmp gEq (eCall f3_take (aCons (eVar 0) (aCons (eD (.int (2))) aNil))) (eD (.int (0))))
  (sRt (eCall f3_take (aCons (eVar 0) (aCons (eD (.int (10))) aNil))))
  sNx)
  (sRt (eB gMin2 (aCons (eOp gPow (eD (.int (10))) (eD (.int (9)))) (aCons (eOp gSub (eOp gAdd (eOp gMul (eCall f3_take (aCons (eVar 0) (aCons (eD (.int (1000001))) aNil))) (eD (.int (2000)))) (eCall f3_take (aCons (eVar 0) (aCons (eD (.int (2000))) aNil)))) (eOp gPow (eD (.int (10))) (eD (.int (9))))) aNil)))))
noncomputable def f3_deep_down : F3 := fdef false 5 5
  (sSeq (sSet 5 (eTup (aCons (eD (.str "app")) (aCons (eD (.int (0))) (aCons (eTup (aCons (eD (.str "name")) (aCons (eD (.int (0))) (aCons (eVar 0) aNil)))) (aCons (eTup (aCons (eD (.str "op")) (aCons (eD (.int (0))) (aCons (eD (.str "-")) (aCons (eTup (aCons (eD (.str "name")) (aCons (eD (.int (0))) (aCons (eVar 1) aNil)))) (aCons (eTup (aCons (eD (.str "number")) (aCons (eD (.int (0))) (aCons (eD (.int (1))) aNil)))) aNil)))))) aNil))))))
  (sSeq (sIf (tCmp gEq (eVar 2) (eD (.int (0))))
  (sSet 6 (eTup (aCons (eD (.str "op")) (aCons (eD (.int (0))) (aCons (eD (.str "+")) (aCons (eVar 5) (aCons (eTup (aCons (eD (.str "number")) (aCons (eD (.int (0))) (aCons (eVar 3) aNil)))) aNil)))))))
  sNx)
  (sSeq (sIf (tCmp gEq (eVar 2) (eD (.int (1))))
  (sSet 6 (eTup (aCons (eD (.str "make")) (aCons (eD (.int (0))) (aCons (eD (.str "c")) (aCons (eVar 5) aNil))))))
  sNx)
  (sSeq (sIf (tCmp gEq (eVar 2) (eD (.int (2))))
  (sSet 6 (eTup (aCons (eD (.str "tag")) (aCons (eD (.int (0))) (aCons (eD (.str "l")) (aCons (eVar 5) aNil))))))
  sNx)
  (sSeq (sIf (tCmp gEq (eVar 2) (eD (.int (3))))
  (sSeq (sSet 7 (eTup (aCons (eD (.str "op")) (aCons (eD (.int (0))) (aCons (eD (.str "+")) (aCons (eTup (aCons (eD (.str "read")) (aCons (eD (.int (0))) (aCons (eTup (aCons (eD (.str "name")) (aCons (eD (.int (0))) (aCons (eD (.str "c")) aNil)))) aNil)))) (aCons (eTup (aCons (eD (.str "number")) (aCons (eD (.int (0))) (aCons (eVar 3) aNil)))) aNil)))))))
  (sSet 6 (eTup (aCons (eD (.str "let")) (aCons (eD (.int (0))) (aCons (eD (.str "w")) (aCons (eTup (aCons (eD (.str "write")) (aCons (eD (.int (0))) (aCons (eTup (aCons (eD (.str "name")) (aCons (eD (.int (0))) (aCons (eD (.str "c")) aNil)))) (aCons (eVar 7) aNil))))) (aCons (eVar 5) aNil))))))))
  sNx)
  (sSeq (sSet 8 (eTup (aCons (eD (.str "number")) (aCons (eD (.int (0))) (aCons (eVar 4) aNil)))))
  (sSeq (sIf (tCmp gEq (eVar 2) (eD (.int (3))))
  (sSet 8 (eTup (aCons (eD (.str "read")) (aCons (eD (.int (0))) (aCons (eTup (aCons (eD (.str "name")) (aCons (eD (.int (0))) (aCons (eD (.str "c")) aNil)))) aNil)))))
  sNx)
  (sSeq (sSet 9 (eTup (aCons (eD (.str "op")) (aCons (eD (.int (0))) (aCons (eD (.str "<")) (aCons (eTup (aCons (eD (.str "name")) (aCons (eD (.int (0))) (aCons (eVar 1) aNil)))) (aCons (eTup (aCons (eD (.str "number")) (aCons (eD (.int (0))) (aCons (eD (.int (1))) aNil)))) aNil)))))))
  (sRt (eTup (aCons (eD (.str "fn")) (aCons (eD (.int (0))) (aCons (eVar 1) (aCons (eTup (aCons (eD (.str "if")) (aCons (eD (.int (0))) (aCons (eVar 9) (aCons (eVar 8) (aCons (eVar 6) aNil)))))) aNil))))))))))))))
noncomputable def f3_deep_value : F3 := fdef false 4 2
  (sSeq (sIf (tCmp gIn (eVar 0) (eTup (aCons (eD (.int (0))) (aCons (eD (.int (3))) aNil))))
  (sRt (eTup (aCons (eD (.str "number")) (aCons (eOp gAdd (eVar 3) (eOp gMul (eVar 1) (eVar 2))) aNil))))
  sNx)
  (sSeq (sSet 4 (eTup (aCons (eD (.str "number")) (aCons (eVar 3) aNil))))
  (sSeq (sIf (tCmp gGt (eVar 1) (eD (.int (6))))
  (sSet 4 (eTup (aCons (eD (.str "deep")) aNil)))
  sNx)
  (sSeq (sFor (iR1 (aCons (eB gMin2 (aCons (eVar 1) (aCons (eD (.int (7))) aNil))) aNil)) (gNm 5)
  (sSet 4 (eOp gIx (eNd (nLst (aCons (eTup (aCons (eD (.str "make")) (aCons (eD (.str "c")) (aCons (eVar 4) aNil)))) (aCons (eTup (aCons (eD (.str "tag")) (aCons (eD (.str "l")) (aCons (eVar 4) aNil)))) aNil)))) (eOp gSub (eVar 0) (eD (.int (1)))))))
  (sRt (eVar 4))))))
noncomputable def f3_deep_program : F3 := fdef false 5 4
  (sSeq (sSet 5 (eTup (aCons (eD (.str "app")) (aCons (eD (.int (0))) (aCons (eTup (aCons (eD (.str "name")) (aCons (eD (.int (0))) (aCons (eVar 2) aNil)))) (aCons (eTup (aCons (eD (.str "number")) (aCons (eD (.int (0))) (aCons (eVar 3) aNil)))) aNil))))))
  (sSeq (sSet 6 (eTup (aCons (eD (.str "def")) (aCons (eD (.int (0))) (aCons (eD (.str "c")) (aCons (eTup (aCons (eD (.str "cell")) (aCons (eD (.int (0))) (aCons (eTup (aCons (eD (.str "int")) (aCons (eD (.int (0))) aNil))) (aCons (eTup (aCons (eD (.str "number")) (aCons (eD (.int (0))) (aCons (eVar 4) aNil)))) aNil))))) aNil))))))
  (sSeq (sIf (tCmp gEq (eVar 0) (eD (.int (0))))
  (sRt (eTup (aCons (eD (.str "program")) (aCons (eD (.int (0))) (aCons (eTup (aCons (eVar 6) (aCons (eTup (aCons (eD (.str "defrec")) (aCons (eD (.int (0))) (aCons (eVar 1) aNil)))) aNil))) (aCons (eVar 5) aNil))))))
  sNx)
  (sSeq (sIf (tCmp gEq (eVar 0) (eD (.int (1))))
  (sRt (eTup (aCons (eD (.str "program")) (aCons (eD (.int (0))) (aCons (eTup (aCons (eVar 6) aNil)) (aCons (eTup (aCons (eD (.str "rec")) (aCons (eD (.int (0))) (aCons (eVar 1) (aCons (eVar 5) aNil))))) aNil))))))
  sNx)
  (sSeq (sSet 5 (eTup (aCons (eD (.str "app")) (aCons (eD (.int (0))) (aCons (eTup (aCons (eD (.str "member")) (aCons (eD (.int (0))) (aCons (eD (.str "m")) (aCons (eVar 2) aNil))))) (aCons (eTup (aCons (eD (.str "number")) (aCons (eD (.int (0))) (aCons (eVar 3) aNil)))) aNil))))))
  (sSeq (sIf (tCmp gEq (eVar 0) (eD (.int (2))))
  (sRt (eTup (aCons (eD (.str "program")) (aCons (eD (.int (0))) (aCons (eTup (aCons (eVar 6) (aCons (eTup (aCons (eD (.str "module")) (aCons (eD (.int (0))) (aCons (eD (.str "m")) (aCons (eTup (aCons (eD (.str "struct")) (aCons (eD (.int (0))) (aCons (eTup (aCons (eTup (aCons (eD (.str "defrec")) (aCons (eD (.int (0))) (aCons (eVar 1) aNil)))) aNil)) aNil)))) (aCons (eD .none) aNil)))))) aNil))) (aCons (eVar 5) aNil))))))
  sNx)
  (sSeq (sSet 7 (eTup (aCons (eD (.str "module")) (aCons (eD (.int (0))) (aCons (eD (.str "k")) (aCons (eTup (aCons (eD (.str "struct")) (aCons (eD (.int (0))) (aCons (eTup aNil) aNil)))) (aCons (eD .none) aNil)))))))
  (sSeq (sSet 8 (eTup (aCons (eD (.str "functor")) (aCons (eD (.int (0))) (aCons (eD (.str "m")) (aCons (eD (.str "k")) (aCons (eD (.str "s")) (aCons (eTup (aCons (eTup (aCons (eD (.str "defrec")) (aCons (eD (.int (0))) (aCons (eVar 1) aNil)))) aNil)) (aCons (eTup aNil) aNil)))))))))
  (sRt (eTup (aCons (eD (.str "program")) (aCons (eD (.int (0))) (aCons (eTup (aCons (eVar 6) (aCons (eVar 7) (aCons (eVar 8) (aCons (eTup (aCons (eD (.str "module")) (aCons (eD (.int (0))) (aCons (eD (.str "m")) (aCons (eTup (aCons (eD (.str "apply")) (aCons (eD (.int (0))) (aCons (eD (.str "m")) (aCons (eD (.str "k")) aNil))))) (aCons (eD .none) aNil)))))) aNil))))) (aCons (eVar 5) aNil))))))))))))))
theorem wp_min2iY {S : List MO} {i j : Int} {P : PyData → Prop} (h : P (.int (if j < i then j else i))) : Wp (gMin2 S [.d (.int i), .d (.int j)]) P := wp_some.mpr h
theorem drawnY {S : List MO} {h : Nat} {o : List PyData} (hh : S[h]? = some (.lst o)) (ho : HandO o) {Q : W3 → List MO → Prop} (q : ∀ (v : Int) (o' : List PyData), HandO o' → Q (.d (.int v)) (S.set h (.lst o'))) : Wp2 (f3_drawn_number [.r h] S) Q := by
  unfold f3_drawn_number
  walk_at "fdef"
  repeat walk_at "wp"
  refine take3 hh ho (by decide) (by decide) fun v o1 v0 v1 h1 => ?_
  repeat walk_at "wp"
  refine ite2 (fun c => ?_) (fun c => ?_)
  · repeat walk_at "wp"
    refine take3 (get_set hh) h1 (by decide) (by decide) fun u o2 u0 u1 h2 => ?_
    rw [List.set_set]
    repeat walk_at "wp"
    exact q u o2 h2
  · repeat walk_at "wp"
    refine take3 (get_set hh) h1 (by decide) (by decide) fun u o2 u0 u1 h2 => ?_
    rw [List.set_set]
    repeat walk_at "wp"
    refine take3 (get_set hh) h2 (by decide) (by decide) fun t o3 t0 t1 h3 => ?_
    rw [List.set_set]
    repeat walk_at "wp"
    refine wp_min2iY ?_
    repeat walk_at "wp"
    exact q _ o3 h3
/-! ### the drawn program as a tree -/
abbrev ls (s : Str) : Nt := .leaf (.str s)
abbrev li (i : Int) : Nt := .leaf (.int i)
abbrev nameT (x : Str) : Nt := .node "name" 0 [ls x]
abbrev numT (i : Int) : Nt := .node "number" 0 [li i]
abbrev opT (s : Str) (a b : Nt) : Nt := .node "op" 0 [ls s, a, b]
abbrev readT : Nt := .node "read" 0 [nameT "c"]
def goingT (t x : Str) : Nt := .node "app" 0 [nameT t, opT "-" (nameT x) (numT 1)]
def laterT (t x : Str) (step : Int) : Nat → Nt
  | 0 => opT "+" (goingT t x) (numT step)
  | 1 => .node "make" 0 [ls "c", goingT t x]
  | 2 => .node "tag" 0 [ls "l", goingT t x]
  | _ => .node "let" 0 [ls "w", .node "write" 0 [nameT "c", opT "+" readT (numT step)], goingT t x]
def lastT (base : Int) : Nat → Nt
  | 3 => readT
  | _ => numT base
def fnT (kind : Nat) (t x : Str) (step base : Int) : Nt := .node "fn" 0 [ls x, .node "if" 0 [opT "<" (nameT x) (numT 1), lastT base kind, laterT t x step kind]]
def sidesT (kind : Nat) (two : Bool) (step base : Int) : Nt := match two with
  | false => .tup [.tup [ls "f", fnT kind "f" "x" step base]]
  | true => .tup [.tup [ls "f", fnT kind "g" "x" step base], .tup [ls "g", fnT kind "f" "y" step base]]
theorem deep_down3 {t x : Str} {kind : Nat} {step base : Int} {S : List MO} {Q : W3 → List MO → Prop} (hk : kind < 4) (q : Q (.d (fnT kind t x step base).enc) S) : Wp2 (f3_deep_down [.d (.str t), .d (.str x), .d (.int kind), .d (.int step), .d (.int base)] S) Q := by
  unfold f3_deep_down
  walk_at "fdef"
  match kind, hk with
  | 0, _ =>
    repeat walk_at "wk"
    exact q
  | 1, _ =>
    repeat walk_at "wk"
    exact q
  | 2, _ =>
    repeat walk_at "wk"
    exact q
  | 3, _ =>
    repeat walk_at "wk"
    exact q
abbrev cellT (base : Int) : Nt := .node "def" 0 [ls "c", .node "cell" 0 [.node "int" 0 [], numT base]]
def progT (held : Nat) (sides : Nt) (first : Str) (n base : Int) : Nt := match held with
  | 0 => .node "program" 0 [.tup [cellT base, .node "defrec" 0 [sides]], .node "app" 0 [nameT first, numT n]]
  | 1 => .node "program" 0 [.tup [cellT base], .node "rec" 0 [sides, .node "app" 0 [nameT first, numT n]]]
  | 2 => .node "program" 0 [.tup [cellT base, .node "module" 0 [ls "m", .node "struct" 0 [.tup [.node "defrec" 0 [sides]]], .leaf .none]], .node "app" 0 [.node "member" 0 [ls "m", ls first], numT n]]
  | _ => .node "program" 0 [.tup [cellT base, .node "module" 0 [ls "k", .node "struct" 0 [.tup []], .leaf .none], .node "functor" 0 [ls "m", ls "k", ls "s", .tup [.node "defrec" 0 [sides]], .tup []], .node "module" 0 [ls "m", .node "apply" 0 [ls "m", ls "k"], .leaf .none]], .node "app" 0 [.node "member" 0 [ls "m", ls first], numT n]]
theorem deep_program3 {held : Nat} {sides : Nt} {first : Str} {n base : Int} {S : List MO} {Q : W3 → List MO → Prop} (hh : held < 4) (q : Q (.d (progT held sides first n base).enc) S) : Wp2 (f3_deep_program [.d (.int held), .d sides.enc, .d (.str first), .d (.int n), .d (.int base)] S) Q := by
  unfold f3_deep_program
  walk_at "fdef"
  match held, hh with
  | 0, _ =>
    repeat walk_at "wk"
    exact q
  | 1, _ =>
    repeat walk_at "wk"
    exact q
  | 2, _ =>
    repeat walk_at "wk"
    exact q
  | 3, _ =>
    repeat walk_at "wk"
    exact q
/-! numbered -/
theorem fn_ok {kind : Nat} {t x : Str} {step base : Int} (hk : kind < 4) (k : Nat) : ∃ (kk : Int) (body : PyData), (nmt (fnT kind t x step base) k).enc = fnN kk x body ∧ ∃ (later last : PyData) (k0 k1 k2 k3 : Int), Lt step base t x kind later last ∧ body = ifN k0 (opN k1 "<" (nmN k2 x) (nuN k3 1)) last later := by
  match kind, hk with
  | 0, _ => exact ⟨_, _, rfl, _, _, _, _, _, _, .k0 .mk, rfl⟩
  | 1, _ => exact ⟨_, _, rfl, _, _, _, _, _, _, .k1 .mk, rfl⟩
  | 2, _ => exact ⟨_, _, rfl, _, _, _, _, _, _, .k2 .mk, rfl⟩
  | 3, _ => exact ⟨_, _, rfl, _, _, _, _, _, _, .k3 .mk, rfl⟩
theorem sides_ok {kind : Nat} {two : Bool} {step base : Int} (hk : kind < 4) (k : Nat) : ∃ ss : List Sd, Nms ss ∧ ss.length = (if two = true then 2 else 1) ∧ (∀ s ∈ ss, Sok kind step base ss s) ∧ (nmt (sidesT kind two step base) k).enc = .tuple (ss.map sdD) := by
  cases two with
  | false =>
    obtain ⟨kk, body, e, later, last, k0, k1, k2, k3, hl, eb⟩ := fn_ok (t := "f") (x := "x") (step := step) (base := base) hk k
    refine ⟨[⟨"f", kk, "x", body⟩], .inl ⟨_, _, rfl⟩, rfl, fun s hs => ?_, ?_⟩
    · cases List.mem_singleton.mp hs
      exact ⟨_, List.mem_singleton.mpr rfl, _, _, _, _, _, _, hl, eb⟩
    · show PyData.tuple [.tuple [.str "f", (nmt (fnT kind "f" "x" step base) k).enc]] = _
      rw [e]
      rfl
  | true =>
    obtain ⟨kk, body, e, later, last, k0, k1, k2, k3, hl, eb⟩ := fn_ok (t := "g") (x := "x") (step := step) (base := base) hk k
    obtain ⟨kk', body', e', later', last', k0', k1', k2', k3', hl', eb'⟩ := fn_ok (t := "f") (x := "y") (step := step) (base := base) hk (k + (szt (fnT kind "g" "x" step base)))
    refine ⟨[⟨"f", kk, "x", body⟩, ⟨"g", kk', "y", body'⟩], .inr ⟨_, _, _, _, rfl⟩, rfl, fun s hs => ?_, ?_⟩
    · simp only [List.mem_cons, List.not_mem_nil, or_false] at hs
      rcases hs with rfl | rfl
      · exact ⟨⟨"g", kk', "y", body'⟩, by simp, _, _, _, _, _, _, hl, eb⟩
      · exact ⟨⟨"f", kk, "x", body⟩, by simp, _, _, _, _, _, _, hl', eb'⟩
    · have z : szs [ls "f", fnT kind "g" "x" step base] = szt (fnT kind "g" "x" step base) := by
        rw [szs, szs, szs, szt, Nat.zero_add, Nat.add_zero]
      have z2 : (nmt (sidesT kind true step base) k).enc = .tuple [.tuple [.str "f", (nmt (fnT kind "g" "x" step base) k).enc], .tuple [.str "g", (nmt (fnT kind "f" "y" step base) (k + szs [ls "f", fnT kind "g" "x" step base])).enc]] := rfl
      rw [z2, z, e, e']
      rfl
theorem prog_ok {held : Nat} {sides : Nt} {first : Str} {n base : Int} {A : List Sd → Prop} (hh : held < 4) (hs : ∀ k, ∃ ss : List Sd, A ss ∧ (nmt sides k).enc = .tuple (ss.map sdD)) : ∃ (k : Int) (rows : List PyData) (main : PyData) (ss : List Sd), A ss ∧ (nmt (progT held sides first n base) 0).enc = .tuple [.str "program", .int k, .tuple rows, main] ∧ Held ss first n base held rows main := by
  match held, hh with
  | 0, _ =>
    obtain ⟨ss, a, e⟩ := hs 6
    exact ⟨0, [.tuple [.str "def", .int 1, .str "c", clN 2 (.tuple [.str "int", .int 3]) (nuN 4 base)], .tuple [.str "defrec", .int 5, .tuple (ss.map sdD)]], _, ss, a, (by rw [← e]; rfl), .h0⟩
  | 1, _ =>
    obtain ⟨ss, a, e⟩ := hs 6
    exact ⟨0, [.tuple [.str "def", .int 1, .str "c", clN 2 (.tuple [.str "int", .int 3]) (nuN 4 base)]], _, ss, a, (by unfold rcN; rw [← e]; rfl), .h1⟩
  | 2, _ =>
    obtain ⟨ss, a, e⟩ := hs 8
    exact ⟨0, [.tuple [.str "def", .int 1, .str "c", clN 2 (.tuple [.str "int", .int 3]) (nuN 4 base)], .tuple [.str "module", .int 5, .str "m", .tuple [.str "struct", .int 6, .tuple [.tuple [.str "defrec", .int 7, .tuple (ss.map sdD)]]], .none]], _, ss, a, (by rw [← e]; rfl), .h2⟩
  | 3, _ =>
    obtain ⟨ss, a, e⟩ := hs 9
    exact ⟨0, _, _, ss, a, (by rw [← e]; rfl), .h3 (y := .none) (t := .tuple [.str "int", .int 3]) (z := .none) (z2 := .none) (sg := .tuple []) (k1 := 1) (k2 := 2) (k3 := 4) (k10 := 5) (k11 := 6) (k12 := 7) (k4 := 8) (s := .str "s")⟩
theorem prog_wf {held kind : Nat} {two : Bool} {first : Str} {n base step : Int} (hh : held < 4) (hk : kind < 4) : wfb (progT held (sidesT kind two step base) first n base) 18 = true := by
  match held, hh with
  | 0, _ => match kind, hk with
    | 0, _ => cases two <;> rfl
    | 1, _ => cases two <;> rfl
    | 2, _ => cases two <;> rfl
    | 3, _ => cases two <;> rfl
  | 1, _ => match kind, hk with
    | 0, _ => cases two <;> rfl
    | 1, _ => cases two <;> rfl
    | 2, _ => cases two <;> rfl
    | 3, _ => cases two <;> rfl
  | 2, _ => match kind, hk with
    | 0, _ => cases two <;> rfl
    | 1, _ => cases two <;> rfl
    | 2, _ => cases two <;> rfl
    | 3, _ => cases two <;> rfl
  | 3, _ => match kind, hk with
    | 0, _ => cases two <;> rfl
    | 1, _ => cases two <;> rfl
    | 2, _ => cases two <;> rfl
    | 3, _ => cases two <;> rfl
end EA
namespace EA
open PySem PySem.Spec PyProof.Rows L2
local macro_rules | `(tactic| walk_at "ix") => `(tactic| first | rfl | exact atI_cons0 | exact atI_map0)
local macro_rules | `(tactic| walk_at "st") => `(tactic| first | assumption | rfl | exact get_set (by assumption) | exact get_set (get_set (by assumption)) | exact get_last | exact get_setlast | exact get_setapp (by assumption) | exact get_app (by assumption) | exact get_app (get_set (by assumption)))
local macro_rules | `(tactic| walk_at "tk") => `(tactic| first | exact List.take_length | exact take_set | exact take_set2 | exact take_set3 | exact take_app | exact take_aset | exact take_setapp | rfl)
local macro_rules | `(tactic| walk_at "sd") => `(tactic| first | omega | assumption | decide)
local macro_rules | `(tactic| walk_at "wpx") => `(tactic| first
  | with_reducible refine ite2 (fun _ => ?_) (fun z => absurd rfl z)
  | with_reducible refine ite2 (fun z => absurd z Bool.false_ne_true) (fun _ => ?_)
  | ((with_reducible refine gate_wp ?_); (first
    | ((with_reducible apply wp_viewr); (walk_at "st")) | ((with_reducible apply wp_lat); (walk_at "st"))
    | ((with_reducible refine gate_eq ?_); (first | with_reducible refine wp_geqs ?_ | with_reducible refine wp_geqb ?_ | with_reducible refine wp_geq_nil ?_))
    | ((with_reducible refine gate_ne ?_); (first | with_reducible refine wp_gnes ?_ | with_reducible refine wp_gneb ?_ | with_reducible refine wp_gne_nil ?_))
    | ((with_reducible refine gate_ix ?_); (first | ((with_reducible apply wp_ixd); (walk_at "ix")) | ((with_reducible apply wp_ixt); (walk_at "ix")) | ((with_reducible apply wp_ixr); (walk_at "st"); (walk_at "ix"))))
    | ((with_reducible apply wp_trur); (walk_at "st"))
    | ((with_reducible refine wp_l4s ?_ ?_); (first | omega | assumption | decide +kernel)) | with_reducible refine wp_l4 ?_ | ((with_reducible apply wp_l3r); (walk_at "st"))
    | ((with_reducible refine wp_mod ?_ ?_); (walk_at "sd")) | ((with_reducible refine wp_fdiv ?_ ?_); (walk_at "sd")) | ((with_reducible refine wp_mulr ?_ ?_); (walk_at "sd")) | ((with_reducible refine wp_mull ?_ ?_); (walk_at "sd")) | ((with_reducible refine wp_pow ?_ ?_); (walk_at "sd"))
    | ((with_reducible apply wp_lenr); (walk_at "st"))
    | ((with_reducible refine wp_gis ?_ ?_); rfl) | ((with_reducible refine wp_gisn ?_ ?_); rfl)
    | ((with_reducible refine gate_isi ?_); (first | ((with_reducible refine isi_t (r := true) ?_ ?_); (decide +kernel)) | ((with_reducible refine isi_t (r := false) ?_ ?_); (decide +kernel)) | ((with_reducible refine isi_b (r := true) ?_ ?_); (decide +kernel)) | ((with_reducible refine isi_b (r := false) ?_ ?_); (decide +kernel)) | ((with_reducible refine isi_i (r := true) ?_ ?_); (decide +kernel)) | ((with_reducible refine isi_i (r := false) ?_ ?_); (decide +kernel)) | ((with_reducible refine isi_s (r := true) ?_ ?_); (decide +kernel)) | ((with_reducible refine isi_s (r := false) ?_ ?_); (decide +kernel)) | ((with_reducible refine isi_l (r := true) ?_ ?_); (decide +kernel)) | ((with_reducible refine isi_l (r := false) ?_ ?_); (decide +kernel)) | ((with_reducible refine isi_n (r := true) ?_ ?_); (decide +kernel)) | ((with_reducible refine isi_n (r := false) ?_ ?_); (decide +kernel))))
    | ((with_reducible apply wp_tupr); (walk_at "st"))))
  | ((with_reducible refine gate_rq ?_); (first | ((with_reducible apply rq_dt); (walk_at "tk")) | ((with_reducible apply rq_nxt); (walk_at "tk"))))
  | ((with_reducible apply fz_r); (walk_at "st")) | ((with_reducible apply sq_r); (walk_at "st"))
  | ((with_reducible apply atSet_i); (walk_at "st"); rfl) | ((with_reducible apply atLst_i); (walk_at "st")) | ((with_reducible apply nowLst_i); (walk_at "st"))
  | ((with_reducible refine rng1_i ?_ ?_); (walk_at "sd")) | ((with_reducible refine rng2_i ?_ ?_); (walk_at "sd")))
local macro_rules | `(tactic| walk_at "wp") => `(tactic| first
  | with_reducible refine step_of ?_ | ((with_reducible apply wp_var); rfl) | walk_at "wpx")
local macro_rules | `(tactic| walk_at "fdef") => `(tactic| (refine wp_fdef rfl ?_; simp only [List.map_cons, List.map_nil, List.replicate_succ, List.replicate_zero, List.cons_append, List.nil_append]))
local macro_rules | `(tactic| walk_at "keq") => `(tactic| first
  | refine wp_geqD (c := false) (.inr (by decide +kernel)) rfl ?_ | refine wp_geqD (c := true) (.inr (by decide +kernel)) rfl ?_)
local macro_rules | `(tactic| walk_at "wk") => `(tactic| first
  | with_reducible refine step_of ?_ | ((with_reducible apply wp_var); rfl)
  | ((with_reducible refine gate_wp ?_); (first
    | with_reducible refine wp_geqsD (c := false) (by decide +kernel) ?_ | with_reducible refine wp_geqsD (c := true) (by decide +kernel) ?_
    | with_reducible refine wp_gnesD (c := false) (by decide +kernel) ?_ | with_reducible refine wp_gnesD (c := true) (by decide +kernel) ?_
    | with_reducible refine wp_gin_lit (c := true) (by decide +kernel) ?_ | with_reducible refine wp_gin_lit (c := false) (by decide +kernel) ?_))
  | with_reducible refine ite_t rfl ?_ | with_reducible refine ite_f rfl ?_
  | walk_at "wpx")
local macro_rules | `(tactic| walk_at "w1") => `(tactic| (fail_if_success (with_reducible refine th_nx ?_)); walk_at "wk")
noncomputable def f3_law : F3 := fdef false 1 10
  (sSeq (sSet 1 (eCall f3_hand (aCons (eVar 0) aNil)))
  (sSeq (sSet 2 (eCall f3_take (aCons (eVar 1) (aCons (eD (.int (41))) aNil))))
  (sSeq (sIf (tCmp gEq (eCall f3_take (aCons (eVar 1) (aCons (eD (.int (8))) aNil))) (eD (.int (0))))
  (sSet 2 (eCall f3_take (aCons (eVar 1) (aCons (eD (.int (1991))) aNil))))
  sNx)
  (sSeq (sSet 3 (eCall f3_take (aCons (eVar 1) (aCons (eD (.int (4))) aNil))))
  (sSeq (sSet 4 (eCall f3_drawn_number (aCons (eVar 1) aNil)))
  (sSeq (sSet 5 (eCall f3_drawn_number (aCons (eVar 1) aNil)))
  (sSeq (sSet 6 (eTup (aCons (eTup (aCons (eD (.str "f")) (aCons (eCall f3_deep_down (aCons (eD (.str "f")) (aCons (eD (.str "x")) (aCons (eVar 3) (aCons (eVar 4) (aCons (eVar 5) aNil)))))) aNil))) aNil)))
  (sSeq (sIf (tCmp gEq (eCall f3_take (aCons (eVar 1) (aCons (eD (.int (2))) aNil))) (eD (.int (0))))
  (sSet 6 (eTup (aCons (eTup (aCons (eD (.str "f")) (aCons (eCall f3_deep_down (aCons (eD (.str "g")) (aCons (eD (.str "x")) (aCons (eVar 3) (aCons (eVar 4) (aCons (eVar 5) aNil)))))) aNil))) (aCons (eTup (aCons (eD (.str "g")) (aCons (eCall f3_deep_down (aCons (eD (.str "f")) (aCons (eD (.str "y")) (aCons (eVar 3) (aCons (eVar 4) (aCons (eVar 5) aNil)))))) aNil))) aNil))))
  sNx)
  (sSeq (sSet 7 (eOp gIx (eOp gIx (eVar 6) (eCall f3_take (aCons (eVar 1) (aCons (eB gLen (aCons (eVar 6) aNil)) aNil)))) (eD (.int (0)))))
  (sSeq (sSet 8 (eCall (f3_numbered 20) (aCons (eCall f3_deep_program (aCons (eCall f3_take (aCons (eVar 1) (aCons (eD (.int (4))) aNil))) (aCons (eVar 6) (aCons (eVar 7) (aCons (eVar 2) (aCons (eVar 5) aNil)))))) (aCons (eNo (nLst (aCons (eD (.int (0))) aNil))) (aCons eDN aNil)))))
  (sSeq (sSet 9 (eOp gIx (eNd (nLst (aCons (eOp gAdd (eVar 2) (eD (.int (1)))) (aCons (eVar 2) (aCons (eOp gAdd (eVar 2) (eD (.int (2)))) (aCons (eD (.int (2000))) (aCons (eCall f3_take (aCons (eVar 1) (aCons (eOp gAdd (eVar 2) (eD (.int (1)))) aNil))) aNil))))))) (eCall f3_take (aCons (eVar 1) (aCons (eD (.int (5))) aNil)))))
  (sSeq (sSet 10 (eTup (aCons (eD (.str "fuel")) (aCons (eD .none) (aCons (eVar 9) aNil)))))
  (sSeq (sIf (tCmp gGt (eVar 9) (eVar 2))
  (sSet 10 (eTup (aCons (eD (.str "value")) (aCons (eCall f3_deep_value (aCons (eVar 3) (aCons (eVar 2) (aCons (eVar 4) (aCons (eVar 5) aNil))))) (aCons (eOp gAdd (eVar 2) (eD (.int (1)))) aNil)))))
  sNx)
  (sRt (eCall (f3_same 20) (aCons (eCallK 1 1 f3_run (aCons (eVar 8) aNil) (aCons (eVar 9) aNil)) (aCons (eVar 10) aNil)))))))))))))))))
/-- what is told at the end -/
def dueV (kind : Nat) (n : Nat) (step base : Int) : PyData := match kind with
  | 1 => tl "make" "c" base 7 n
  | 2 => tl "tag" "l" base 7 n
  | _ => nuV (base + n * step)
theorem tl_eq {w s : Str} {base : Int} : ∀ (m n : Nat), tl w s base m n = twr w s (min n m) (if m ≤ n then dpV else nuV base)
  | 0, n => by rw [tl, Nat.min_zero, twr, if_pos (Nat.zero_le _)]
  | m + 1, 0 => by rw [tl, Nat.zero_min, twr, if_neg (by omega)]
  | m + 1, n + 1 => by
    rw [tl, tl_eq m n, Nat.add_min_add_right, twr]
    by_cases c : m ≤ n
    · rw [if_pos c, if_pos (by omega)]
    · rw [if_neg c, if_neg (by omega)]
theorem deep_value3 {kind n : Nat} {step base : Int} {S : List MO} {Q : W3 → List MO → Prop} (hk : kind < 4) (hn : n ≤ 2000) (q : Q (.d (dueV kind n step base)) S) : Wp2 (f3_deep_value [.d (.int kind), .d (.int n), .d (.int step), .d (.int base)] S) Q := by
  unfold f3_deep_value
  walk_at "fdef"
  match kind, hk with
  | 0, _ =>
    rw [show ((0 : Nat) : Int) = 0 from rfl]
    repeat walk_at "wk"
    refine wp_gin_it (xs := [0, 3]) ?_
    refine ite_t (by decide) ?_
    repeat walk_at "wk"
    exact q
  | 3, _ =>
    rw [show ((3 : Nat) : Int) = 3 from rfl]
    repeat walk_at "wk"
    refine wp_gin_it (xs := [0, 3]) ?_
    refine ite_t (by decide) ?_
    repeat walk_at "wk"
    exact q
  | 1, _ =>
    rw [show ((1 : Nat) : Int) = 1 from rfl]
    repeat walk_at "wk"
    refine wp_gin_it (xs := [0, 3]) ?_
    refine ite_f (by decide) ?_
    repeat walk_at "wk"
    have fin : ∀ y : PyData, y = (if 7 ≤ n then dpV else nuV base) → Wp (sFor (iR1 (aCons (eB gMin2 (aCons (eVar 1) (aCons (eD (.int (7))) aNil))) aNil)) (gNm 5)
  (sSet 4 (eOp gIx (eNd (nLst (aCons (eTup (aCons (eD (.str "make")) (aCons (eD (.str "c")) (aCons (eVar 4) aNil)))) (aCons (eTup (aCons (eD (.str "tag")) (aCons (eD (.str "l")) (aCons (eVar 4) aNil)))) aNil)))) (eOp gSub (eVar 0) (eD (.int (1)))))) [some (.d (.int 1)), some (.d (.int n)), some (.d (.int step)), some (.d (.int base)), some (.d y), none] S) (then3 (sRt (eVar 4)) (retQ false S Q)) := by
      intro y hy
      repeat walk_at "wk"
      refine wp_min2iY ?_
      repeat walk_at "wk"
      have hm : (if (7 : Int) < (n : Int) then (7 : Int) else n) = ((min n 7 : Nat) : Int) := by
        by_cases c : (7 : Int) < n
        · rw [if_pos c]; omega
        · rw [if_neg c]; omega
      rw [hm]
      repeat walk_at "wk"
      refine wp_loop (n := 0) (fun j sl S' => S' = S ∧ ∃ x, sl = [some (.d (.int 1)), some (.d (.int n)), some (.d (.int step)), some (.d (.int base)), some (.d (twr "make" "c" j y)), x]) ⟨rfl, _, rfl⟩ (fun _ _ _ _ => rfl) (fun j w sl S' hw hj hq => ?_) (fun sl S' hq => ?_)
      · obtain ⟨rfl, x, rfl⟩ := hq
        repeat walk_at "wk"
        exact ⟨rfl, _, rfl⟩
      · obtain ⟨rfl, x, rfl⟩ := hq
        repeat walk_at "wk"
        rw [intsW_len, Int.toNat_natCast, Nat.zero_add, hy, ← tl_eq]
        exact q
    refine ite2 (fun c => ?_) (fun c => ?_)
    · have c : (6 : Int) < n := of_decide_eq_true c
      repeat walk_at "w1"
      exact th_nx (wp_seq (fin dpV (by rw [if_pos (by omega)])))
    · have c : ¬ (6 : Int) < n := fun z => c (decide_eq_true z)
      repeat walk_at "w1"
      exact th_nx (wp_seq (fin (nuV base) (by rw [if_neg (by omega)])))
  | 2, _ =>
    rw [show ((2 : Nat) : Int) = 2 from rfl]
    repeat walk_at "wk"
    refine wp_gin_it (xs := [0, 3]) ?_
    refine ite_f (by decide) ?_
    repeat walk_at "wk"
    have fin : ∀ y : PyData, y = (if 7 ≤ n then dpV else nuV base) → Wp (sFor (iR1 (aCons (eB gMin2 (aCons (eVar 1) (aCons (eD (.int (7))) aNil))) aNil)) (gNm 5)
  (sSet 4 (eOp gIx (eNd (nLst (aCons (eTup (aCons (eD (.str "make")) (aCons (eD (.str "c")) (aCons (eVar 4) aNil)))) (aCons (eTup (aCons (eD (.str "tag")) (aCons (eD (.str "l")) (aCons (eVar 4) aNil)))) aNil)))) (eOp gSub (eVar 0) (eD (.int (1)))))) [some (.d (.int 2)), some (.d (.int n)), some (.d (.int step)), some (.d (.int base)), some (.d y), none] S) (then3 (sRt (eVar 4)) (retQ false S Q)) := by
      intro y hy
      repeat walk_at "wk"
      refine wp_min2iY ?_
      repeat walk_at "wk"
      have hm : (if (7 : Int) < (n : Int) then (7 : Int) else n) = ((min n 7 : Nat) : Int) := by
        by_cases c : (7 : Int) < n
        · rw [if_pos c]; omega
        · rw [if_neg c]; omega
      rw [hm]
      repeat walk_at "wk"
      refine wp_loop (n := 0) (fun j sl S' => S' = S ∧ ∃ x, sl = [some (.d (.int 2)), some (.d (.int n)), some (.d (.int step)), some (.d (.int base)), some (.d (twr "tag" "l" j y)), x]) ⟨rfl, _, rfl⟩ (fun _ _ _ _ => rfl) (fun j w sl S' hw hj hq => ?_) (fun sl S' hq => ?_)
      · obtain ⟨rfl, x, rfl⟩ := hq
        repeat walk_at "wk"
        exact ⟨rfl, _, rfl⟩
      · obtain ⟨rfl, x, rfl⟩ := hq
        repeat walk_at "wk"
        rw [intsW_len, Int.toNat_natCast, Nat.zero_add, hy, ← tl_eq]
        exact q
    refine ite2 (fun c => ?_) (fun c => ?_)
    · have c : (6 : Int) < n := of_decide_eq_true c
      repeat walk_at "w1"
      exact th_nx (wp_seq (fin dpV (by rw [if_pos (by omega)])))
    · have c : ¬ (6 : Int) < n := fun z => c (decide_eq_true z)
      repeat walk_at "w1"
      exact th_nx (wp_seq (fin (nuV base) (by rw [if_neg (by omega)])))
end EA
namespace EA
open PySem PySem.Spec PyProof.Rows L2
local macro_rules | `(tactic| walk_at "ix") => `(tactic| first | rfl | exact atI_cons0 | exact atI_map0)
local macro_rules | `(tactic| walk_at "st") => `(tactic| first | assumption | rfl | exact get_set (by assumption) | exact get_set (get_set (by assumption)) | exact get_last | exact get_setlast | exact get_setapp (by assumption) | exact get_app (by assumption) | exact get_app (get_set (by assumption)))
local macro_rules | `(tactic| walk_at "tk") => `(tactic| first | exact List.take_length | exact take_set | exact take_set2 | exact take_set3 | exact take_app | exact take_aset | exact take_setapp | rfl)
local macro_rules | `(tactic| walk_at "sd") => `(tactic| first | omega | assumption | decide)
local macro_rules | `(tactic| walk_at "wpx") => `(tactic| first
  | with_reducible refine ite2 (fun _ => ?_) (fun z => absurd rfl z)
  | with_reducible refine ite2 (fun z => absurd z Bool.false_ne_true) (fun _ => ?_)
  | ((with_reducible refine gate_wp ?_); (first
    | ((with_reducible apply wp_viewr); (walk_at "st")) | ((with_reducible apply wp_lat); (walk_at "st"))
    | ((with_reducible refine gate_eq ?_); (first | with_reducible refine wp_geqs ?_ | with_reducible refine wp_geqb ?_ | with_reducible refine wp_geq_nil ?_))
    | ((with_reducible refine gate_ne ?_); (first | with_reducible refine wp_gnes ?_ | with_reducible refine wp_gneb ?_ | with_reducible refine wp_gne_nil ?_))
    | ((with_reducible refine gate_ix ?_); (first | ((with_reducible apply wp_ixd); (walk_at "ix")) | ((with_reducible apply wp_ixt); (walk_at "ix")) | ((with_reducible apply wp_ixr); (walk_at "st"); (walk_at "ix"))))
    | ((with_reducible apply wp_trur); (walk_at "st"))
    | ((with_reducible refine wp_l4s ?_ ?_); (first | omega | assumption | decide +kernel)) | with_reducible refine wp_l4 ?_ | ((with_reducible apply wp_l3r); (walk_at "st"))
    | ((with_reducible refine wp_mod ?_ ?_); (walk_at "sd")) | ((with_reducible refine wp_fdiv ?_ ?_); (walk_at "sd")) | ((with_reducible refine wp_mulr ?_ ?_); (walk_at "sd")) | ((with_reducible refine wp_mull ?_ ?_); (walk_at "sd")) | ((with_reducible refine wp_pow ?_ ?_); (walk_at "sd"))
    | ((with_reducible apply wp_lenr); (walk_at "st"))
    | ((with_reducible refine wp_gis ?_ ?_); rfl) | ((with_reducible refine wp_gisn ?_ ?_); rfl)
    | ((with_reducible refine gate_isi ?_); (first | ((with_reducible refine isi_t (r := true) ?_ ?_); (decide +kernel)) | ((with_reducible refine isi_t (r := false) ?_ ?_); (decide +kernel)) | ((with_reducible refine isi_b (r := true) ?_ ?_); (decide +kernel)) | ((with_reducible refine isi_b (r := false) ?_ ?_); (decide +kernel)) | ((with_reducible refine isi_i (r := true) ?_ ?_); (decide +kernel)) | ((with_reducible refine isi_i (r := false) ?_ ?_); (decide +kernel)) | ((with_reducible refine isi_s (r := true) ?_ ?_); (decide +kernel)) | ((with_reducible refine isi_s (r := false) ?_ ?_); (decide +kernel)) | ((with_reducible refine isi_l (r := true) ?_ ?_); (decide +kernel)) | ((with_reducible refine isi_l (r := false) ?_ ?_); (decide +kernel)) | ((with_reducible refine isi_n (r := true) ?_ ?_); (decide +kernel)) | ((with_reducible refine isi_n (r := false) ?_ ?_); (decide +kernel))))
    | ((with_reducible apply wp_tupr); (walk_at "st"))))
  | ((with_reducible refine gate_rq ?_); (first | ((with_reducible apply rq_dt); (walk_at "tk")) | ((with_reducible apply rq_nxt); (walk_at "tk"))))
  | ((with_reducible apply fz_r); (walk_at "st")) | ((with_reducible apply sq_r); (walk_at "st"))
  | ((with_reducible apply atSet_i); (walk_at "st"); rfl) | ((with_reducible apply atLst_i); (walk_at "st")) | ((with_reducible apply nowLst_i); (walk_at "st"))
  | ((with_reducible refine rng1_i ?_ ?_); (walk_at "sd")) | ((with_reducible refine rng2_i ?_ ?_); (walk_at "sd")))
local macro_rules | `(tactic| walk_at "wp") => `(tactic| first
  | with_reducible refine step_of ?_ | ((with_reducible apply wp_var); rfl) | walk_at "wpx")
local macro_rules | `(tactic| walk_at "fdef") => `(tactic| (refine wp_fdef rfl ?_; simp only [List.map_cons, List.map_nil, List.replicate_succ, List.replicate_zero, List.cons_append, List.nil_append]))
local macro_rules | `(tactic| walk_at "keq") => `(tactic| first
  | refine wp_geqD (c := false) (.inr (by decide +kernel)) rfl ?_ | refine wp_geqD (c := true) (.inr (by decide +kernel)) rfl ?_)
local macro_rules | `(tactic| walk_at "wk") => `(tactic| first
  | with_reducible refine step_of ?_ | ((with_reducible apply wp_var); rfl)
  | ((with_reducible refine gate_wp ?_); (first
    | with_reducible refine wp_geqsD (c := false) (by decide +kernel) ?_ | with_reducible refine wp_geqsD (c := true) (by decide +kernel) ?_
    | with_reducible refine wp_gnesD (c := false) (by decide +kernel) ?_ | with_reducible refine wp_gnesD (c := true) (by decide +kernel) ?_
    | with_reducible refine wp_gin_lit (c := true) (by decide +kernel) ?_ | with_reducible refine wp_gin_lit (c := false) (by decide +kernel) ?_))
  | with_reducible refine ite_t rfl ?_ | with_reducible refine ite_f rfl ?_
  | walk_at "wpx")
local macro_rules | `(tactic| walk_at "w1") => `(tactic| (fail_if_success (with_reducible refine th_nx ?_)); walk_at "wk")
theorem nat_of {v m : Int} (h0 : 0 ≤ v) (h1 : v < m) : ∃ n : Nat, v = n ∧ (n : Int) < m := ⟨v.toNat, by omega, by omega⟩
theorem sd_tl {w s : Str} {base : Int} : ∀ (m n : Nat), SD (m + 1) (tl w s base m n)
  | 0, _ => .tup (by show 1 ≤ _; decide) fun x hx => by
    cases List.mem_singleton.mp hx
    exact .str _
  | m + 1, 0 => (sd_two (h := 0) (.str _) (.int _)).mono (by omega)
  | m + 1, n + 1 => sd_three (.str _) (.str _) (sd_tl m n)
theorem sd_due {kd n : Nat} {step base : Int} : SD 8 (dueV kd n step base) := by
  unfold dueV
  split
  · exact sd_tl 7 n
  · exact sd_tl 7 n
  · exact (sd_two (h := 0) (.str _) (.int _)).mono (by omega)
theorem told_due {kd n i : Nat} {step base : Int} {cs : List PyData} (hk : kd < 4) (S : List MO) (Q : W3 → List MO → Prop) (hi : S[i]? = some (.lst cs)) (q : Q (.d (dueV kd n step base)) S) : Wp2 (f3_told_value 12 [.d (resV kd step base n base), .r i, .d (.int 0)] S) Q := by
  match kd, hk with
  | 0, _ => exact told_nu (j := 11) q
  | 1, _ => exact told3 (w := "make") (s := "c") (.inl rfl) 7 n 4 i S cs Q hi (by decide) q
  | 2, _ => exact told3 (w := "tag") (s := "l") (.inr rfl) 7 n 4 i S cs Q hi (by decide) q
  | 3, _ => exact told_nu (j := 11) q
/-- the deep program, run -/
theorem deep_run {S0 : List MO} {kd held n : Nat} {two : Bool} {step base F : Int} {first : Str} {due : List PyData} (hk : kd < 4) (hh : held < 4) (hf : first = "f" ∨ two = true ∧ first = "g") (h0 : 0 ≤ F)
    (hd : PyData.tuple due = if (n : Int) < F then .tuple [.str "value", dueV kd n step base, .int (n + 1)] else .tuple [.str "fuel", .none, .int F]) {Q : W3 → List MO → Prop} (q : Q (.d (.tuple due)) S0) : Wp2 (f3_run [.d (nmt (progT held (sidesT kd two step base) first n base) 0).enc, .d (.int F)] S0) Q := by
  obtain ⟨k, rows, main, ss, ⟨nm, hlen, sok⟩, e, hd2⟩ := prog_ok (held := held) (sides := sidesT kd two step base) (first := first) (n := n) (base := base) (A := fun ss => Nms ss ∧ ss.length = (if two = true then 2 else 1) ∧ ∀ s ∈ ss, Sok kd step base ss s) hh (fun k => by
    obtain ⟨ss, a, b, c, d⟩ := sides_ok (two := two) (step := step) (base := base) hk k
    exact ⟨ss, ⟨a, b, c⟩, d⟩)
  rw [e]
  obtain ⟨s, hs, hn⟩ : ∃ s ∈ ss, s.name = first := by
    rcases nm.cases with ⟨k, b, rfl⟩ | ⟨k, b, k', b', rfl⟩
    · rcases hf with rfl | ⟨rfl, _⟩
      · exact ⟨_, List.mem_singleton.mpr rfl, rfl⟩
      · rw [if_pos rfl] at hlen; cases hlen
    · rcases hf with rfl | ⟨_, rfl⟩
      · exact ⟨_, List.mem_cons_self, rfl⟩
      · exact ⟨_, List.mem_cons_of_mem _ (List.mem_singleton.mpr rfl), rfl⟩
  subst hn
  refine run3 ?_ q
  refine held_run nm hs hd2 fun env env0 f v k k2 hc hp => ?_
  have hfam := fam_of nm hc
  by_cases z : (n : Int) < F
  · rw [if_pos z] at hd
    exact main_val hfam sok hs hp (by omega) (fun S Q hi q => told_due hk S Q hi q) (by rw [hd, show (n : Int) + 1 = 1 + n by omega])
  · rw [if_neg z] at hd
    exact main_fuel hfam sok hs hp h0 (by omega) hd
theorem law52 (ns : List Int) (hl : ns.length ≤ 63) : ∃ S, f3_law [.sc ns] [] = some (.d (.bool true), S) := by
  suffices h : Wp2 (f3_law [.sc ns] []) fun w _ => w = .d (.bool true) by
    obtain ⟨⟨a, b⟩, e, e2⟩ := h
    exact ⟨b, by rw [e]; exact congrArg (fun x => some (x, b)) e2⟩
  unfold f3_law
  walk_at "fdef"
  repeat walk_at "wk"
  refine hand3 hl fun o ho => ?_
  repeat walk_at "wk"
  refine take3 (h := 0) rfl ho (by decide) (by decide) fun v o1 v0 v1 h1 => ?_
  obtain ⟨n0, rfl, hn0⟩ := nat_of v0 v1
  repeat walk_at "w1"
  refine th_nx (wp_seqJ (fun sl S => ∃ (n : Nat) (o' : List PyData), sl = [some (.sc ns), some (.r 0), some (.d (.int n)), none, none, none, none, none, none, none, none] ∧ S = [.lst o'] ∧ HandO o' ∧ n ≤ 1990) ?_ ?_)
  · repeat walk_at "wk"
    refine take3 (h := 0) rfl h1 (by decide) (by decide) fun u o2 u0 u1 h2 => ?_
    repeat walk_at "wk"
    refine ite2 (fun c => ?_) (fun c => ?_)
    · repeat walk_at "wk"
      refine take3 (h := 0) rfl h2 (by decide) (by decide) fun t o3 t0 t1 h3 => ?_
      obtain ⟨n1, rfl, hn1⟩ := nat_of t0 t1
      repeat walk_at "wk"
      exact ⟨n1, o3, rfl, rfl, h3, by omega⟩
    · repeat walk_at "wk"
      exact ⟨n0, o2, rfl, rfl, h2, by omega⟩
  rintro _ _ ⟨n, o2, rfl, rfl, h2, hn⟩
  clear h1 hn0 v0 v1 n0 ho o o1
  repeat walk_at "wk"
  refine take3 (h := 0) rfl h2 (by decide) (by decide) fun v o1 v0 v1 h1 => ?_
  obtain ⟨kd, rfl, hk⟩ := nat_of v0 v1
  have hk : kd < 4 := by omega
  repeat walk_at "wk"
  refine drawnY (h := 0) rfl h1 fun step o3 h3 => ?_
  repeat walk_at "wk"
  refine drawnY (h := 0) rfl h3 fun base o4 h4 => ?_
  repeat walk_at "wk"
  refine deep_down3 hk ?_
  repeat walk_at "w1"
  refine th_nx (wp_seqJ (fun sl S => ∃ (two : Bool) (o' : List PyData), sl = [some (.sc ns), some (.r 0), some (.d (.int n)), some (.d (.int kd)), some (.d (.int step)), some (.d (.int base)), some (.d (sidesT kd two step base).enc), none, none, none, none] ∧ S = [.lst o'] ∧ HandO o') ?_ ?_)
  · repeat walk_at "wk"
    refine take3 (h := 0) rfl h4 (by decide) (by decide) fun u o2 u0 u1 h2 => ?_
    repeat walk_at "wk"
    refine ite2 (fun c => ?_) (fun c => ?_)
    · repeat walk_at "wk"
      refine deep_down3 hk ?_
      repeat walk_at "wk"
      refine deep_down3 hk ?_
      repeat walk_at "wk"
      exact ⟨true, o2, rfl, rfl, h2⟩
    · repeat walk_at "wk"
      exact ⟨false, o2, rfl, rfl, h2⟩
  rintro _ _ ⟨two, o5, rfl, rfl, h5⟩
  clear h1 h2 h3 h4 v0 v1 o1 o2 o3 o4
  refine wp_seqJ (fun sl S => ∃ (first : Str) (o' : List PyData), sl = [some (.sc ns), some (.r 0), some (.d (.int n)), some (.d (.int kd)), some (.d (.int step)), some (.d (.int base)), some (.d (sidesT kd two step base).enc), some (.d (.str first)), none, none, none] ∧ S = [.lst o'] ∧ HandO o' ∧ (first = "f" ∨ two = true ∧ first = "g")) ?_ ?_
  · cases two with
    | false =>
      rw [show (sidesT kd false step base).enc = .tuple [.tuple [.str "f", (fnT kd "f" "x" step base).enc]] from rfl]
      repeat walk_at "wk"
      refine take3 (h := 0) rfl h5 (by show (0 : Int) < 1; omega) (by show (1 : Int) < 1073741824; omega) fun v o2 v0 v1 h2 => ?_
      have v1 : v < 1 := v1
      have : v = 0 := by omega
      subst this
      repeat walk_at "wk"
      exact ⟨"f", o2, rfl, rfl, h2, .inl rfl⟩
    | true =>
      rw [show (sidesT kd true step base).enc = .tuple [.tuple [.str "f", (fnT kd "g" "x" step base).enc], .tuple [.str "g", (fnT kd "f" "y" step base).enc]] from rfl]
      repeat walk_at "wk"
      refine take3 (h := 0) rfl h5 (by show (0 : Int) < 2; omega) (by show (2 : Int) < 1073741824; omega) fun v o2 v0 v1 h2 => ?_
      have v1 : v < 2 := v1
      have : v = 0 ∨ v = 1 := by omega
      rcases this with rfl | rfl
      · repeat walk_at "wk"
        exact ⟨"f", o2, rfl, rfl, h2, .inl rfl⟩
      · repeat walk_at "wk"
        exact ⟨"g", o2, rfl, rfl, h2, .inr ⟨rfl, rfl⟩⟩
  rintro _ _ ⟨first, o6, rfl, rfl, h6, hf⟩
  clear h5 o5
  repeat walk_at "wk"
  refine take3 (h := 0) rfl h6 (by decide) (by decide) fun v o7 v0 v1 h7 => ?_
  obtain ⟨held, rfl, hh⟩ := nat_of v0 v1
  have hh : held < 4 := by omega
  repeat walk_at "wk"
  refine deep_program3 hh ?_
  repeat walk_at "wk"
  refine wp2_eq (numbered3 (i := 1) (j := 2) (k := 0) 20 (prog_wf hh hk) (by decide) rfl) ?_
  repeat walk_at "wk"
  refine take3 (h := 0) (o := o7) rfl h7 (by omega) (by omega) fun v o8 v0 v1 h8 => ?_
  repeat walk_at "wk"
  refine take3 (h := 0) (o := o8) rfl h8 (by decide) (by decide) fun u o9 u0 u1 h9 => ?_
  obtain ⟨F, F0, hF⟩ : ∃ F : Int, 0 ≤ F ∧ atI [PyData.int ((n : Int) + 1), .int n, .int (n + 2), .int 2000, .int v] u = some (.int F) := by
    have : u = 0 ∨ u = 1 ∨ u = 2 ∨ u = 3 ∨ u = 4 := by omega
    rcases this with rfl | rfl | rfl | rfl | rfl
    · exact ⟨_, by omega, rfl⟩
    · exact ⟨_, by omega, rfl⟩
    · exact ⟨_, by omega, rfl⟩
    · exact ⟨_, by omega, rfl⟩
    · exact ⟨_, by omega, rfl⟩
  refine wp_ixd hF ?_
  repeat walk_at "wk"
  refine ite2 (fun c => ?_) (fun c => ?_)
  · have c : (n : Int) < F := of_decide_eq_true c
    repeat walk_at "wk"
    refine deep_value3 hk (by omega) ?_
    repeat walk_at "wk"
    refine ⟨⟨rfl, rfl⟩, ?_⟩
    refine deep_run hk hh hf F0 (by rw [if_pos c]) ?_
    repeat walk_at "wk"
    refine wp2_eq (same3 20 (sd_three (.str _) sd_due (.int _)) (by decide)) ?_
    repeat walk_at "wk"
    exact rq_d (c := ⟨fun i o hi _ => absurd hi (Nat.not_lt_zero _)⟩) rfl
  · have c : ¬ (n : Int) < F := fun z => c (decide_eq_true z)
    repeat walk_at "wk"
    refine ⟨⟨rfl, rfl⟩, ?_⟩
    refine deep_run hk hh hf F0 (by rw [if_neg c]) ?_
    repeat walk_at "wk"
    refine wp2_eq (same3 20 (sd_three (h := 0) (.str _) .none (.int _)) (by decide)) ?_
    repeat walk_at "wk"
    exact rq_d (c := ⟨fun i o hi _ => absurd hi (Nat.not_lt_zero _)⟩) rfl
end EA
namespace EA
open PySem PySem.Spec PyProof.Rows L2
def topS (i : Nat) : Stmt := PySem.Challenge.pw_eacharm_k52_whole_nested_calls_and_fuel.main.body.getD i (.Pass ⟨0, 0, 0, 0⟩)
abbrev s_looked_up : Stmt := topS 6
theorem sc_looked_up : FnScope ["env", "space", "name"] ["env", "space", "name"] (defScope s_looked_up) := ⟨rfl, rfl, rfl, by decide +kernel, rfl, by decide +kernel, by decide +kernel⟩
abbrev s_group_bound : Stmt := topS 7
theorem sc_group_bound : FnScope ["env", "sides", "inner", "name", "fn"] ["env", "sides"] (defScope s_group_bound) := ⟨rfl, rfl, rfl, by decide +kernel, rfl, by decide +kernel, by decide +kernel⟩
abbrev s_struct_values : Stmt := topS 8
theorem sc_struct_values : FnScope ["env", "found"] ["env"] (defScope s_struct_values) := ⟨rfl, rfl, rfl, by decide +kernel, rfl, by decide +kernel, by decide +kernel⟩
abbrev s_parts_of : Stmt := topS 9
theorem sc_parts_of : FnScope ["node", "word", "_", "part"] ["node"] (defScope s_parts_of) := ⟨rfl, rfl, rfl, by decide +kernel, rfl, by decide +kernel, by decide +kernel⟩
abbrev s_plain_value : Stmt := topS 10
theorem sc_plain_value : FnScope ["node", "env", "word", "values", "name", "value"] ["node", "env"] (defScope s_plain_value) := ⟨rfl, rfl, rfl, by decide +kernel, rfl, by decide +kernel, by decide +kernel⟩
abbrev s_op_value : Stmt := topS 11
theorem sc_op_value : FnScope ["sign", "first", "second"] ["sign", "first", "second"] (defScope s_op_value) := ⟨rfl, rfl, rfl, by decide +kernel, rfl, by decide +kernel, by decide +kernel⟩
abbrev s_record_value : Stmt := topS 12
abbrev s_field_value : Stmt := topS 13
abbrev s_made_value : Stmt := topS 14
theorem sc_made_value : FnScope ["node", "done", "word"] ["node", "done"] (defScope s_made_value) := ⟨rfl, rfl, rfl, by decide +kernel, rfl, by decide +kernel, by decide +kernel⟩
abbrev s_told_value : Stmt := topS 15
theorem sc_told_value : FnScope ["value", "cells", "depth", "word", "part", "label"] ["value", "cells", "depth"] (defScope s_told_value) := ⟨rfl, rfl, rfl, by decide +kernel, rfl, by decide +kernel, by decide +kernel⟩
abbrev s_Machine___init__ : Stmt := inClass (topS 23) 0
theorem sc_Machine___init__ : FnScope ["self", "program", "fuel"] ["self", "program", "fuel"] (defScope s_Machine___init__) := ⟨rfl, rfl, rfl, by decide +kernel, rfl, by decide +kernel, by decide +kernel⟩
abbrev s_Machine_advance : Stmt := inClass (topS 23) 3
theorem sc_Machine_advance : FnScope ["self"] ["self"] (defScope s_Machine_advance) := ⟨rfl, rfl, rfl, by decide +kernel, rfl, by decide +kernel, by decide +kernel⟩
abbrev s_Machine_step_on : Stmt := inClass (topS 23) 4
theorem sc_Machine_step_on : FnScope ["self", "task", "rest", "env"] ["self"] (defScope s_Machine_step_on) := ⟨rfl, rfl, rfl, by decide +kernel, rfl, by decide +kernel, by decide +kernel⟩
abbrev s_Machine_asked : Stmt := inClass (topS 23) 5
theorem sc_Machine_asked : FnScope ["self", "switch", "known"] ["self", "switch"] (defScope s_Machine_asked) := ⟨rfl, rfl, rfl, by decide +kernel, rfl, by decide +kernel, by decide +kernel⟩
abbrev s_Machine_stop_stuck : Stmt := inClass (topS 23) 6
theorem sc_Machine_stop_stuck : FnScope ["self", "node"] ["self", "node"] (defScope s_Machine_stop_stuck) := ⟨rfl, rfl, rfl, by decide +kernel, rfl, by decide +kernel, by decide +kernel⟩
abbrev s_Machine_give : Stmt := inClass (topS 23) 7
theorem sc_Machine_give : FnScope ["self", "value", "rest"] ["self", "value", "rest"] (defScope s_Machine_give) := ⟨rfl, rfl, rfl, by decide +kernel, rfl, by decide +kernel, by decide +kernel⟩
abbrev s_Machine_go_on : Stmt := inClass (topS 23) 8
theorem sc_Machine_go_on : FnScope ["self", "node", "env", "rest"] ["self", "node", "env", "rest"] (defScope s_Machine_go_on) := ⟨rfl, rfl, rfl, by decide +kernel, rfl, by decide +kernel, by decide +kernel⟩
abbrev s_Machine_evaluate : Stmt := inClass (topS 23) 9
theorem sc_Machine_evaluate : FnScope ["self", "node", "env", "rest", "word", "value", "on", "sides"] ["self", "node", "env", "rest"] (defScope s_Machine_evaluate) := ⟨rfl, rfl, rfl, by decide +kernel, rfl, by decide +kernel, by decide +kernel⟩
abbrev s_Machine_sides_of : Stmt := inClass (topS 23) 10
theorem sc_Machine_sides_of : FnScope ["self", "node", "sides", "name", "side", "on"] ["self", "node"] (defScope s_Machine_sides_of) := ⟨rfl, rfl, rfl, by decide +kernel, rfl, by decide +kernel, by decide +kernel⟩
abbrev s_Machine_next_part : Stmt := inClass (topS 23) 11
theorem sc_Machine_next_part : FnScope ["self", "node", "env", "done", "rest", "parts"] ["self", "node", "env", "done", "rest"] (defScope s_Machine_next_part) := ⟨rfl, rfl, rfl, by decide +kernel, rfl, by decide +kernel, by decide +kernel⟩
abbrev s_Machine_perform : Stmt := inClass (topS 23) 12
theorem sc_Machine_perform : FnScope ["self", "node", "env", "done", "rest", "word", "value"] ["self", "node", "env", "done", "rest"] (defScope s_Machine_perform) := ⟨rfl, rfl, rfl, by decide +kernel, rfl, by decide +kernel, by decide +kernel⟩
abbrev s_Machine_call_fn : Stmt := inClass (topS 23) 13
theorem sc_Machine_call_fn : FnScope ["self", "node", "done", "rest", "fn"] ["self", "node", "done", "rest"] (defScope s_Machine_call_fn) := ⟨rfl, rfl, rfl, by decide +kernel, rfl, by decide +kernel, by decide +kernel⟩
abbrev s_Machine_go_case : Stmt := inClass (topS 23) 14
abbrev s_Machine_go_match : Stmt := inClass (topS 23) 15
abbrev s_Machine_go_rows : Stmt := inClass (topS 23) 16
theorem sc_Machine_go_rows : FnScope ["self", "task", "rest", "_", "rows", "env", "then", "row", "later", "on", "sides"] ["self", "task", "rest"] (defScope s_Machine_go_rows) := ⟨rfl, rfl, rfl, by decide +kernel, rfl, by decide +kernel, by decide +kernel⟩
abbrev s_Machine_end_rows : Stmt := inClass (topS 23) 17
theorem sc_Machine_end_rows : FnScope ["self", "env", "then", "rest", "bound"] ["self", "env", "then", "rest"] (defScope s_Machine_end_rows) := ⟨rfl, rfl, rfl, by decide +kernel, rfl, by decide +kernel, by decide +kernel⟩
abbrev s_Machine_go_body : Stmt := inClass (topS 23) 18
theorem sc_Machine_go_body : FnScope ["self", "row", "then", "rest", "node", "env", "on", "functor", "values", "inner"] ["self", "row", "then", "rest"] (defScope s_Machine_go_body) := ⟨rfl, rfl, rfl, by decide +kernel, rfl, by decide +kernel, by decide +kernel⟩
abbrev s_run : Stmt := topS 24
theorem sc_run : FnScope ["program", "fuel", "running"] ["program", "fuel"] (defScope s_run) := ⟨rfl, rfl, rfl, by decide +kernel, rfl, by decide +kernel, by decide +kernel⟩
abbrev s_hand : Stmt := topS 26
theorem sc_hand : FnScope ["_law_script", "_law_total", "_law_cells", "_law_cell"] ["_law_script"] (defScope s_hand) := ⟨rfl, rfl, rfl, by decide +kernel, rfl, by decide +kernel, by decide +kernel⟩
abbrev s_stirred : Stmt := topS 27
theorem sc_stirred : FnScope ["_law_number", "_law_turn", "_law_once", "_law_twice"] ["_law_number", "_law_turn"] (defScope s_stirred) := ⟨rfl, rfl, rfl, by decide +kernel, rfl, by decide +kernel, by decide +kernel⟩
abbrev s_take : Stmt := topS 28
theorem sc_take : FnScope ["_law_hand_here", "_law_many", "_law_cell", "_law_rest"] ["_law_hand_here", "_law_many"] (defScope s_take) := ⟨rfl, rfl, rfl, by decide +kernel, rfl, by decide +kernel, by decide +kernel⟩
abbrev s_whole : Stmt := topS 29
theorem sc_whole : FnScope ["_law_thing"] ["_law_thing"] (defScope s_whole) := ⟨rfl, rfl, rfl, by decide +kernel, rfl, by decide +kernel, by decide +kernel⟩
abbrev s_drawn_number : Stmt := topS 30
theorem sc_drawn_number : FnScope ["_law_hand_here"] ["_law_hand_here"] (defScope s_drawn_number) := ⟨rfl, rfl, rfl, by decide +kernel, rfl, by decide +kernel, by decide +kernel⟩
abbrev s_is_node : Stmt := topS 31
theorem sc_is_node : FnScope ["_law_thing"] ["_law_thing"] (defScope s_is_node) := ⟨rfl, rfl, rfl, by decide +kernel, rfl, by decide +kernel, by decide +kernel⟩
abbrev s_numbered : Stmt := topS 32
theorem sc_numbered : FnScope ["_law_thing", "_law_count", "_law_spots", "_law_one", "_law_number"] ["_law_thing", "_law_count", "_law_spots"] (defScope s_numbered) := ⟨rfl, rfl, rfl, by decide +kernel, rfl, by decide +kernel, by decide +kernel⟩
abbrev s_same : Stmt := topS 33
theorem sc_same : FnScope ["_law_left", "_law_right", "_law_k"] ["_law_left", "_law_right"] (defScope s_same) := ⟨rfl, rfl, rfl, by decide +kernel, rfl, by decide +kernel, by decide +kernel⟩
abbrev s_deep_down : Stmt := topS 34
theorem sc_deep_down : FnScope ["_law_f", "_law_x", "_law_kind", "_law_step", "_law_base", "_law_going", "_law_later", "_law_more", "_law_last", "_law_test"] ["_law_f", "_law_x", "_law_kind", "_law_step", "_law_base"] (defScope s_deep_down) := ⟨rfl, rfl, rfl, by decide +kernel, rfl, by decide +kernel, by decide +kernel⟩
abbrev s_deep_value : Stmt := topS 35
theorem sc_deep_value : FnScope ["_law_kind", "_law_count", "_law_step", "_law_base", "_law_told", "_law_k"] ["_law_kind", "_law_count", "_law_step", "_law_base"] (defScope s_deep_value) := ⟨rfl, rfl, rfl, by decide +kernel, rfl, by decide +kernel, by decide +kernel⟩
abbrev s_deep_program : Stmt := topS 36
theorem sc_deep_program : FnScope ["_law_held", "_law_sides", "_law_first", "_law_count", "_law_base", "_law_call", "_law_cell", "_law_plain", "_law_made"] ["_law_held", "_law_sides", "_law_first", "_law_count", "_law_base"] (defScope s_deep_program) := ⟨rfl, rfl, rfl, by decide +kernel, rfl, by decide +kernel, by decide +kernel⟩
abbrev s_law : Stmt := topS 37
theorem sc_law : FnScope ["_law_script", "_law_hand_here", "_law_count", "_law_kind", "_law_step", "_law_base", "_law_sides", "_law_first", "_law_program", "_law_fuel", "_law_due"] ["_law_script"] (defScope s_law) := ⟨rfl, rfl, rfl, by decide +kernel, rfl, by decide +kernel, by decide +kernel⟩
structure Tp (K : PySem.W.Frag) (mg : Str → Option Value) where
  C_Machine : Addr
  cz_Machine : clsAt K "Machine" C_Machine
  cg_Machine : mg "Machine" = some (.ref C_Machine)
  cl_Machine : Cls K C_Machine
  na_Machine_program : NoAttr K C_Machine "program"
  na_Machine_fuel : NoAttr K C_Machine "fuel"
  na_Machine_outcome : NoAttr K C_Machine "outcome"
  na_Machine_waiting : NoAttr K C_Machine "waiting"
  na_Machine_decided : NoAttr K C_Machine "decided"
  na_Machine_calls : NoAttr K C_Machine "calls"
  na_Machine_cells : NoAttr K C_Machine "cells"
  na_Machine_value : NoAttr K C_Machine "value"
  na_Machine_pile : NoAttr K C_Machine "pile"
  a_looked_up : Addr
  d_looked_up : FuncData
  F_looked_up : Fun K "looked_up" "looked_up" s_looked_up a_looked_up d_looked_up
  g_looked_up : mg "looked_up" = some (.ref a_looked_up)
  b_looked_up : Binds K d_looked_up ["env", "space", "name"] []
  a_group_bound : Addr
  d_group_bound : FuncData
  F_group_bound : Fun K "group_bound" "group_bound" s_group_bound a_group_bound d_group_bound
  g_group_bound : mg "group_bound" = some (.ref a_group_bound)
  b_group_bound : Binds K d_group_bound ["env", "sides"] []
  a_struct_values : Addr
  d_struct_values : FuncData
  F_struct_values : Fun K "struct_values" "struct_values" s_struct_values a_struct_values d_struct_values
  g_struct_values : mg "struct_values" = some (.ref a_struct_values)
  b_struct_values : Binds K d_struct_values ["env"] []
  a_parts_of : Addr
  d_parts_of : FuncData
  F_parts_of : Fun K "parts_of" "parts_of" s_parts_of a_parts_of d_parts_of
  g_parts_of : mg "parts_of" = some (.ref a_parts_of)
  b_parts_of : Binds K d_parts_of ["node"] []
  a_plain_value : Addr
  d_plain_value : FuncData
  F_plain_value : Fun K "plain_value" "plain_value" s_plain_value a_plain_value d_plain_value
  g_plain_value : mg "plain_value" = some (.ref a_plain_value)
  b_plain_value : Binds K d_plain_value ["node", "env"] []
  a_op_value : Addr
  d_op_value : FuncData
  F_op_value : Fun K "op_value" "op_value" s_op_value a_op_value d_op_value
  g_op_value : mg "op_value" = some (.ref a_op_value)
  b_op_value : Binds K d_op_value ["sign", "first", "second"] []
  a_record_value : Addr
  d_record_value : FuncData
  F_record_value : Fun K "record_value" "record_value" s_record_value a_record_value d_record_value
  g_record_value : mg "record_value" = some (.ref a_record_value)
  b_record_value : Binds K d_record_value ["node", "done"] []
  a_field_value : Addr
  d_field_value : FuncData
  F_field_value : Fun K "field_value" "field_value" s_field_value a_field_value d_field_value
  g_field_value : mg "field_value" = some (.ref a_field_value)
  b_field_value : Binds K d_field_value ["node", "done"] []
  a_made_value : Addr
  d_made_value : FuncData
  F_made_value : Fun K "made_value" "made_value" s_made_value a_made_value d_made_value
  g_made_value : mg "made_value" = some (.ref a_made_value)
  b_made_value : Binds K d_made_value ["node", "done"] []
  a_told_value : Addr
  d_told_value : FuncData
  F_told_value : Fun K "told_value" "told_value" s_told_value a_told_value d_told_value
  g_told_value : mg "told_value" = some (.ref a_told_value)
  b_told_value : Binds K d_told_value ["value", "cells", "depth"] []
  a_Machine___init__ : Addr
  d_Machine___init__ : FuncData
  F_Machine___init__ : FunD K "__init__" "Machine.__init__" (defArgs s_Machine___init__) (defBody s_Machine___init__) (defScope s_Machine___init__) [.int (400)] [] a_Machine___init__ d_Machine___init__
  mk_Machine : Mk K C_Machine a_Machine___init__
  b_Machine___init__ : Binds K d_Machine___init__ ["self", "program", "fuel"] []
  bd_Machine___init__ : ∃ dus, Vals [.int (400)] dus ∧ Binds K d_Machine___init__ ["self", "program", "fuel"] dus
  a_Machine_advance : Addr
  d_Machine_advance : FuncData
  F_Machine_advance : Fun K "advance" "Machine.advance" s_Machine_advance a_Machine_advance d_Machine_advance
  me_Machine_advance : Meth K C_Machine "advance" a_Machine_advance
  b_Machine_advance : Binds K d_Machine_advance ["self"] []
  a_Machine_step_on : Addr
  d_Machine_step_on : FuncData
  F_Machine_step_on : Fun K "step_on" "Machine.step_on" s_Machine_step_on a_Machine_step_on d_Machine_step_on
  me_Machine_step_on : Meth K C_Machine "step_on" a_Machine_step_on
  b_Machine_step_on : Binds K d_Machine_step_on ["self"] []
  a_Machine_asked : Addr
  d_Machine_asked : FuncData
  F_Machine_asked : Fun K "asked" "Machine.asked" s_Machine_asked a_Machine_asked d_Machine_asked
  me_Machine_asked : Meth K C_Machine "asked" a_Machine_asked
  b_Machine_asked : Binds K d_Machine_asked ["self", "switch"] []
  a_Machine_stop_stuck : Addr
  d_Machine_stop_stuck : FuncData
  F_Machine_stop_stuck : Fun K "stop_stuck" "Machine.stop_stuck" s_Machine_stop_stuck a_Machine_stop_stuck d_Machine_stop_stuck
  me_Machine_stop_stuck : Meth K C_Machine "stop_stuck" a_Machine_stop_stuck
  b_Machine_stop_stuck : Binds K d_Machine_stop_stuck ["self", "node"] []
  a_Machine_give : Addr
  d_Machine_give : FuncData
  F_Machine_give : Fun K "give" "Machine.give" s_Machine_give a_Machine_give d_Machine_give
  me_Machine_give : Meth K C_Machine "give" a_Machine_give
  b_Machine_give : Binds K d_Machine_give ["self", "value", "rest"] []
  a_Machine_go_on : Addr
  d_Machine_go_on : FuncData
  F_Machine_go_on : Fun K "go_on" "Machine.go_on" s_Machine_go_on a_Machine_go_on d_Machine_go_on
  me_Machine_go_on : Meth K C_Machine "go_on" a_Machine_go_on
  b_Machine_go_on : Binds K d_Machine_go_on ["self", "node", "env", "rest"] []
  a_Machine_evaluate : Addr
  d_Machine_evaluate : FuncData
  F_Machine_evaluate : Fun K "evaluate" "Machine.evaluate" s_Machine_evaluate a_Machine_evaluate d_Machine_evaluate
  me_Machine_evaluate : Meth K C_Machine "evaluate" a_Machine_evaluate
  b_Machine_evaluate : Binds K d_Machine_evaluate ["self", "node", "env", "rest"] []
  a_Machine_sides_of : Addr
  d_Machine_sides_of : FuncData
  F_Machine_sides_of : Fun K "sides_of" "Machine.sides_of" s_Machine_sides_of a_Machine_sides_of d_Machine_sides_of
  me_Machine_sides_of : Meth K C_Machine "sides_of" a_Machine_sides_of
  b_Machine_sides_of : Binds K d_Machine_sides_of ["self", "node"] []
  a_Machine_next_part : Addr
  d_Machine_next_part : FuncData
  F_Machine_next_part : Fun K "next_part" "Machine.next_part" s_Machine_next_part a_Machine_next_part d_Machine_next_part
  me_Machine_next_part : Meth K C_Machine "next_part" a_Machine_next_part
  b_Machine_next_part : Binds K d_Machine_next_part ["self", "node", "env", "done", "rest"] []
  a_Machine_perform : Addr
  d_Machine_perform : FuncData
  F_Machine_perform : Fun K "perform" "Machine.perform" s_Machine_perform a_Machine_perform d_Machine_perform
  me_Machine_perform : Meth K C_Machine "perform" a_Machine_perform
  b_Machine_perform : Binds K d_Machine_perform ["self", "node", "env", "done", "rest"] []
  a_Machine_call_fn : Addr
  d_Machine_call_fn : FuncData
  F_Machine_call_fn : Fun K "call_fn" "Machine.call_fn" s_Machine_call_fn a_Machine_call_fn d_Machine_call_fn
  me_Machine_call_fn : Meth K C_Machine "call_fn" a_Machine_call_fn
  b_Machine_call_fn : Binds K d_Machine_call_fn ["self", "node", "done", "rest"] []
  a_Machine_go_case : Addr
  d_Machine_go_case : FuncData
  F_Machine_go_case : Fun K "go_case" "Machine.go_case" s_Machine_go_case a_Machine_go_case d_Machine_go_case
  me_Machine_go_case : Meth K C_Machine "go_case" a_Machine_go_case
  b_Machine_go_case : Binds K d_Machine_go_case ["self", "node", "env", "value", "rest"] []
  a_Machine_go_match : Addr
  d_Machine_go_match : FuncData
  F_Machine_go_match : Fun K "go_match" "Machine.go_match" s_Machine_go_match a_Machine_go_match d_Machine_go_match
  me_Machine_go_match : Meth K C_Machine "go_match" a_Machine_go_match
  b_Machine_go_match : Binds K d_Machine_go_match ["self", "node", "env", "value", "rest"] []
  a_Machine_go_rows : Addr
  d_Machine_go_rows : FuncData
  F_Machine_go_rows : Fun K "go_rows" "Machine.go_rows" s_Machine_go_rows a_Machine_go_rows d_Machine_go_rows
  me_Machine_go_rows : Meth K C_Machine "go_rows" a_Machine_go_rows
  b_Machine_go_rows : Binds K d_Machine_go_rows ["self", "task", "rest"] []
  a_Machine_end_rows : Addr
  d_Machine_end_rows : FuncData
  F_Machine_end_rows : Fun K "end_rows" "Machine.end_rows" s_Machine_end_rows a_Machine_end_rows d_Machine_end_rows
  me_Machine_end_rows : Meth K C_Machine "end_rows" a_Machine_end_rows
  b_Machine_end_rows : Binds K d_Machine_end_rows ["self", "env", "then", "rest"] []
  a_Machine_go_body : Addr
  d_Machine_go_body : FuncData
  F_Machine_go_body : Fun K "go_body" "Machine.go_body" s_Machine_go_body a_Machine_go_body d_Machine_go_body
  me_Machine_go_body : Meth K C_Machine "go_body" a_Machine_go_body
  b_Machine_go_body : Binds K d_Machine_go_body ["self", "row", "then", "rest"] []
  a_run : Addr
  d_run : FuncData
  F_run : FunD K "run" "run" (defArgs s_run) (defBody s_run) (defScope s_run) [.int (400)] [] a_run d_run
  g_run : mg "run" = some (.ref a_run)
  b_run : Binds K d_run ["program", "fuel"] []
  bd_run : ∃ dus, Vals [.int (400)] dus ∧ Binds K d_run ["program", "fuel"] dus
  bk_run : KBinds K d_run ["program", "fuel"] ["fuel"] (kG 1 1) (kG 1 1)
  a_hand : Addr
  d_hand : FuncData
  F_hand : Fun K "_law_hand" "_law_hand" s_hand a_hand d_hand
  g_hand : mg "_law_hand" = some (.ref a_hand)
  b_hand : Binds K d_hand ["_law_script"] []
  a_stirred : Addr
  d_stirred : FuncData
  F_stirred : Fun K "_law_stirred" "_law_stirred" s_stirred a_stirred d_stirred
  g_stirred : mg "_law_stirred" = some (.ref a_stirred)
  b_stirred : Binds K d_stirred ["_law_number", "_law_turn"] []
  a_take : Addr
  d_take : FuncData
  F_take : Fun K "_law_take" "_law_take" s_take a_take d_take
  g_take : mg "_law_take" = some (.ref a_take)
  b_take : Binds K d_take ["_law_hand_here", "_law_many"] []
  a_whole : Addr
  d_whole : FuncData
  F_whole : Fun K "_law_whole" "_law_whole" s_whole a_whole d_whole
  g_whole : mg "_law_whole" = some (.ref a_whole)
  b_whole : Binds K d_whole ["_law_thing"] []
  a_drawn_number : Addr
  d_drawn_number : FuncData
  F_drawn_number : Fun K "_law_drawn_number" "_law_drawn_number" s_drawn_number a_drawn_number d_drawn_number
  g_drawn_number : mg "_law_drawn_number" = some (.ref a_drawn_number)
  b_drawn_number : Binds K d_drawn_number ["_law_hand_here"] []
  a_is_node : Addr
  d_is_node : FuncData
  F_is_node : Fun K "_law_is_node" "_law_is_node" s_is_node a_is_node d_is_node
  g_is_node : mg "_law_is_node" = some (.ref a_is_node)
  b_is_node : Binds K d_is_node ["_law_thing"] []
  a_numbered : Addr
  d_numbered : FuncData
  F_numbered : Fun K "_law_numbered" "_law_numbered" s_numbered a_numbered d_numbered
  g_numbered : mg "_law_numbered" = some (.ref a_numbered)
  b_numbered : Binds K d_numbered ["_law_thing", "_law_count", "_law_spots"] []
  a_same : Addr
  d_same : FuncData
  F_same : Fun K "_law_same" "_law_same" s_same a_same d_same
  g_same : mg "_law_same" = some (.ref a_same)
  b_same : Binds K d_same ["_law_left", "_law_right"] []
  a_deep_down : Addr
  d_deep_down : FuncData
  F_deep_down : Fun K "_law_deep_down" "_law_deep_down" s_deep_down a_deep_down d_deep_down
  g_deep_down : mg "_law_deep_down" = some (.ref a_deep_down)
  b_deep_down : Binds K d_deep_down ["_law_f", "_law_x", "_law_kind", "_law_step", "_law_base"] []
  a_deep_value : Addr
  d_deep_value : FuncData
  F_deep_value : Fun K "_law_deep_value" "_law_deep_value" s_deep_value a_deep_value d_deep_value
  g_deep_value : mg "_law_deep_value" = some (.ref a_deep_value)
  b_deep_value : Binds K d_deep_value ["_law_kind", "_law_count", "_law_step", "_law_base"] []
  a_deep_program : Addr
  d_deep_program : FuncData
  F_deep_program : Fun K "_law_deep_program" "_law_deep_program" s_deep_program a_deep_program d_deep_program
  g_deep_program : mg "_law_deep_program" = some (.ref a_deep_program)
  b_deep_program : Binds K d_deep_program ["_law_held", "_law_sides", "_law_first", "_law_count", "_law_base"] []
  a_law : Addr
  d_law : FuncData
  F_law : Fun K "law" "law" s_law a_law d_law
  g_law : mg "law" = some (.ref a_law)
  b_law : Binds K d_law ["_law_script"] []
  z_ValueError : mg "ValueError" = none
  z_abs : mg "abs" = none
  z_all : mg "all" = none
  z_bool : mg "bool" = none
  z_dict : mg "dict" = none
  z_int : mg "int" = none
  z_isinstance : mg "isinstance" = none
  z_len : mg "len" = none
  z_list : mg "list" = none
  z_min : mg "min" = none
  z_range : mg "range" = none
  z_sorted : mg "sorted" = none
  z_str : mg "str" = none
  z_tuple : mg "tuple" = none
  z_zip : mg "zip" = none
  ti_DEEPEST : Tok
  gi_DEEPEST : mg "DEEPEST" = some (.int 6 ti_DEEPEST)
  ca_PLAIN_WORDS : Addr
  cg_PLAIN_WORDS : mg "PLAIN_WORDS" = some (.ref ca_PLAIN_WORDS)
  ct_PLAIN_WORDS : TopT K ca_PLAIN_WORDS [.str "number", .str "truth", .str "fn", .str "name", .str "member"]
section
variable {P : Program} {w : World} {K : PySem.W.Frag} {mg : Str → Option Value} {base : Heap}
theorem ok3_looked_up (T : Tp K mg) : FnOk P w K mg base CX0 1 T.a_looked_up T.d_looked_up ["env", "space", "name"] (sp3 K f3_looked_up) := by
  refine fn3 T.F_looked_up sc_looked_up rfl rfl fun cdv A outer s H E hr => ?_
  have hu64 := hr.units
  have hu1 := hr.units1
  have hu65 := hr.units65
  exact (b_cons (s_while PassesOwn.never (t_cmp rfl op_gIsN (v3 0) e_non (nomark _))
  (b_cons (s_if (t_w (w_and (t_cmp rfl (op_gEq hu64) (e_ix (ix_sq rfl) ok_ix (v3 0) e_int (fun _ _ => rfl)) (v3 1) (nomark _)) (w_and1 (t_cmp rfl (op_gEq hu64) (e_ix (ix_sq rfl) ok_ix (v3 0) e_int (fun _ _ => rfl)) (v3 2) (nomark _)))))
  (b_one (s_ret (e_ix (ix_sq rfl) ok_ix (v3 0) e_int (fun _ _ => rfl))))
  b_nil)
  (b_one (s_set (i := 0) sc_looked_up.nd rfl (Or.inl rfl) (e_ix (ix_sq rfl) ok_ix (v3 0) e_int (fun _ _ => rfl))))))
  (b_one (s_ret e_non)))
theorem ok3_group_bound (T : Tp K mg) : FnOk P w K mg base CX0 1 T.a_group_bound T.d_group_bound ["env", "sides"] (sp3 K f3_group_bound) := by
  refine fn3 T.F_group_bound sc_group_bound rfl rfl fun cdv A outer s H E hr => ?_
  have hu64 := hr.units
  have hu1 := hr.units1
  have hu65 := hr.units65
  exact (b_cons (s_set (i := 2) sc_group_bound.nd rfl (Or.inl rfl) (v3 0))
  (b_cons (s_for PassesOwn.never rfl (i_sq rfl (v3 1)) (g_tup rfl rfl (gs_cons (g_name (i := 3) sc_group_bound.nd rfl (Or.inl rfl)) (gs_cons (g_name (i := 4) sc_group_bound.nd rfl (Or.inl rfl)) gs_nil)))
  (b_one (s_set (i := 2) sc_group_bound.nd rfl (Or.inl rfl) (e_tup (a_cons e_str (a_cons (v3 3) (a_cons (e_tup (a_cons e_str (a_cons (e_ix (ix_sq rfl) ok_ix (v3 4) e_int (fun _ _ => rfl)) (a_cons (e_ix (ix_sq rfl) ok_ix (v3 4) e_int (fun _ _ => rfl)) (a_cons (v3 0) (a_cons (v3 1) a_nil)))))) (a_cons (v3 2) a_nil))))))))
  (b_one (s_ret (v3 2)))))
theorem ok3_struct_values (T : Tp K mg) : FnOk P w K mg base CX0 1 T.a_struct_values T.d_struct_values ["env"] (sp3 K f3_struct_values) := by
  refine fn3 T.F_struct_values sc_struct_values rfl rfl fun cdv A outer s H E hr => ?_
  have hu64 := hr.units
  have hu1 := hr.units1
  have hu65 := hr.units65
  exact (b_cons (s_set (i := 1) sc_struct_values.nd rfl (Or.inl rfl) (e_no (n_lst a_nil)))
  (b_cons (s_while PassesOwn.never (t_cmp rfl (op_gNe hu64) (e_ix (ix_sq rfl) ok_ix (v3 0) e_int (fun _ _ => rfl)) e_str (nomark _))
  (b_cons (s_if (t_cmp rfl (op_gEq hu64) (e_ix (ix_sq rfl) ok_ix (v3 0) e_int (fun _ _ => rfl)) e_str (nomark _))
  (b_one (s_expr (e_m rfl PySem.F.slot_list_append PySem.F.type_list_append mt_append mk_app (v3 1) (a_cons (e_tup (a_cons (e_ix (ix_sq rfl) ok_ix (v3 0) e_int (fun _ _ => rfl)) (a_cons (e_ix (ix_sq rfl) ok_ix (v3 0) e_int (fun _ _ => rfl)) a_nil))) a_nil))))
  b_nil)
  (b_one (s_set (i := 0) sc_struct_values.nd rfl (Or.inl rfl) (e_ix (ix_sq rfl) ok_ix (v3 0) e_int (fun _ _ => rfl))))))
  (b_one (s_ret (e_cT (tupK3 rfl) ck_tupOf (by rfl) T.z_tuple (by decide +kernel) (a_cons (v3 1) a_nil))))))
theorem ok3_parts_of (T : Tp K mg) : FnOk P w K mg base CX0 1 T.a_parts_of T.d_parts_of ["node"] (sp3 K f3_parts_of) := by
  refine fn3 T.F_parts_of sc_parts_of rfl rfl fun cdv A outer s H E hr => ?_
  have hu64 := hr.units
  have hu1 := hr.units1
  have hu65 := hr.units65
  exact (b_cons (s_set (i := 1) sc_parts_of.nd rfl (Or.inl rfl) (e_ix (ix_sq rfl) ok_ix (v3 0) e_int (fun _ _ => rfl)))
  (b_cons (s_if (t_cmp rfl (op_gIn hu64) (v3 1) (e_tup (a_cons e_str (a_cons e_str a_nil))) (by rfl))
  (b_one (s_ret (e_tup (a_cons (e_ix (ix_sq rfl) ok_ix (v3 0) e_int (fun _ _ => rfl)) (a_cons (e_ix (ix_sq rfl) ok_ix (v3 0) e_int (fun _ _ => rfl)) a_nil)))))
  b_nil)
  (b_cons (s_if (t_cmp rfl (op_gIn hu64) (v3 1) (e_tup (a_cons e_str (a_cons e_str (a_cons e_str a_nil)))) (by rfl))
  (b_one (s_ret (e_tup (a_cons (e_ix (ix_sq rfl) ok_ix (v3 0) e_int (fun _ _ => rfl)) (a_cons (e_ix (ix_sq rfl) ok_ix (v3 0) e_int (fun _ _ => rfl)) a_nil)))))
  b_nil)
  (b_cons (s_if (t_cmp rfl (op_gEq hu64) (v3 1) e_str (nomark _))
  (b_one (s_ret (e_ix (ix_sq rfl) ok_ix (v3 0) e_int (fun _ _ => rfl))))
  b_nil)
  (b_cons (s_if (t_cmp rfl (op_gEq hu64) (v3 1) e_str (nomark _))
  (b_one (s_ret (e_cT (tupK3 rfl) ck_tupOf (by rfl) T.z_tuple (by decide +kernel) (a_cons (e_nd (n_lc (own := [("_", 2), ("part", 3)]) (vs := [2, 3]) rfl sc_parts_of.nd (i_sq rfl (e_ix (ix_sq rfl) ok_ix (v3 0) e_int (fun _ _ => rfl))) (blkOk_by (own := [("_", 2), ("part", 3)]) (N := ["node", "word", "_", "part"]) (sc := defScope s_parts_of) (scope := { kind := PySem.ScopeKind.function, names := [ (PySem.Str.ofString ".0", PySem.NameKind.local), (PySem.Str.ofString "_", PySem.NameKind.local), (PySem.Str.ofString "part", PySem.NameKind.local)], isGenerator := false, isCoroutine := false, more := [] : PySem.Scope }) (by decide +kernel)) rfl (by decide) (fun _ _ _ _ _ => (g_tup rfl rfl (gs_cons (g_name (i := 2) sc_parts_of.nd rfl (Or.inl rfl) (Or.inr rfl)) (gs_cons (g_name (i := 3) sc_parts_of.nd rfl (Or.inl rfl) (Or.inr rfl)) gs_nil)))) (fun _ _ _ _ _ => t_nil) (fun _ _ _ _ _ => (v3 3)))) a_nil))))
  b_nil)
  (b_cons (s_if (t_cmp rfl (op_gIn hu64) (v3 1) (e_tup (a_cons e_str (a_cons e_str (a_cons e_str (a_cons e_str a_nil))))) (by rfl))
  (b_one (s_ret (e_tup (a_cons (e_ix (ix_sq rfl) ok_ix (v3 0) e_int (fun _ _ => rfl)) a_nil))))
  b_nil)
  (b_one (s_ret (e_tup (a_cons (e_ix (ix_sq rfl) ok_ix (v3 0) e_int (fun _ _ => rfl)) a_nil))))))))))
theorem ok3_plain_value (T : Tp K mg) : FnOk P w K mg base CX0 2 T.a_plain_value T.d_plain_value ["node", "env"] (sp3 K f3_plain_value) := by
  have G_looked_up := ok3_looked_up (P := P) (w := w) (base := base) T
  refine fn3 T.F_plain_value sc_plain_value rfl rfl fun cdv A outer s H E hr => ?_
  have hu64 := hr.units
  have hu1 := hr.units1
  have hu65 := hr.units65
  exact (b_cons (s_set (i := 2) sc_plain_value.nd rfl (Or.inl rfl) (e_ix (ix_sq rfl) ok_ix (v3 0) e_int (fun _ _ => rfl)))
  (b_cons (s_if (t_w (w_or (t_cmp rfl (op_gEq hu64) (v3 2) e_str (nomark _)) (w_or1 (t_cmp rfl (op_gEq hu64) (v3 2) e_str (nomark _)))))
  (b_one (s_ret (e_tup (a_cons (v3 2) (a_cons (e_ix (ix_sq rfl) ok_ix (v3 0) e_int (fun _ _ => rfl)) a_nil)))))
  b_nil)
  (b_cons (s_if (t_cmp rfl (op_gEq hu64) (v3 2) e_str (nomark _))
  (b_one (s_ret (e_tup (a_cons e_str (a_cons (e_ix (ix_sq rfl) ok_ix (v3 0) e_int (fun _ _ => rfl)) (a_cons (e_ix (ix_sq rfl) ok_ix (v3 0) e_int (fun _ _ => rfl)) (a_cons (v3 1) (a_cons (e_tup a_nil) a_nil))))))))
  b_nil)
  (b_cons (s_if (t_cmp rfl (op_gEq hu64) (v3 2) e_str (nomark _))
  (b_one (s_ret (e_call rfl G_looked_up (hr.mono (by omega)) (by rfl) T.g_looked_up T.F_looked_up.kp T.b_looked_up (a_cons (v3 1) (a_cons e_str (a_cons (e_ix (ix_sq rfl) ok_ix (v3 0) e_int (fun _ _ => rfl)) a_nil))))))
  b_nil)
  (b_cons (s_set (i := 3) sc_plain_value.nd rfl (Or.inl rfl) (e_call rfl G_looked_up (hr.mono (by omega)) (by rfl) T.g_looked_up T.F_looked_up.kp T.b_looked_up (a_cons (v3 1) (a_cons e_str (a_cons (e_ix (ix_sq rfl) ok_ix (v3 0) e_int (fun _ _ => rfl)) a_nil)))))
  (b_cons (s_if (t_cmp rfl op_gIsN (v3 3) e_non (nomark _))
  (b_one (s_for PassesOwn.never rfl (i_sq rfl (v3 3)) (g_tup rfl rfl (gs_cons (g_name (i := 4) sc_plain_value.nd rfl (Or.inl rfl)) (gs_cons (g_name (i := 5) sc_plain_value.nd rfl (Or.inl rfl)) gs_nil)))
  (b_one (s_if (t_cmp rfl (op_gEq hu64) (v3 4) (e_ix (ix_sq rfl) ok_ix (v3 0) e_int (fun _ _ => rfl)) (nomark _))
  (b_one (s_ret (v3 5)))
  b_nil))))
  b_nil)
  (b_one (s_ret e_non))))))))
theorem ok3_op_value (T : Tp K mg) : FnOk P w K mg base CX0 1 T.a_op_value T.d_op_value ["sign", "first", "second"] (sp3 K f3_op_value) := by
  refine fn3 T.F_op_value sc_op_value rfl rfl fun cdv A outer s H E hr => ?_
  have hu64 := hr.units
  have hu1 := hr.units1
  have hu65 := hr.units65
  exact (b_cons (s_if (t_w (w_or (t_cmp rfl (op_gNe hu64) (e_ix (ix_sq rfl) ok_ix (v3 1) e_int (fun _ _ => rfl)) e_str (nomark _)) (w_or1 (t_cmp rfl (op_gNe hu64) (e_ix (ix_sq rfl) ok_ix (v3 2) e_int (fun _ _ => rfl)) e_str (nomark _)))))
  (b_one (s_ret e_non))
  b_nil)
  (b_cons (s_if (t_cmp rfl (op_gEq hu64) (v3 0) e_str (nomark _))
  (b_one (s_ret (e_tup (a_cons e_str (a_cons (e_op (op_ad rfl) ok_add (e_ix (ix_sq rfl) ok_ix (v3 1) e_int (fun _ _ => rfl)) (e_ix (ix_sq rfl) ok_ix (v3 2) e_int (fun _ _ => rfl))) a_nil)))))
  b_nil)
  (b_cons (s_if (t_cmp rfl (op_gEq hu64) (v3 0) e_str (nomark _))
  (b_one (s_ret (e_tup (a_cons e_str (a_cons (e_op op_sub ok_sub (e_ix (ix_sq rfl) ok_ix (v3 1) e_int (fun _ _ => rfl)) (e_ix (ix_sq rfl) ok_ix (v3 2) e_int (fun _ _ => rfl))) a_nil)))))
  b_nil)
  (b_cons (s_if (t_cmp rfl (op_gEq hu64) (v3 0) e_str (nomark _))
  (b_one (s_ret (e_tup (a_cons e_str (a_cons (e_cmp rfl (op_gLt hu64) (e_ix (ix_sq rfl) ok_ix (v3 1) e_int (fun _ _ => rfl)) (e_ix (ix_sq rfl) ok_ix (v3 2) e_int (fun _ _ => rfl)) (nomark _)) a_nil)))))
  b_nil)
  (b_one (s_ret (e_tup (a_cons e_str (a_cons (e_cmp rfl (op_gEq hu64) (e_ix (ix_sq rfl) ok_ix (v3 1) e_int (fun _ _ => rfl)) (e_ix (ix_sq rfl) ok_ix (v3 2) e_int (fun _ _ => rfl)) (nomark _)) a_nil)))))))))
theorem ok3_record_value (T : Tp K mg) : FnOk P w K mg base CX0 1 T.a_record_value T.d_record_value ["node", "done"] (sp3 K f3_record_value) := fn3_none
theorem ok3_field_value (T : Tp K mg) : FnOk P w K mg base CX0 1 T.a_field_value T.d_field_value ["node", "done"] (sp3 K f3_field_value) := fn3_none
theorem ok3_made_value (T : Tp K mg) : FnOk P w K mg base CX0 2 T.a_made_value T.d_made_value ["node", "done"] (sp3 K f3_made_value) := by
  have G_field_value := ok3_field_value (P := P) (w := w) (base := base) T
  have G_op_value := ok3_op_value (P := P) (w := w) (base := base) T
  have G_record_value := ok3_record_value (P := P) (w := w) (base := base) T
  refine fn3 T.F_made_value sc_made_value rfl rfl fun cdv A outer s H E hr => ?_
  have hu64 := hr.units
  have hu1 := hr.units1
  have hu65 := hr.units65
  exact (b_cons (s_set (i := 2) sc_made_value.nd rfl (Or.inl rfl) (e_ix (ix_sq rfl) ok_ix (v3 0) e_int (fun _ _ => rfl)))
  (b_cons (s_if (t_cmp rfl (op_gEq hu64) (v3 2) e_str (nomark _))
  (b_one (s_ret (e_call rfl G_op_value (hr.mono (by omega)) (by rfl) T.g_op_value T.F_op_value.kp T.b_op_value (a_cons (e_ix (ix_sq rfl) ok_ix (v3 0) e_int (fun _ _ => rfl)) (a_cons (e_ix (ix_sq rfl) ok_ix (v3 1) e_int (fun _ _ => rfl)) (a_cons (e_ix (ix_sq rfl) ok_ix (v3 1) e_int (fun _ _ => rfl)) a_nil))))))
  b_nil)
  (b_cons (s_if (t_cmp rfl (op_gEq hu64) (v3 2) e_str (nomark _))
  (b_one (s_ret (e_tup (a_cons e_str (a_cons (v3 1) a_nil)))))
  b_nil)
  (b_cons (s_if (t_cmp rfl (op_gEq hu64) (v3 2) e_str (nomark _))
  (b_one (s_ret (e_call rfl G_record_value (hr.mono (by omega)) (by rfl) T.g_record_value T.F_record_value.kp T.b_record_value (a_cons (v3 0) (a_cons (v3 1) a_nil)))))
  b_nil)
  (b_cons (s_if (t_w (w_or (t_cmp rfl (op_gEq hu64) (v3 2) e_str (nomark _)) (w_or1 (t_cmp rfl (op_gEq hu64) (v3 2) e_str (nomark _)))))
  (b_one (s_ret (e_tup (a_cons (v3 2) (a_cons (e_ix (ix_sq rfl) ok_ix (v3 0) e_int (fun _ _ => rfl)) (a_cons (e_ix (ix_sq rfl) ok_ix (v3 1) e_int (fun _ _ => rfl)) a_nil))))))
  b_nil)
  (b_one (s_ret (e_call rfl G_field_value (hr.mono (by omega)) (by rfl) T.g_field_value T.F_field_value.kp T.b_field_value (a_cons (v3 0) (a_cons (v3 1) a_nil))))))))))
theorem ok3_told_value (T : Tp K mg) : ∀ n, FnOk P w K mg base CX0 (n + 1) T.a_told_value T.d_told_value ["value", "cells", "depth"] (sp3 K (f3_told_value n))
  | 0 => fn3_none
  | n + 1 => by
    have G_told_value := ok3_told_value T n
    show FnOk P w K mg base CX0 (n + 1 + 1) T.a_told_value T.d_told_value ["value", "cells", "depth"] (sp3 K (fdef false 3 3 _))
    refine fn3 T.F_told_value sc_told_value rfl rfl fun cdv A outer s H E hr => ?_
    have hu64 := hr.units
    have hu1 := hr.units1
    have hu65 := hr.units65
    exact (b_cons (s_if (t_cmp rfl (op_gGt hu64) (v3 2) (e_topI (by rfl) T.gi_DEEPEST) (nomark _))
  (b_one (s_ret (e_tup (a_cons e_str a_nil))))
  b_nil)
  (b_cons (s_set (i := 3) sc_told_value.nd rfl (Or.inl rfl) (e_ix (ix_sq rfl) ok_ix (v3 0) e_int (fun _ _ => rfl)))
  (b_cons (s_if (t_cmp rfl (op_gEq hu64) (v3 3) e_str (nomark _))
  (b_one (s_ret (e_tup (a_cons e_str a_nil))))
  b_nil)
  (b_cons (s_if (t_cmp rfl (op_gEq hu64) (v3 3) e_str (nomark _))
  (b_one (s_ret (e_tup (a_cons e_str (a_cons (e_call rfl G_told_value (hr.mono (by omega)) (by rfl) T.g_told_value T.F_told_value.kp T.b_told_value (a_cons (e_ix (ix_sq rfl) ok_ix (v3 1) (e_ix (ix_sq rfl) ok_ix (v3 0) e_int (fun _ _ => rfl)) (fun _ _ => rfl)) (a_cons (v3 1) (a_cons (e_op (op_ad rfl) ok_add (v3 2) e_int) a_nil)))) a_nil)))))
  b_nil)
  (b_cons (s_if (t_cmp rfl (op_gEq hu64) (v3 3) e_str (nomark _))
  (b_one (s_ret (e_tup (a_cons e_str (a_cons (e_cT (tupK3 rfl) ck_tupOf (by rfl) T.z_tuple (by decide +kernel) (a_cons (e_nd (n_lc (own := [("part", 4)]) (vs := [4]) rfl sc_told_value.nd (i_sq rfl (e_ix (ix_sq rfl) ok_ix (v3 0) e_int (fun _ _ => rfl))) (blkOk_by (own := [("part", 4)]) (N := ["value", "cells", "depth", "word", "part", "label"]) (sc := defScope s_told_value) (scope := { kind := PySem.ScopeKind.function, names := [ (PySem.Str.ofString ".0", PySem.NameKind.local), (PySem.Str.ofString "part", PySem.NameKind.local), (PySem.Str.ofString "told_value", PySem.NameKind.globalImplicit), (PySem.Str.ofString "cells", PySem.NameKind.free), (PySem.Str.ofString "depth", PySem.NameKind.free)], isGenerator := false, isCoroutine := false, more := [] : PySem.Scope }) (by decide +kernel)) rfl (by decide) (fun _ _ _ _ _ => (g_name (i := 4) sc_told_value.nd rfl (Or.inl rfl) (Or.inr rfl))) (fun _ _ _ _ _ => t_nil) (fun _ _ _ _ _ => (e_call rfl G_told_value (hr.mono (by omega)) (by rfl) T.g_told_value T.F_told_value.kp T.b_told_value (a_cons (v3 4) (a_cons (v3 1) (a_cons (e_op (op_ad rfl) ok_add (v3 2) e_int) a_nil))))))) a_nil)) a_nil)))))
  b_nil)
  (b_cons (s_if (t_cmp rfl (op_gEq hu64) (v3 3) e_str (nomark _))
  (b_one (s_ret (e_tup (a_cons e_str (a_cons (e_cT (tupK3 rfl) ck_tupOf (by rfl) T.z_tuple (by decide +kernel) (a_cons (e_nd (n_lc (own := [("label", 5), ("part", 4)]) (vs := [5, 4]) rfl sc_told_value.nd (i_sq rfl (e_ix (ix_sq rfl) ok_ix (v3 0) e_int (fun _ _ => rfl))) (blkOk_by (own := [("label", 5), ("part", 4)]) (N := ["value", "cells", "depth", "word", "part", "label"]) (sc := defScope s_told_value) (scope := { kind := PySem.ScopeKind.function, names := [ (PySem.Str.ofString ".0", PySem.NameKind.local), (PySem.Str.ofString "label", PySem.NameKind.local), (PySem.Str.ofString "part", PySem.NameKind.local), (PySem.Str.ofString "told_value", PySem.NameKind.globalImplicit), (PySem.Str.ofString "cells", PySem.NameKind.free), (PySem.Str.ofString "depth", PySem.NameKind.free)], isGenerator := false, isCoroutine := false, more := [] : PySem.Scope }) (by decide +kernel)) rfl (by decide) (fun _ _ _ _ _ => (g_tup rfl rfl (gs_cons (g_name (i := 5) sc_told_value.nd rfl (Or.inl rfl) (Or.inr rfl)) (gs_cons (g_name (i := 4) sc_told_value.nd rfl (Or.inl rfl) (Or.inr rfl)) gs_nil)))) (fun _ _ _ _ _ => t_nil) (fun _ _ _ _ _ => (e_tup (a_cons (v3 5) (a_cons (e_call rfl G_told_value (hr.mono (by omega)) (by rfl) T.g_told_value T.F_told_value.kp T.b_told_value (a_cons (v3 4) (a_cons (v3 1) (a_cons (e_op (op_ad rfl) ok_add (v3 2) e_int) a_nil)))) a_nil)))))) a_nil)) a_nil)))))
  b_nil)
  (b_cons (s_if (t_w (w_or (t_cmp rfl (op_gEq hu64) (v3 3) e_str (nomark _)) (w_or1 (t_cmp rfl (op_gEq hu64) (v3 3) e_str (nomark _)))))
  (b_one (s_ret (e_tup (a_cons (v3 3) (a_cons (e_ix (ix_sq rfl) ok_ix (v3 0) e_int (fun _ _ => rfl)) (a_cons (e_call rfl G_told_value (hr.mono (by omega)) (by rfl) T.g_told_value T.F_told_value.kp T.b_told_value (a_cons (e_ix (ix_sq rfl) ok_ix (v3 0) e_int (fun _ _ => rfl)) (a_cons (v3 1) (a_cons (e_op (op_ad rfl) ok_add (v3 2) e_int) a_nil)))) a_nil))))))
  b_nil)
  (b_one (s_ret (v3 0))))))))))
theorem ok3_Machine___init__ (T : Tp K mg) : FnOk P w K mg base CX0 1 T.a_Machine___init__ T.d_Machine___init__ ["self", "program", "fuel"] (sp3 K f3_Machine___init__) := by
  refine fn3KD T.F_Machine___init__ sc_Machine___init__ rfl rfl fun cdv A outer s H E hr => ?_
  have hu64 := hr.units
  have hu1 := hr.units1
  have hu65 := hr.units65
  exact (b_cons (s_fs rfl T.cz_Machine T.cl_Machine T.na_Machine_program (v3 0) (v3 1))
  (b_cons (s_fs rfl T.cz_Machine T.cl_Machine T.na_Machine_fuel (v3 0) (v3 2))
  (b_cons (s_fs rfl T.cz_Machine T.cl_Machine T.na_Machine_outcome (v3 0) e_non)
  (b_cons (s_fs rfl T.cz_Machine T.cl_Machine T.na_Machine_waiting (v3 0) e_non)
  (b_cons (s_fs rfl T.cz_Machine T.cl_Machine T.na_Machine_decided (v3 0) (e_tup a_nil))
  (b_cons (s_fs rfl T.cz_Machine T.cl_Machine T.na_Machine_calls (v3 0) e_int)
  (b_cons (s_fs rfl T.cz_Machine T.cl_Machine T.na_Machine_cells (v3 0) (e_no (n_lst a_nil)))
  (b_cons (s_fs rfl T.cz_Machine T.cl_Machine T.na_Machine_value (v3 0) e_non)
  (b_one (s_fs rfl T.cz_Machine T.cl_Machine T.na_Machine_pile (v3 0) (e_tup (a_cons (e_tup (a_cons e_str (a_cons (e_ix (ix_sq rfl) ok_ix (v3 1) e_int (fun _ _ => rfl)) (a_cons e_non (a_cons (e_tup (a_cons e_str (a_cons (e_ix (ix_sq rfl) ok_ix (v3 1) e_int (fun _ _ => rfl)) a_nil))) a_nil))))) (a_cons e_non a_nil)))))))))))))
theorem ok3_Machine_asked (T : Tp K mg) : FnOk P w K mg base CX0 1 T.a_Machine_asked T.d_Machine_asked ["self", "switch"] (sp3 K f3_Machine_asked) := by
  refine fn3 T.F_Machine_asked sc_Machine_asked rfl rfl fun cdv A outer s H E hr => ?_
  have hu64 := hr.units
  have hu1 := hr.units1
  have hu65 := hr.units65
  exact (b_cons (s_set (i := 2) sc_Machine_asked.nd rfl (Or.inl rfl) (e_dict rfl rfl (by rfl) T.z_dict (a_cons (e_fg rfl T.cz_Machine T.cl_Machine T.na_Machine_decided (v3 0)) a_nil)))
  (b_cons (s_if (t_dnin hu1 (v3 1) (v3 2) (by rfl))
  (b_cons (s_fs rfl T.cz_Machine T.cl_Machine T.na_Machine_waiting (v3 0) (v3 1))
  (b_one (s_ret e_non)))
  b_nil)
  (b_one (s_ret (e_dg hu1 (v3 2) (v3 1) (fun _ _ => rfl))))))
theorem ok3_Machine_give (T : Tp K mg) : FnOk P w K mg base CX0 1 T.a_Machine_give T.d_Machine_give ["self", "value", "rest"] (sp3 K f3_Machine_give) := by
  refine fn3 T.F_Machine_give sc_Machine_give rfl rfl fun cdv A outer s H E hr => ?_
  have hu64 := hr.units
  have hu1 := hr.units1
  have hu65 := hr.units65
  exact (b_cons (s_fs rfl T.cz_Machine T.cl_Machine T.na_Machine_value (v3 0) (v3 1))
  (b_one (s_fs rfl T.cz_Machine T.cl_Machine T.na_Machine_pile (v3 0) (v3 2))))
theorem ok3_Machine_go_on (T : Tp K mg) : FnOk P w K mg base CX0 1 T.a_Machine_go_on T.d_Machine_go_on ["self", "node", "env", "rest"] (sp3 K f3_Machine_go_on) := by
  refine fn3 T.F_Machine_go_on sc_Machine_go_on rfl rfl fun cdv A outer s H E hr => ?_
  have hu64 := hr.units
  have hu1 := hr.units1
  have hu65 := hr.units65
  exact (b_one (s_fs rfl T.cz_Machine T.cl_Machine T.na_Machine_pile (v3 0) (e_tup (a_cons (e_tup (a_cons e_str (a_cons (v3 1) (a_cons (v3 2) a_nil)))) (a_cons (v3 3) a_nil)))))
theorem ok3_Machine_stop_stuck (T : Tp K mg) : FnOk P w K mg base CX0 1 T.a_Machine_stop_stuck T.d_Machine_stop_stuck ["self", "node"] (sp3 K f3_Machine_stop_stuck) := by
  refine fn3 T.F_Machine_stop_stuck sc_Machine_stop_stuck rfl rfl fun cdv A outer s H E hr => ?_
  have hu64 := hr.units
  have hu1 := hr.units1
  have hu65 := hr.units65
  exact (b_one (s_fs rfl T.cz_Machine T.cl_Machine T.na_Machine_outcome (v3 0) (e_tup (a_cons e_str (a_cons (e_ix (ix_sq rfl) ok_ix (v3 1) e_int (fun _ _ => rfl)) (a_cons (e_fg rfl T.cz_Machine T.cl_Machine T.na_Machine_calls (v3 0)) a_nil))))))
theorem ok3_Machine_call_fn (T : Tp K mg) : FnOk P w K mg base CX0 2 T.a_Machine_call_fn T.d_Machine_call_fn ["self", "node", "done", "rest"] (sp3 K f3_Machine_call_fn) := by
  have G_Machine_go_on := ok3_Machine_go_on (P := P) (w := w) (base := base) T
  have G_Machine_stop_stuck := ok3_Machine_stop_stuck (P := P) (w := w) (base := base) T
  have G_group_bound := ok3_group_bound (P := P) (w := w) (base := base) T
  refine fn3 T.F_Machine_call_fn sc_Machine_call_fn rfl rfl fun cdv A outer s H E hr => ?_
  have hu64 := hr.units
  have hu1 := hr.units1
  have hu65 := hr.units65
  exact (b_cons (s_set (i := 4) sc_Machine_call_fn.nd rfl (Or.inl rfl) (e_ix (ix_sq rfl) ok_ix (v3 2) e_int (fun _ _ => rfl)))
  (b_one (s_if (t_cmp rfl (op_gNe hu64) (e_ix (ix_sq rfl) ok_ix (v3 4) e_int (fun _ _ => rfl)) e_str (nomark _))
  (b_one (s_expr (e_mt rfl T.cz_Machine T.cl_Machine T.me_Machine_stop_stuck G_Machine_stop_stuck (hr.mono (by omega)) T.b_Machine_stop_stuck (v3 0) (a_cons (v3 1) a_nil))))
  (b_one (s_if (t_cmp rfl (op_gGe hu64) (e_fg rfl T.cz_Machine T.cl_Machine T.na_Machine_calls (v3 0)) (e_fg rfl T.cz_Machine T.cl_Machine T.na_Machine_fuel (v3 0)) (nomark _))
  (b_one (s_fs rfl T.cz_Machine T.cl_Machine T.na_Machine_outcome (v3 0) (e_tup (a_cons e_str (a_cons e_non (a_cons (e_fg rfl T.cz_Machine T.cl_Machine T.na_Machine_calls (v3 0)) a_nil))))))
  (b_cons (s_fa rfl T.cz_Machine T.cl_Machine T.na_Machine_calls (v3 0) e_int)
  (b_one (s_expr (e_mt rfl T.cz_Machine T.cl_Machine T.me_Machine_go_on G_Machine_go_on (hr.mono (by omega)) T.b_Machine_go_on (v3 0) (a_cons (e_ix (ix_sq rfl) ok_ix (v3 4) e_int (fun _ _ => rfl)) (a_cons (e_tup (a_cons e_str (a_cons (e_ix (ix_sq rfl) ok_ix (v3 4) e_int (fun _ _ => rfl)) (a_cons (e_ix (ix_sq rfl) ok_ix (v3 2) e_int (fun _ _ => rfl)) (a_cons (e_call rfl G_group_bound (hr.mono (by omega)) (by rfl) T.g_group_bound T.F_group_bound.kp T.b_group_bound (a_cons (e_ix (ix_sq rfl) ok_ix (v3 4) e_int (fun _ _ => rfl)) (a_cons (e_ix (ix_sq rfl) ok_ix (v3 4) e_int (fun _ _ => rfl)) a_nil))) a_nil))))) (a_cons (v3 3) a_nil))))))))))))
theorem ok3_Machine_go_case (T : Tp K mg) : FnOk P w K mg base CX0 1 T.a_Machine_go_case T.d_Machine_go_case ["self", "node", "env", "value", "rest"] (sp3 K f3_Machine_go_case) := fn3_none
theorem ok3_Machine_go_match (T : Tp K mg) : FnOk P w K mg base CX0 1 T.a_Machine_go_match T.d_Machine_go_match ["self", "node", "env", "value", "rest"] (sp3 K f3_Machine_go_match) := fn3_none
theorem ok3_Machine_perform (T : Tp K mg) : FnOk P w K mg base CX0 3 T.a_Machine_perform T.d_Machine_perform ["self", "node", "env", "done", "rest"] (sp3 K f3_Machine_perform) := by
  have G_Machine_call_fn := ok3_Machine_call_fn (P := P) (w := w) (base := base) T
  have G_Machine_give := ok3_Machine_give (P := P) (w := w) (base := base) T
  have G_Machine_go_case := ok3_Machine_go_case (P := P) (w := w) (base := base) T
  have G_Machine_go_match := ok3_Machine_go_match (P := P) (w := w) (base := base) T
  have G_Machine_go_on := ok3_Machine_go_on (P := P) (w := w) (base := base) T
  have G_Machine_stop_stuck := ok3_Machine_stop_stuck (P := P) (w := w) (base := base) T
  have G_made_value := ok3_made_value (P := P) (w := w) (base := base) T
  refine fn3 T.F_Machine_perform sc_Machine_perform rfl rfl fun cdv A outer s H E hr => ?_
  have hu64 := hr.units
  have hu1 := hr.units1
  have hu65 := hr.units65
  exact (b_cons (s_set (i := 5) sc_Machine_perform.nd rfl (Or.inl rfl) (e_ix (ix_sq rfl) ok_ix (v3 1) e_int (fun _ _ => rfl)))
  (b_one (s_if (t_cmp rfl (op_gEq hu64) (v3 5) e_str (nomark _))
  (b_one (s_expr (e_mt rfl T.cz_Machine T.cl_Machine T.me_Machine_call_fn G_Machine_call_fn (hr.mono (by omega)) T.b_Machine_call_fn (v3 0) (a_cons (v3 1) (a_cons (v3 3) (a_cons (v3 4) a_nil))))))
  (b_one (s_if (t_cmp rfl (op_gEq hu64) (v3 5) e_str (nomark _))
  (b_one (s_expr (e_mt rfl T.cz_Machine T.cl_Machine T.me_Machine_go_on G_Machine_go_on (hr.mono (by omega)) T.b_Machine_go_on (v3 0) (a_cons (e_ix (ix_sq rfl) ok_ix (v3 1) e_int (fun _ _ => rfl)) (a_cons (e_tup (a_cons e_str (a_cons (e_ix (ix_sq rfl) ok_ix (v3 1) e_int (fun _ _ => rfl)) (a_cons (e_ix (ix_sq rfl) ok_ix (v3 3) e_int (fun _ _ => rfl)) (a_cons (v3 2) a_nil))))) (a_cons (v3 4) a_nil))))))
  (b_one (s_if (t_w (w_and (t_cmp rfl (op_gEq hu64) (v3 5) e_str (nomark _)) (w_and1 (t_cmp rfl (op_gEq hu64) (e_ix (ix_sq rfl) ok_ix (e_ix (ix_sq rfl) ok_ix (v3 3) e_int (fun _ _ => rfl)) e_int (fun _ _ => rfl)) e_str (nomark _)))))
  (b_one (s_expr (e_mt rfl T.cz_Machine T.cl_Machine T.me_Machine_go_on G_Machine_go_on (hr.mono (by omega)) T.b_Machine_go_on (v3 0) (a_cons (e_if (t_tr rfl (e_ix (ix_sq rfl) ok_ix (e_ix (ix_sq rfl) ok_ix (v3 3) e_int (fun _ _ => rfl)) e_int (fun _ _ => rfl)) (by intro _; rfl)) (e_ix (ix_sq rfl) ok_ix (v3 1) e_int (fun _ _ => rfl)) (e_ix (ix_sq rfl) ok_ix (v3 1) e_int (fun _ _ => rfl))) (a_cons (v3 2) (a_cons (v3 4) a_nil))))))
  (b_one (s_if (t_cmp rfl (op_gEq hu64) (v3 5) e_str (nomark _))
  (b_one (s_expr (e_mt rfl T.cz_Machine T.cl_Machine T.me_Machine_go_case G_Machine_go_case (hr.mono (by omega)) T.b_Machine_go_case (v3 0) (a_cons (v3 1) (a_cons (v3 2) (a_cons (e_ix (ix_sq rfl) ok_ix (v3 3) e_int (fun _ _ => rfl)) (a_cons (v3 4) a_nil)))))))
  (b_one (s_if (t_cmp rfl (op_gEq hu64) (v3 5) e_str (nomark _))
  (b_one (s_expr (e_mt rfl T.cz_Machine T.cl_Machine T.me_Machine_go_match G_Machine_go_match (hr.mono (by omega)) T.b_Machine_go_match (v3 0) (a_cons (v3 1) (a_cons (v3 2) (a_cons (e_ix (ix_sq rfl) ok_ix (v3 3) e_int (fun _ _ => rfl)) (a_cons (v3 4) a_nil)))))))
  (b_one (s_if (t_cmp rfl (op_gEq hu64) (v3 5) e_str (nomark _))
  (b_cons (s_expr (e_m rfl PySem.F.slot_list_append PySem.F.type_list_append mt_append mk_app (e_fg rfl T.cz_Machine T.cl_Machine T.na_Machine_cells (v3 0)) (a_cons (e_ix (ix_sq rfl) ok_ix (v3 3) e_int (fun _ _ => rfl)) a_nil)))
  (b_one (s_expr (e_mt rfl T.cz_Machine T.cl_Machine T.me_Machine_give G_Machine_give (hr.mono (by omega)) T.b_Machine_give (v3 0) (a_cons (e_tup (a_cons e_str (a_cons (e_op op_sub ok_sub (e_cB (lenK3 rfl) ck_len (by rfl) T.z_len (by decide +kernel) (a_cons (e_fg rfl T.cz_Machine T.cl_Machine T.na_Machine_cells (v3 0)) a_nil)) e_int) a_nil))) (a_cons (v3 4) a_nil))))))
  (b_one (s_if (t_w (w_and (t_cmp rfl (op_gEq hu64) (v3 5) e_str (nomark _)) (w_and1 (t_cmp rfl (op_gEq hu64) (e_ix (ix_sq rfl) ok_ix (e_ix (ix_sq rfl) ok_ix (v3 3) e_int (fun _ _ => rfl)) e_int (fun _ _ => rfl)) e_str (nomark _)))))
  (b_one (s_expr (e_mt rfl T.cz_Machine T.cl_Machine T.me_Machine_give G_Machine_give (hr.mono (by omega)) T.b_Machine_give (v3 0) (a_cons (e_ix (ix_sq rfl) ok_ix (e_fg rfl T.cz_Machine T.cl_Machine T.na_Machine_cells (v3 0)) (e_ix (ix_sq rfl) ok_ix (e_ix (ix_sq rfl) ok_ix (v3 3) e_int (fun _ _ => rfl)) e_int (fun _ _ => rfl)) (fun _ _ => rfl)) (a_cons (v3 4) a_nil)))))
  (b_one (s_if (t_w (w_and (t_cmp rfl (op_gEq hu64) (v3 5) e_str (nomark _)) (w_and1 (t_cmp rfl (op_gEq hu64) (e_ix (ix_sq rfl) ok_ix (e_ix (ix_sq rfl) ok_ix (v3 3) e_int (fun _ _ => rfl)) e_int (fun _ _ => rfl)) e_str (nomark _)))))
  (b_cons (s_asg (e_ix (ix_sq rfl) ok_ix (v3 3) e_int (fun _ _ => rfl)) (g_sub (e_fg rfl T.cz_Machine T.cl_Machine T.na_Machine_cells (v3 0)) (e_ix (ix_sq rfl) ok_ix (e_ix (ix_sq rfl) ok_ix (v3 3) e_int (fun _ _ => rfl)) e_int (fun _ _ => rfl))))
  (b_one (s_expr (e_mt rfl T.cz_Machine T.cl_Machine T.me_Machine_give G_Machine_give (hr.mono (by omega)) T.b_Machine_give (v3 0) (a_cons (e_tup (a_cons e_str (a_cons (e_tup a_nil) a_nil))) (a_cons (v3 4) a_nil))))))
  (b_one (s_if (t_cmp rfl (op_gIn hu64) (v3 5) (e_tup (a_cons e_str (a_cons e_str (a_cons e_str a_nil)))) (by rfl))
  (b_one (s_expr (e_mt rfl T.cz_Machine T.cl_Machine T.me_Machine_stop_stuck G_Machine_stop_stuck (hr.mono (by omega)) T.b_Machine_stop_stuck (v3 0) (a_cons (v3 1) a_nil))))
  (b_cons (s_set (i := 6) sc_Machine_perform.nd rfl (Or.inl rfl) (e_call rfl G_made_value (hr.mono (by omega)) (by rfl) T.g_made_value T.F_made_value.kp T.b_made_value (a_cons (v3 1) (a_cons (v3 3) a_nil))))
  (b_one (s_if (t_cmp rfl op_gIs (v3 6) e_non (nomark _))
  (b_one (s_expr (e_mt rfl T.cz_Machine T.cl_Machine T.me_Machine_stop_stuck G_Machine_stop_stuck (hr.mono (by omega)) T.b_Machine_stop_stuck (v3 0) (a_cons (v3 1) a_nil))))
  (b_one (s_expr (e_mt rfl T.cz_Machine T.cl_Machine T.me_Machine_give G_Machine_give (hr.mono (by omega)) T.b_Machine_give (v3 0) (a_cons (v3 6) (a_cons (v3 4) a_nil)))))))))))))))))))))))))))
theorem ok3_Machine_next_part (T : Tp K mg) : FnOk P w K mg base CX0 4 T.a_Machine_next_part T.d_Machine_next_part ["self", "node", "env", "done", "rest"] (sp3 K f3_Machine_next_part) := by
  have G_Machine_perform := ok3_Machine_perform (P := P) (w := w) (base := base) T
  have G_parts_of := ok3_parts_of (P := P) (w := w) (base := base) T
  refine fn3 T.F_Machine_next_part sc_Machine_next_part rfl rfl fun cdv A outer s H E hr => ?_
  have hu64 := hr.units
  have hu1 := hr.units1
  have hu65 := hr.units65
  exact (b_cons (s_set (i := 5) sc_Machine_next_part.nd rfl (Or.inl rfl) (e_call rfl G_parts_of (hr.mono (by omega)) (by rfl) T.g_parts_of T.F_parts_of.kp T.b_parts_of (a_cons (v3 1) a_nil)))
  (b_one (s_if (t_cmp rfl (op_gLt hu64) (e_cB (lenK3 rfl) ck_len (by rfl) T.z_len (by decide +kernel) (a_cons (v3 3) a_nil)) (e_cB (lenK3 rfl) ck_len (by rfl) T.z_len (by decide +kernel) (a_cons (v3 5) a_nil)) (nomark _))
  (b_one (s_fs rfl T.cz_Machine T.cl_Machine T.na_Machine_pile (v3 0) (e_tup (a_cons (e_tup (a_cons e_str (a_cons (e_ix (ix_sq rfl) ok_ix (v3 5) (e_cB (lenK3 rfl) ck_len (by rfl) T.z_len (by decide +kernel) (a_cons (v3 3) a_nil)) (fun _ _ => rfl)) (a_cons (v3 2) a_nil)))) (a_cons (e_tup (a_cons (e_tup (a_cons e_str (a_cons (v3 1) (a_cons (v3 2) (a_cons (v3 3) a_nil))))) (a_cons (v3 4) a_nil))) a_nil)))))
  (b_one (s_expr (e_mt rfl T.cz_Machine T.cl_Machine T.me_Machine_perform G_Machine_perform (hr.mono (by omega)) T.b_Machine_perform (v3 0) (a_cons (v3 1) (a_cons (v3 2) (a_cons (v3 3) (a_cons (v3 4) a_nil))))))))))
theorem ok3_Machine_sides_of (T : Tp K mg) : FnOk P w K mg base CX0 2 T.a_Machine_sides_of T.d_Machine_sides_of ["self", "node"] (sp3 K f3_Machine_sides_of) := by
  have G_Machine_asked := ok3_Machine_asked (P := P) (w := w) (base := base) T
  have G_Machine_stop_stuck := ok3_Machine_stop_stuck (P := P) (w := w) (base := base) T
  refine fn3 T.F_Machine_sides_of sc_Machine_sides_of rfl rfl fun cdv A outer s H E hr => ?_
  have hu64 := hr.units
  have hu1 := hr.units1
  have hu65 := hr.units65
  exact (b_cons (s_set (i := 2) sc_Machine_sides_of.nd rfl (Or.inl rfl) (e_no (n_lst a_nil)))
  (b_cons (s_for PassesOwn.never rfl (i_sq rfl (e_ix (ix_sq rfl) ok_ix (v3 1) e_int (fun _ _ => rfl))) (g_tup rfl rfl (gs_cons (g_name (i := 3) sc_Machine_sides_of.nd rfl (Or.inl rfl)) (gs_cons (g_name (i := 4) sc_Machine_sides_of.nd rfl (Or.inl rfl)) gs_nil)))
  (b_cons (s_while PassesOwn.never (t_cmp rfl (op_gIn hu64) (e_ix (ix_sq rfl) ok_ix (v3 4) e_int (fun _ _ => rfl)) (e_tup (a_cons e_str (a_cons e_str a_nil))) (by rfl))
  (b_cons (s_set (i := 5) sc_Machine_sides_of.nd rfl (Or.inl rfl) (e_if (t_cmp rfl (op_gEq hu64) (e_ix (ix_sq rfl) ok_ix (v3 4) e_int (fun _ _ => rfl)) e_str (nomark _)) e_bl (e_mt rfl T.cz_Machine T.cl_Machine T.me_Machine_asked G_Machine_asked (hr.mono (by omega)) T.b_Machine_asked (v3 0) (a_cons (e_ix (ix_sq rfl) ok_ix (v3 4) e_int (fun _ _ => rfl)) a_nil))))
  (b_cons (s_if (t_cmp rfl op_gIs (v3 5) e_non (nomark _))
  (b_one (s_ret e_non))
  b_nil)
  (b_one (s_set (i := 4) sc_Machine_sides_of.nd rfl (Or.inl rfl) (e_if (t_tr rfl (v3 5) (by intro _; rfl)) (e_ix (ix_sq rfl) ok_ix (v3 4) e_int (fun _ _ => rfl)) (e_ix (ix_sq rfl) ok_ix (v3 4) e_int (fun _ _ => rfl))))))))
  (b_cons (s_if (t_cmp rfl (op_gEq hu64) (e_ix (ix_sq rfl) ok_ix (v3 4) e_int (fun _ _ => rfl)) e_str (nomark _))
  (b_cons (s_fs rfl T.cz_Machine T.cl_Machine T.na_Machine_outcome (v3 0) (e_tup (a_cons e_str (a_cons (e_ix (ix_sq rfl) ok_ix (v3 4) e_int (fun _ _ => rfl)) (a_cons (e_fg rfl T.cz_Machine T.cl_Machine T.na_Machine_calls (v3 0)) a_nil)))))
  (b_one (s_ret e_non)))
  b_nil)
  (b_cons (s_if (t_cmp rfl (op_gNe hu64) (e_ix (ix_sq rfl) ok_ix (v3 4) e_int (fun _ _ => rfl)) e_str (nomark _))
  (b_cons (s_expr (e_mt rfl T.cz_Machine T.cl_Machine T.me_Machine_stop_stuck G_Machine_stop_stuck (hr.mono (by omega)) T.b_Machine_stop_stuck (v3 0) (a_cons (v3 1) a_nil)))
  (b_one (s_ret e_non)))
  b_nil)
  (b_one (s_expr (e_m rfl PySem.F.slot_list_append PySem.F.type_list_append mt_append mk_app (v3 2) (a_cons (e_tup (a_cons (v3 3) (a_cons (v3 4) a_nil))) a_nil))))))))
  (b_one (s_ret (e_cT (tupK3 rfl) ck_tupOf (by rfl) T.z_tuple (by decide +kernel) (a_cons (v3 2) a_nil))))))
theorem ok3_Machine_evaluate (T : Tp K mg) : FnOk P w K mg base CX0 5 T.a_Machine_evaluate T.d_Machine_evaluate ["self", "node", "env", "rest"] (sp3 K f3_Machine_evaluate) := by
  have G_Machine_asked := ok3_Machine_asked (P := P) (w := w) (base := base) T
  have G_Machine_give := ok3_Machine_give (P := P) (w := w) (base := base) T
  have G_Machine_go_on := ok3_Machine_go_on (P := P) (w := w) (base := base) T
  have G_Machine_next_part := ok3_Machine_next_part (P := P) (w := w) (base := base) T
  have G_Machine_sides_of := ok3_Machine_sides_of (P := P) (w := w) (base := base) T
  have G_Machine_stop_stuck := ok3_Machine_stop_stuck (P := P) (w := w) (base := base) T
  have G_group_bound := ok3_group_bound (P := P) (w := w) (base := base) T
  have G_plain_value := ok3_plain_value (P := P) (w := w) (base := base) T
  refine fn3 T.F_Machine_evaluate sc_Machine_evaluate rfl rfl fun cdv A outer s H E hr => ?_
  have hu64 := hr.units
  have hu1 := hr.units1
  have hu65 := hr.units65
  exact (b_cons (s_set (i := 4) sc_Machine_evaluate.nd rfl (Or.inl rfl) (e_ix (ix_sq rfl) ok_ix (v3 1) e_int (fun _ _ => rfl)))
  (b_one (s_if (t_cmp rfl (op_gIn hu64) (v3 4) (e_topT (by rfl) T.cg_PLAIN_WORDS T.ct_PLAIN_WORDS) (by rfl))
  (b_cons (s_set (i := 5) sc_Machine_evaluate.nd rfl (Or.inl rfl) (e_call rfl G_plain_value (hr.mono (by omega)) (by rfl) T.g_plain_value T.F_plain_value.kp T.b_plain_value (a_cons (v3 1) (a_cons (v3 2) a_nil))))
  (b_one (s_if (t_cmp rfl op_gIs (v3 5) e_non (nomark _))
  (b_one (s_expr (e_mt rfl T.cz_Machine T.cl_Machine T.me_Machine_stop_stuck G_Machine_stop_stuck (hr.mono (by omega)) T.b_Machine_stop_stuck (v3 0) (a_cons (v3 1) a_nil))))
  (b_one (s_expr (e_mt rfl T.cz_Machine T.cl_Machine T.me_Machine_give G_Machine_give (hr.mono (by omega)) T.b_Machine_give (v3 0) (a_cons (v3 5) (a_cons (v3 3) a_nil))))))))
  (b_one (s_if (t_cmp rfl (op_gEq hu64) (v3 4) e_str (nomark _))
  (b_one (s_expr (e_mt rfl T.cz_Machine T.cl_Machine T.me_Machine_go_on G_Machine_go_on (hr.mono (by omega)) T.b_Machine_go_on (v3 0) (a_cons (e_ix (ix_sq rfl) ok_ix (v3 1) e_int (fun _ _ => rfl)) (a_cons (v3 2) (a_cons (v3 3) a_nil))))))
  (b_one (s_if (t_cmp rfl (op_gEq hu64) (v3 4) e_str (nomark _))
  (b_one (s_expr (e_mt rfl T.cz_Machine T.cl_Machine T.me_Machine_go_on G_Machine_go_on (hr.mono (by omega)) T.b_Machine_go_on (v3 0) (a_cons (e_ix (ix_sq rfl) ok_ix (v3 1) e_int (fun _ _ => rfl)) (a_cons (v3 2) (a_cons (v3 3) a_nil))))))
  (b_one (s_if (t_cmp rfl (op_gEq hu64) (v3 4) e_str (nomark _))
  (b_one (s_fs rfl T.cz_Machine T.cl_Machine T.na_Machine_outcome (v3 0) (e_tup (a_cons e_str (a_cons (e_ix (ix_sq rfl) ok_ix (v3 1) e_int (fun _ _ => rfl)) (a_cons (e_fg rfl T.cz_Machine T.cl_Machine T.na_Machine_calls (v3 0)) a_nil))))))
  (b_one (s_if (t_cmp rfl (op_gEq hu64) (v3 4) e_str (nomark _))
  (b_cons (s_set (i := 6) sc_Machine_evaluate.nd rfl (Or.inl rfl) (e_mt rfl T.cz_Machine T.cl_Machine T.me_Machine_asked G_Machine_asked (hr.mono (by omega)) T.b_Machine_asked (v3 0) (a_cons (e_ix (ix_sq rfl) ok_ix (v3 1) e_int (fun _ _ => rfl)) a_nil)))
  (b_one (s_if (t_cmp rfl op_gIsN (v3 6) e_non (nomark _))
  (b_one (s_expr (e_mt rfl T.cz_Machine T.cl_Machine T.me_Machine_go_on G_Machine_go_on (hr.mono (by omega)) T.b_Machine_go_on (v3 0) (a_cons (e_if (t_tr rfl (v3 6) (by intro _; rfl)) (e_ix (ix_sq rfl) ok_ix (v3 1) e_int (fun _ _ => rfl)) (e_ix (ix_sq rfl) ok_ix (v3 1) e_int (fun _ _ => rfl))) (a_cons (v3 2) (a_cons (v3 3) a_nil))))))
  b_nil)))
  (b_one (s_if (t_cmp rfl (op_gEq hu64) (v3 4) e_str (nomark _))
  (b_cons (s_set (i := 7) sc_Machine_evaluate.nd rfl (Or.inl rfl) (e_mt rfl T.cz_Machine T.cl_Machine T.me_Machine_sides_of G_Machine_sides_of (hr.mono (by omega)) T.b_Machine_sides_of (v3 0) (a_cons (v3 1) a_nil)))
  (b_one (s_if (t_cmp rfl op_gIsN (v3 7) e_non (nomark _))
  (b_one (s_expr (e_mt rfl T.cz_Machine T.cl_Machine T.me_Machine_go_on G_Machine_go_on (hr.mono (by omega)) T.b_Machine_go_on (v3 0) (a_cons (e_ix (ix_sq rfl) ok_ix (v3 1) e_int (fun _ _ => rfl)) (a_cons (e_call rfl G_group_bound (hr.mono (by omega)) (by rfl) T.g_group_bound T.F_group_bound.kp T.b_group_bound (a_cons (v3 2) (a_cons (v3 7) a_nil))) (a_cons (v3 3) a_nil))))))
  b_nil)))
  (b_one (s_expr (e_mt rfl T.cz_Machine T.cl_Machine T.me_Machine_next_part G_Machine_next_part (hr.mono (by omega)) T.b_Machine_next_part (v3 0) (a_cons (v3 1) (a_cons (v3 2) (a_cons (e_tup a_nil) (a_cons (v3 3) a_nil))))))))))))))))))))
theorem ok3_Machine_end_rows (T : Tp K mg) : FnOk P w K mg base CX0 2 T.a_Machine_end_rows T.d_Machine_end_rows ["self", "env", "then", "rest"] (sp3 K f3_Machine_end_rows) := by
  have G_Machine_go_on := ok3_Machine_go_on (P := P) (w := w) (base := base) T
  have G_struct_values := ok3_struct_values (P := P) (w := w) (base := base) T
  refine fn3 T.F_Machine_end_rows sc_Machine_end_rows rfl rfl fun cdv A outer s H E hr => ?_
  have hu64 := hr.units
  have hu1 := hr.units1
  have hu65 := hr.units65
  exact (b_one (s_if (t_cmp rfl (op_gEq hu64) (e_ix (ix_sq rfl) ok_ix (v3 2) e_int (fun _ _ => rfl)) e_str (nomark _))
  (b_one (s_expr (e_mt rfl T.cz_Machine T.cl_Machine T.me_Machine_go_on G_Machine_go_on (hr.mono (by omega)) T.b_Machine_go_on (v3 0) (a_cons (e_ix (ix_sq rfl) ok_ix (v3 2) e_int (fun _ _ => rfl)) (a_cons (v3 1) (a_cons (v3 3) a_nil))))))
  (b_cons (s_set (i := 4) sc_Machine_end_rows.nd rfl (Or.inl rfl) (e_tup (a_cons e_str (a_cons (e_ix (ix_sq rfl) ok_ix (v3 2) e_int (fun _ _ => rfl)) (a_cons (e_call rfl G_struct_values (hr.mono (by omega)) (by rfl) T.g_struct_values T.F_struct_values.kp T.b_struct_values (a_cons (v3 1) a_nil)) (a_cons (e_ix (ix_sq rfl) ok_ix (v3 2) e_int (fun _ _ => rfl)) a_nil))))))
  (b_one (s_fs rfl T.cz_Machine T.cl_Machine T.na_Machine_pile (v3 0) (e_tup (a_cons (e_tup (a_cons e_str (a_cons (e_ix (ix_sq rfl) ok_ix (v3 2) e_int (fun _ _ => rfl)) (a_cons (v3 4) (a_cons (e_ix (ix_sq rfl) ok_ix (v3 2) e_int (fun _ _ => rfl)) a_nil))))) (a_cons (v3 3) a_nil))))))))
theorem ok3_Machine_go_body (T : Tp K mg) : FnOk P w K mg base CX0 2 T.a_Machine_go_body T.d_Machine_go_body ["self", "row", "then", "rest"] (sp3 K f3_Machine_go_body) := by
  have G_Machine_asked := ok3_Machine_asked (P := P) (w := w) (base := base) T
  have G_Machine_stop_stuck := ok3_Machine_stop_stuck (P := P) (w := w) (base := base) T
  have G_looked_up := ok3_looked_up (P := P) (w := w) (base := base) T
  refine fn3 T.F_Machine_go_body sc_Machine_go_body rfl rfl fun cdv A outer s H E hr => ?_
  have hu64 := hr.units
  have hu1 := hr.units1
  have hu65 := hr.units65
  exact (b_cons (s_set (i := 4) sc_Machine_go_body.nd rfl (Or.inl rfl) (e_ix (ix_sq rfl) ok_ix (v3 1) e_int (fun _ _ => rfl)))
  (b_cons (s_set (i := 5) sc_Machine_go_body.nd rfl (Or.inl rfl) (e_ix (ix_sq rfl) ok_ix (v3 2) e_int (fun _ _ => rfl)))
  (b_cons (s_while PassesOwn.never (t_cmp rfl (op_gEq hu64) (e_ix (ix_sq rfl) ok_ix (v3 4) e_int (fun _ _ => rfl)) e_str (nomark _))
  (b_cons (s_set (i := 6) sc_Machine_go_body.nd rfl (Or.inl rfl) (e_mt rfl T.cz_Machine T.cl_Machine T.me_Machine_asked G_Machine_asked (hr.mono (by omega)) T.b_Machine_asked (v3 0) (a_cons (e_ix (ix_sq rfl) ok_ix (v3 4) e_int (fun _ _ => rfl)) a_nil)))
  (b_cons (s_if (t_cmp rfl op_gIs (v3 6) e_non (nomark _))
  (b_one s_retN)
  b_nil)
  (b_one (s_set (i := 4) sc_Machine_go_body.nd rfl (Or.inl rfl) (e_if (t_tr rfl (v3 6) (by intro _; rfl)) (e_ix (ix_sq rfl) ok_ix (v3 4) e_int (fun _ _ => rfl)) (e_ix (ix_sq rfl) ok_ix (v3 4) e_int (fun _ _ => rfl))))))))
  (b_cons (s_if (t_cmp rfl (op_gEq hu64) (e_ix (ix_sq rfl) ok_ix (v3 4) e_int (fun _ _ => rfl)) e_str (nomark _))
  (b_cons (s_fs rfl T.cz_Machine T.cl_Machine T.na_Machine_pile (v3 0) (e_tup (a_cons (e_tup (a_cons e_str (a_cons (e_ix (ix_sq rfl) ok_ix (v3 4) e_int (fun _ _ => rfl)) (a_cons (e_tup (a_cons e_str (a_cons e_str (a_cons e_non (a_cons (v3 5) a_nil))))) (a_cons (v3 2) a_nil))))) (a_cons (v3 3) a_nil))))
  (b_one s_retN))
  b_nil)
  (b_cons (s_set (i := 7) sc_Machine_go_body.nd rfl (Or.inl rfl) (e_call rfl G_looked_up (hr.mono (by omega)) (by rfl) T.g_looked_up T.F_looked_up.kp T.b_looked_up (a_cons (v3 5) (a_cons e_str (a_cons (e_ix (ix_sq rfl) ok_ix (v3 4) e_int (fun _ _ => rfl)) a_nil)))))
  (b_cons (s_set (i := 8) sc_Machine_go_body.nd rfl (Or.inl rfl) (e_call rfl G_looked_up (hr.mono (by omega)) (by rfl) T.g_looked_up T.F_looked_up.kp T.b_looked_up (a_cons (v3 5) (a_cons e_str (a_cons (e_ix (ix_sq rfl) ok_ix (v3 4) e_int (fun _ _ => rfl)) a_nil)))))
  (b_cons (s_if (t_w (w_or (t_cmp rfl op_gIs (v3 7) e_non (nomark _)) (w_or1 (t_cmp rfl op_gIs (v3 8) e_non (nomark _)))))
  (b_cons (s_expr (e_mt rfl T.cz_Machine T.cl_Machine T.me_Machine_stop_stuck G_Machine_stop_stuck (hr.mono (by omega)) T.b_Machine_stop_stuck (v3 0) (a_cons (v3 4) a_nil)))
  (b_one s_retN))
  b_nil)
  (b_cons (s_set (i := 9) sc_Machine_go_body.nd rfl (Or.inl rfl) (e_tup (a_cons e_str (a_cons e_str (a_cons e_non (a_cons (e_tup (a_cons e_str (a_cons (e_ix (ix_sq rfl) ok_ix (v3 7) e_int (fun _ _ => rfl)) (a_cons (v3 8) (a_cons (e_ix (ix_sq rfl) ok_ix (v3 7) e_int (fun _ _ => rfl)) a_nil))))) a_nil))))))
  (b_one (s_fs rfl T.cz_Machine T.cl_Machine T.na_Machine_pile (v3 0) (e_tup (a_cons (e_tup (a_cons e_str (a_cons (e_ix (ix_sq rfl) ok_ix (v3 7) e_int (fun _ _ => rfl)) (a_cons (v3 9) (a_cons (v3 2) a_nil))))) (a_cons (v3 3) a_nil)))))))))))))
theorem ok3_Machine_go_rows (T : Tp K mg) : FnOk P w K mg base CX0 3 T.a_Machine_go_rows T.d_Machine_go_rows ["self", "task", "rest"] (sp3 K f3_Machine_go_rows) := by
  have G_Machine_asked := ok3_Machine_asked (P := P) (w := w) (base := base) T
  have G_Machine_end_rows := ok3_Machine_end_rows (P := P) (w := w) (base := base) T
  have G_Machine_go_body := ok3_Machine_go_body (P := P) (w := w) (base := base) T
  have G_Machine_go_on := ok3_Machine_go_on (P := P) (w := w) (base := base) T
  have G_Machine_sides_of := ok3_Machine_sides_of (P := P) (w := w) (base := base) T
  have G_group_bound := ok3_group_bound (P := P) (w := w) (base := base) T
  refine fn3 T.F_Machine_go_rows sc_Machine_go_rows rfl rfl fun cdv A outer s H E hr => ?_
  have hu64 := hr.units
  have hu1 := hr.units1
  have hu65 := hr.units65
  exact (b_cons (s_asg (v3 1) (g_tup rfl rfl (gs_cons (g_name (i := 3) sc_Machine_go_rows.nd rfl (Or.inl rfl)) (gs_cons (g_name (i := 4) sc_Machine_go_rows.nd rfl (Or.inl rfl)) (gs_cons (g_name (i := 5) sc_Machine_go_rows.nd rfl (Or.inl rfl)) (gs_cons (g_name (i := 6) sc_Machine_go_rows.nd rfl (Or.inl rfl)) gs_nil))))))
  (b_cons (s_if (t_not (t_tr rfl (v3 4) (by intro _; rfl)))
  (b_cons (s_expr (e_mt rfl T.cz_Machine T.cl_Machine T.me_Machine_end_rows G_Machine_end_rows (hr.mono (by omega)) T.b_Machine_end_rows (v3 0) (a_cons (v3 5) (a_cons (v3 6) (a_cons (v3 2) a_nil)))))
  (b_one s_retN))
  b_nil)
  (b_cons (s_set (i := 7) sc_Machine_go_rows.nd rfl (Or.inl rfl) (e_ix (ix_sq rfl) ok_ix (v3 4) e_int (fun _ _ => rfl)))
  (b_cons (s_set (i := 8) sc_Machine_go_rows.nd rfl (Or.inl rfl) (e_sl rfl (v3 4) (o_some e_int) o_none))
  (b_cons (s_if (t_cmp rfl (op_gEq hu64) (e_ix (ix_sq rfl) ok_ix (v3 7) e_int (fun _ _ => rfl)) e_str (nomark _))
  (b_cons (s_expr (e_mt rfl T.cz_Machine T.cl_Machine T.me_Machine_go_on G_Machine_go_on (hr.mono (by omega)) T.b_Machine_go_on (v3 0) (a_cons (e_ix (ix_sq rfl) ok_ix (v3 7) e_int (fun _ _ => rfl)) (a_cons (v3 5) (a_cons (e_tup (a_cons (e_tup (a_cons e_str (a_cons (v3 7) (a_cons (v3 8) (a_cons (v3 5) (a_cons (v3 6) a_nil)))))) (a_cons (v3 2) a_nil))) a_nil)))))
  (b_one s_retN))
  b_nil)
  (b_cons (s_if (t_cmp rfl (op_gEq hu64) (e_ix (ix_sq rfl) ok_ix (v3 7) e_int (fun _ _ => rfl)) e_str (nomark _))
  (b_cons (s_set (i := 9) sc_Machine_go_rows.nd rfl (Or.inl rfl) (e_mt rfl T.cz_Machine T.cl_Machine T.me_Machine_asked G_Machine_asked (hr.mono (by omega)) T.b_Machine_asked (v3 0) (a_cons (e_ix (ix_sq rfl) ok_ix (v3 7) e_int (fun _ _ => rfl)) a_nil)))
  (b_cons (s_if (t_cmp rfl op_gIs (v3 9) e_non (nomark _))
  (b_one s_retN)
  b_nil)
  (b_one (s_set (i := 8) sc_Machine_go_rows.nd rfl (Or.inl rfl) (e_op (op_ad rfl) ok_add (e_if (t_tr rfl (v3 9) (by intro _; rfl)) (e_ix (ix_sq rfl) ok_ix (v3 7) e_int (fun _ _ => rfl)) (e_ix (ix_sq rfl) ok_ix (v3 7) e_int (fun _ _ => rfl))) (v3 8))))))
  (b_one (s_if (t_cmp rfl (op_gEq hu64) (e_ix (ix_sq rfl) ok_ix (v3 7) e_int (fun _ _ => rfl)) e_str (nomark _))
  (b_cons (s_set (i := 10) sc_Machine_go_rows.nd rfl (Or.inl rfl) (e_mt rfl T.cz_Machine T.cl_Machine T.me_Machine_sides_of G_Machine_sides_of (hr.mono (by omega)) T.b_Machine_sides_of (v3 0) (a_cons (v3 7) a_nil)))
  (b_cons (s_if (t_cmp rfl op_gIs (v3 10) e_non (nomark _))
  (b_one s_retN)
  b_nil)
  (b_one (s_set (i := 5) sc_Machine_go_rows.nd rfl (Or.inl rfl) (e_call rfl G_group_bound (hr.mono (by omega)) (by rfl) T.g_group_bound T.F_group_bound.kp T.b_group_bound (a_cons (v3 5) (a_cons (v3 10) a_nil)))))))
  (b_one (s_if (t_cmp rfl (op_gEq hu64) (e_ix (ix_sq rfl) ok_ix (v3 7) e_int (fun _ _ => rfl)) e_str (nomark _))
  (b_one (s_set (i := 5) sc_Machine_go_rows.nd rfl (Or.inl rfl) (e_tup (a_cons e_str (a_cons (e_ix (ix_sq rfl) ok_ix (v3 7) e_int (fun _ _ => rfl)) (a_cons (e_tup (a_cons (e_ix (ix_sq rfl) ok_ix (v3 7) e_int (fun _ _ => rfl)) (a_cons (e_ix (ix_sq rfl) ok_ix (v3 7) e_int (fun _ _ => rfl)) (a_cons (v3 5) a_nil)))) (a_cons (v3 5) a_nil)))))))
  (b_one (s_if (t_cmp rfl (op_gEq hu64) (e_ix (ix_sq rfl) ok_ix (v3 7) e_int (fun _ _ => rfl)) e_str (nomark _))
  (b_cons (s_expr (e_mt rfl T.cz_Machine T.cl_Machine T.me_Machine_go_body G_Machine_go_body (hr.mono (by omega)) T.b_Machine_go_body (v3 0) (a_cons (v3 7) (a_cons (e_tup (a_cons e_str (a_cons (e_ix (ix_sq rfl) ok_ix (v3 7) e_int (fun _ _ => rfl)) (a_cons (v3 8) (a_cons (v3 5) (a_cons (v3 6) a_nil)))))) (a_cons (v3 2) a_nil)))))
  (b_one s_retN))
  b_nil)))))))
  (b_one (s_fs rfl T.cz_Machine T.cl_Machine T.na_Machine_pile (v3 0) (e_tup (a_cons (e_tup (a_cons e_str (a_cons (v3 8) (a_cons (v3 5) (a_cons (v3 6) a_nil))))) (a_cons (v3 2) a_nil)))))))))))
theorem ok3_Machine_step_on (T : Tp K mg) : FnOk P w K mg base CX0 6 T.a_Machine_step_on T.d_Machine_step_on ["self"] (sp3 K f3_Machine_step_on) := by
  have G_Machine_evaluate := ok3_Machine_evaluate (P := P) (w := w) (base := base) T
  have G_Machine_go_rows := ok3_Machine_go_rows (P := P) (w := w) (base := base) T
  have G_Machine_next_part := ok3_Machine_next_part (P := P) (w := w) (base := base) T
  refine fn3 T.F_Machine_step_on sc_Machine_step_on rfl rfl fun cdv A outer s H E hr => ?_
  have hu64 := hr.units
  have hu1 := hr.units1
  have hu65 := hr.units65
  exact (b_cons (s_asg (e_fg rfl T.cz_Machine T.cl_Machine T.na_Machine_pile (v3 0)) (g_tup rfl rfl (gs_cons (g_name (i := 1) sc_Machine_step_on.nd rfl (Or.inl rfl)) (gs_cons (g_name (i := 2) sc_Machine_step_on.nd rfl (Or.inl rfl)) gs_nil))))
  (b_one (s_if (t_cmp rfl (op_gEq hu64) (e_ix (ix_sq rfl) ok_ix (v3 1) e_int (fun _ _ => rfl)) e_str (nomark _))
  (b_one (s_expr (e_mt rfl T.cz_Machine T.cl_Machine T.me_Machine_evaluate G_Machine_evaluate (hr.mono (by omega)) T.b_Machine_evaluate (v3 0) (a_cons (e_ix (ix_sq rfl) ok_ix (v3 1) e_int (fun _ _ => rfl)) (a_cons (e_ix (ix_sq rfl) ok_ix (v3 1) e_int (fun _ _ => rfl)) (a_cons (v3 2) a_nil))))))
  (b_one (s_if (t_cmp rfl (op_gEq hu64) (e_ix (ix_sq rfl) ok_ix (v3 1) e_int (fun _ _ => rfl)) e_str (nomark _))
  (b_one (s_expr (e_mt rfl T.cz_Machine T.cl_Machine T.me_Machine_next_part G_Machine_next_part (hr.mono (by omega)) T.b_Machine_next_part (v3 0) (a_cons (e_ix (ix_sq rfl) ok_ix (v3 1) e_int (fun _ _ => rfl)) (a_cons (e_ix (ix_sq rfl) ok_ix (v3 1) e_int (fun _ _ => rfl)) (a_cons (e_op (op_ad rfl) ok_add (e_ix (ix_sq rfl) ok_ix (v3 1) e_int (fun _ _ => rfl)) (e_tup (a_cons (e_fg rfl T.cz_Machine T.cl_Machine T.na_Machine_value (v3 0)) a_nil))) (a_cons (v3 2) a_nil)))))))
  (b_one (s_if (t_cmp rfl (op_gEq hu64) (e_ix (ix_sq rfl) ok_ix (v3 1) e_int (fun _ _ => rfl)) e_str (nomark _))
  (b_one (s_expr (e_mt rfl T.cz_Machine T.cl_Machine T.me_Machine_go_rows G_Machine_go_rows (hr.mono (by omega)) T.b_Machine_go_rows (v3 0) (a_cons (v3 1) (a_cons (v3 2) a_nil)))))
  (b_cons (s_set (i := 3) sc_Machine_step_on.nd rfl (Or.inl rfl) (e_tup (a_cons e_str (a_cons (e_ix (ix_sq rfl) ok_ix (e_ix (ix_sq rfl) ok_ix (v3 1) e_int (fun _ _ => rfl)) e_int (fun _ _ => rfl)) (a_cons (e_fg rfl T.cz_Machine T.cl_Machine T.na_Machine_value (v3 0)) (a_cons (e_ix (ix_sq rfl) ok_ix (v3 1) e_int (fun _ _ => rfl)) a_nil))))))
  (b_one (s_fs rfl T.cz_Machine T.cl_Machine T.na_Machine_pile (v3 0) (e_tup (a_cons (e_tup (a_cons e_str (a_cons (e_ix (ix_sq rfl) ok_ix (v3 1) e_int (fun _ _ => rfl)) (a_cons (v3 3) (a_cons (e_ix (ix_sq rfl) ok_ix (v3 1) e_int (fun _ _ => rfl)) a_nil))))) (a_cons (v3 2) a_nil)))))))))))))
theorem ok3_Machine_advance (T : Tp K mg) : FnOk P w K mg base CX0 14 T.a_Machine_advance T.d_Machine_advance ["self"] (sp3 K f3_Machine_advance) := by
  have G_Machine_step_on := ok3_Machine_step_on (P := P) (w := w) (base := base) T
  have G_told_value := ok3_told_value (P := P) (w := w) (base := base) T 12
  refine fn3 T.F_Machine_advance sc_Machine_advance rfl rfl fun cdv A outer s H E hr => ?_
  have hu64 := hr.units
  have hu1 := hr.units1
  have hu65 := hr.units65
  exact (b_one (s_while PassesOwn.never (t_w (w_and (t_cmp rfl op_gIs (e_fg rfl T.cz_Machine T.cl_Machine T.na_Machine_outcome (v3 0)) e_non (nomark _)) (w_and1 (t_cmp rfl op_gIs (e_fg rfl T.cz_Machine T.cl_Machine T.na_Machine_waiting (v3 0)) e_non (nomark _)))))
  (b_one (s_if (t_cmp rfl op_gIs (e_fg rfl T.cz_Machine T.cl_Machine T.na_Machine_pile (v3 0)) e_non (nomark _))
  (b_one (s_fs rfl T.cz_Machine T.cl_Machine T.na_Machine_outcome (v3 0) (e_tup (a_cons e_str (a_cons (e_call rfl G_told_value (hr.mono (by omega)) (by rfl) T.g_told_value T.F_told_value.kp T.b_told_value (a_cons (e_fg rfl T.cz_Machine T.cl_Machine T.na_Machine_value (v3 0)) (a_cons (e_fg rfl T.cz_Machine T.cl_Machine T.na_Machine_cells (v3 0)) (a_cons e_int a_nil)))) (a_cons (e_fg rfl T.cz_Machine T.cl_Machine T.na_Machine_calls (v3 0)) a_nil))))))
  (b_one (s_expr (e_mt0 rfl T.cz_Machine T.cl_Machine T.me_Machine_step_on G_Machine_step_on (hr.mono (by omega)) T.b_Machine_step_on (v3 0))))))))
theorem ok3_run (T : Tp K mg) : FnOk P w K mg base CX0 15 T.a_run T.d_run ["program", "fuel"] (sp3 K f3_run) := by
  have G_Machine___init__ := ok3_Machine___init__ (P := P) (w := w) (base := base) T
  have G_Machine_advance := ok3_Machine_advance (P := P) (w := w) (base := base) T
  refine fn3D T.F_run sc_run rfl rfl fun cdv A outer s H E hr => ?_
  have hu64 := hr.units
  have hu1 := hr.units1
  have hu65 := hr.units65
  exact (b_cons (s_set (i := 2) sc_run.nd rfl (Or.inl rfl) (e_mk rfl T.cz_Machine T.mk_Machine G_Machine___init__ (hr.mono (by omega)) (by rfl) T.cg_Machine T.b_Machine___init__ (a_cons (v3 0) (a_cons (v3 1) a_nil))))
  (b_cons (s_expr (e_mt0 rfl T.cz_Machine T.cl_Machine T.me_Machine_advance G_Machine_advance (hr.mono (by omega)) T.b_Machine_advance (v3 2)))
  (b_cons (s_if (t_cmp rfl op_gIsN (e_fg rfl T.cz_Machine T.cl_Machine T.na_Machine_waiting (v3 2)) e_non (nomark _))
  (b_one s_no)
  b_nil)
  (b_one (s_ret (e_fg rfl T.cz_Machine T.cl_Machine T.na_Machine_outcome (v3 2)))))))
theorem ok3_hand (T : Tp K mg) : FnOk P w K mg base CX0 1 T.a_hand T.d_hand ["_law_script"] (sp3 K f3_hand) := by
  refine fn3 T.F_hand sc_hand rfl rfl fun cdv A outer s H E hr => ?_
  have hu64 := hr.units
  have hu1 := hr.units1
  have hu65 := hr.units65
  exact (b_cons (s_set (i := 1) sc_hand.nd rfl (Or.inl rfl) (e_op (op_ad rfl) ok_add (e_op op_mul3 ok_mul (e_cB (lenK3 rfl) ck_len (by rfl) T.z_len (by decide +kernel) (a_cons (v3 0) a_nil)) e_int) e_int))
  (b_cons (s_set (i := 2) sc_hand.nd rfl (Or.inl rfl) (e_no (n_lst a_nil)))
  (b_cons (s_for PassesOwn.never rfl (i_sq rfl (v3 0)) (g_name (i := 3) sc_hand.nd rfl (Or.inl rfl))
  (b_cons (s_set (i := 1) sc_hand.nd rfl (Or.inl rfl) (e_op op_mod ok_mod (e_cT int1_3 ck_int (by rfl) T.z_int (by decide +kernel) (a_cons (e_op (op_ad rfl) ok_add (e_op op_mul3 ok_mul (v3 1) e_int) (e_cT int1_3 ck_int (by rfl) T.z_int (by decide +kernel) (a_cons (v3 3) a_nil))) a_nil)) e_int))
  (b_one (s_expr (e_m rfl PySem.F.slot_list_append PySem.F.type_list_append mt_append mk_app (v3 2) (a_cons (e_cB abs_3 ck_abs (by rfl) T.z_abs (by decide +kernel) (a_cons (e_cT int1_3 ck_int (by rfl) T.z_int (by decide +kernel) (a_cons (v3 3) a_nil)) a_nil)) a_nil))))))
  (b_one (s_ret (e_no (n_lst (a_cons (e_frz (v3 2)) (a_cons e_int (a_cons e_int (a_cons (v3 1) a_nil)))))))))))
theorem ok3_stirred (T : Tp K mg) : FnOk P w K mg base CX0 1 T.a_stirred T.d_stirred ["_law_number", "_law_turn"] (sp3 K f3_stirred) := by
  refine fn3 T.F_stirred sc_stirred rfl rfl fun cdv A outer s H E hr => ?_
  have hu64 := hr.units
  have hu1 := hr.units1
  have hu65 := hr.units65
  exact (b_cons (s_set (i := 2) sc_stirred.nd rfl (Or.inl rfl) (e_op op_mod ok_mod (e_cT int1_3 ck_int (by rfl) T.z_int (by decide +kernel) (a_cons (e_op (op_ad rfl) ok_add (e_op (op_ad rfl) ok_add (e_op op_mul3 ok_mul (v3 0) e_int) (e_op op_mul3 ok_mul (v3 1) e_int)) e_int) a_nil)) e_int))
  (b_cons (s_set (i := 3) sc_stirred.nd rfl (Or.inl rfl) (e_op op_mod ok_mod (e_cT int1_3 ck_int (by rfl) T.z_int (by decide +kernel) (a_cons (e_op (op_ad rfl) ok_add (e_op (op_ad rfl) ok_add (e_op op_mul3 ok_mul (v3 2) (v3 2)) (e_op op_mul3 ok_mul (v3 1) e_int)) (e_op op_fdiv ok_fdiv (v3 2) e_int)) a_nil)) e_int))
  (b_one (s_ret (e_op op_fdiv ok_fdiv (e_cT int1_3 ck_int (by rfl) T.z_int (by decide +kernel) (a_cons (e_op op_mod ok_mod (e_cT int1_3 ck_int (by rfl) T.z_int (by decide +kernel) (a_cons (e_op (op_ad rfl) ok_add (e_op op_mul3 ok_mul (v3 3) e_int) (e_op op_fdiv ok_fdiv (v3 2) e_int)) a_nil)) e_int) a_nil)) e_int)))))
theorem ok3_take (T : Tp K mg) : FnOk P w K mg base CX0 2 T.a_take T.d_take ["_law_hand_here", "_law_many"] (sp3 K f3_take) := by
  have G_stirred := ok3_stirred (P := P) (w := w) (base := base) T
  refine fn3 T.F_take sc_take rfl rfl fun cdv A outer s H E hr => ?_
  have hu64 := hr.units
  have hu1 := hr.units1
  have hu65 := hr.units65
  exact (b_cons (s_if (t_w (w_and (t_cmp rfl (op_gEq hu64) (e_ix (ix_sq rfl) ok_ix (v3 0) e_int (fun _ _ => rfl)) e_int (nomark _)) (w_and1 (t_cmp rfl (op_gLt hu64) (e_ix (ix_sq rfl) ok_ix (v3 0) e_int (fun _ _ => rfl)) (e_cB (lenK3 rfl) ck_len (by rfl) T.z_len (by decide +kernel) (a_cons (e_ix (ix_sq rfl) ok_ix (v3 0) e_int (fun _ _ => rfl)) a_nil)) (nomark _)))))
  (b_cons (s_set (i := 2) sc_take.nd rfl (Or.inl rfl) (e_ix (ix_sq rfl) ok_ix (e_ix (ix_sq rfl) ok_ix (v3 0) e_int (fun _ _ => rfl)) (e_ix (ix_sq rfl) ok_ix (v3 0) e_int (fun _ _ => rfl)) (fun _ _ => rfl)))
  (b_cons (s_asg (e_op (op_ad rfl) ok_add (e_ix (ix_sq rfl) ok_ix (v3 0) e_int (fun _ _ => rfl)) e_int) (g_sub (v3 0) e_int))
  (b_cons (s_if (t_cmp rfl (op_gLt hu64) (v3 2) (e_op op_pow ok_pow e_int e_int) (nomark _))
  (b_one (s_ret (e_op op_mod ok_mod (e_cT int1_3 ck_int (by rfl) T.z_int (by decide +kernel) (a_cons (e_call rfl G_stirred (hr.mono (by omega)) (by rfl) T.g_stirred T.F_stirred.kp T.b_stirred (a_cons (e_op op_mod ok_mod (e_cT int1_3 ck_int (by rfl) T.z_int (by decide +kernel) (a_cons (v3 2) a_nil)) e_int) (a_cons (e_ix (ix_sq rfl) ok_ix (v3 0) e_int (fun _ _ => rfl)) a_nil))) a_nil)) (v3 1))))
  b_nil)
  (b_one (s_asg (v3 2) (g_sub (v3 0) e_int))))))
  b_nil)
  (b_cons (s_if (t_cmp rfl (op_gGt hu64) (e_ix (ix_sq rfl) ok_ix (v3 0) e_int (fun _ _ => rfl)) e_int (nomark _))
  (b_cons (s_set (i := 3) sc_take.nd rfl (Or.inl rfl) (e_ix (ix_sq rfl) ok_ix (v3 0) e_int (fun _ _ => rfl)))
  (b_cons (s_asg (e_op op_fdiv ok_fdiv (e_cT int1_3 ck_int (by rfl) T.z_int (by decide +kernel) (a_cons (v3 3) a_nil)) (v3 1)) (g_sub (v3 0) e_int))
  (b_one (s_ret (e_op op_mod ok_mod (e_cT int1_3 ck_int (by rfl) T.z_int (by decide +kernel) (a_cons (v3 3) a_nil)) (v3 1))))))
  b_nil)
  (b_cons (s_asg (e_op op_mod ok_mod (e_cT int1_3 ck_int (by rfl) T.z_int (by decide +kernel) (a_cons (e_op (op_ad rfl) ok_add (e_ix (ix_sq rfl) ok_ix (v3 0) e_int (fun _ _ => rfl)) e_int) a_nil)) e_int) (g_sub (v3 0) e_int))
  (b_one (s_ret (e_op op_mod ok_mod (e_cT int1_3 ck_int (by rfl) T.z_int (by decide +kernel) (a_cons (e_call rfl G_stirred (hr.mono (by omega)) (by rfl) T.g_stirred T.F_stirred.kp T.b_stirred (a_cons (e_ix (ix_sq rfl) ok_ix (v3 0) e_int (fun _ _ => rfl)) (a_cons (e_ix (ix_sq rfl) ok_ix (v3 0) e_int (fun _ _ => rfl)) a_nil))) a_nil)) (v3 1)))))))
theorem ok3_whole (T : Tp K mg) : FnOk P w K mg base CX0 1 T.a_whole T.d_whole ["_law_thing"] (sp3 K f3_whole) := by
  refine fn3 T.F_whole sc_whole rfl rfl fun cdv A outer s H E hr => ?_
  have hu64 := hr.units
  have hu1 := hr.units1
  have hu65 := hr.units65
  exact (b_one (s_ret (e_and (e_cB (isiK3 rfl) ck_isi (by rfl) T.z_isinstance (by decide +kernel) (a_cons (v3 0) (a_cons (e_ty (by rfl) T.z_int (by decide +kernel)) a_nil))) (e_one (e_not rfl (e_cB (isiK3 rfl) ck_isi (by rfl) T.z_isinstance (by decide +kernel) (a_cons (v3 0) (a_cons (e_ty (by rfl) T.z_bool (by decide +kernel)) a_nil))))))))
theorem ok3_drawn_number (T : Tp K mg) : FnOk P w K mg base CX0 3 T.a_drawn_number T.d_drawn_number ["_law_hand_here"] (sp3 K f3_drawn_number) := by
  have G_take := ok3_take (P := P) (w := w) (base := base) T
  refine fn3 T.F_drawn_number sc_drawn_number rfl rfl fun cdv A outer s H E hr => ?_
  have hu64 := hr.units
  have hu1 := hr.units1
  have hu65 := hr.units65
  exact (b_cons (s_if (t_cmp rfl (op_gEq hu64) (e_call rfl G_take (hr.mono (by omega)) (by rfl) T.g_take T.F_take.kp T.b_take (a_cons (v3 0) (a_cons e_int a_nil))) e_int (nomark _))
  (b_one (s_ret (e_call rfl G_take (hr.mono (by omega)) (by rfl) T.g_take T.F_take.kp T.b_take (a_cons (v3 0) (a_cons e_int a_nil)))))
  b_nil)
  (b_one (s_ret (e_cB (call_minS2 rfl) ck_min2 (by rfl) T.z_min (by decide +kernel) (a_cons (e_op op_pow ok_pow e_int e_int) (a_cons (e_op op_sub ok_sub (e_op (op_ad rfl) ok_add (e_op op_mul3 ok_mul (e_call rfl G_take (hr.mono (by omega)) (by rfl) T.g_take T.F_take.kp T.b_take (a_cons (v3 0) (a_cons e_int a_nil))) e_int) (e_call rfl G_take (hr.mono (by omega)) (by rfl) T.g_take T.F_take.kp T.b_take (a_cons (v3 0) (a_cons e_int a_nil)))) (e_op op_pow ok_pow e_int e_int)) a_nil))))))
theorem ok3_is_node (T : Tp K mg) : FnOk P w K mg base CX0 2 T.a_is_node T.d_is_node ["_law_thing"] (sp3 K f3_is_node) := by
  have G_whole := ok3_whole (P := P) (w := w) (base := base) T
  refine fn3 T.F_is_node sc_is_node rfl rfl fun cdv A outer s H E hr => ?_
  have hu64 := hr.units
  have hu1 := hr.units1
  have hu65 := hr.units65
  exact (b_one (s_ret (e_and (e_cB (isiK3 rfl) ck_isi (by rfl) T.z_isinstance (by decide +kernel) (a_cons (v3 0) (a_cons (e_ty (by rfl) T.z_tuple (by decide +kernel)) a_nil))) (e_and (e_cmp rfl (op_gGt hu64) (e_cB (lenK3 rfl) ck_len (by rfl) T.z_len (by decide +kernel) (a_cons (v3 0) a_nil)) e_int (nomark _)) (e_and (e_cB (isiK3 rfl) ck_isi (by rfl) T.z_isinstance (by decide +kernel) (a_cons (e_ix (ix_sq rfl) ok_ix (v3 0) e_int (fun _ _ => rfl)) (a_cons (e_ty (by rfl) T.z_str (by decide +kernel)) a_nil))) (e_one (e_call rfl G_whole (hr.mono (by omega)) (by rfl) T.g_whole T.F_whole.kp T.b_whole (a_cons (e_ix (ix_sq rfl) ok_ix (v3 0) e_int (fun _ _ => rfl)) a_nil))))))))
theorem ok3_numbered (T : Tp K mg) : ∀ n, FnOk P w K mg base CX0 (n + 3) T.a_numbered T.d_numbered ["_law_thing", "_law_count", "_law_spots"] (sp3 K (f3_numbered n))
  | 0 => fn3_none
  | n + 1 => by
    have G_is_node := ok3_is_node (P := P) (w := w) (base := base) T
    have G_numbered := ok3_numbered T n
    show FnOk P w K mg base CX0 (n + 3 + 1) T.a_numbered T.d_numbered ["_law_thing", "_law_count", "_law_spots"] (sp3 K (fdef false 3 2 _))
    refine fn3 T.F_numbered sc_numbered rfl rfl fun cdv A outer s H E hr => ?_
    have hu64 := hr.units
    have hu1 := hr.units1
    have hu65 := hr.units65
    exact (b_cons (s_if (t_not (t_tr rfl (e_call rfl G_is_node (hr.mono (by omega)) (by rfl) T.g_is_node T.F_is_node.kp T.b_is_node (a_cons (v3 0) a_nil)) (by intro _; rfl)))
  (b_cons (s_if (t_not (t_tr rfl (e_cB (isiK3 rfl) ck_isi (by rfl) T.z_isinstance (by decide +kernel) (a_cons (v3 0) (a_cons (e_ty (by rfl) T.z_tuple (by decide +kernel)) a_nil))) (by intro _; rfl)))
  (b_one (s_ret (v3 0)))
  b_nil)
  (b_one (s_ret (e_cT (tupK3 rfl) ck_tupOf (by rfl) T.z_tuple (by decide +kernel) (a_cons (e_nd (n_lc (own := [("_law_one", 3)]) (vs := [3]) rfl sc_numbered.nd (i_sq rfl (v3 0)) (blkOk_by (own := [("_law_one", 3)]) (N := ["_law_thing", "_law_count", "_law_spots", "_law_one", "_law_number"]) (sc := defScope s_numbered) (scope := { kind := PySem.ScopeKind.function, names := [ (PySem.Str.ofString ".0", PySem.NameKind.local), (PySem.Str.ofString "_law_one", PySem.NameKind.local), (PySem.Str.ofString "_law_numbered", PySem.NameKind.globalImplicit), (PySem.Str.ofString "_law_count", PySem.NameKind.free), (PySem.Str.ofString "_law_spots", PySem.NameKind.free)], isGenerator := false, isCoroutine := false, more := [] : PySem.Scope }) (by decide +kernel)) rfl (by decide) (fun _ _ _ _ _ => (g_name (i := 3) sc_numbered.nd rfl (Or.inl rfl) (Or.inr rfl))) (fun _ _ _ _ _ => t_nil) (fun _ _ _ _ _ => (e_call rfl G_numbered (hr.mono (by omega)) (by rfl) T.g_numbered T.F_numbered.kp T.b_numbered (a_cons (v3 3) (a_cons (v3 1) (a_cons (v3 2) a_nil))))))) a_nil)))))
  b_nil)
  (b_cons (s_if (t_cmp rfl (op_gEq hu64) (e_ix (ix_sq rfl) ok_ix (v3 0) e_int (fun _ _ => rfl)) e_str (nomark _))
  (b_cons (s_dp hu1 (v3 2) (e_ix (ix_sq rfl) ok_ix (v3 0) e_int (fun _ _ => rfl)) (e_ix (ix_sq rfl) ok_ix (v3 1) e_int (fun _ _ => rfl)) rfl)
  (b_one (s_ret (e_call rfl G_numbered (hr.mono (by omega)) (by rfl) T.g_numbered T.F_numbered.kp T.b_numbered (a_cons (e_ix (ix_sq rfl) ok_ix (v3 0) e_int (fun _ _ => rfl)) (a_cons (v3 1) (a_cons (v3 2) a_nil)))))))
  b_nil)
  (b_cons (s_set (i := 4) sc_numbered.nd rfl (Or.inl rfl) (e_ix (ix_sq rfl) ok_ix (v3 1) e_int (fun _ _ => rfl)))
  (b_cons (s_asg (e_op (op_ad rfl) ok_add (v3 4) e_int) (g_sub (v3 1) e_int))
  (b_one (s_ret (e_op (op_ad rfl) ok_add (e_tup (a_cons (e_ix (ix_sq rfl) ok_ix (v3 0) e_int (fun _ _ => rfl)) (a_cons (v3 4) a_nil))) (e_cT (tupK3 rfl) ck_tupOf (by rfl) T.z_tuple (by decide +kernel) (a_cons (e_nd (n_lc (own := [("_law_one", 3)]) (vs := [3]) rfl sc_numbered.nd (i_sq rfl (e_sl rfl (v3 0) (o_some e_int) o_none)) (blkOk_by (own := [("_law_one", 3)]) (N := ["_law_thing", "_law_count", "_law_spots", "_law_one", "_law_number"]) (sc := defScope s_numbered) (scope := { kind := PySem.ScopeKind.function, names := [ (PySem.Str.ofString ".0", PySem.NameKind.local), (PySem.Str.ofString "_law_one", PySem.NameKind.local), (PySem.Str.ofString "_law_numbered", PySem.NameKind.globalImplicit), (PySem.Str.ofString "_law_count", PySem.NameKind.free), (PySem.Str.ofString "_law_spots", PySem.NameKind.free)], isGenerator := false, isCoroutine := false, more := [] : PySem.Scope }) (by decide +kernel)) rfl (by decide) (fun _ _ _ _ _ => (g_name (i := 3) sc_numbered.nd rfl (Or.inl rfl) (Or.inr rfl))) (fun _ _ _ _ _ => t_nil) (fun _ _ _ _ _ => (e_call rfl G_numbered (hr.mono (by omega)) (by rfl) T.g_numbered T.F_numbered.kp T.b_numbered (a_cons (v3 3) (a_cons (v3 1) (a_cons (v3 2) a_nil))))))) a_nil)))))))))
theorem ok3_same (T : Tp K mg) : ∀ n, FnOk P w K mg base CX0 (n + 2) T.a_same T.d_same ["_law_left", "_law_right"] (sp3 K (f3_same n))
  | 0 => fn3_none
  | n + 1 => by
    have G_whole := ok3_whole (P := P) (w := w) (base := base) T
    have G_same := ok3_same T n
    show FnOk P w K mg base CX0 (n + 2 + 1) T.a_same T.d_same ["_law_left", "_law_right"] (sp3 K (fdef false 2 1 _))
    refine fn3 T.F_same sc_same rfl rfl fun cdv A outer s H E hr => ?_
    have hu64 := hr.units
    have hu1 := hr.units1
    have hu65 := hr.units65
    exact (b_cons (s_if (t_tr rfl (e_cB (isiK3 rfl) ck_isi (by rfl) T.z_isinstance (by decide +kernel) (a_cons (v3 0) (a_cons (e_ty (by rfl) T.z_tuple (by decide +kernel)) a_nil))) (by intro _; rfl))
  (b_one (s_ret (e_and (e_cB (isiK3 rfl) ck_isi (by rfl) T.z_isinstance (by decide +kernel) (a_cons (v3 1) (a_cons (e_ty (by rfl) T.z_tuple (by decide +kernel)) a_nil))) (e_and (e_cmp rfl (op_gEq hu64) (e_cB (lenK3 rfl) ck_len (by rfl) T.z_len (by decide +kernel) (a_cons (v3 0) a_nil)) (e_cB (lenK3 rfl) ck_len (by rfl) T.z_len (by decide +kernel) (a_cons (v3 1) a_nil)) (nomark _)) (e_one (e_cB (allK3 rfl rfl) ck_all (by rfl) T.z_all (by decide +kernel) (a_cons (e_nd (n_lc (own := [("_law_k", 2)]) (vs := [2]) rfl sc_same.nd (i_r1 (by rfl) T.z_range (a_cons (e_cB (lenK3 rfl) ck_len (by rfl) T.z_len (by decide +kernel) (a_cons (v3 0) a_nil)) a_nil)) (blkOk_by (own := [("_law_k", 2)]) (N := ["_law_left", "_law_right", "_law_k"]) (sc := defScope s_same) (scope := { kind := PySem.ScopeKind.function, names := [ (PySem.Str.ofString ".0", PySem.NameKind.local), (PySem.Str.ofString "_law_k", PySem.NameKind.local), (PySem.Str.ofString "_law_same", PySem.NameKind.globalImplicit), (PySem.Str.ofString "_law_left", PySem.NameKind.free), (PySem.Str.ofString "_law_right", PySem.NameKind.free)], isGenerator := false, isCoroutine := false, more := [] : PySem.Scope }) (by decide +kernel)) rfl (by decide) (fun _ _ _ _ _ => (g_name (i := 2) sc_same.nd rfl (Or.inl rfl) (Or.inr rfl))) (fun _ _ _ _ _ => t_nil) (fun _ _ _ _ _ => (e_call rfl G_same (hr.mono (by omega)) (by rfl) T.g_same T.F_same.kp T.b_same (a_cons (e_ix (ix_sq rfl) ok_ix (v3 0) (v3 2) (fun _ _ => rfl)) (a_cons (e_ix (ix_sq rfl) ok_ix (v3 1) (v3 2) (fun _ _ => rfl)) a_nil)))))) a_nil)))))))
  b_nil)
  (b_cons (s_if (t_w (w_or (t_tr rfl (e_cB (isiK3 rfl) ck_isi (by rfl) T.z_isinstance (by decide +kernel) (a_cons (v3 0) (a_cons (e_ty (by rfl) T.z_bool (by decide +kernel)) a_nil))) (by intro _; rfl)) (w_or1 (t_tr rfl (e_cB (isiK3 rfl) ck_isi (by rfl) T.z_isinstance (by decide +kernel) (a_cons (v3 1) (a_cons (e_ty (by rfl) T.z_bool (by decide +kernel)) a_nil))) (by intro _; rfl)))))
  (b_one (s_ret (e_and (e_cB (isiK3 rfl) ck_isi (by rfl) T.z_isinstance (by decide +kernel) (a_cons (v3 0) (a_cons (e_ty (by rfl) T.z_bool (by decide +kernel)) a_nil))) (e_and (e_cB (isiK3 rfl) ck_isi (by rfl) T.z_isinstance (by decide +kernel) (a_cons (v3 1) (a_cons (e_ty (by rfl) T.z_bool (by decide +kernel)) a_nil))) (e_one (e_cmp rfl (op_gEq hu64) (v3 0) (v3 1) (nomark _)))))))
  b_nil)
  (b_cons (s_if (t_tr rfl (e_cB (isiK3 rfl) ck_isi (by rfl) T.z_isinstance (by decide +kernel) (a_cons (v3 0) (a_cons (e_ty (by rfl) T.z_str (by decide +kernel)) a_nil))) (by intro _; rfl))
  (b_one (s_ret (e_and (e_cB (isiK3 rfl) ck_isi (by rfl) T.z_isinstance (by decide +kernel) (a_cons (v3 1) (a_cons (e_ty (by rfl) T.z_str (by decide +kernel)) a_nil))) (e_one (e_cmp rfl (op_gEq hu64) (v3 0) (v3 1) (nomark _))))))
  b_nil)
  (b_cons (s_if (t_w (w_or (t_cmp rfl op_gIs (v3 0) e_non (nomark _)) (w_or1 (t_cmp rfl op_gIs (v3 1) e_non (nomark _)))))
  (b_one (s_ret (e_and (e_cmp rfl op_gIs (v3 0) e_non (nomark _)) (e_one (e_cmp rfl op_gIs (v3 1) e_non (nomark _))))))
  b_nil)
  (b_one (s_ret (e_and (e_call rfl G_whole (hr.mono (by omega)) (by rfl) T.g_whole T.F_whole.kp T.b_whole (a_cons (v3 1) a_nil)) (e_one (e_cmp rfl (op_gEq hu64) (v3 0) (v3 1) (nomark _))))))))))
theorem ok3_deep_down (T : Tp K mg) : FnOk P w K mg base CX0 1 T.a_deep_down T.d_deep_down ["_law_f", "_law_x", "_law_kind", "_law_step", "_law_base"] (sp3 K f3_deep_down) := by
  refine fn3 T.F_deep_down sc_deep_down rfl rfl fun cdv A outer s H E hr => ?_
  have hu64 := hr.units
  have hu1 := hr.units1
  have hu65 := hr.units65
  exact (b_cons (s_set (i := 5) sc_deep_down.nd rfl (Or.inl rfl) (e_tup (a_cons e_str (a_cons e_int (a_cons (e_tup (a_cons e_str (a_cons e_int (a_cons (v3 0) a_nil)))) (a_cons (e_tup (a_cons e_str (a_cons e_int (a_cons e_str (a_cons (e_tup (a_cons e_str (a_cons e_int (a_cons (v3 1) a_nil)))) (a_cons (e_tup (a_cons e_str (a_cons e_int (a_cons e_int a_nil)))) a_nil)))))) a_nil))))))
  (b_cons (s_if (t_cmp rfl (op_gEq hu64) (v3 2) e_int (nomark _))
  (b_one (s_set (i := 6) sc_deep_down.nd rfl (Or.inl rfl) (e_tup (a_cons e_str (a_cons e_int (a_cons e_str (a_cons (v3 5) (a_cons (e_tup (a_cons e_str (a_cons e_int (a_cons (v3 3) a_nil)))) a_nil))))))))
  b_nil)
  (b_cons (s_if (t_cmp rfl (op_gEq hu64) (v3 2) e_int (nomark _))
  (b_one (s_set (i := 6) sc_deep_down.nd rfl (Or.inl rfl) (e_tup (a_cons e_str (a_cons e_int (a_cons e_str (a_cons (v3 5) a_nil)))))))
  b_nil)
  (b_cons (s_if (t_cmp rfl (op_gEq hu64) (v3 2) e_int (nomark _))
  (b_one (s_set (i := 6) sc_deep_down.nd rfl (Or.inl rfl) (e_tup (a_cons e_str (a_cons e_int (a_cons e_str (a_cons (v3 5) a_nil)))))))
  b_nil)
  (b_cons (s_if (t_cmp rfl (op_gEq hu64) (v3 2) e_int (nomark _))
  (b_cons (s_set (i := 7) sc_deep_down.nd rfl (Or.inl rfl) (e_tup (a_cons e_str (a_cons e_int (a_cons e_str (a_cons (e_tup (a_cons e_str (a_cons e_int (a_cons (e_tup (a_cons e_str (a_cons e_int (a_cons e_str a_nil)))) a_nil)))) (a_cons (e_tup (a_cons e_str (a_cons e_int (a_cons (v3 3) a_nil)))) a_nil)))))))
  (b_one (s_set (i := 6) sc_deep_down.nd rfl (Or.inl rfl) (e_tup (a_cons e_str (a_cons e_int (a_cons e_str (a_cons (e_tup (a_cons e_str (a_cons e_int (a_cons (e_tup (a_cons e_str (a_cons e_int (a_cons e_str a_nil)))) (a_cons (v3 7) a_nil))))) (a_cons (v3 5) a_nil)))))))))
  b_nil)
  (b_cons (s_set (i := 8) sc_deep_down.nd rfl (Or.inl rfl) (e_tup (a_cons e_str (a_cons e_int (a_cons (v3 4) a_nil)))))
  (b_cons (s_if (t_cmp rfl (op_gEq hu64) (v3 2) e_int (nomark _))
  (b_one (s_set (i := 8) sc_deep_down.nd rfl (Or.inl rfl) (e_tup (a_cons e_str (a_cons e_int (a_cons (e_tup (a_cons e_str (a_cons e_int (a_cons e_str a_nil)))) a_nil))))))
  b_nil)
  (b_cons (s_set (i := 9) sc_deep_down.nd rfl (Or.inl rfl) (e_tup (a_cons e_str (a_cons e_int (a_cons e_str (a_cons (e_tup (a_cons e_str (a_cons e_int (a_cons (v3 1) a_nil)))) (a_cons (e_tup (a_cons e_str (a_cons e_int (a_cons e_int a_nil)))) a_nil)))))))
  (b_one (s_ret (e_tup (a_cons e_str (a_cons e_int (a_cons (v3 1) (a_cons (e_tup (a_cons e_str (a_cons e_int (a_cons (v3 9) (a_cons (v3 8) (a_cons (v3 6) a_nil)))))) a_nil)))))))))))))))
theorem ok3_deep_value (T : Tp K mg) : FnOk P w K mg base CX0 1 T.a_deep_value T.d_deep_value ["_law_kind", "_law_count", "_law_step", "_law_base"] (sp3 K f3_deep_value) := by
  refine fn3 T.F_deep_value sc_deep_value rfl rfl fun cdv A outer s H E hr => ?_
  have hu64 := hr.units
  have hu1 := hr.units1
  have hu65 := hr.units65
  exact (b_cons (s_if (t_cmp rfl (op_gIn hu64) (v3 0) (e_tup (a_cons e_int (a_cons e_int a_nil))) (by rfl))
  (b_one (s_ret (e_tup (a_cons e_str (a_cons (e_op (op_ad rfl) ok_add (v3 3) (e_op op_mul3 ok_mul (v3 1) (v3 2))) a_nil)))))
  b_nil)
  (b_cons (s_set (i := 4) sc_deep_value.nd rfl (Or.inl rfl) (e_tup (a_cons e_str (a_cons (v3 3) a_nil))))
  (b_cons (s_if (t_cmp rfl (op_gGt hu64) (v3 1) e_int (nomark _))
  (b_one (s_set (i := 4) sc_deep_value.nd rfl (Or.inl rfl) (e_tup (a_cons e_str a_nil))))
  b_nil)
  (b_cons (s_for PassesOwn.never rfl (i_r1 (by rfl) T.z_range (a_cons (e_cB (call_minS2 rfl) ck_min2 (by rfl) T.z_min (by decide +kernel) (a_cons (v3 1) (a_cons e_int a_nil))) a_nil)) (g_name (i := 5) sc_deep_value.nd rfl (Or.inl rfl))
  (b_one (s_set (i := 4) sc_deep_value.nd rfl (Or.inl rfl) (e_ix (ix_sq rfl) ok_ix (e_nd (n_lst (a_cons (e_tup (a_cons e_str (a_cons e_str (a_cons (v3 4) a_nil)))) (a_cons (e_tup (a_cons e_str (a_cons e_str (a_cons (v3 4) a_nil)))) a_nil)))) (e_op op_sub ok_sub (v3 0) e_int) (fun _ _ => rfl)))))
  (b_one (s_ret (v3 4)))))))
theorem ok3_deep_program (T : Tp K mg) : FnOk P w K mg base CX0 1 T.a_deep_program T.d_deep_program ["_law_held", "_law_sides", "_law_first", "_law_count", "_law_base"] (sp3 K f3_deep_program) := by
  refine fn3 T.F_deep_program sc_deep_program rfl rfl fun cdv A outer s H E hr => ?_
  have hu64 := hr.units
  have hu1 := hr.units1
  have hu65 := hr.units65
  exact (b_cons (s_set (i := 5) sc_deep_program.nd rfl (Or.inl rfl) (e_tup (a_cons e_str (a_cons e_int (a_cons (e_tup (a_cons e_str (a_cons e_int (a_cons (v3 2) a_nil)))) (a_cons (e_tup (a_cons e_str (a_cons e_int (a_cons (v3 3) a_nil)))) a_nil))))))
  (b_cons (s_set (i := 6) sc_deep_program.nd rfl (Or.inl rfl) (e_tup (a_cons e_str (a_cons e_int (a_cons e_str (a_cons (e_tup (a_cons e_str (a_cons e_int (a_cons (e_tup (a_cons e_str (a_cons e_int a_nil))) (a_cons (e_tup (a_cons e_str (a_cons e_int (a_cons (v3 4) a_nil)))) a_nil))))) a_nil))))))
  (b_cons (s_if (t_cmp rfl (op_gEq hu64) (v3 0) e_int (nomark _))
  (b_one (s_ret (e_tup (a_cons e_str (a_cons e_int (a_cons (e_tup (a_cons (v3 6) (a_cons (e_tup (a_cons e_str (a_cons e_int (a_cons (v3 1) a_nil)))) a_nil))) (a_cons (v3 5) a_nil)))))))
  b_nil)
  (b_cons (s_if (t_cmp rfl (op_gEq hu64) (v3 0) e_int (nomark _))
  (b_one (s_ret (e_tup (a_cons e_str (a_cons e_int (a_cons (e_tup (a_cons (v3 6) a_nil)) (a_cons (e_tup (a_cons e_str (a_cons e_int (a_cons (v3 1) (a_cons (v3 5) a_nil))))) a_nil)))))))
  b_nil)
  (b_cons (s_set (i := 5) sc_deep_program.nd rfl (Or.inl rfl) (e_tup (a_cons e_str (a_cons e_int (a_cons (e_tup (a_cons e_str (a_cons e_int (a_cons e_str (a_cons (v3 2) a_nil))))) (a_cons (e_tup (a_cons e_str (a_cons e_int (a_cons (v3 3) a_nil)))) a_nil))))))
  (b_cons (s_if (t_cmp rfl (op_gEq hu64) (v3 0) e_int (nomark _))
  (b_one (s_ret (e_tup (a_cons e_str (a_cons e_int (a_cons (e_tup (a_cons (v3 6) (a_cons (e_tup (a_cons e_str (a_cons e_int (a_cons e_str (a_cons (e_tup (a_cons e_str (a_cons e_int (a_cons (e_tup (a_cons (e_tup (a_cons e_str (a_cons e_int (a_cons (v3 1) a_nil)))) a_nil)) a_nil)))) (a_cons e_non a_nil)))))) a_nil))) (a_cons (v3 5) a_nil)))))))
  b_nil)
  (b_cons (s_set (i := 7) sc_deep_program.nd rfl (Or.inl rfl) (e_tup (a_cons e_str (a_cons e_int (a_cons e_str (a_cons (e_tup (a_cons e_str (a_cons e_int (a_cons (e_tup a_nil) a_nil)))) (a_cons e_non a_nil)))))))
  (b_cons (s_set (i := 8) sc_deep_program.nd rfl (Or.inl rfl) (e_tup (a_cons e_str (a_cons e_int (a_cons e_str (a_cons e_str (a_cons e_str (a_cons (e_tup (a_cons (e_tup (a_cons e_str (a_cons e_int (a_cons (v3 1) a_nil)))) a_nil)) (a_cons (e_tup a_nil) a_nil)))))))))
  (b_one (s_ret (e_tup (a_cons e_str (a_cons e_int (a_cons (e_tup (a_cons (v3 6) (a_cons (v3 7) (a_cons (v3 8) (a_cons (e_tup (a_cons e_str (a_cons e_int (a_cons e_str (a_cons (e_tup (a_cons e_str (a_cons e_int (a_cons e_str (a_cons e_str a_nil))))) (a_cons e_non a_nil)))))) a_nil))))) (a_cons (v3 5) a_nil)))))))))))))))
theorem ok3_law (T : Tp K mg) : FnOk P w K mg base CX0 24 T.a_law T.d_law ["_law_script"] (sp3 K f3_law) := by
  have G_deep_down := ok3_deep_down (P := P) (w := w) (base := base) T
  have G_deep_program := ok3_deep_program (P := P) (w := w) (base := base) T
  have G_deep_value := ok3_deep_value (P := P) (w := w) (base := base) T
  have G_drawn_number := ok3_drawn_number (P := P) (w := w) (base := base) T
  have G_hand := ok3_hand (P := P) (w := w) (base := base) T
  have G_numbered := ok3_numbered (P := P) (w := w) (base := base) T 20
  have G_same := ok3_same (P := P) (w := w) (base := base) T 20
  have G_take := ok3_take (P := P) (w := w) (base := base) T
  have G_run := ok3_run (P := P) (w := w) (base := base) T
  refine fn3 T.F_law sc_law rfl rfl fun cdv A outer s H E hr => ?_
  have hu64 := hr.units
  have hu1 := hr.units1
  have hu65 := hr.units65
  exact (b_cons (s_set (i := 1) sc_law.nd rfl (Or.inl rfl) (e_call rfl G_hand (hr.mono (by omega)) (by rfl) T.g_hand T.F_hand.kp T.b_hand (a_cons (v3 0) a_nil)))
  (b_cons (s_set (i := 2) sc_law.nd rfl (Or.inl rfl) (e_call rfl G_take (hr.mono (by omega)) (by rfl) T.g_take T.F_take.kp T.b_take (a_cons (v3 1) (a_cons e_int a_nil))))
  (b_cons (s_if (t_cmp rfl (op_gEq hu64) (e_call rfl G_take (hr.mono (by omega)) (by rfl) T.g_take T.F_take.kp T.b_take (a_cons (v3 1) (a_cons e_int a_nil))) e_int (nomark _))
  (b_one (s_set (i := 2) sc_law.nd rfl (Or.inl rfl) (e_call rfl G_take (hr.mono (by omega)) (by rfl) T.g_take T.F_take.kp T.b_take (a_cons (v3 1) (a_cons e_int a_nil)))))
  b_nil)
  (b_cons (s_set (i := 3) sc_law.nd rfl (Or.inl rfl) (e_call rfl G_take (hr.mono (by omega)) (by rfl) T.g_take T.F_take.kp T.b_take (a_cons (v3 1) (a_cons e_int a_nil))))
  (b_cons (s_set (i := 4) sc_law.nd rfl (Or.inl rfl) (e_call rfl G_drawn_number (hr.mono (by omega)) (by rfl) T.g_drawn_number T.F_drawn_number.kp T.b_drawn_number (a_cons (v3 1) a_nil)))
  (b_cons (s_set (i := 5) sc_law.nd rfl (Or.inl rfl) (e_call rfl G_drawn_number (hr.mono (by omega)) (by rfl) T.g_drawn_number T.F_drawn_number.kp T.b_drawn_number (a_cons (v3 1) a_nil)))
  (b_cons (s_set (i := 6) sc_law.nd rfl (Or.inl rfl) (e_tup (a_cons (e_tup (a_cons e_str (a_cons (e_call rfl G_deep_down (hr.mono (by omega)) (by rfl) T.g_deep_down T.F_deep_down.kp T.b_deep_down (a_cons e_str (a_cons e_str (a_cons (v3 3) (a_cons (v3 4) (a_cons (v3 5) a_nil)))))) a_nil))) a_nil)))
  (b_cons (s_if (t_cmp rfl (op_gEq hu64) (e_call rfl G_take (hr.mono (by omega)) (by rfl) T.g_take T.F_take.kp T.b_take (a_cons (v3 1) (a_cons e_int a_nil))) e_int (nomark _))
  (b_one (s_set (i := 6) sc_law.nd rfl (Or.inl rfl) (e_tup (a_cons (e_tup (a_cons e_str (a_cons (e_call rfl G_deep_down (hr.mono (by omega)) (by rfl) T.g_deep_down T.F_deep_down.kp T.b_deep_down (a_cons e_str (a_cons e_str (a_cons (v3 3) (a_cons (v3 4) (a_cons (v3 5) a_nil)))))) a_nil))) (a_cons (e_tup (a_cons e_str (a_cons (e_call rfl G_deep_down (hr.mono (by omega)) (by rfl) T.g_deep_down T.F_deep_down.kp T.b_deep_down (a_cons e_str (a_cons e_str (a_cons (v3 3) (a_cons (v3 4) (a_cons (v3 5) a_nil)))))) a_nil))) a_nil)))))
  b_nil)
  (b_cons (s_set (i := 7) sc_law.nd rfl (Or.inl rfl) (e_ix (ix_sq rfl) ok_ix (e_ix (ix_sq rfl) ok_ix (v3 6) (e_call rfl G_take (hr.mono (by omega)) (by rfl) T.g_take T.F_take.kp T.b_take (a_cons (v3 1) (a_cons (e_cB (lenK3 rfl) ck_len (by rfl) T.z_len (by decide +kernel) (a_cons (v3 6) a_nil)) a_nil))) (fun _ _ => rfl)) e_int (fun _ _ => rfl)))
  (b_cons (s_set (i := 8) sc_law.nd rfl (Or.inl rfl) (e_call rfl G_numbered (hr.mono (by omega)) (by rfl) T.g_numbered T.F_numbered.kp T.b_numbered (a_cons (e_call rfl G_deep_program (hr.mono (by omega)) (by rfl) T.g_deep_program T.F_deep_program.kp T.b_deep_program (a_cons (e_call rfl G_take (hr.mono (by omega)) (by rfl) T.g_take T.F_take.kp T.b_take (a_cons (v3 1) (a_cons e_int a_nil))) (a_cons (v3 6) (a_cons (v3 7) (a_cons (v3 2) (a_cons (v3 5) a_nil)))))) (a_cons (e_no (n_lst (a_cons e_int a_nil))) (a_cons e_dn a_nil)))))
  (b_cons (s_set (i := 9) sc_law.nd rfl (Or.inl rfl) (e_ix (ix_sq rfl) ok_ix (e_nd (n_lst (a_cons (e_op (op_ad rfl) ok_add (v3 2) e_int) (a_cons (v3 2) (a_cons (e_op (op_ad rfl) ok_add (v3 2) e_int) (a_cons e_int (a_cons (e_call rfl G_take (hr.mono (by omega)) (by rfl) T.g_take T.F_take.kp T.b_take (a_cons (v3 1) (a_cons (e_op (op_ad rfl) ok_add (v3 2) e_int) a_nil))) a_nil))))))) (e_call rfl G_take (hr.mono (by omega)) (by rfl) T.g_take T.F_take.kp T.b_take (a_cons (v3 1) (a_cons e_int a_nil))) (fun _ _ => rfl)))
  (b_cons (s_set (i := 10) sc_law.nd rfl (Or.inl rfl) (e_tup (a_cons e_str (a_cons e_non (a_cons (v3 9) a_nil)))))
  (b_cons (s_if (t_cmp rfl (op_gGt hu64) (v3 9) (v3 2) (nomark _))
  (b_one (s_set (i := 10) sc_law.nd rfl (Or.inl rfl) (e_tup (a_cons e_str (a_cons (e_call rfl G_deep_value (hr.mono (by omega)) (by rfl) T.g_deep_value T.F_deep_value.kp T.b_deep_value (a_cons (v3 3) (a_cons (v3 2) (a_cons (v3 4) (a_cons (v3 5) a_nil))))) (a_cons (e_op (op_ad rfl) ok_add (v3 2) e_int) a_nil))))))
  b_nil)
  (b_one (s_ret (e_call rfl G_same (hr.mono (by omega)) (by rfl) T.g_same T.F_same.kp T.b_same (a_cons (e_callK (m := 1) (n := 1) rfl G_run (hr.mono (by omega)) (by rfl) T.g_run T.F_run.kp T.bk_run (a_cons (v3 8) a_nil) (k_cons (v3 9) k_nil)) (a_cons (v3 10) a_nil))))))))))))))))))
theorem ok_law (T : Tp K mg) (h : ∀ ns : List Int, ns.length ≤ 63 → ∃ S, f3_law [.sc ns] [] = some (.d (.bool true), S)) : FnOk P w K mg base CX0 24 T.a_law T.d_law ["_law_script"] (spLaw3 K) := law3 (ok3_law T) h
end
section
theorem tp_mk {K : PySem.W.Frag} {h : Heap} {mg : Str → Option Value} {fa : Addr} (X : K.In h) (G : h.Ns mainGlobals mg) (hfa : mg "law" = some (.ref fa))
    {C0 : Addr} (aC0 : PySem.W.nsIn K mainGlobals "Machine" = some (some (.ref C0))) (pg0 : PySem.W.plainGet K C0 Str.empty = true) (hd0 : PySem.W.hasDictIn K C0 = true) (po0 : PySem.W.plainOver K C0 = true) (sa0 : PySem.W.findIn K (.ref C0) "__setattr__" = some (some (.builtin "object.__setattr__"))) (mk0 : PySem.W.makesIn K C0 = true) (kc0 : PySem.W.keepIn K (.ref C0) = true)
    (nf0_0 : PySem.W.findIn K (.ref C0) "program" = some none) (nf0_1 : PySem.W.findIn K (.ref C0) "fuel" = some none) (nf0_2 : PySem.W.findIn K (.ref C0) "outcome" = some none) (nf0_3 : PySem.W.findIn K (.ref C0) "waiting" = some none) (nf0_4 : PySem.W.findIn K (.ref C0) "decided" = some none) (nf0_5 : PySem.W.findIn K (.ref C0) "calls" = some none) (nf0_6 : PySem.W.findIn K (.ref C0) "cells" = some none) (nf0_7 : PySem.W.findIn K (.ref C0) "value" = some none) (nf0_8 : PySem.W.findIn K (.ref C0) "pile" = some none)
    {f0 : Addr} {od0 an0 : Option Addr} {sl0 : Array (Option Value)} {oc0 kV0 dc0 pm0 cd0 ct0 : Value}
    (a0 : PySem.W.nsIn K mainGlobals "looked_up" = some (some (.ref f0))) (l0 : K.lookup f0 = some ⟨oc0, od0, .func (PySem.W.fnOf "looked_up" "looked_up" (defArgs s_looked_up) (defBody s_looked_up) (defScope s_looked_up) .none kV0 dc0 pm0 an0 cd0 ct0), sl0⟩) (c0 : PySem.W.codeIn K cd0 "looked_up" = true) (k0 : PySem.W.keepIn K (.ref f0) = true)
    {f1 : Addr} {od1 an1 : Option Addr} {sl1 : Array (Option Value)} {oc1 kV1 dc1 pm1 cd1 ct1 : Value}
    (a1 : PySem.W.nsIn K mainGlobals "group_bound" = some (some (.ref f1))) (l1 : K.lookup f1 = some ⟨oc1, od1, .func (PySem.W.fnOf "group_bound" "group_bound" (defArgs s_group_bound) (defBody s_group_bound) (defScope s_group_bound) .none kV1 dc1 pm1 an1 cd1 ct1), sl1⟩) (c1 : PySem.W.codeIn K cd1 "group_bound" = true) (k1 : PySem.W.keepIn K (.ref f1) = true)
    {f2 : Addr} {od2 an2 : Option Addr} {sl2 : Array (Option Value)} {oc2 kV2 dc2 pm2 cd2 ct2 : Value}
    (a2 : PySem.W.nsIn K mainGlobals "struct_values" = some (some (.ref f2))) (l2 : K.lookup f2 = some ⟨oc2, od2, .func (PySem.W.fnOf "struct_values" "struct_values" (defArgs s_struct_values) (defBody s_struct_values) (defScope s_struct_values) .none kV2 dc2 pm2 an2 cd2 ct2), sl2⟩) (c2 : PySem.W.codeIn K cd2 "struct_values" = true) (k2 : PySem.W.keepIn K (.ref f2) = true)
    {f3 : Addr} {od3 an3 : Option Addr} {sl3 : Array (Option Value)} {oc3 kV3 dc3 pm3 cd3 ct3 : Value}
    (a3 : PySem.W.nsIn K mainGlobals "parts_of" = some (some (.ref f3))) (l3 : K.lookup f3 = some ⟨oc3, od3, .func (PySem.W.fnOf "parts_of" "parts_of" (defArgs s_parts_of) (defBody s_parts_of) (defScope s_parts_of) .none kV3 dc3 pm3 an3 cd3 ct3), sl3⟩) (c3 : PySem.W.codeIn K cd3 "parts_of" = true) (k3 : PySem.W.keepIn K (.ref f3) = true)
    {f4 : Addr} {od4 an4 : Option Addr} {sl4 : Array (Option Value)} {oc4 kV4 dc4 pm4 cd4 ct4 : Value}
    (a4 : PySem.W.nsIn K mainGlobals "plain_value" = some (some (.ref f4))) (l4 : K.lookup f4 = some ⟨oc4, od4, .func (PySem.W.fnOf "plain_value" "plain_value" (defArgs s_plain_value) (defBody s_plain_value) (defScope s_plain_value) .none kV4 dc4 pm4 an4 cd4 ct4), sl4⟩) (c4 : PySem.W.codeIn K cd4 "plain_value" = true) (k4 : PySem.W.keepIn K (.ref f4) = true)
    {f5 : Addr} {od5 an5 : Option Addr} {sl5 : Array (Option Value)} {oc5 kV5 dc5 pm5 cd5 ct5 : Value}
    (a5 : PySem.W.nsIn K mainGlobals "op_value" = some (some (.ref f5))) (l5 : K.lookup f5 = some ⟨oc5, od5, .func (PySem.W.fnOf "op_value" "op_value" (defArgs s_op_value) (defBody s_op_value) (defScope s_op_value) .none kV5 dc5 pm5 an5 cd5 ct5), sl5⟩) (c5 : PySem.W.codeIn K cd5 "op_value" = true) (k5 : PySem.W.keepIn K (.ref f5) = true)
    {f6 : Addr} {od6 an6 : Option Addr} {sl6 : Array (Option Value)} {oc6 kV6 dc6 pm6 cd6 ct6 : Value}
    (a6 : PySem.W.nsIn K mainGlobals "record_value" = some (some (.ref f6))) (l6 : K.lookup f6 = some ⟨oc6, od6, .func (PySem.W.fnOf "record_value" "record_value" (defArgs s_record_value) (defBody s_record_value) (defScope s_record_value) .none kV6 dc6 pm6 an6 cd6 ct6), sl6⟩) (c6 : PySem.W.codeIn K cd6 "record_value" = true) (k6 : PySem.W.keepIn K (.ref f6) = true)
    {f7 : Addr} {od7 an7 : Option Addr} {sl7 : Array (Option Value)} {oc7 kV7 dc7 pm7 cd7 ct7 : Value}
    (a7 : PySem.W.nsIn K mainGlobals "field_value" = some (some (.ref f7))) (l7 : K.lookup f7 = some ⟨oc7, od7, .func (PySem.W.fnOf "field_value" "field_value" (defArgs s_field_value) (defBody s_field_value) (defScope s_field_value) .none kV7 dc7 pm7 an7 cd7 ct7), sl7⟩) (c7 : PySem.W.codeIn K cd7 "field_value" = true) (k7 : PySem.W.keepIn K (.ref f7) = true)
    {f8 : Addr} {od8 an8 : Option Addr} {sl8 : Array (Option Value)} {oc8 kV8 dc8 pm8 cd8 ct8 : Value}
    (a8 : PySem.W.nsIn K mainGlobals "made_value" = some (some (.ref f8))) (l8 : K.lookup f8 = some ⟨oc8, od8, .func (PySem.W.fnOf "made_value" "made_value" (defArgs s_made_value) (defBody s_made_value) (defScope s_made_value) .none kV8 dc8 pm8 an8 cd8 ct8), sl8⟩) (c8 : PySem.W.codeIn K cd8 "made_value" = true) (k8 : PySem.W.keepIn K (.ref f8) = true)
    {f9 : Addr} {od9 an9 : Option Addr} {sl9 : Array (Option Value)} {oc9 kV9 dc9 pm9 cd9 ct9 : Value}
    (a9 : PySem.W.nsIn K mainGlobals "told_value" = some (some (.ref f9))) (l9 : K.lookup f9 = some ⟨oc9, od9, .func (PySem.W.fnOf "told_value" "told_value" (defArgs s_told_value) (defBody s_told_value) (defScope s_told_value) .none kV9 dc9 pm9 an9 cd9 ct9), sl9⟩) (c9 : PySem.W.codeIn K cd9 "told_value" = true) (k9 : PySem.W.keepIn K (.ref f9) = true)
    {f10 : Addr} {od10 an10 : Option Addr} {sl10 : Array (Option Value)} {oc10 kV10 dc10 pm10 cd10 ct10 : Value}
    {tT10 : Tok}    {T10 : Addr} {nT10 : Nat} {slT10 : Array (Option Value)}    (a10 : PySem.W.findIn K (.ref C0) "__init__" = some (some (.ref f10))) (i10 : PySem.W.isFn K (.ref f10) = true) (l10 : K.lookup f10 = some ⟨oc10, od10, .func (PySem.W.fnOf "__init__" "Machine.__init__" (defArgs s_Machine___init__) (defBody s_Machine___init__) (defScope s_Machine___init__) (.ref T10) kV10 dc10 pm10 an10 cd10 ct10), sl10⟩) (c10 : PySem.W.codeIn K cd10 "Machine.__init__" = true) (k10 : PySem.W.keepIn K (.ref f10) = true) (t10 : K.lookup T10 = some ⟨.type "tuple", none, .seq #[.int (400) tT10] nT10, slT10⟩)
    {f11 : Addr} {od11 an11 : Option Addr} {sl11 : Array (Option Value)} {oc11 kV11 dc11 pm11 cd11 ct11 : Value}
    (a11 : PySem.W.findIn K (.ref C0) "advance" = some (some (.ref f11))) (i11 : PySem.W.isFn K (.ref f11) = true) (l11 : K.lookup f11 = some ⟨oc11, od11, .func (PySem.W.fnOf "advance" "Machine.advance" (defArgs s_Machine_advance) (defBody s_Machine_advance) (defScope s_Machine_advance) .none kV11 dc11 pm11 an11 cd11 ct11), sl11⟩) (c11 : PySem.W.codeIn K cd11 "Machine.advance" = true) (k11 : PySem.W.keepIn K (.ref f11) = true)
    {f12 : Addr} {od12 an12 : Option Addr} {sl12 : Array (Option Value)} {oc12 kV12 dc12 pm12 cd12 ct12 : Value}
    (a12 : PySem.W.findIn K (.ref C0) "step_on" = some (some (.ref f12))) (i12 : PySem.W.isFn K (.ref f12) = true) (l12 : K.lookup f12 = some ⟨oc12, od12, .func (PySem.W.fnOf "step_on" "Machine.step_on" (defArgs s_Machine_step_on) (defBody s_Machine_step_on) (defScope s_Machine_step_on) .none kV12 dc12 pm12 an12 cd12 ct12), sl12⟩) (c12 : PySem.W.codeIn K cd12 "Machine.step_on" = true) (k12 : PySem.W.keepIn K (.ref f12) = true)
    {f13 : Addr} {od13 an13 : Option Addr} {sl13 : Array (Option Value)} {oc13 kV13 dc13 pm13 cd13 ct13 : Value}
    (a13 : PySem.W.findIn K (.ref C0) "asked" = some (some (.ref f13))) (i13 : PySem.W.isFn K (.ref f13) = true) (l13 : K.lookup f13 = some ⟨oc13, od13, .func (PySem.W.fnOf "asked" "Machine.asked" (defArgs s_Machine_asked) (defBody s_Machine_asked) (defScope s_Machine_asked) .none kV13 dc13 pm13 an13 cd13 ct13), sl13⟩) (c13 : PySem.W.codeIn K cd13 "Machine.asked" = true) (k13 : PySem.W.keepIn K (.ref f13) = true)
    {f14 : Addr} {od14 an14 : Option Addr} {sl14 : Array (Option Value)} {oc14 kV14 dc14 pm14 cd14 ct14 : Value}
    (a14 : PySem.W.findIn K (.ref C0) "stop_stuck" = some (some (.ref f14))) (i14 : PySem.W.isFn K (.ref f14) = true) (l14 : K.lookup f14 = some ⟨oc14, od14, .func (PySem.W.fnOf "stop_stuck" "Machine.stop_stuck" (defArgs s_Machine_stop_stuck) (defBody s_Machine_stop_stuck) (defScope s_Machine_stop_stuck) .none kV14 dc14 pm14 an14 cd14 ct14), sl14⟩) (c14 : PySem.W.codeIn K cd14 "Machine.stop_stuck" = true) (k14 : PySem.W.keepIn K (.ref f14) = true)
    {f15 : Addr} {od15 an15 : Option Addr} {sl15 : Array (Option Value)} {oc15 kV15 dc15 pm15 cd15 ct15 : Value}
    (a15 : PySem.W.findIn K (.ref C0) "give" = some (some (.ref f15))) (i15 : PySem.W.isFn K (.ref f15) = true) (l15 : K.lookup f15 = some ⟨oc15, od15, .func (PySem.W.fnOf "give" "Machine.give" (defArgs s_Machine_give) (defBody s_Machine_give) (defScope s_Machine_give) .none kV15 dc15 pm15 an15 cd15 ct15), sl15⟩) (c15 : PySem.W.codeIn K cd15 "Machine.give" = true) (k15 : PySem.W.keepIn K (.ref f15) = true)
    {f16 : Addr} {od16 an16 : Option Addr} {sl16 : Array (Option Value)} {oc16 kV16 dc16 pm16 cd16 ct16 : Value}
    (a16 : PySem.W.findIn K (.ref C0) "go_on" = some (some (.ref f16))) (i16 : PySem.W.isFn K (.ref f16) = true) (l16 : K.lookup f16 = some ⟨oc16, od16, .func (PySem.W.fnOf "go_on" "Machine.go_on" (defArgs s_Machine_go_on) (defBody s_Machine_go_on) (defScope s_Machine_go_on) .none kV16 dc16 pm16 an16 cd16 ct16), sl16⟩) (c16 : PySem.W.codeIn K cd16 "Machine.go_on" = true) (k16 : PySem.W.keepIn K (.ref f16) = true)
    {f17 : Addr} {od17 an17 : Option Addr} {sl17 : Array (Option Value)} {oc17 kV17 dc17 pm17 cd17 ct17 : Value}
    (a17 : PySem.W.findIn K (.ref C0) "evaluate" = some (some (.ref f17))) (i17 : PySem.W.isFn K (.ref f17) = true) (l17 : K.lookup f17 = some ⟨oc17, od17, .func (PySem.W.fnOf "evaluate" "Machine.evaluate" (defArgs s_Machine_evaluate) (defBody s_Machine_evaluate) (defScope s_Machine_evaluate) .none kV17 dc17 pm17 an17 cd17 ct17), sl17⟩) (c17 : PySem.W.codeIn K cd17 "Machine.evaluate" = true) (k17 : PySem.W.keepIn K (.ref f17) = true)
    {f18 : Addr} {od18 an18 : Option Addr} {sl18 : Array (Option Value)} {oc18 kV18 dc18 pm18 cd18 ct18 : Value}
    (a18 : PySem.W.findIn K (.ref C0) "sides_of" = some (some (.ref f18))) (i18 : PySem.W.isFn K (.ref f18) = true) (l18 : K.lookup f18 = some ⟨oc18, od18, .func (PySem.W.fnOf "sides_of" "Machine.sides_of" (defArgs s_Machine_sides_of) (defBody s_Machine_sides_of) (defScope s_Machine_sides_of) .none kV18 dc18 pm18 an18 cd18 ct18), sl18⟩) (c18 : PySem.W.codeIn K cd18 "Machine.sides_of" = true) (k18 : PySem.W.keepIn K (.ref f18) = true)
    {f19 : Addr} {od19 an19 : Option Addr} {sl19 : Array (Option Value)} {oc19 kV19 dc19 pm19 cd19 ct19 : Value}
    (a19 : PySem.W.findIn K (.ref C0) "next_part" = some (some (.ref f19))) (i19 : PySem.W.isFn K (.ref f19) = true) (l19 : K.lookup f19 = some ⟨oc19, od19, .func (PySem.W.fnOf "next_part" "Machine.next_part" (defArgs s_Machine_next_part) (defBody s_Machine_next_part) (defScope s_Machine_next_part) .none kV19 dc19 pm19 an19 cd19 ct19), sl19⟩) (c19 : PySem.W.codeIn K cd19 "Machine.next_part" = true) (k19 : PySem.W.keepIn K (.ref f19) = true)
    {f20 : Addr} {od20 an20 : Option Addr} {sl20 : Array (Option Value)} {oc20 kV20 dc20 pm20 cd20 ct20 : Value}
    (a20 : PySem.W.findIn K (.ref C0) "perform" = some (some (.ref f20))) (i20 : PySem.W.isFn K (.ref f20) = true) (l20 : K.lookup f20 = some ⟨oc20, od20, .func (PySem.W.fnOf "perform" "Machine.perform" (defArgs s_Machine_perform) (defBody s_Machine_perform) (defScope s_Machine_perform) .none kV20 dc20 pm20 an20 cd20 ct20), sl20⟩) (c20 : PySem.W.codeIn K cd20 "Machine.perform" = true) (k20 : PySem.W.keepIn K (.ref f20) = true)
    {f21 : Addr} {od21 an21 : Option Addr} {sl21 : Array (Option Value)} {oc21 kV21 dc21 pm21 cd21 ct21 : Value}
    (a21 : PySem.W.findIn K (.ref C0) "call_fn" = some (some (.ref f21))) (i21 : PySem.W.isFn K (.ref f21) = true) (l21 : K.lookup f21 = some ⟨oc21, od21, .func (PySem.W.fnOf "call_fn" "Machine.call_fn" (defArgs s_Machine_call_fn) (defBody s_Machine_call_fn) (defScope s_Machine_call_fn) .none kV21 dc21 pm21 an21 cd21 ct21), sl21⟩) (c21 : PySem.W.codeIn K cd21 "Machine.call_fn" = true) (k21 : PySem.W.keepIn K (.ref f21) = true)
    {f22 : Addr} {od22 an22 : Option Addr} {sl22 : Array (Option Value)} {oc22 kV22 dc22 pm22 cd22 ct22 : Value}
    (a22 : PySem.W.findIn K (.ref C0) "go_case" = some (some (.ref f22))) (i22 : PySem.W.isFn K (.ref f22) = true) (l22 : K.lookup f22 = some ⟨oc22, od22, .func (PySem.W.fnOf "go_case" "Machine.go_case" (defArgs s_Machine_go_case) (defBody s_Machine_go_case) (defScope s_Machine_go_case) .none kV22 dc22 pm22 an22 cd22 ct22), sl22⟩) (c22 : PySem.W.codeIn K cd22 "Machine.go_case" = true) (k22 : PySem.W.keepIn K (.ref f22) = true)
    {f23 : Addr} {od23 an23 : Option Addr} {sl23 : Array (Option Value)} {oc23 kV23 dc23 pm23 cd23 ct23 : Value}
    (a23 : PySem.W.findIn K (.ref C0) "go_match" = some (some (.ref f23))) (i23 : PySem.W.isFn K (.ref f23) = true) (l23 : K.lookup f23 = some ⟨oc23, od23, .func (PySem.W.fnOf "go_match" "Machine.go_match" (defArgs s_Machine_go_match) (defBody s_Machine_go_match) (defScope s_Machine_go_match) .none kV23 dc23 pm23 an23 cd23 ct23), sl23⟩) (c23 : PySem.W.codeIn K cd23 "Machine.go_match" = true) (k23 : PySem.W.keepIn K (.ref f23) = true)
    {f24 : Addr} {od24 an24 : Option Addr} {sl24 : Array (Option Value)} {oc24 kV24 dc24 pm24 cd24 ct24 : Value}
    (a24 : PySem.W.findIn K (.ref C0) "go_rows" = some (some (.ref f24))) (i24 : PySem.W.isFn K (.ref f24) = true) (l24 : K.lookup f24 = some ⟨oc24, od24, .func (PySem.W.fnOf "go_rows" "Machine.go_rows" (defArgs s_Machine_go_rows) (defBody s_Machine_go_rows) (defScope s_Machine_go_rows) .none kV24 dc24 pm24 an24 cd24 ct24), sl24⟩) (c24 : PySem.W.codeIn K cd24 "Machine.go_rows" = true) (k24 : PySem.W.keepIn K (.ref f24) = true)
    {f25 : Addr} {od25 an25 : Option Addr} {sl25 : Array (Option Value)} {oc25 kV25 dc25 pm25 cd25 ct25 : Value}
    (a25 : PySem.W.findIn K (.ref C0) "end_rows" = some (some (.ref f25))) (i25 : PySem.W.isFn K (.ref f25) = true) (l25 : K.lookup f25 = some ⟨oc25, od25, .func (PySem.W.fnOf "end_rows" "Machine.end_rows" (defArgs s_Machine_end_rows) (defBody s_Machine_end_rows) (defScope s_Machine_end_rows) .none kV25 dc25 pm25 an25 cd25 ct25), sl25⟩) (c25 : PySem.W.codeIn K cd25 "Machine.end_rows" = true) (k25 : PySem.W.keepIn K (.ref f25) = true)
    {f26 : Addr} {od26 an26 : Option Addr} {sl26 : Array (Option Value)} {oc26 kV26 dc26 pm26 cd26 ct26 : Value}
    (a26 : PySem.W.findIn K (.ref C0) "go_body" = some (some (.ref f26))) (i26 : PySem.W.isFn K (.ref f26) = true) (l26 : K.lookup f26 = some ⟨oc26, od26, .func (PySem.W.fnOf "go_body" "Machine.go_body" (defArgs s_Machine_go_body) (defBody s_Machine_go_body) (defScope s_Machine_go_body) .none kV26 dc26 pm26 an26 cd26 ct26), sl26⟩) (c26 : PySem.W.codeIn K cd26 "Machine.go_body" = true) (k26 : PySem.W.keepIn K (.ref f26) = true)
    {f27 : Addr} {od27 an27 : Option Addr} {sl27 : Array (Option Value)} {oc27 kV27 dc27 pm27 cd27 ct27 : Value}
    {tT27 : Tok}    {T27 : Addr} {nT27 : Nat} {slT27 : Array (Option Value)}    (a27 : PySem.W.nsIn K mainGlobals "run" = some (some (.ref f27))) (l27 : K.lookup f27 = some ⟨oc27, od27, .func (PySem.W.fnOf "run" "run" (defArgs s_run) (defBody s_run) (defScope s_run) (.ref T27) kV27 dc27 pm27 an27 cd27 ct27), sl27⟩) (c27 : PySem.W.codeIn K cd27 "run" = true) (k27 : PySem.W.keepIn K (.ref f27) = true) (t27 : K.lookup T27 = some ⟨.type "tuple", none, .seq #[.int (400) tT27] nT27, slT27⟩)
    {f28 : Addr} {od28 an28 : Option Addr} {sl28 : Array (Option Value)} {oc28 kV28 dc28 pm28 cd28 ct28 : Value}
    (a28 : PySem.W.nsIn K mainGlobals "_law_hand" = some (some (.ref f28))) (l28 : K.lookup f28 = some ⟨oc28, od28, .func (PySem.W.fnOf "_law_hand" "_law_hand" (defArgs s_hand) (defBody s_hand) (defScope s_hand) .none kV28 dc28 pm28 an28 cd28 ct28), sl28⟩) (c28 : PySem.W.codeIn K cd28 "_law_hand" = true) (k28 : PySem.W.keepIn K (.ref f28) = true)
    {f29 : Addr} {od29 an29 : Option Addr} {sl29 : Array (Option Value)} {oc29 kV29 dc29 pm29 cd29 ct29 : Value}
    (a29 : PySem.W.nsIn K mainGlobals "_law_stirred" = some (some (.ref f29))) (l29 : K.lookup f29 = some ⟨oc29, od29, .func (PySem.W.fnOf "_law_stirred" "_law_stirred" (defArgs s_stirred) (defBody s_stirred) (defScope s_stirred) .none kV29 dc29 pm29 an29 cd29 ct29), sl29⟩) (c29 : PySem.W.codeIn K cd29 "_law_stirred" = true) (k29 : PySem.W.keepIn K (.ref f29) = true)
    {f30 : Addr} {od30 an30 : Option Addr} {sl30 : Array (Option Value)} {oc30 kV30 dc30 pm30 cd30 ct30 : Value}
    (a30 : PySem.W.nsIn K mainGlobals "_law_take" = some (some (.ref f30))) (l30 : K.lookup f30 = some ⟨oc30, od30, .func (PySem.W.fnOf "_law_take" "_law_take" (defArgs s_take) (defBody s_take) (defScope s_take) .none kV30 dc30 pm30 an30 cd30 ct30), sl30⟩) (c30 : PySem.W.codeIn K cd30 "_law_take" = true) (k30 : PySem.W.keepIn K (.ref f30) = true)
    {f31 : Addr} {od31 an31 : Option Addr} {sl31 : Array (Option Value)} {oc31 kV31 dc31 pm31 cd31 ct31 : Value}
    (a31 : PySem.W.nsIn K mainGlobals "_law_whole" = some (some (.ref f31))) (l31 : K.lookup f31 = some ⟨oc31, od31, .func (PySem.W.fnOf "_law_whole" "_law_whole" (defArgs s_whole) (defBody s_whole) (defScope s_whole) .none kV31 dc31 pm31 an31 cd31 ct31), sl31⟩) (c31 : PySem.W.codeIn K cd31 "_law_whole" = true) (k31 : PySem.W.keepIn K (.ref f31) = true)
    {f32 : Addr} {od32 an32 : Option Addr} {sl32 : Array (Option Value)} {oc32 kV32 dc32 pm32 cd32 ct32 : Value}
    (a32 : PySem.W.nsIn K mainGlobals "_law_drawn_number" = some (some (.ref f32))) (l32 : K.lookup f32 = some ⟨oc32, od32, .func (PySem.W.fnOf "_law_drawn_number" "_law_drawn_number" (defArgs s_drawn_number) (defBody s_drawn_number) (defScope s_drawn_number) .none kV32 dc32 pm32 an32 cd32 ct32), sl32⟩) (c32 : PySem.W.codeIn K cd32 "_law_drawn_number" = true) (k32 : PySem.W.keepIn K (.ref f32) = true)
    {f33 : Addr} {od33 an33 : Option Addr} {sl33 : Array (Option Value)} {oc33 kV33 dc33 pm33 cd33 ct33 : Value}
    (a33 : PySem.W.nsIn K mainGlobals "_law_is_node" = some (some (.ref f33))) (l33 : K.lookup f33 = some ⟨oc33, od33, .func (PySem.W.fnOf "_law_is_node" "_law_is_node" (defArgs s_is_node) (defBody s_is_node) (defScope s_is_node) .none kV33 dc33 pm33 an33 cd33 ct33), sl33⟩) (c33 : PySem.W.codeIn K cd33 "_law_is_node" = true) (k33 : PySem.W.keepIn K (.ref f33) = true)
    {f34 : Addr} {od34 an34 : Option Addr} {sl34 : Array (Option Value)} {oc34 kV34 dc34 pm34 cd34 ct34 : Value}
    (a34 : PySem.W.nsIn K mainGlobals "_law_numbered" = some (some (.ref f34))) (l34 : K.lookup f34 = some ⟨oc34, od34, .func (PySem.W.fnOf "_law_numbered" "_law_numbered" (defArgs s_numbered) (defBody s_numbered) (defScope s_numbered) .none kV34 dc34 pm34 an34 cd34 ct34), sl34⟩) (c34 : PySem.W.codeIn K cd34 "_law_numbered" = true) (k34 : PySem.W.keepIn K (.ref f34) = true)
    {f35 : Addr} {od35 an35 : Option Addr} {sl35 : Array (Option Value)} {oc35 kV35 dc35 pm35 cd35 ct35 : Value}
    (a35 : PySem.W.nsIn K mainGlobals "_law_same" = some (some (.ref f35))) (l35 : K.lookup f35 = some ⟨oc35, od35, .func (PySem.W.fnOf "_law_same" "_law_same" (defArgs s_same) (defBody s_same) (defScope s_same) .none kV35 dc35 pm35 an35 cd35 ct35), sl35⟩) (c35 : PySem.W.codeIn K cd35 "_law_same" = true) (k35 : PySem.W.keepIn K (.ref f35) = true)
    {f36 : Addr} {od36 an36 : Option Addr} {sl36 : Array (Option Value)} {oc36 kV36 dc36 pm36 cd36 ct36 : Value}
    (a36 : PySem.W.nsIn K mainGlobals "_law_deep_down" = some (some (.ref f36))) (l36 : K.lookup f36 = some ⟨oc36, od36, .func (PySem.W.fnOf "_law_deep_down" "_law_deep_down" (defArgs s_deep_down) (defBody s_deep_down) (defScope s_deep_down) .none kV36 dc36 pm36 an36 cd36 ct36), sl36⟩) (c36 : PySem.W.codeIn K cd36 "_law_deep_down" = true) (k36 : PySem.W.keepIn K (.ref f36) = true)
    {f37 : Addr} {od37 an37 : Option Addr} {sl37 : Array (Option Value)} {oc37 kV37 dc37 pm37 cd37 ct37 : Value}
    (a37 : PySem.W.nsIn K mainGlobals "_law_deep_value" = some (some (.ref f37))) (l37 : K.lookup f37 = some ⟨oc37, od37, .func (PySem.W.fnOf "_law_deep_value" "_law_deep_value" (defArgs s_deep_value) (defBody s_deep_value) (defScope s_deep_value) .none kV37 dc37 pm37 an37 cd37 ct37), sl37⟩) (c37 : PySem.W.codeIn K cd37 "_law_deep_value" = true) (k37 : PySem.W.keepIn K (.ref f37) = true)
    {f38 : Addr} {od38 an38 : Option Addr} {sl38 : Array (Option Value)} {oc38 kV38 dc38 pm38 cd38 ct38 : Value}
    (a38 : PySem.W.nsIn K mainGlobals "_law_deep_program" = some (some (.ref f38))) (l38 : K.lookup f38 = some ⟨oc38, od38, .func (PySem.W.fnOf "_law_deep_program" "_law_deep_program" (defArgs s_deep_program) (defBody s_deep_program) (defScope s_deep_program) .none kV38 dc38 pm38 an38 cd38 ct38), sl38⟩) (c38 : PySem.W.codeIn K cd38 "_law_deep_program" = true) (k38 : PySem.W.keepIn K (.ref f38) = true)
    {f39 : Addr} {od39 an39 : Option Addr} {sl39 : Array (Option Value)} {oc39 kV39 dc39 pm39 cd39 ct39 : Value}
    (a39 : PySem.W.nsIn K mainGlobals "law" = some (some (.ref f39))) (l39 : K.lookup f39 = some ⟨oc39, od39, .func (PySem.W.fnOf "law" "law" (defArgs s_law) (defBody s_law) (defScope s_law) .none kV39 dc39 pm39 an39 cd39 ct39), sl39⟩) (c39 : PySem.W.codeIn K cd39 "law" = true) (k39 : PySem.W.keepIn K (.ref f39) = true)
    (z_ValueError : PySem.W.nsIn K mainGlobals "ValueError" = some none)
    (z_abs : PySem.W.nsIn K mainGlobals "abs" = some none)
    (z_all : PySem.W.nsIn K mainGlobals "all" = some none)
    (z_bool : PySem.W.nsIn K mainGlobals "bool" = some none)
    (z_dict : PySem.W.nsIn K mainGlobals "dict" = some none)
    (z_int : PySem.W.nsIn K mainGlobals "int" = some none)
    (z_isinstance : PySem.W.nsIn K mainGlobals "isinstance" = some none)
    (z_len : PySem.W.nsIn K mainGlobals "len" = some none)
    (z_list : PySem.W.nsIn K mainGlobals "list" = some none)
    (z_min : PySem.W.nsIn K mainGlobals "min" = some none)
    (z_range : PySem.W.nsIn K mainGlobals "range" = some none)
    (z_sorted : PySem.W.nsIn K mainGlobals "sorted" = some none)
    (z_str : PySem.W.nsIn K mainGlobals "str" = some none)
    (z_tuple : PySem.W.nsIn K mainGlobals "tuple" = some none)
    (z_zip : PySem.W.nsIn K mainGlobals "zip" = some none)
    {ti0 : Tok} (xi_DEEPEST : PySem.W.nsIn K mainGlobals "DEEPEST" = some (some (.int 6 ti0)))
    {fc0 : Addr} {tc0_0 tc0_1 tc0_2 tc0_3 tc0_4 : Tok} {nc0 : Nat} {sc0 : Array (Option Value)}
    (x_PLAIN_WORDS : PySem.W.nsIn K mainGlobals "PLAIN_WORDS" = some (some (.ref fc0))) (y_PLAIN_WORDS : K.lookup fc0 = some ⟨.type "tuple", none, .seq #[.str "number" tc0_0, .str "truth" tc0_1, .str "fn" tc0_2, .str "name" tc0_3, .str "member" tc0_4] nc0, sc0⟩)
    : ∃ T : Tp K mg, T.a_law = fa ∧ ∀ (s : Shared) (v : Value), BindsTo s T.d_law ⟨[v], []⟩ [("_law_script", v)] := by
  have e := hfa.symm.trans (PySem.W.mg_of X G a39)
  cases e
  have F0 := fun_mk (st := s_looked_up) l0 c0 k0
  have b0 := F0.binds (ps := ["env", "space", "name"]) fun _ _ _ _ _ _ us hl => match us, hl with | [_, _, _], _ => rfl
  have F1 := fun_mk (st := s_group_bound) l1 c1 k1
  have b1 := F1.binds (ps := ["env", "sides"]) fun _ _ _ _ _ _ us hl => match us, hl with | [_, _], _ => rfl
  have F2 := fun_mk (st := s_struct_values) l2 c2 k2
  have b2 := F2.binds (ps := ["env"]) fun _ _ _ _ _ _ us hl => match us, hl with | [_], _ => rfl
  have F3 := fun_mk (st := s_parts_of) l3 c3 k3
  have b3 := F3.binds (ps := ["node"]) fun _ _ _ _ _ _ us hl => match us, hl with | [_], _ => rfl
  have F4 := fun_mk (st := s_plain_value) l4 c4 k4
  have b4 := F4.binds (ps := ["node", "env"]) fun _ _ _ _ _ _ us hl => match us, hl with | [_, _], _ => rfl
  have F5 := fun_mk (st := s_op_value) l5 c5 k5
  have b5 := F5.binds (ps := ["sign", "first", "second"]) fun _ _ _ _ _ _ us hl => match us, hl with | [_, _, _], _ => rfl
  have F6 := fun_mk (st := s_record_value) l6 c6 k6
  have b6 := F6.binds (ps := ["node", "done"]) fun _ _ _ _ _ _ us hl => match us, hl with | [_, _], _ => rfl
  have F7 := fun_mk (st := s_field_value) l7 c7 k7
  have b7 := F7.binds (ps := ["node", "done"]) fun _ _ _ _ _ _ us hl => match us, hl with | [_, _], _ => rfl
  have F8 := fun_mk (st := s_made_value) l8 c8 k8
  have b8 := F8.binds (ps := ["node", "done"]) fun _ _ _ _ _ _ us hl => match us, hl with | [_, _], _ => rfl
  have F9 := fun_mk (st := s_told_value) l9 c9 k9
  have b9 := F9.binds (ps := ["value", "cells", "depth"]) fun _ _ _ _ _ _ us hl => match us, hl with | [_, _, _], _ => rfl
  have F10 := fd_posI (st := s_Machine___init__) l10 c10 k10 t10
  have b10 : Binds K _ ["self", "program", "fuel"] [] := binds_all (FunD.binds1 (ps := ["self", "program", "fuel"]) F10 3 1 (by decide) rfl fun _ _ _ _ _ _ _ us its hu hi => match us, its, hu, hi with | [_, _, _], [_], _, _ => ⟨_, rfl, rfl⟩)
  have bd10 : ∃ dus, Vals [.int (400)] dus ∧ Binds K _ ["self", "program", "fuel"] dus := FunD.binds1 (ps := ["self", "program", "fuel"]) F10 2 0 (by decide) rfl fun _ _ _ _ _ _ _ us its hu hi => match us, its, hu, hi with | [_, _], [_], _, _ => ⟨_, rfl, rfl⟩
  have F11 := fun_mk (st := s_Machine_advance) l11 c11 k11
  have b11 := F11.binds (ps := ["self"]) fun _ _ _ _ _ _ us hl => match us, hl with | [_], _ => rfl
  have F12 := fun_mk (st := s_Machine_step_on) l12 c12 k12
  have b12 := F12.binds (ps := ["self"]) fun _ _ _ _ _ _ us hl => match us, hl with | [_], _ => rfl
  have F13 := fun_mk (st := s_Machine_asked) l13 c13 k13
  have b13 := F13.binds (ps := ["self", "switch"]) fun _ _ _ _ _ _ us hl => match us, hl with | [_, _], _ => rfl
  have F14 := fun_mk (st := s_Machine_stop_stuck) l14 c14 k14
  have b14 := F14.binds (ps := ["self", "node"]) fun _ _ _ _ _ _ us hl => match us, hl with | [_, _], _ => rfl
  have F15 := fun_mk (st := s_Machine_give) l15 c15 k15
  have b15 := F15.binds (ps := ["self", "value", "rest"]) fun _ _ _ _ _ _ us hl => match us, hl with | [_, _, _], _ => rfl
  have F16 := fun_mk (st := s_Machine_go_on) l16 c16 k16
  have b16 := F16.binds (ps := ["self", "node", "env", "rest"]) fun _ _ _ _ _ _ us hl => match us, hl with | [_, _, _, _], _ => rfl
  have F17 := fun_mk (st := s_Machine_evaluate) l17 c17 k17
  have b17 := F17.binds (ps := ["self", "node", "env", "rest"]) fun _ _ _ _ _ _ us hl => match us, hl with | [_, _, _, _], _ => rfl
  have F18 := fun_mk (st := s_Machine_sides_of) l18 c18 k18
  have b18 := F18.binds (ps := ["self", "node"]) fun _ _ _ _ _ _ us hl => match us, hl with | [_, _], _ => rfl
  have F19 := fun_mk (st := s_Machine_next_part) l19 c19 k19
  have b19 := F19.binds (ps := ["self", "node", "env", "done", "rest"]) fun _ _ _ _ _ _ us hl => match us, hl with | [_, _, _, _, _], _ => rfl
  have F20 := fun_mk (st := s_Machine_perform) l20 c20 k20
  have b20 := F20.binds (ps := ["self", "node", "env", "done", "rest"]) fun _ _ _ _ _ _ us hl => match us, hl with | [_, _, _, _, _], _ => rfl
  have F21 := fun_mk (st := s_Machine_call_fn) l21 c21 k21
  have b21 := F21.binds (ps := ["self", "node", "done", "rest"]) fun _ _ _ _ _ _ us hl => match us, hl with | [_, _, _, _], _ => rfl
  have F22 := fun_mk (st := s_Machine_go_case) l22 c22 k22
  have b22 := F22.binds (ps := ["self", "node", "env", "value", "rest"]) fun _ _ _ _ _ _ us hl => match us, hl with | [_, _, _, _, _], _ => rfl
  have F23 := fun_mk (st := s_Machine_go_match) l23 c23 k23
  have b23 := F23.binds (ps := ["self", "node", "env", "value", "rest"]) fun _ _ _ _ _ _ us hl => match us, hl with | [_, _, _, _, _], _ => rfl
  have F24 := fun_mk (st := s_Machine_go_rows) l24 c24 k24
  have b24 := F24.binds (ps := ["self", "task", "rest"]) fun _ _ _ _ _ _ us hl => match us, hl with | [_, _, _], _ => rfl
  have F25 := fun_mk (st := s_Machine_end_rows) l25 c25 k25
  have b25 := F25.binds (ps := ["self", "env", "then", "rest"]) fun _ _ _ _ _ _ us hl => match us, hl with | [_, _, _, _], _ => rfl
  have F26 := fun_mk (st := s_Machine_go_body) l26 c26 k26
  have b26 := F26.binds (ps := ["self", "row", "then", "rest"]) fun _ _ _ _ _ _ us hl => match us, hl with | [_, _, _, _], _ => rfl
  have F27 := fd_posI (st := s_run) l27 c27 k27 t27
  have b27 : Binds K _ ["program", "fuel"] [] := binds_all (FunD.binds1 (ps := ["program", "fuel"]) F27 2 1 (by decide) rfl fun _ _ _ _ _ _ _ us its hu hi => match us, its, hu, hi with | [_, _], [_], _, _ => ⟨_, rfl, rfl⟩)
  have bk27 := kb_mkD (ps := ["program", "fuel"]) (ks := ["fuel"]) (m := 1) F27 (by simp) rfl (by decide) fun _ _ _ _ _ _ _ us its ws hu hi hw => match us, its, ws, hu, hi, hw with | [_], [_], [_], _, _, _ => ⟨_, rfl, rfl⟩
  have bd27 : ∃ dus, Vals [.int (400)] dus ∧ Binds K _ ["program", "fuel"] dus := FunD.binds1 (ps := ["program", "fuel"]) F27 1 0 (by decide) rfl fun _ _ _ _ _ _ _ us its hu hi => match us, its, hu, hi with | [_], [_], _, _ => ⟨_, rfl, rfl⟩
  have F28 := fun_mk (st := s_hand) l28 c28 k28
  have b28 := F28.binds (ps := ["_law_script"]) fun _ _ _ _ _ _ us hl => match us, hl with | [_], _ => rfl
  have F29 := fun_mk (st := s_stirred) l29 c29 k29
  have b29 := F29.binds (ps := ["_law_number", "_law_turn"]) fun _ _ _ _ _ _ us hl => match us, hl with | [_, _], _ => rfl
  have F30 := fun_mk (st := s_take) l30 c30 k30
  have b30 := F30.binds (ps := ["_law_hand_here", "_law_many"]) fun _ _ _ _ _ _ us hl => match us, hl with | [_, _], _ => rfl
  have F31 := fun_mk (st := s_whole) l31 c31 k31
  have b31 := F31.binds (ps := ["_law_thing"]) fun _ _ _ _ _ _ us hl => match us, hl with | [_], _ => rfl
  have F32 := fun_mk (st := s_drawn_number) l32 c32 k32
  have b32 := F32.binds (ps := ["_law_hand_here"]) fun _ _ _ _ _ _ us hl => match us, hl with | [_], _ => rfl
  have F33 := fun_mk (st := s_is_node) l33 c33 k33
  have b33 := F33.binds (ps := ["_law_thing"]) fun _ _ _ _ _ _ us hl => match us, hl with | [_], _ => rfl
  have F34 := fun_mk (st := s_numbered) l34 c34 k34
  have b34 := F34.binds (ps := ["_law_thing", "_law_count", "_law_spots"]) fun _ _ _ _ _ _ us hl => match us, hl with | [_, _, _], _ => rfl
  have F35 := fun_mk (st := s_same) l35 c35 k35
  have b35 := F35.binds (ps := ["_law_left", "_law_right"]) fun _ _ _ _ _ _ us hl => match us, hl with | [_, _], _ => rfl
  have F36 := fun_mk (st := s_deep_down) l36 c36 k36
  have b36 := F36.binds (ps := ["_law_f", "_law_x", "_law_kind", "_law_step", "_law_base"]) fun _ _ _ _ _ _ us hl => match us, hl with | [_, _, _, _, _], _ => rfl
  have F37 := fun_mk (st := s_deep_value) l37 c37 k37
  have b37 := F37.binds (ps := ["_law_kind", "_law_count", "_law_step", "_law_base"]) fun _ _ _ _ _ _ us hl => match us, hl with | [_, _, _, _], _ => rfl
  have F38 := fun_mk (st := s_deep_program) l38 c38 k38
  have b38 := F38.binds (ps := ["_law_held", "_law_sides", "_law_first", "_law_count", "_law_base"]) fun _ _ _ _ _ _ us hl => match us, hl with | [_, _, _, _, _], _ => rfl
  have F39 := fun_mk (st := s_law) l39 c39 k39
  have b39 := F39.binds (ps := ["_law_script"]) fun _ _ _ _ _ _ us hl => match us, hl with | [_], _ => rfl
  have cPLAIN_WORDS : TopT K fc0 [.str "number", .str "truth", .str "fn", .str "name", .str "member"] := ⟨_, _, _, [.str "number", .str "truth", .str "fn", .str "name", .str "member"], y_PLAIN_WORDS, rfl, rfl, (by show 5 ≤ sizeLine; decide), .cons ⟨tc0_0, rfl⟩ (.cons ⟨tc0_1, rfl⟩ (.cons ⟨tc0_2, rfl⟩ (.cons ⟨tc0_3, rfl⟩ (.cons ⟨tc0_4, rfl⟩ (.nil))))), rfl, fun G => .cons (.str _) (.cons (.str _) (.cons (.str _) (.cons (.str _) (.cons (.str _) (.nil)))))⟩
  exact ⟨⟨C0, aC0, PySem.W.mg_of X G aC0, ⟨pg0, hd0, po0, sa0⟩, nf0_0, nf0_1, nf0_2, nf0_3, nf0_4, nf0_5, nf0_6, nf0_7, nf0_8,
    _, _, F0, PySem.W.mg_of X G a0, b0,
    _, _, F1, PySem.W.mg_of X G a1, b1,
    _, _, F2, PySem.W.mg_of X G a2, b2,
    _, _, F3, PySem.W.mg_of X G a3, b3,
    _, _, F4, PySem.W.mg_of X G a4, b4,
    _, _, F5, PySem.W.mg_of X G a5, b5,
    _, _, F6, PySem.W.mg_of X G a6, b6,
    _, _, F7, PySem.W.mg_of X G a7, b7,
    _, _, F8, PySem.W.mg_of X G a8, b8,
    _, _, F9, PySem.W.mg_of X G a9, b9,
    _, _, F10, ⟨mk0, a10, i10, kc0⟩, b10, bd10,
    _, _, F11, ⟨a11, i11, k11⟩, b11,
    _, _, F12, ⟨a12, i12, k12⟩, b12,
    _, _, F13, ⟨a13, i13, k13⟩, b13,
    _, _, F14, ⟨a14, i14, k14⟩, b14,
    _, _, F15, ⟨a15, i15, k15⟩, b15,
    _, _, F16, ⟨a16, i16, k16⟩, b16,
    _, _, F17, ⟨a17, i17, k17⟩, b17,
    _, _, F18, ⟨a18, i18, k18⟩, b18,
    _, _, F19, ⟨a19, i19, k19⟩, b19,
    _, _, F20, ⟨a20, i20, k20⟩, b20,
    _, _, F21, ⟨a21, i21, k21⟩, b21,
    _, _, F22, ⟨a22, i22, k22⟩, b22,
    _, _, F23, ⟨a23, i23, k23⟩, b23,
    _, _, F24, ⟨a24, i24, k24⟩, b24,
    _, _, F25, ⟨a25, i25, k25⟩, b25,
    _, _, F26, ⟨a26, i26, k26⟩, b26,
    _, _, F27, PySem.W.mg_of X G a27, b27, bd27, bk27,
    _, _, F28, PySem.W.mg_of X G a28, b28,
    _, _, F29, PySem.W.mg_of X G a29, b29,
    _, _, F30, PySem.W.mg_of X G a30, b30,
    _, _, F31, PySem.W.mg_of X G a31, b31,
    _, _, F32, PySem.W.mg_of X G a32, b32,
    _, _, F33, PySem.W.mg_of X G a33, b33,
    _, _, F34, PySem.W.mg_of X G a34, b34,
    _, _, F35, PySem.W.mg_of X G a35, b35,
    _, _, F36, PySem.W.mg_of X G a36, b36,
    _, _, F37, PySem.W.mg_of X G a37, b37,
    _, _, F38, PySem.W.mg_of X G a38, b38,
    _, _, F39, PySem.W.mg_of X G a39, b39,
    PySem.W.mg_none_of X G z_ValueError,
    PySem.W.mg_none_of X G z_abs,
    PySem.W.mg_none_of X G z_all,
    PySem.W.mg_none_of X G z_bool,
    PySem.W.mg_none_of X G z_dict,
    PySem.W.mg_none_of X G z_int,
    PySem.W.mg_none_of X G z_isinstance,
    PySem.W.mg_none_of X G z_len,
    PySem.W.mg_none_of X G z_list,
    PySem.W.mg_none_of X G z_min,
    PySem.W.mg_none_of X G z_range,
    PySem.W.mg_none_of X G z_sorted,
    PySem.W.mg_none_of X G z_str,
    PySem.W.mg_none_of X G z_tuple,
    PySem.W.mg_none_of X G z_zip,
    _, PySem.W.mg_of X G xi_DEEPEST,
    _, PySem.W.mg_of X G x_PLAIN_WORDS, cPLAIN_WORDS⟩, rfl, fun s v => .of_eq rfl⟩
theorem all_mk {P : Program} {w : World} {K : PySem.W.Frag} {h : Heap} {mg : Str → Option Value} {fa : Addr} (X : K.In h) (G : h.Ns mainGlobals mg) (hfa : mg "law" = some (.ref fa))
    {C0 : Addr} (aC0 : PySem.W.nsIn K mainGlobals "Machine" = some (some (.ref C0))) (pg0 : PySem.W.plainGet K C0 Str.empty = true) (hd0 : PySem.W.hasDictIn K C0 = true) (po0 : PySem.W.plainOver K C0 = true) (sa0 : PySem.W.findIn K (.ref C0) "__setattr__" = some (some (.builtin "object.__setattr__"))) (mk0 : PySem.W.makesIn K C0 = true) (kc0 : PySem.W.keepIn K (.ref C0) = true)
    (nf0_0 : PySem.W.findIn K (.ref C0) "program" = some none) (nf0_1 : PySem.W.findIn K (.ref C0) "fuel" = some none) (nf0_2 : PySem.W.findIn K (.ref C0) "outcome" = some none) (nf0_3 : PySem.W.findIn K (.ref C0) "waiting" = some none) (nf0_4 : PySem.W.findIn K (.ref C0) "decided" = some none) (nf0_5 : PySem.W.findIn K (.ref C0) "calls" = some none) (nf0_6 : PySem.W.findIn K (.ref C0) "cells" = some none) (nf0_7 : PySem.W.findIn K (.ref C0) "value" = some none) (nf0_8 : PySem.W.findIn K (.ref C0) "pile" = some none)
    {f0 : Addr} {od0 an0 : Option Addr} {sl0 : Array (Option Value)} {oc0 kV0 dc0 pm0 cd0 ct0 : Value}
    (a0 : PySem.W.nsIn K mainGlobals "looked_up" = some (some (.ref f0))) (l0 : K.lookup f0 = some ⟨oc0, od0, .func (PySem.W.fnOf "looked_up" "looked_up" (defArgs s_looked_up) (defBody s_looked_up) (defScope s_looked_up) .none kV0 dc0 pm0 an0 cd0 ct0), sl0⟩) (c0 : PySem.W.codeIn K cd0 "looked_up" = true) (k0 : PySem.W.keepIn K (.ref f0) = true)
    {f1 : Addr} {od1 an1 : Option Addr} {sl1 : Array (Option Value)} {oc1 kV1 dc1 pm1 cd1 ct1 : Value}
    (a1 : PySem.W.nsIn K mainGlobals "group_bound" = some (some (.ref f1))) (l1 : K.lookup f1 = some ⟨oc1, od1, .func (PySem.W.fnOf "group_bound" "group_bound" (defArgs s_group_bound) (defBody s_group_bound) (defScope s_group_bound) .none kV1 dc1 pm1 an1 cd1 ct1), sl1⟩) (c1 : PySem.W.codeIn K cd1 "group_bound" = true) (k1 : PySem.W.keepIn K (.ref f1) = true)
    {f2 : Addr} {od2 an2 : Option Addr} {sl2 : Array (Option Value)} {oc2 kV2 dc2 pm2 cd2 ct2 : Value}
    (a2 : PySem.W.nsIn K mainGlobals "struct_values" = some (some (.ref f2))) (l2 : K.lookup f2 = some ⟨oc2, od2, .func (PySem.W.fnOf "struct_values" "struct_values" (defArgs s_struct_values) (defBody s_struct_values) (defScope s_struct_values) .none kV2 dc2 pm2 an2 cd2 ct2), sl2⟩) (c2 : PySem.W.codeIn K cd2 "struct_values" = true) (k2 : PySem.W.keepIn K (.ref f2) = true)
    {f3 : Addr} {od3 an3 : Option Addr} {sl3 : Array (Option Value)} {oc3 kV3 dc3 pm3 cd3 ct3 : Value}
    (a3 : PySem.W.nsIn K mainGlobals "parts_of" = some (some (.ref f3))) (l3 : K.lookup f3 = some ⟨oc3, od3, .func (PySem.W.fnOf "parts_of" "parts_of" (defArgs s_parts_of) (defBody s_parts_of) (defScope s_parts_of) .none kV3 dc3 pm3 an3 cd3 ct3), sl3⟩) (c3 : PySem.W.codeIn K cd3 "parts_of" = true) (k3 : PySem.W.keepIn K (.ref f3) = true)
    {f4 : Addr} {od4 an4 : Option Addr} {sl4 : Array (Option Value)} {oc4 kV4 dc4 pm4 cd4 ct4 : Value}
    (a4 : PySem.W.nsIn K mainGlobals "plain_value" = some (some (.ref f4))) (l4 : K.lookup f4 = some ⟨oc4, od4, .func (PySem.W.fnOf "plain_value" "plain_value" (defArgs s_plain_value) (defBody s_plain_value) (defScope s_plain_value) .none kV4 dc4 pm4 an4 cd4 ct4), sl4⟩) (c4 : PySem.W.codeIn K cd4 "plain_value" = true) (k4 : PySem.W.keepIn K (.ref f4) = true)
    {f5 : Addr} {od5 an5 : Option Addr} {sl5 : Array (Option Value)} {oc5 kV5 dc5 pm5 cd5 ct5 : Value}
    (a5 : PySem.W.nsIn K mainGlobals "op_value" = some (some (.ref f5))) (l5 : K.lookup f5 = some ⟨oc5, od5, .func (PySem.W.fnOf "op_value" "op_value" (defArgs s_op_value) (defBody s_op_value) (defScope s_op_value) .none kV5 dc5 pm5 an5 cd5 ct5), sl5⟩) (c5 : PySem.W.codeIn K cd5 "op_value" = true) (k5 : PySem.W.keepIn K (.ref f5) = true)
    {f6 : Addr} {od6 an6 : Option Addr} {sl6 : Array (Option Value)} {oc6 kV6 dc6 pm6 cd6 ct6 : Value}
    (a6 : PySem.W.nsIn K mainGlobals "record_value" = some (some (.ref f6))) (l6 : K.lookup f6 = some ⟨oc6, od6, .func (PySem.W.fnOf "record_value" "record_value" (defArgs s_record_value) (defBody s_record_value) (defScope s_record_value) .none kV6 dc6 pm6 an6 cd6 ct6), sl6⟩) (c6 : PySem.W.codeIn K cd6 "record_value" = true) (k6 : PySem.W.keepIn K (.ref f6) = true)
    {f7 : Addr} {od7 an7 : Option Addr} {sl7 : Array (Option Value)} {oc7 kV7 dc7 pm7 cd7 ct7 : Value}
    (a7 : PySem.W.nsIn K mainGlobals "field_value" = some (some (.ref f7))) (l7 : K.lookup f7 = some ⟨oc7, od7, .func (PySem.W.fnOf "field_value" "field_value" (defArgs s_field_value) (defBody s_field_value) (defScope s_field_value) .none kV7 dc7 pm7 an7 cd7 ct7), sl7⟩) (c7 : PySem.W.codeIn K cd7 "field_value" = true) (k7 : PySem.W.keepIn K (.ref f7) = true)
    {f8 : Addr} {od8 an8 : Option Addr} {sl8 : Array (Option Value)} {oc8 kV8 dc8 pm8 cd8 ct8 : Value}
    (a8 : PySem.W.nsIn K mainGlobals "made_value" = some (some (.ref f8))) (l8 : K.lookup f8 = some ⟨oc8, od8, .func (PySem.W.fnOf "made_value" "made_value" (defArgs s_made_value) (defBody s_made_value) (defScope s_made_value) .none kV8 dc8 pm8 an8 cd8 ct8), sl8⟩) (c8 : PySem.W.codeIn K cd8 "made_value" = true) (k8 : PySem.W.keepIn K (.ref f8) = true)
    {f9 : Addr} {od9 an9 : Option Addr} {sl9 : Array (Option Value)} {oc9 kV9 dc9 pm9 cd9 ct9 : Value}
    (a9 : PySem.W.nsIn K mainGlobals "told_value" = some (some (.ref f9))) (l9 : K.lookup f9 = some ⟨oc9, od9, .func (PySem.W.fnOf "told_value" "told_value" (defArgs s_told_value) (defBody s_told_value) (defScope s_told_value) .none kV9 dc9 pm9 an9 cd9 ct9), sl9⟩) (c9 : PySem.W.codeIn K cd9 "told_value" = true) (k9 : PySem.W.keepIn K (.ref f9) = true)
    {f10 : Addr} {od10 an10 : Option Addr} {sl10 : Array (Option Value)} {oc10 kV10 dc10 pm10 cd10 ct10 : Value}
    {tT10 : Tok}    {T10 : Addr} {nT10 : Nat} {slT10 : Array (Option Value)}    (a10 : PySem.W.findIn K (.ref C0) "__init__" = some (some (.ref f10))) (i10 : PySem.W.isFn K (.ref f10) = true) (l10 : K.lookup f10 = some ⟨oc10, od10, .func (PySem.W.fnOf "__init__" "Machine.__init__" (defArgs s_Machine___init__) (defBody s_Machine___init__) (defScope s_Machine___init__) (.ref T10) kV10 dc10 pm10 an10 cd10 ct10), sl10⟩) (c10 : PySem.W.codeIn K cd10 "Machine.__init__" = true) (k10 : PySem.W.keepIn K (.ref f10) = true) (t10 : K.lookup T10 = some ⟨.type "tuple", none, .seq #[.int (400) tT10] nT10, slT10⟩)
    {f11 : Addr} {od11 an11 : Option Addr} {sl11 : Array (Option Value)} {oc11 kV11 dc11 pm11 cd11 ct11 : Value}
    (a11 : PySem.W.findIn K (.ref C0) "advance" = some (some (.ref f11))) (i11 : PySem.W.isFn K (.ref f11) = true) (l11 : K.lookup f11 = some ⟨oc11, od11, .func (PySem.W.fnOf "advance" "Machine.advance" (defArgs s_Machine_advance) (defBody s_Machine_advance) (defScope s_Machine_advance) .none kV11 dc11 pm11 an11 cd11 ct11), sl11⟩) (c11 : PySem.W.codeIn K cd11 "Machine.advance" = true) (k11 : PySem.W.keepIn K (.ref f11) = true)
    {f12 : Addr} {od12 an12 : Option Addr} {sl12 : Array (Option Value)} {oc12 kV12 dc12 pm12 cd12 ct12 : Value}
    (a12 : PySem.W.findIn K (.ref C0) "step_on" = some (some (.ref f12))) (i12 : PySem.W.isFn K (.ref f12) = true) (l12 : K.lookup f12 = some ⟨oc12, od12, .func (PySem.W.fnOf "step_on" "Machine.step_on" (defArgs s_Machine_step_on) (defBody s_Machine_step_on) (defScope s_Machine_step_on) .none kV12 dc12 pm12 an12 cd12 ct12), sl12⟩) (c12 : PySem.W.codeIn K cd12 "Machine.step_on" = true) (k12 : PySem.W.keepIn K (.ref f12) = true)
    {f13 : Addr} {od13 an13 : Option Addr} {sl13 : Array (Option Value)} {oc13 kV13 dc13 pm13 cd13 ct13 : Value}
    (a13 : PySem.W.findIn K (.ref C0) "asked" = some (some (.ref f13))) (i13 : PySem.W.isFn K (.ref f13) = true) (l13 : K.lookup f13 = some ⟨oc13, od13, .func (PySem.W.fnOf "asked" "Machine.asked" (defArgs s_Machine_asked) (defBody s_Machine_asked) (defScope s_Machine_asked) .none kV13 dc13 pm13 an13 cd13 ct13), sl13⟩) (c13 : PySem.W.codeIn K cd13 "Machine.asked" = true) (k13 : PySem.W.keepIn K (.ref f13) = true)
    {f14 : Addr} {od14 an14 : Option Addr} {sl14 : Array (Option Value)} {oc14 kV14 dc14 pm14 cd14 ct14 : Value}
    (a14 : PySem.W.findIn K (.ref C0) "stop_stuck" = some (some (.ref f14))) (i14 : PySem.W.isFn K (.ref f14) = true) (l14 : K.lookup f14 = some ⟨oc14, od14, .func (PySem.W.fnOf "stop_stuck" "Machine.stop_stuck" (defArgs s_Machine_stop_stuck) (defBody s_Machine_stop_stuck) (defScope s_Machine_stop_stuck) .none kV14 dc14 pm14 an14 cd14 ct14), sl14⟩) (c14 : PySem.W.codeIn K cd14 "Machine.stop_stuck" = true) (k14 : PySem.W.keepIn K (.ref f14) = true)
    {f15 : Addr} {od15 an15 : Option Addr} {sl15 : Array (Option Value)} {oc15 kV15 dc15 pm15 cd15 ct15 : Value}
    (a15 : PySem.W.findIn K (.ref C0) "give" = some (some (.ref f15))) (i15 : PySem.W.isFn K (.ref f15) = true) (l15 : K.lookup f15 = some ⟨oc15, od15, .func (PySem.W.fnOf "give" "Machine.give" (defArgs s_Machine_give) (defBody s_Machine_give) (defScope s_Machine_give) .none kV15 dc15 pm15 an15 cd15 ct15), sl15⟩) (c15 : PySem.W.codeIn K cd15 "Machine.give" = true) (k15 : PySem.W.keepIn K (.ref f15) = true)
    {f16 : Addr} {od16 an16 : Option Addr} {sl16 : Array (Option Value)} {oc16 kV16 dc16 pm16 cd16 ct16 : Value}
    (a16 : PySem.W.findIn K (.ref C0) "go_on" = some (some (.ref f16))) (i16 : PySem.W.isFn K (.ref f16) = true) (l16 : K.lookup f16 = some ⟨oc16, od16, .func (PySem.W.fnOf "go_on" "Machine.go_on" (defArgs s_Machine_go_on) (defBody s_Machine_go_on) (defScope s_Machine_go_on) .none kV16 dc16 pm16 an16 cd16 ct16), sl16⟩) (c16 : PySem.W.codeIn K cd16 "Machine.go_on" = true) (k16 : PySem.W.keepIn K (.ref f16) = true)
    {f17 : Addr} {od17 an17 : Option Addr} {sl17 : Array (Option Value)} {oc17 kV17 dc17 pm17 cd17 ct17 : Value}
    (a17 : PySem.W.findIn K (.ref C0) "evaluate" = some (some (.ref f17))) (i17 : PySem.W.isFn K (.ref f17) = true) (l17 : K.lookup f17 = some ⟨oc17, od17, .func (PySem.W.fnOf "evaluate" "Machine.evaluate" (defArgs s_Machine_evaluate) (defBody s_Machine_evaluate) (defScope s_Machine_evaluate) .none kV17 dc17 pm17 an17 cd17 ct17), sl17⟩) (c17 : PySem.W.codeIn K cd17 "Machine.evaluate" = true) (k17 : PySem.W.keepIn K (.ref f17) = true)
    {f18 : Addr} {od18 an18 : Option Addr} {sl18 : Array (Option Value)} {oc18 kV18 dc18 pm18 cd18 ct18 : Value}
    (a18 : PySem.W.findIn K (.ref C0) "sides_of" = some (some (.ref f18))) (i18 : PySem.W.isFn K (.ref f18) = true) (l18 : K.lookup f18 = some ⟨oc18, od18, .func (PySem.W.fnOf "sides_of" "Machine.sides_of" (defArgs s_Machine_sides_of) (defBody s_Machine_sides_of) (defScope s_Machine_sides_of) .none kV18 dc18 pm18 an18 cd18 ct18), sl18⟩) (c18 : PySem.W.codeIn K cd18 "Machine.sides_of" = true) (k18 : PySem.W.keepIn K (.ref f18) = true)
    {f19 : Addr} {od19 an19 : Option Addr} {sl19 : Array (Option Value)} {oc19 kV19 dc19 pm19 cd19 ct19 : Value}
    (a19 : PySem.W.findIn K (.ref C0) "next_part" = some (some (.ref f19))) (i19 : PySem.W.isFn K (.ref f19) = true) (l19 : K.lookup f19 = some ⟨oc19, od19, .func (PySem.W.fnOf "next_part" "Machine.next_part" (defArgs s_Machine_next_part) (defBody s_Machine_next_part) (defScope s_Machine_next_part) .none kV19 dc19 pm19 an19 cd19 ct19), sl19⟩) (c19 : PySem.W.codeIn K cd19 "Machine.next_part" = true) (k19 : PySem.W.keepIn K (.ref f19) = true)
    {f20 : Addr} {od20 an20 : Option Addr} {sl20 : Array (Option Value)} {oc20 kV20 dc20 pm20 cd20 ct20 : Value}
    (a20 : PySem.W.findIn K (.ref C0) "perform" = some (some (.ref f20))) (i20 : PySem.W.isFn K (.ref f20) = true) (l20 : K.lookup f20 = some ⟨oc20, od20, .func (PySem.W.fnOf "perform" "Machine.perform" (defArgs s_Machine_perform) (defBody s_Machine_perform) (defScope s_Machine_perform) .none kV20 dc20 pm20 an20 cd20 ct20), sl20⟩) (c20 : PySem.W.codeIn K cd20 "Machine.perform" = true) (k20 : PySem.W.keepIn K (.ref f20) = true)
    {f21 : Addr} {od21 an21 : Option Addr} {sl21 : Array (Option Value)} {oc21 kV21 dc21 pm21 cd21 ct21 : Value}
    (a21 : PySem.W.findIn K (.ref C0) "call_fn" = some (some (.ref f21))) (i21 : PySem.W.isFn K (.ref f21) = true) (l21 : K.lookup f21 = some ⟨oc21, od21, .func (PySem.W.fnOf "call_fn" "Machine.call_fn" (defArgs s_Machine_call_fn) (defBody s_Machine_call_fn) (defScope s_Machine_call_fn) .none kV21 dc21 pm21 an21 cd21 ct21), sl21⟩) (c21 : PySem.W.codeIn K cd21 "Machine.call_fn" = true) (k21 : PySem.W.keepIn K (.ref f21) = true)
    {f22 : Addr} {od22 an22 : Option Addr} {sl22 : Array (Option Value)} {oc22 kV22 dc22 pm22 cd22 ct22 : Value}
    (a22 : PySem.W.findIn K (.ref C0) "go_case" = some (some (.ref f22))) (i22 : PySem.W.isFn K (.ref f22) = true) (l22 : K.lookup f22 = some ⟨oc22, od22, .func (PySem.W.fnOf "go_case" "Machine.go_case" (defArgs s_Machine_go_case) (defBody s_Machine_go_case) (defScope s_Machine_go_case) .none kV22 dc22 pm22 an22 cd22 ct22), sl22⟩) (c22 : PySem.W.codeIn K cd22 "Machine.go_case" = true) (k22 : PySem.W.keepIn K (.ref f22) = true)
    {f23 : Addr} {od23 an23 : Option Addr} {sl23 : Array (Option Value)} {oc23 kV23 dc23 pm23 cd23 ct23 : Value}
    (a23 : PySem.W.findIn K (.ref C0) "go_match" = some (some (.ref f23))) (i23 : PySem.W.isFn K (.ref f23) = true) (l23 : K.lookup f23 = some ⟨oc23, od23, .func (PySem.W.fnOf "go_match" "Machine.go_match" (defArgs s_Machine_go_match) (defBody s_Machine_go_match) (defScope s_Machine_go_match) .none kV23 dc23 pm23 an23 cd23 ct23), sl23⟩) (c23 : PySem.W.codeIn K cd23 "Machine.go_match" = true) (k23 : PySem.W.keepIn K (.ref f23) = true)
    {f24 : Addr} {od24 an24 : Option Addr} {sl24 : Array (Option Value)} {oc24 kV24 dc24 pm24 cd24 ct24 : Value}
    (a24 : PySem.W.findIn K (.ref C0) "go_rows" = some (some (.ref f24))) (i24 : PySem.W.isFn K (.ref f24) = true) (l24 : K.lookup f24 = some ⟨oc24, od24, .func (PySem.W.fnOf "go_rows" "Machine.go_rows" (defArgs s_Machine_go_rows) (defBody s_Machine_go_rows) (defScope s_Machine_go_rows) .none kV24 dc24 pm24 an24 cd24 ct24), sl24⟩) (c24 : PySem.W.codeIn K cd24 "Machine.go_rows" = true) (k24 : PySem.W.keepIn K (.ref f24) = true)
    {f25 : Addr} {od25 an25 : Option Addr} {sl25 : Array (Option Value)} {oc25 kV25 dc25 pm25 cd25 ct25 : Value}
    (a25 : PySem.W.findIn K (.ref C0) "end_rows" = some (some (.ref f25))) (i25 : PySem.W.isFn K (.ref f25) = true) (l25 : K.lookup f25 = some ⟨oc25, od25, .func (PySem.W.fnOf "end_rows" "Machine.end_rows" (defArgs s_Machine_end_rows) (defBody s_Machine_end_rows) (defScope s_Machine_end_rows) .none kV25 dc25 pm25 an25 cd25 ct25), sl25⟩) (c25 : PySem.W.codeIn K cd25 "Machine.end_rows" = true) (k25 : PySem.W.keepIn K (.ref f25) = true)
    {f26 : Addr} {od26 an26 : Option Addr} {sl26 : Array (Option Value)} {oc26 kV26 dc26 pm26 cd26 ct26 : Value}
    (a26 : PySem.W.findIn K (.ref C0) "go_body" = some (some (.ref f26))) (i26 : PySem.W.isFn K (.ref f26) = true) (l26 : K.lookup f26 = some ⟨oc26, od26, .func (PySem.W.fnOf "go_body" "Machine.go_body" (defArgs s_Machine_go_body) (defBody s_Machine_go_body) (defScope s_Machine_go_body) .none kV26 dc26 pm26 an26 cd26 ct26), sl26⟩) (c26 : PySem.W.codeIn K cd26 "Machine.go_body" = true) (k26 : PySem.W.keepIn K (.ref f26) = true)
    {f27 : Addr} {od27 an27 : Option Addr} {sl27 : Array (Option Value)} {oc27 kV27 dc27 pm27 cd27 ct27 : Value}
    {tT27 : Tok}    {T27 : Addr} {nT27 : Nat} {slT27 : Array (Option Value)}    (a27 : PySem.W.nsIn K mainGlobals "run" = some (some (.ref f27))) (l27 : K.lookup f27 = some ⟨oc27, od27, .func (PySem.W.fnOf "run" "run" (defArgs s_run) (defBody s_run) (defScope s_run) (.ref T27) kV27 dc27 pm27 an27 cd27 ct27), sl27⟩) (c27 : PySem.W.codeIn K cd27 "run" = true) (k27 : PySem.W.keepIn K (.ref f27) = true) (t27 : K.lookup T27 = some ⟨.type "tuple", none, .seq #[.int (400) tT27] nT27, slT27⟩)
    {f28 : Addr} {od28 an28 : Option Addr} {sl28 : Array (Option Value)} {oc28 kV28 dc28 pm28 cd28 ct28 : Value}
    (a28 : PySem.W.nsIn K mainGlobals "_law_hand" = some (some (.ref f28))) (l28 : K.lookup f28 = some ⟨oc28, od28, .func (PySem.W.fnOf "_law_hand" "_law_hand" (defArgs s_hand) (defBody s_hand) (defScope s_hand) .none kV28 dc28 pm28 an28 cd28 ct28), sl28⟩) (c28 : PySem.W.codeIn K cd28 "_law_hand" = true) (k28 : PySem.W.keepIn K (.ref f28) = true)
    {f29 : Addr} {od29 an29 : Option Addr} {sl29 : Array (Option Value)} {oc29 kV29 dc29 pm29 cd29 ct29 : Value}
    (a29 : PySem.W.nsIn K mainGlobals "_law_stirred" = some (some (.ref f29))) (l29 : K.lookup f29 = some ⟨oc29, od29, .func (PySem.W.fnOf "_law_stirred" "_law_stirred" (defArgs s_stirred) (defBody s_stirred) (defScope s_stirred) .none kV29 dc29 pm29 an29 cd29 ct29), sl29⟩) (c29 : PySem.W.codeIn K cd29 "_law_stirred" = true) (k29 : PySem.W.keepIn K (.ref f29) = true)
    {f30 : Addr} {od30 an30 : Option Addr} {sl30 : Array (Option Value)} {oc30 kV30 dc30 pm30 cd30 ct30 : Value}
    (a30 : PySem.W.nsIn K mainGlobals "_law_take" = some (some (.ref f30))) (l30 : K.lookup f30 = some ⟨oc30, od30, .func (PySem.W.fnOf "_law_take" "_law_take" (defArgs s_take) (defBody s_take) (defScope s_take) .none kV30 dc30 pm30 an30 cd30 ct30), sl30⟩) (c30 : PySem.W.codeIn K cd30 "_law_take" = true) (k30 : PySem.W.keepIn K (.ref f30) = true)
    {f31 : Addr} {od31 an31 : Option Addr} {sl31 : Array (Option Value)} {oc31 kV31 dc31 pm31 cd31 ct31 : Value}
    (a31 : PySem.W.nsIn K mainGlobals "_law_whole" = some (some (.ref f31))) (l31 : K.lookup f31 = some ⟨oc31, od31, .func (PySem.W.fnOf "_law_whole" "_law_whole" (defArgs s_whole) (defBody s_whole) (defScope s_whole) .none kV31 dc31 pm31 an31 cd31 ct31), sl31⟩) (c31 : PySem.W.codeIn K cd31 "_law_whole" = true) (k31 : PySem.W.keepIn K (.ref f31) = true)
    {f32 : Addr} {od32 an32 : Option Addr} {sl32 : Array (Option Value)} {oc32 kV32 dc32 pm32 cd32 ct32 : Value}
    (a32 : PySem.W.nsIn K mainGlobals "_law_drawn_number" = some (some (.ref f32))) (l32 : K.lookup f32 = some ⟨oc32, od32, .func (PySem.W.fnOf "_law_drawn_number" "_law_drawn_number" (defArgs s_drawn_number) (defBody s_drawn_number) (defScope s_drawn_number) .none kV32 dc32 pm32 an32 cd32 ct32), sl32⟩) (c32 : PySem.W.codeIn K cd32 "_law_drawn_number" = true) (k32 : PySem.W.keepIn K (.ref f32) = true)
    {f33 : Addr} {od33 an33 : Option Addr} {sl33 : Array (Option Value)} {oc33 kV33 dc33 pm33 cd33 ct33 : Value}
    (a33 : PySem.W.nsIn K mainGlobals "_law_is_node" = some (some (.ref f33))) (l33 : K.lookup f33 = some ⟨oc33, od33, .func (PySem.W.fnOf "_law_is_node" "_law_is_node" (defArgs s_is_node) (defBody s_is_node) (defScope s_is_node) .none kV33 dc33 pm33 an33 cd33 ct33), sl33⟩) (c33 : PySem.W.codeIn K cd33 "_law_is_node" = true) (k33 : PySem.W.keepIn K (.ref f33) = true)
    {f34 : Addr} {od34 an34 : Option Addr} {sl34 : Array (Option Value)} {oc34 kV34 dc34 pm34 cd34 ct34 : Value}
    (a34 : PySem.W.nsIn K mainGlobals "_law_numbered" = some (some (.ref f34))) (l34 : K.lookup f34 = some ⟨oc34, od34, .func (PySem.W.fnOf "_law_numbered" "_law_numbered" (defArgs s_numbered) (defBody s_numbered) (defScope s_numbered) .none kV34 dc34 pm34 an34 cd34 ct34), sl34⟩) (c34 : PySem.W.codeIn K cd34 "_law_numbered" = true) (k34 : PySem.W.keepIn K (.ref f34) = true)
    {f35 : Addr} {od35 an35 : Option Addr} {sl35 : Array (Option Value)} {oc35 kV35 dc35 pm35 cd35 ct35 : Value}
    (a35 : PySem.W.nsIn K mainGlobals "_law_same" = some (some (.ref f35))) (l35 : K.lookup f35 = some ⟨oc35, od35, .func (PySem.W.fnOf "_law_same" "_law_same" (defArgs s_same) (defBody s_same) (defScope s_same) .none kV35 dc35 pm35 an35 cd35 ct35), sl35⟩) (c35 : PySem.W.codeIn K cd35 "_law_same" = true) (k35 : PySem.W.keepIn K (.ref f35) = true)
    {f36 : Addr} {od36 an36 : Option Addr} {sl36 : Array (Option Value)} {oc36 kV36 dc36 pm36 cd36 ct36 : Value}
    (a36 : PySem.W.nsIn K mainGlobals "_law_deep_down" = some (some (.ref f36))) (l36 : K.lookup f36 = some ⟨oc36, od36, .func (PySem.W.fnOf "_law_deep_down" "_law_deep_down" (defArgs s_deep_down) (defBody s_deep_down) (defScope s_deep_down) .none kV36 dc36 pm36 an36 cd36 ct36), sl36⟩) (c36 : PySem.W.codeIn K cd36 "_law_deep_down" = true) (k36 : PySem.W.keepIn K (.ref f36) = true)
    {f37 : Addr} {od37 an37 : Option Addr} {sl37 : Array (Option Value)} {oc37 kV37 dc37 pm37 cd37 ct37 : Value}
    (a37 : PySem.W.nsIn K mainGlobals "_law_deep_value" = some (some (.ref f37))) (l37 : K.lookup f37 = some ⟨oc37, od37, .func (PySem.W.fnOf "_law_deep_value" "_law_deep_value" (defArgs s_deep_value) (defBody s_deep_value) (defScope s_deep_value) .none kV37 dc37 pm37 an37 cd37 ct37), sl37⟩) (c37 : PySem.W.codeIn K cd37 "_law_deep_value" = true) (k37 : PySem.W.keepIn K (.ref f37) = true)
    {f38 : Addr} {od38 an38 : Option Addr} {sl38 : Array (Option Value)} {oc38 kV38 dc38 pm38 cd38 ct38 : Value}
    (a38 : PySem.W.nsIn K mainGlobals "_law_deep_program" = some (some (.ref f38))) (l38 : K.lookup f38 = some ⟨oc38, od38, .func (PySem.W.fnOf "_law_deep_program" "_law_deep_program" (defArgs s_deep_program) (defBody s_deep_program) (defScope s_deep_program) .none kV38 dc38 pm38 an38 cd38 ct38), sl38⟩) (c38 : PySem.W.codeIn K cd38 "_law_deep_program" = true) (k38 : PySem.W.keepIn K (.ref f38) = true)
    {f39 : Addr} {od39 an39 : Option Addr} {sl39 : Array (Option Value)} {oc39 kV39 dc39 pm39 cd39 ct39 : Value}
    (a39 : PySem.W.nsIn K mainGlobals "law" = some (some (.ref f39))) (l39 : K.lookup f39 = some ⟨oc39, od39, .func (PySem.W.fnOf "law" "law" (defArgs s_law) (defBody s_law) (defScope s_law) .none kV39 dc39 pm39 an39 cd39 ct39), sl39⟩) (c39 : PySem.W.codeIn K cd39 "law" = true) (k39 : PySem.W.keepIn K (.ref f39) = true)
    (z_ValueError : PySem.W.nsIn K mainGlobals "ValueError" = some none)
    (z_abs : PySem.W.nsIn K mainGlobals "abs" = some none)
    (z_all : PySem.W.nsIn K mainGlobals "all" = some none)
    (z_bool : PySem.W.nsIn K mainGlobals "bool" = some none)
    (z_dict : PySem.W.nsIn K mainGlobals "dict" = some none)
    (z_int : PySem.W.nsIn K mainGlobals "int" = some none)
    (z_isinstance : PySem.W.nsIn K mainGlobals "isinstance" = some none)
    (z_len : PySem.W.nsIn K mainGlobals "len" = some none)
    (z_list : PySem.W.nsIn K mainGlobals "list" = some none)
    (z_min : PySem.W.nsIn K mainGlobals "min" = some none)
    (z_range : PySem.W.nsIn K mainGlobals "range" = some none)
    (z_sorted : PySem.W.nsIn K mainGlobals "sorted" = some none)
    (z_str : PySem.W.nsIn K mainGlobals "str" = some none)
    (z_tuple : PySem.W.nsIn K mainGlobals "tuple" = some none)
    (z_zip : PySem.W.nsIn K mainGlobals "zip" = some none)
    {ti0 : Tok} (xi_DEEPEST : PySem.W.nsIn K mainGlobals "DEEPEST" = some (some (.int 6 ti0)))
    {fc0 : Addr} {tc0_0 tc0_1 tc0_2 tc0_3 tc0_4 : Tok} {nc0 : Nat} {sc0 : Array (Option Value)}
    (x_PLAIN_WORDS : PySem.W.nsIn K mainGlobals "PLAIN_WORDS" = some (some (.ref fc0))) (y_PLAIN_WORDS : K.lookup fc0 = some ⟨.type "tuple", none, .seq #[.str "number" tc0_0, .str "truth" tc0_1, .str "fn" tc0_2, .str "name" tc0_3, .str "member" tc0_4] nc0, sc0⟩)
    : ∃ fd : FuncData, (∀ (s : Shared) (v : Value), BindsTo s fd ⟨[v], []⟩ [("_law_script", v)]) ∧ ∀ base : Heap, K.In base → base.Ns mainGlobals mg → FnOk P w K mg base CX0 24 fa fd ["_law_script"] (spLaw3 K) := by
  obtain ⟨T, e, hb⟩ := tp_mk X G hfa aC0 pg0 hd0 po0 sa0 mk0 kc0 nf0_0 nf0_1 nf0_2 nf0_3 nf0_4 nf0_5 nf0_6 nf0_7 nf0_8 a0 l0 c0 k0 a1 l1 c1 k1 a2 l2 c2 k2 a3 l3 c3 k3 a4 l4 c4 k4 a5 l5 c5 k5 a6 l6 c6 k6 a7 l7 c7 k7 a8 l8 c8 k8 a9 l9 c9 k9 a10 i10 l10 c10 k10 t10 a11 i11 l11 c11 k11 a12 i12 l12 c12 k12 a13 i13 l13 c13 k13 a14 i14 l14 c14 k14 a15 i15 l15 c15 k15 a16 i16 l16 c16 k16 a17 i17 l17 c17 k17 a18 i18 l18 c18 k18 a19 i19 l19 c19 k19 a20 i20 l20 c20 k20 a21 i21 l21 c21 k21 a22 i22 l22 c22 k22 a23 i23 l23 c23 k23 a24 i24 l24 c24 k24 a25 i25 l25 c25 k25 a26 i26 l26 c26 k26 a27 l27 c27 k27 t27 a28 l28 c28 k28 a29 l29 c29 k29 a30 l30 c30 k30 a31 l31 c31 k31 a32 l32 c32 k32 a33 l33 c33 k33 a34 l34 c34 k34 a35 l35 c35 k35 a36 l36 c36 k36 a37 l37 c37 k37 a38 l38 c38 k38 a39 l39 c39 k39 z_ValueError z_abs z_all z_bool z_dict z_int z_isinstance z_len z_list z_min z_range z_sorted z_str z_tuple z_zip xi_DEEPEST x_PLAIN_WORDS y_PLAIN_WORDS
  subst e
  exact ⟨T.d_law, hb, fun base _ _ => ok_law T law52⟩
end
end EA
open PySem PySem.W PyProof.Rows
set_option maxRecDepth 100000 in
set_option maxHeartbeats 0 in
theorem PySem.Challenge.cw_eacharm_k52_whole_nested_calls_and_fuel_holds : PySem.Challenge.rw_eacharm_k52_whole_nested_calls_and_fuel.Holds := by
  w_on; o_law; k_head; (case hw => w_witness2)
  k_fill
  refine L2.walk_of (l := PySem.Challenge.rw_eacharm_k52_whole_nested_calls_and_fuel) (n := 63) (k := 24) (x := "_law_script") (CX := fun _ => L2.CX0) (sp := fun w => EA.spLaw3 _) rfl (by decide) rfl ⟨rfl, by decide, by decide⟩ (fun w h Y => PySem.W.kIn_of Y) ?F (fun _ _ a ns hl _ hS => ⟨a, ns, rfl, hS, hl, fun _ => rfl⟩) (fun _ _ _ _ _ h => h)
  case F =>
    intro w mg fa h KX G hmg
    refine' EA.all_mk KX G hmg ?aC0 ?pg0 ?hd0 ?po0 ?sa0 ?mk0 ?kc0 ?nf0_0 ?nf0_1 ?nf0_2 ?nf0_3 ?nf0_4 ?nf0_5 ?nf0_6 ?nf0_7 ?nf0_8 ?a0 ?l0 ?c0 ?k0 ?a1 ?l1 ?c1 ?k1 ?a2 ?l2 ?c2 ?k2 ?a3 ?l3 ?c3 ?k3 ?a4 ?l4 ?c4 ?k4 ?a5 ?l5 ?c5 ?k5 ?a6 ?l6 ?c6 ?k6 ?a7 ?l7 ?c7 ?k7 ?a8 ?l8 ?c8 ?k8 ?a9 ?l9 ?c9 ?k9 ?a10 ?i10 ?l10 ?c10 ?k10 ?t10 ?a11 ?i11 ?l11 ?c11 ?k11 ?a12 ?i12 ?l12 ?c12 ?k12 ?a13 ?i13 ?l13 ?c13 ?k13 ?a14 ?i14 ?l14 ?c14 ?k14 ?a15 ?i15 ?l15 ?c15 ?k15 ?a16 ?i16 ?l16 ?c16 ?k16 ?a17 ?i17 ?l17 ?c17 ?k17 ?a18 ?i18 ?l18 ?c18 ?k18 ?a19 ?i19 ?l19 ?c19 ?k19 ?a20 ?i20 ?l20 ?c20 ?k20 ?a21 ?i21 ?l21 ?c21 ?k21 ?a22 ?i22 ?l22 ?c22 ?k22 ?a23 ?i23 ?l23 ?c23 ?k23 ?a24 ?i24 ?l24 ?c24 ?k24 ?a25 ?i25 ?l25 ?c25 ?k25 ?a26 ?i26 ?l26 ?c26 ?k26 ?a27 ?l27 ?c27 ?k27 ?t27 ?a28 ?l28 ?c28 ?k28 ?a29 ?l29 ?c29 ?k29 ?a30 ?l30 ?c30 ?k30 ?a31 ?l31 ?c31 ?k31 ?a32 ?l32 ?c32 ?k32 ?a33 ?l33 ?c33 ?k33 ?a34 ?l34 ?c34 ?k34 ?a35 ?l35 ?c35 ?k35 ?a36 ?l36 ?c36 ?k36 ?a37 ?l37 ?c37 ?k37 ?a38 ?l38 ?c38 ?k38 ?a39 ?l39 ?c39 ?k39 ?z_ValueError ?z_abs ?z_all ?z_bool ?z_dict ?z_int ?z_isinstance ?z_len ?z_list ?z_min ?z_range ?z_sorted ?z_str ?z_tuple ?z_zip ?xi_DEEPEST ?x_PLAIN_WORDS ?y_PLAIN_WORDS
    (case aC0 => k_is)
    (case pg0 => k_is)
    (case hd0 => k_is)
    (case po0 => k_is)
    (case sa0 => k_is)
    (case mk0 => k_is)
    (case kc0 => k_is)
    (case nf0_0 => k_is)
    (case nf0_1 => k_is)
    (case nf0_2 => k_is)
    (case nf0_3 => k_is)
    (case nf0_4 => k_is)
    (case nf0_5 => k_is)
    (case nf0_6 => k_is)
    (case nf0_7 => k_is)
    (case nf0_8 => k_is)
    (case a0 => k_is)
    (case l0 => k_is)
    (case c0 => k_is)
    (case k0 => k_is)
    (case a1 => k_is)
    (case l1 => k_is)
    (case c1 => k_is)
    (case k1 => k_is)
    (case a2 => k_is)
    (case l2 => k_is)
    (case c2 => k_is)
    (case k2 => k_is)
    (case a3 => k_is)
    (case l3 => k_is)
    (case c3 => k_is)
    (case k3 => k_is)
    (case a4 => k_is)
    (case l4 => k_is)
    (case c4 => k_is)
    (case k4 => k_is)
    (case a5 => k_is)
    (case l5 => k_is)
    (case c5 => k_is)
    (case k5 => k_is)
    (case a6 => k_is)
    (case l6 => k_is)
    (case c6 => k_is)
    (case k6 => k_is)
    (case a7 => k_is)
    (case l7 => k_is)
    (case c7 => k_is)
    (case k7 => k_is)
    (case a8 => k_is)
    (case l8 => k_is)
    (case c8 => k_is)
    (case k8 => k_is)
    (case a9 => k_is)
    (case l9 => k_is)
    (case c9 => k_is)
    (case k9 => k_is)
    (case a10 => k_is)
    (case i10 => k_is)
    (case l10 => k_is)
    (case c10 => k_is)
    (case k10 => k_is)
    (case t10 => k_is)
    (case a11 => k_is)
    (case i11 => k_is)
    (case l11 => k_is)
    (case c11 => k_is)
    (case k11 => k_is)
    (case a12 => k_is)
    (case i12 => k_is)
    (case l12 => k_is)
    (case c12 => k_is)
    (case k12 => k_is)
    (case a13 => k_is)
    (case i13 => k_is)
    (case l13 => k_is)
    (case c13 => k_is)
    (case k13 => k_is)
    (case a14 => k_is)
    (case i14 => k_is)
    (case l14 => k_is)
    (case c14 => k_is)
    (case k14 => k_is)
    (case a15 => k_is)
    (case i15 => k_is)
    (case l15 => k_is)
    (case c15 => k_is)
    (case k15 => k_is)
    (case a16 => k_is)
    (case i16 => k_is)
    (case l16 => k_is)
    (case c16 => k_is)
    (case k16 => k_is)
    (case a17 => k_is)
    (case i17 => k_is)
    (case l17 => k_is)
    (case c17 => k_is)
    (case k17 => k_is)
    (case a18 => k_is)
    (case i18 => k_is)
    (case l18 => k_is)
    (case c18 => k_is)
    (case k18 => k_is)
    (case a19 => k_is)
    (case i19 => k_is)
    (case l19 => k_is)
    (case c19 => k_is)
    (case k19 => k_is)
    (case a20 => k_is)
    (case i20 => k_is)
    (case l20 => k_is)
    (case c20 => k_is)
    (case k20 => k_is)
    (case a21 => k_is)
    (case i21 => k_is)
    (case l21 => k_is)
    (case c21 => k_is)
    (case k21 => k_is)
    (case a22 => k_is)
    (case i22 => k_is)
    (case l22 => k_is)
    (case c22 => k_is)
    (case k22 => k_is)
    (case a23 => k_is)
    (case i23 => k_is)
    (case l23 => k_is)
    (case c23 => k_is)
    (case k23 => k_is)
    (case a24 => k_is)
    (case i24 => k_is)
    (case l24 => k_is)
    (case c24 => k_is)
    (case k24 => k_is)
    (case a25 => k_is)
    (case i25 => k_is)
    (case l25 => k_is)
    (case c25 => k_is)
    (case k25 => k_is)
    (case a26 => k_is)
    (case i26 => k_is)
    (case l26 => k_is)
    (case c26 => k_is)
    (case k26 => k_is)
    (case a27 => k_is)
    (case l27 => k_is)
    (case c27 => k_is)
    (case k27 => k_is)
    (case t27 => k_is)
    (case a28 => k_is)
    (case l28 => k_is)
    (case c28 => k_is)
    (case k28 => k_is)
    (case a29 => k_is)
    (case l29 => k_is)
    (case c29 => k_is)
    (case k29 => k_is)
    (case a30 => k_is)
    (case l30 => k_is)
    (case c30 => k_is)
    (case k30 => k_is)
    (case a31 => k_is)
    (case l31 => k_is)
    (case c31 => k_is)
    (case k31 => k_is)
    (case a32 => k_is)
    (case l32 => k_is)
    (case c32 => k_is)
    (case k32 => k_is)
    (case a33 => k_is)
    (case l33 => k_is)
    (case c33 => k_is)
    (case k33 => k_is)
    (case a34 => k_is)
    (case l34 => k_is)
    (case c34 => k_is)
    (case k34 => k_is)
    (case a35 => k_is)
    (case l35 => k_is)
    (case c35 => k_is)
    (case k35 => k_is)
    (case a36 => k_is)
    (case l36 => k_is)
    (case c36 => k_is)
    (case k36 => k_is)
    (case a37 => k_is)
    (case l37 => k_is)
    (case c37 => k_is)
    (case k37 => k_is)
    (case a38 => k_is)
    (case l38 => k_is)
    (case c38 => k_is)
    (case k38 => k_is)
    (case a39 => k_is)
    (case l39 => k_is)
    (case c39 => k_is)
    (case k39 => k_is)
    (case z_ValueError => k_is)
    (case z_abs => k_is)
    (case z_all => k_is)
    (case z_bool => k_is)
    (case z_dict => k_is)
    (case z_int => k_is)
    (case z_isinstance => k_is)
    (case z_len => k_is)
    (case z_list => k_is)
    (case z_min => k_is)
    (case z_range => k_is)
    (case z_sorted => k_is)
    (case z_str => k_is)
    (case z_tuple => k_is)
    (case z_zip => k_is)
    (case xi_DEEPEST => k_is)
    (case x_PLAIN_WORDS => k_is)
    (case y_PLAIN_WORDS => k_is)
