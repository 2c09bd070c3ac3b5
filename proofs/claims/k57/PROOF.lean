import PyProof.Rows.All
import HandS.ForMost
import HandS.IsInst
import HandS.Flow
import HandS.More
import HandS.TupAny
import KE.DataEq
import KE.DataCmp
import KE.DataAny
import KE.DataMinMax
import KE.SortData
import HandS.SortRule
import HandS.Strs
import HandS.Set
import HandS.SetFor
import HandS.Text
import HandS.Rev
import HandS.SetBool
import HandS.Deep
import PySem.Challenge.RW_eacharm_k57_outcomes_in_tables
set_option Elab.async false
set_option linter.all false
set_option maxRecDepth 100000
set_option maxHeartbeats 8000000
namespace EA
open PySem PySem.Spec PyProof.Rows L2

/-! ### data, in the part of the heap that stays as it is -/
mutual
inductive Da (K : PySem.W.Frag) (G : Hp) : V → PyData → Prop
  | non : Da K G .non .none
  | bl (b : Bool) : Da K G (.bl b) (.bool b)
  | int (i : Int) : Da K G (.int i) (.int i)
  | str (x : Str) : Da K G (.str x) (.str x)
  | lst {a : Addr} {xs : List V} {ds : List PyData} : G a = some (.lst xs) → DaA K G xs ds → Da K G (.ref a) (.list ds)
  | tup {a : Addr} {xs : List V} {ds : List PyData} : SqT K G a xs → DaA K G xs ds → Da K G (.ref a) (.tuple ds)
inductive DaA (K : PySem.W.Frag) (G : Hp) : List V → List PyData → Prop
  | nil : DaA K G [] []
  | cons {v : V} {vs : List V} {d : PyData} {ds : List PyData} : Da K G v d → DaA K G vs ds → DaA K G (v :: vs) (d :: ds)
end
theorem sqT_up {K : PySem.W.Frag} {H H' : Hp} {a : Addr} {xs : List V} (e : Same H H') (h : SqT K H a xs) : SqT K H' a xs := by
  rcases h with (h | ⟨o, h⟩) | h
  · exact .inl (.inl (e _ _ h))
  · exact .inl (.inr ⟨o, e _ _ h⟩)
  · exact .inr h
section
variable {G G' H : Hp} {K : PySem.W.Frag}
mutual
theorem Da.up (s : Same G G') : ∀ {d : PyData} {v : V}, Da K G v d → Da K G' v d
  | .none, _, .non => .non
  | .bool _, _, .bl b => .bl b
  | .int _, _, .int i => .int i
  | .str _, _, .str x => .str x
  | .list _, _, .lst e h => .lst (s _ _ e) (DaA.up s h)
  | .tuple _, _, .tup e h => .tup (sqT_up s e) (DaA.up s h)
theorem DaA.up (s : Same G G') : ∀ {ds : List PyData} {vs : List V}, DaA K G vs ds → DaA K G' vs ds
  | [], _, .nil => .nil
  | _ :: _, _, .cons h t => .cons (Da.up s h) (DaA.up s t)
end
mutual
theorem Da.dp : ∀ {d : PyData} {v : V}, Da K G v d → Dp K G v d
  | .none, _, .non => .non
  | .bool _, _, .bl b => .bl b
  | .int _, _, .int i => .int i
  | .str _, _, .str x => .str x
  | .list _, _, .lst e h => .lst (SqL.of e) (DaA.dp h)
  | .tuple _, _, .tup e h => .tup e (DaA.dp h)
theorem DaA.dp : ∀ {ds : List PyData} {vs : List V}, DaA K G vs ds → DpAll K G vs ds
  | [], _, .nil => .nil
  | _ :: _, _, .cons h t => .cons (Da.dp h) (DaA.dp t)
end
theorem DaA.len : ∀ {vs : List V} {ds : List PyData}, DaA K G vs ds → vs.length = ds.length
  | _, _, .nil => rfl
  | _, _, .cons _ t => by rw [List.length_cons, List.length_cons, DaA.len t]
theorem DaA.get : ∀ {vs : List V} {ds : List PyData} {i : Nat} {d : PyData}, DaA K G vs ds → ds[i]? = some d → ∃ v, vs[i]? = some v ∧ Da K G v d
  | _, _, _, _, .nil, e => by simp at e
  | _, _, 0, _, .cons h _, e => by simp at e; subst e; exact ⟨_, rfl, h⟩
  | _, _, i + 1, d, .cons _ t, e => by
    obtain ⟨v, h1, h2⟩ := DaA.get (i := i) (d := d) t (by simpa using e)
    exact ⟨v, by simpa using h1, h2⟩
theorem DaA.getV : ∀ {vs : List V} {ds : List PyData} {i : Nat} {v : V}, DaA K G vs ds → vs[i]? = some v → ∃ d, ds[i]? = some d ∧ Da K G v d
  | _, _, _, _, .nil, e => by simp at e
  | _, _, 0, _, .cons h _, e => by simp at e; subst e; exact ⟨_, rfl, h⟩
  | _, _, i + 1, v, .cons _ t, e => by
    obtain ⟨d, h1, h2⟩ := DaA.getV (i := i) (v := v) t (by simpa using e)
    exact ⟨d, by simpa using h1, h2⟩
theorem DaA.app : ∀ {vs ws : List V} {ds es : List PyData}, DaA K G vs ds → DaA K G ws es → DaA K G (vs ++ ws) (ds ++ es)
  | _, _, _, _, .nil, h => h
  | _, _, _, _, .cons h t, h2 => .cons h (DaA.app t h2)
theorem DaA.take : ∀ {vs : List V} {ds : List PyData} (n : Nat), DaA K G vs ds → DaA K G (vs.take n) (ds.take n)
  | _, _, 0, _ => .nil
  | _, _, _ + 1, .nil => .nil
  | _, _, n + 1, .cons h t => .cons h (DaA.take n t)
theorem DaA.drop : ∀ {vs : List V} {ds : List PyData} (n : Nat), DaA K G vs ds → DaA K G (vs.drop n) (ds.drop n)
  | _, _, 0, h => h
  | _, _, _ + 1, .nil => .nil
  | _, _, n + 1, .cons _ t => DaA.drop n t
theorem DaA.erase : ∀ {vs : List V} {ds : List PyData} (n : Nat), DaA K G vs ds → DaA K G (vs.eraseIdx n) (ds.eraseIdx n)
  | _, _, _, .nil => .nil
  | _, _, 0, .cons _ t => t
  | _, _, n + 1, .cons h t => .cons h (DaA.erase n t)
theorem DaA.set {v : V} {d : PyData} (h : Da K G v d) : ∀ {vs : List V} {ds : List PyData} (n : Nat), DaA K G vs ds → DaA K G (vs.set n v) (ds.set n d)
  | _, _, _, .nil => .nil
  | _, _, 0, .cons _ t => .cons h t
  | _, _, n + 1, .cons k t => .cons k (DaA.set h n t)
theorem DaA.rev : ∀ {vs : List V} {ds : List PyData}, DaA K G vs ds → DaA K G vs.reverse ds.reverse
  | _, _, .nil => .nil
  | _, _, .cons h t => by
    rw [List.reverse_cons, List.reverse_cons]
    exact DaA.app (DaA.rev t) (.cons h .nil)
theorem DaA.ints : ∀ (bs : List Int), DaA K G (bs.map V.int) (bs.map PyData.int)
  | [] => .nil
  | b :: r => .cons (.int b) (DaA.ints r)
theorem DaA.strs : ∀ (bs : List Str), DaA K G (bs.map V.str) (bs.map PyData.str)
  | [] => .nil
  | b :: r => .cons (.str b) (DaA.strs r)
theorem DaA.bls_inv : ∀ {bs : List Bool} {vs : List V}, DaA K G vs (bs.map PyData.bool) → vs = bs.map V.bl
  | [], _, .nil => rfl
  | _ :: _, _, .cons (.bl _) t => by rw [List.map_cons, DaA.bls_inv t]
theorem DaA.ints_inv : ∀ {bs : List Int} {vs : List V}, DaA K G vs (bs.map PyData.int) → vs = bs.map V.int
  | [], _, .nil => rfl
  | _ :: _, _, .cons (.int _) t => by rw [List.map_cons, DaA.ints_inv t]
theorem DaA.strs_inv : ∀ {bs : List Str} {vs : List V}, DaA K G vs (bs.map PyData.str) → vs = bs.map V.str
  | [], _, .nil => rfl
  | _ :: _, _, .cons (.str _) t => by rw [List.map_cons, DaA.strs_inv t]
theorem Da.list_inv {v : V} {ds : List PyData} (h : Da K G v (.list ds)) : ∃ a xs, v = .ref a ∧ G a = some (.lst xs) ∧ DaA K G xs ds := by
  cases h with
  | lst e t => exact ⟨_, _, rfl, e, t⟩
theorem Da.tup_inv {v : V} {ds : List PyData} (h : Da K G v (.tuple ds)) : ∃ a xs, v = .ref a ∧ SqT K G a xs ∧ DaA K G xs ds := by
  cases h with
  | tup e t => exact ⟨_, _, rfl, e, t⟩
theorem Da.int_inv {v : V} {i : Int} (h : Da K G v (.int i)) : v = .int i := by cases h; rfl
theorem Da.bool_inv {v : V} {i : Bool} (h : Da K G v (.bool i)) : v = .bl i := by cases h; rfl
theorem Da.str_inv {v : V} {i : Str} (h : Da K G v (.str i)) : v = .str i := by cases h; rfl
theorem Da.non_inv {v : V} (h : Da K G v .none) : v = .non := by cases h; rfl
theorem Da.dict_no {v : V} {ks : List (PyData × PyData)} (h : Da K G v (.dict ks)) : False := by cases h
end

/-! ### worlds, values, stores -/
/-- the part that stays, the heap, the changeable objects' addresses -/
structure Wd where
  G : Hp
  H : Hp
  ι : List Addr
/-- a value: data, a changeable object of the store, the script, a type -/
inductive W3 where
  | d (x : PyData)
  | r (i : Nat)
  | sc (xs : List Int)
  | ty (n : String)
/-- a changeable object -/
inductive MO where
  | lst (xs : List PyData)
  | dic (kvs : List (Key × PyData))
  | gone
inductive DaK (K : PySem.W.Frag) (G : Hp) : List (Key × V) → List (Key × PyData) → Prop
  | nil : DaK K G [] []
  | cons {k : Key} {v : V} {d : PyData} {vs ds} : Da K G v d → DaK K G vs ds → DaK K G ((k, v) :: vs) ((k, d) :: ds)
theorem DaK.up {K : PySem.W.Frag} {G G' : Hp} (s : Same G G') {vs : List (Key × V)} {ds : List (Key × PyData)} (h : DaK K G vs ds) : DaK K G' vs ds := by
  induction h with
  | nil => exact .nil
  | cons h _ ih => exact .cons (h.up s) ih
def RW (K : PySem.W.Frag) (A : Wd) (v : V) : W3 → Prop
  | .d x => Da K A.G v x
  | .r i => ∃ a, A.ι[i]? = some a ∧ v = .ref a
  | .sc xs => ∃ a, v = .ref a ∧ SqL K A.G a (xs.map V.int)
  | .ty n => v = .ty n
def OR (K : PySem.W.Frag) (A : Wd) (a : Addr) : MO → Prop
  | .lst xs => A.G a = none ∧ ∃ vs, A.H a = some (.lst vs) ∧ DaA K A.G vs xs
  | .dic kvs => A.G a = none ∧ ∃ ks, A.H a = some (.dK ks) ∧ DaK K A.G ks kvs
  | .gone => A.H a ≠ none
structure Rl (K : PySem.W.Frag) (A : Wd) (S : List MO) : Prop where
  gh : Same A.G A.H
  nd : A.ι.Nodup
  len : A.ι.length = S.length
  ob : ∀ (i : Nat) (o : MO) (a : Addr), S[i]? = some o → A.ι[i]? = some a → OR K A a o
abbrev Sl := List (Option W3)
structure SR3 (K : PySem.W.Frag) (A : Wd) (σ : L2.St) (sl : Sl) : Prop where
  len : σ.length = sl.length
  at_ : ∀ (i : Nat) (w : W3), sl[i]? = some (some w) → ∃ v, σ[i]? = some (some v) ∧ RW K A v w
/-- from one world to a later one -/
structure Nx (A B : Wd) : Prop where
  gg : Same A.G B.G
  hh : ∀ b o, b ∉ A.ι → A.H b = some o → B.H b = some o
  nw : ∀ b, b ∉ A.ι → A.G b = none → A.H b ≠ none → B.G b = none
  dm : ∀ b, A.H b ≠ none → B.H b ≠ none
  pre : A.ι <+: B.ι
  fr : ∀ x ∈ B.ι, x ∈ A.ι ∨ A.H x = none
section
variable {K : PySem.W.Frag} {A B C : Wd} {S S' : List MO} {σ : L2.St} {sl : Sl} {v : V} {w : W3}
theorem Nx.refl (A : Wd) : Nx A A := ⟨Same.refl _, fun _ _ _ h => h, fun _ _ h _ => h, fun _ h => h, List.prefix_rfl, fun _ h => .inl h⟩
theorem Nx.trans (a : Nx A B) (b : Nx B C) : Nx A C where
  gg := a.gg.trans b.gg
  hh := fun x o hx e => b.hh x o (fun z => (a.fr x z).elim hx fun n => by rw [n] at e; cases e) (a.hh x o hx e)
  nw := fun x hx g h => b.nw x (fun z => (a.fr x z).elim hx h) (a.nw x hx g h) (a.dm x h)
  dm := fun x h => b.dm x (a.dm x h)
  pre := a.pre.trans b.pre
  fr := fun x hx => (b.fr x hx).elim (fun z => a.fr x z) fun n => .inr (by
    cases e : A.H x with
    | none => rfl
    | some u => exact absurd n (a.dm x (by rw [e]; exact fun z => nomatch z)))
theorem ix_pre {α : Type} {l m : List α} (p : l <+: m) {i : Nat} {a : α} (h : l[i]? = some a) : m[i]? = some a := by
  obtain ⟨t, rfl⟩ := p
  rw [List.getElem?_append_left (List.getElem?_eq_some_iff.mp h).1]
  exact h
theorem RW.mono (n : Nx A B) (h : RW K A v w) : RW K B v w := by
  cases w with
  | d x => exact Da.up n.gg h
  | r i => obtain ⟨a, h1, h2⟩ := h; exact ⟨a, ix_pre n.pre h1, h2⟩
  | sc xs => obtain ⟨a, h1, h2⟩ := h; exact ⟨a, h1, n.gg.seq h2⟩
  | ty n => exact h
/-- what a value needs: the frozen part and the store's places -/
structure Nv (A B : Wd) : Prop where
  gg : Same A.G B.G
  pre : A.ι <+: B.ι
theorem Nx.toV (n : Nx A B) : Nv A B := ⟨n.gg, n.pre⟩
theorem RW.monov (n : Nv A B) (h : RW K A v w) : RW K B v w := by
  cases w with
  | d x => exact Da.up n.gg h
  | r i => obtain ⟨a, h1, h2⟩ := h; exact ⟨a, ix_pre n.pre h1, h2⟩
  | sc xs => obtain ⟨a, h1, h2⟩ := h; exact ⟨a, h1, n.gg.seq h2⟩
  | ty n => exact h
theorem SR3.mono (n : Nx A B) (h : SR3 K A σ sl) : SR3 K B σ sl := ⟨h.len, fun i w e => by
  obtain ⟨v, h1, h2⟩ := h.at_ i w e
  exact ⟨v, h1, h2.mono n⟩⟩
theorem SR3.set (h : SR3 K A σ sl) (i : Nat) (r : RW K A v w) : SR3 K A (σ.set i (some v)) (sl.set i (some w)) := by
  refine ⟨by rw [List.length_set, List.length_set, h.len], fun j u e => ?_⟩
  by_cases hj : i = j
  · subst hj
    have hi : i < sl.length := by have := (List.getElem?_eq_some_iff.mp e).1; rwa [List.length_set] at this
    rw [List.getElem?_set_self hi] at e
    cases e
    exact ⟨v, List.getElem?_set_self (by rw [h.len]; exact hi), r⟩
  · rw [List.getElem?_set_ne hj] at e ⊢
    exact h.at_ j u e
/-- any live object's address is taken -/
theorem Rl.taken (R : Rl K A S) {a : Addr} (h : a ∈ A.ι) : A.H a ≠ none := by
  obtain ⟨i, hi, e⟩ := List.getElem_of_mem h
  have e2 : A.ι[i]? = some a := by rw [List.getElem?_eq_getElem hi, e]
  have hs : i < S.length := by rw [← R.len]; exact hi
  have o := R.ob i S[i] a (List.getElem?_eq_getElem hs) e2
  cases q : S[i] with
  | lst xs => rw [q] at o; obtain ⟨_, vs, h, _⟩ := o; rw [h]; exact fun z => nomatch z
  | dic xs => rw [q] at o; obtain ⟨_, vs, h, _⟩ := o; rw [h]; exact fun z => nomatch z
  | gone => rw [q] at o; exact o
theorem Rl.new (R : Rl K A S) {p : Addr} (n : A.H p = none) : p ∉ A.ι := fun z => R.taken z n
theorem OR.keep {a : Addr} {o : MO} (h : OR K A a o) (gg : Same A.G B.G) (hg : A.G a = none → B.G a = none) (hh : ∀ u, A.H a = some u → B.H a = some u) : OR K B a o := by
  cases o with
  | lst xs => obtain ⟨g, vs, h1, h2⟩ := h; exact ⟨hg g, vs, hh _ h1, h2.up gg⟩
  | dic xs => obtain ⟨g, vs, h1, h2⟩ := h; exact ⟨hg g, vs, hh _ h1, h2.up gg⟩
  | gone =>
    show B.H a ≠ none
    cases e : A.H a with
    | none => exact absurd e h
    | some u => rw [hh u e]; exact fun z => nomatch z
theorem upd_none {H : Hp} {p b : Addr} {o : HO} (h : upd H p o b = none) : H b = none := by
  by_cases e : b = p
  · subst e; rw [upd_same] at h; cases h
  · rw [upd_ne e] at h; exact h
/-- a new object that is data -/
theorem Nx.dat (R : Rl K A S) {p : Addr} {o : HO} (n : A.H p = none) : Nx A ⟨upd A.G p o, upd A.H p o, A.ι⟩ ∧ Rl K ⟨upd A.G p o, upd A.H p o, A.ι⟩ S := by
  have gp : A.G p = none := R.gh.free n
  refine ⟨⟨fun b u e => ?_, fun b u hb e => ?_, fun b hb g h => ?_, fun b h z => h (upd_none z), List.prefix_rfl, fun _ h => .inl h⟩, ⟨fun b u e => ?_, R.nd, R.len, fun i o a e1 e2 => ?_⟩⟩
  · show upd A.G p o b = _
    rw [upd_ne (ne_of_none e gp)]; exact e
  · show upd A.H p o b = _
    rw [upd_ne (ne_of_none e n)]; exact e
  · show upd A.G p o b = _
    rw [upd_ne (fun e => h (by rw [e]; exact n))]; exact g
  · by_cases z : b = p
    · subst z
      show upd A.H b o b = _
      have e' : upd A.G b o b = some u := e
      rw [upd_same] at e' ⊢; exact e'
    · show upd A.H p o b = _
      have e' : upd A.G p o b = some u := e
      rw [upd_ne z] at e' ⊢; exact R.gh b u e'
  · have ne : a ≠ p := fun z => R.new n (by rw [← z]; exact List.mem_of_getElem? e2)
    refine (R.ob i o a e1 e2).keep (fun b u e => ?_) (fun g => ?_) (fun u h => ?_)
    · show upd A.G p _ b = _
      rw [upd_ne (ne_of_none e gp)]; exact e
    · show upd A.G p _ a = _
      rw [upd_ne ne]; exact g
    · show upd A.H p _ a = _
      rw [upd_ne ne]; exact h
/-- a new object that nobody speaks of -/
theorem Nx.junk (R : Rl K A S) {p : Addr} {o : HO} (n : A.H p = none) : Nx A ⟨A.G, upd A.H p o, A.ι⟩ ∧ Rl K ⟨A.G, upd A.H p o, A.ι⟩ S := by
  have gp : A.G p = none := R.gh.free n
  refine ⟨⟨Same.refl _, fun b u hb e => ?_, fun b hb g h => g, fun b h z => h (upd_none z), List.prefix_rfl, fun _ h => .inl h⟩, ⟨fun b u e => ?_, R.nd, R.len, fun i o a e1 e2 => ?_⟩⟩
  · show upd A.H p o b = _
    rw [upd_ne (ne_of_none e n)]; exact e
  · show upd A.H p o b = _
    rw [upd_ne (ne_of_none e gp)]; exact R.gh b u e
  · have ne : a ≠ p := fun z => R.new n (by rw [← z]; exact List.mem_of_getElem? e2)
    refine (R.ob i o a e1 e2).keep (Same.refl _) (fun g => g) (fun u h => ?_)
    show upd A.H p _ a = _
    rw [upd_ne ne]; exact h
theorem get_snoc {α : Type} {l : List α} {x a : α} {i : Nat} (h : (l ++ [x])[i]? = some a) : l[i]? = some a ∨ (i = l.length ∧ a = x) := by
  by_cases hi : i < l.length
  · rw [List.getElem?_append_left hi] at h; exact .inl h
  · rw [List.getElem?_append_right (by omega)] at h
    by_cases e : i = l.length
    · subst e
      rw [Nat.sub_self] at h
      exact .inr ⟨rfl, (Option.some.inj h).symm⟩
    · have z : i - l.length ≠ 0 := by omega
      obtain ⟨k, hk⟩ := Nat.exists_eq_succ_of_ne_zero z
      rw [hk] at h
      simp at h
/-- an object that was made since becomes a changeable object of the store -/
theorem Nx.own0 (N : Nx A B) (R : Rl K B S) {p : Addr} {o : MO} (n : A.H p = none) (hp : p ∉ B.ι) (ok : OR K B p o) : Nx A ⟨B.G, B.H, B.ι ++ [p]⟩ ∧ Rl K ⟨B.G, B.H, B.ι ++ [p]⟩ (S ++ [o]) := by
  refine ⟨⟨N.gg, N.hh, N.nw, N.dm, N.pre.trans (List.prefix_append _ _), fun x hx => ?_⟩, ⟨R.gh, ?_, ?_, fun i o' a e1 e2 => ?_⟩⟩
  · rcases List.mem_append.mp hx with hx | hx
    · exact N.fr x hx
    · rw [List.mem_singleton.mp hx]; exact .inr n
  · refine List.nodup_append.mpr ⟨R.nd, by simp, fun a ha b hb e => hp ?_⟩
    rw [List.mem_singleton.mp hb] at e
    rw [← e]; exact ha
  · show (B.ι ++ [p]).length = _
    rw [List.length_append, List.length_append, R.len]; rfl
  · have keep : ∀ {a : Addr} {o : MO}, OR K B a o → OR K ⟨B.G, B.H, B.ι ++ [p]⟩ a o := fun {a o} h => h.keep (Same.refl _) (fun g => g) (fun u h => h)
    rcases get_snoc e1 with h1 | ⟨h1, rfl⟩
    · rcases get_snoc e2 with h2 | ⟨h2, _⟩
      · exact keep (R.ob i o' a h1 h2)
      · have := (List.getElem?_eq_some_iff.mp h1).1
        rw [R.len] at h2; omega
    · rcases get_snoc e2 with h2 | ⟨_, rfl⟩
      · have := (List.getElem?_eq_some_iff.mp h2).1
        rw [R.len] at this; omega
      · exact keep ok
/-- a new changeable object -/
theorem Nx.own (R : Rl K A S) {p : Addr} {u : HO} {o : MO} (n : A.H p = none) (ok : OR K ⟨A.G, upd A.H p u, A.ι⟩ p o) : Nx A ⟨A.G, upd A.H p u, A.ι ++ [p]⟩ ∧ Rl K ⟨A.G, upd A.H p u, A.ι ++ [p]⟩ (S ++ [o]) := by
  obtain ⟨N, R'⟩ := Nx.junk R (o := u) n
  exact Nx.own0 N R' n (R.new n) ok
theorem RW.last {p : Addr} {S : List MO} (h : B.ι.length = S.length) : RW K ⟨B.G, B.H, B.ι ++ [p]⟩ (.ref p) (.r S.length) := ⟨p, by
  show (B.ι ++ [p])[S.length]? = _
  rw [← h, List.getElem?_append_right (Nat.le_refl _), Nat.sub_self]; rfl, rfl⟩
/-- an object that was made since becomes data -/
theorem Nx.fix (N : Nx A B) (R : Rl K B S) {p : Addr} {o : HO} (n : A.H p = none) (hp : p ∉ B.ι) (g : B.G p = none) (h : B.H p = some o) : Nx A ⟨upd B.G p o, B.H, B.ι⟩ ∧ Rl K ⟨upd B.G p o, B.H, B.ι⟩ S := by
  have gg : Same B.G (upd B.G p o) := fun b u e => by rw [upd_ne (ne_of_none e g)]; exact e
  refine ⟨⟨N.gg.trans gg, N.hh, fun b hb g' h' => ?_, N.dm, N.pre, N.fr⟩, ⟨fun b u e => ?_, R.nd, R.len, fun i o' a e1 e2 => ?_⟩⟩
  · show upd B.G p o b = _
    rw [upd_ne (fun z => h' (by rw [z]; exact n))]; exact N.nw b hb g' h'
  · by_cases z : b = p
    · subst z
      have e' : upd B.G b o b = some u := e
      rw [upd_same] at e'
      cases e'
      exact h
    · have e' : upd B.G p o b = some u := e
      rw [upd_ne z] at e'; exact R.gh b u e'
  · refine (R.ob i o' a e1 e2).keep gg (fun g2 => ?_) (fun u h2 => h2)
    show upd B.G p _ a = _
    rw [upd_ne (fun z => hp (by rw [← z]; exact List.mem_of_getElem? e2))]; exact g2
theorem nodup_at {α : Type} {l : List α} (nd : l.Nodup) {i j : Nat} {a : α} (h1 : l[i]? = some a) (h2 : l[j]? = some a) : i = j := by
  obtain ⟨hi, e1⟩ := List.getElem?_eq_some_iff.mp h1
  obtain ⟨hj, e2⟩ := List.getElem?_eq_some_iff.mp h2
  have pw := List.pairwise_iff_getElem.mp nd
  rcases Nat.lt_trichotomy i j with h | h | h
  · exact absurd (e1.trans e2.symm) (pw i j hi hj h)
  · exact h
  · exact absurd (e2.trans e1.symm) (pw j i hj hi h)
/-- a changeable object is changed -/
theorem Nx.wr (R : Rl K A S) {i : Nat} {a : Addr} {u : HO} {o : MO} (ha : A.ι[i]? = some a) (g : A.G a = none) (ok : OR K ⟨A.G, upd A.H a u, A.ι⟩ a o) : Nx A ⟨A.G, upd A.H a u, A.ι⟩ ∧ Rl K ⟨A.G, upd A.H a u, A.ι⟩ (S.set i o) := by
  have mem : a ∈ A.ι := List.mem_of_getElem? ha
  refine ⟨⟨Same.refl _, fun b u' hb e => ?_, fun b hb g h => g, fun b h z => h (upd_none z), List.prefix_rfl, fun _ h => .inl h⟩, ⟨fun b u' e => ?_, R.nd, by rw [List.length_set]; exact R.len, fun j o' b e1 e2 => ?_⟩⟩
  · show upd A.H a u b = _
    rw [upd_ne (fun z => hb (by rw [z]; exact mem))]; exact e
  · show upd A.H a u b = _
    rw [upd_ne (ne_of_none e g)]; exact R.gh b u' e
  · by_cases hj : i = j
    · subst hj
      have hi : i < S.length := by have := (List.getElem?_eq_some_iff.mp e1).1; rwa [List.length_set] at this
      rw [List.getElem?_set_self hi] at e1
      cases e1
      have e2' : A.ι[i]? = some b := e2
      rw [ha] at e2'
      cases e2'
      exact ok
    · rw [List.getElem?_set_ne hj] at e1
      have ne : b ≠ a := fun z => hj (nodup_at R.nd ha (by rw [← z]; exact e2))
      refine (R.ob j o' b e1 e2).keep (Same.refl _) (fun g => g) (fun u' h => ?_)
      show upd A.H a u b = _
      rw [upd_ne ne]; exact h
/-- a changeable list becomes data -/
theorem Nx.frz (R : Rl K A S) {i : Nat} {a : Addr} {u : HO} (ha : A.ι[i]? = some a) (g : A.G a = none) (h : A.H a = some u) : Nx A ⟨upd A.G a u, A.H, A.ι⟩ ∧ Rl K ⟨upd A.G a u, A.H, A.ι⟩ (S.set i .gone) := by
  have mem : a ∈ A.ι := List.mem_of_getElem? ha
  have gg : Same A.G (upd A.G a u) := fun b v e => by rw [upd_ne (ne_of_none e g)]; exact e
  refine ⟨⟨gg, fun b u' hb e => e, fun b hb g' h' => ?_, fun b h => h, List.prefix_rfl, fun _ h => .inl h⟩, ⟨fun b u' e => ?_, R.nd, by rw [List.length_set]; exact R.len, fun j o' b e1 e2 => ?_⟩⟩
  · show upd A.G a u b = _
    rw [upd_ne (fun z => hb (by rw [z]; exact mem))]; exact g'
  · by_cases z : b = a
    · subst z
      have e' : upd A.G b u b = some u' := e
      rw [upd_same] at e'
      cases e'
      exact h
    · have e' : upd A.G a u b = some u' := e
      rw [upd_ne z] at e'; exact R.gh b u' e'
  · by_cases hj : i = j
    · subst hj
      have hi : i < S.length := by have := (List.getElem?_eq_some_iff.mp e1).1; rwa [List.length_set] at this
      rw [List.getElem?_set_self hi] at e1
      cases e1
      have e2' : A.ι[i]? = some b := e2
      rw [ha] at e2'
      cases e2'
      show A.H a ≠ none
      rw [h]; exact fun z => nomatch z
    · rw [List.getElem?_set_ne hj] at e1
      have ne : b ≠ a := fun z => hj (nodup_at R.nd ha (by rw [← z]; exact e2))
      refine (R.ob j o' b e1 e2).keep gg (fun g2 => ?_) (fun u' h => h)
      show upd A.G a u b = _
      rw [upd_ne ne]; exact g2
/-- the store of the caller, behind the call -/
theorem Nx.cut (N : Nx A B) (R : Rl K B S) : Nx A ⟨B.G, B.H, A.ι⟩ ∧ Rl K ⟨B.G, B.H, A.ι⟩ (S.take A.ι.length) := by
  have pl := N.pre.length_le
  refine ⟨⟨N.gg, N.hh, N.nw, N.dm, List.prefix_rfl, fun _ h => .inl h⟩, ⟨R.gh, R.nd.sublist N.pre.sublist, ?_, fun i o a e1 e2 => ?_⟩⟩
  · show A.ι.length = _
    rw [List.length_take, ← R.len]; omega
  · have hi : i < A.ι.length := (List.getElem?_eq_some_iff.mp e2).1
    rw [List.getElem?_take_of_lt hi] at e1
    exact (R.ob i o a e1 (ix_pre N.pre e2)).keep (Same.refl _) (fun g => g) (fun u h => h)
end
end EA
namespace EA
open PySem PySem.Spec PyProof.Rows L2

/-! ### the functions that a text's parts are -/
abbrev FE := Sl → List MO → Option (W3 × List MO)
abbrev FT := Sl → List MO → Option (Bool × List MO)
abbrev FA := Sl → List MO → Option (List W3 × List MO)
/-- a new list -/
abbrev FN := Sl → List MO → Option (List PyData × List MO)
abbrev FO := Sl → List MO → Option (Option Int × List MO)
abbrev FG := W3 → Sl → List MO → Option (Sl × List MO)
inductive Out where
  | nx (sl : Sl) (S : List MO)
  | rt (w : W3) (S : List MO)
  | bk (sl : Sl) (S : List MO)
  | ct (sl : Sl) (S : List MO)
abbrev FS := Sl → List MO → Option Out
abbrev F3 := List W3 → List MO → Option (W3 × List MO)
/-- what a loop walks: the items, and what must stay true of the store -/
structure It3 where
  ws : List W3
  ok : List MO → Bool
abbrev FI := Sl → List MO → Option (It3 × List MO)

inductive RWs (K : PySem.W.Frag) (A : Wd) : List V → List W3 → Prop
  | nil : RWs K A [] []
  | cons {v : V} {w : W3} {vs : List V} {ws : List W3} : RW K A v w → RWs K A vs ws → RWs K A (v :: vs) (w :: ws)
section
variable {K : PySem.W.Frag} {A B : Wd}
theorem RWs.mono (n : Nx A B) {vs : List V} {ws : List W3} (h : RWs K A vs ws) : RWs K B vs ws := by
  induction h with
  | nil => exact .nil
  | cons h _ ih => exact .cons (h.mono n) ih
theorem RWs.len {vs : List V} {ws : List W3} (h : RWs K A vs ws) : vs.length = ws.length := by
  induction h with
  | nil => rfl
  | cons h _ ih => rw [List.length_cons, List.length_cons, ih]
theorem RWs.app {vs vs' : List V} {ws ws' : List W3} (h : RWs K A vs ws) (h' : RWs K A vs' ws') : RWs K A (vs ++ vs') (ws ++ ws') := by
  induction h with
  | nil => exact h'
  | cons h _ ih => exact .cons h ih
theorem RWs.of : ∀ {vs : List V} {ds : List PyData}, DaA K A.G vs ds → RWs K A vs (ds.map .d)
  | _, _, .nil => .nil
  | _, _, .cons h t => .cons h (RWs.of t)
end

def teO (K : PySem.W.Frag) (f : FE) : TE := fun σ H Q => ∃ (A : Wd) (S : List MO) (sl : Sl) (w : W3) (S' : List MO), A.H = H ∧ Rl K A S ∧ SR3 K A σ sl ∧ f sl S = some (w, S') ∧ ∀ B v, Nx A B → Rl K B S' → RW K B v w → Q v B.H
def ttO (K : PySem.W.Frag) (f : FT) : TT := fun σ H Q => ∃ (A : Wd) (S : List MO) (sl : Sl) (w : Bool) (S' : List MO), A.H = H ∧ Rl K A S ∧ SR3 K A σ sl ∧ f sl S = some (w, S') ∧ ∀ B, Nx A B → Rl K B S' → Q w B.H
def taO (K : PySem.W.Frag) (f : FA) : TA := fun σ H Q => ∃ (A : Wd) (S : List MO) (sl : Sl) (w : List W3) (S' : List MO), A.H = H ∧ Rl K A S ∧ SR3 K A σ sl ∧ f sl S = some (w, S') ∧ ∀ B v, Nx A B → Rl K B S' → RWs K B v w → Q v B.H
def tnO (K : PySem.W.Frag) (f : FN) : TE := fun σ H Q => ∃ (A : Wd) (S : List MO) (sl : Sl) (w : List PyData) (S' : List MO), A.H = H ∧ Rl K A S ∧ SR3 K A σ sl ∧ f sl S = some (w, S') ∧
  ∀ B vs p, Nx A B → Rl K B S' → A.H p = none → p ∉ B.ι → B.G p = none → B.H p = some (.lst vs) → DaA K B.G vs w → Q (.ref p) B.H
def toO (K : PySem.W.Frag) (f : FO) : TO := fun σ H Q => ∃ (A : Wd) (S : List MO) (sl : Sl) (w : Option Int) (S' : List MO), A.H = H ∧ Rl K A S ∧ SR3 K A σ sl ∧ f sl S = some (w, S') ∧ ∀ B, Nx A B → Rl K B S' → Q w B.H
def tgO (K : PySem.W.Frag) (vs : List Nat) (f : FG) : TG := fun v σ H Q => ∃ (A : Wd) (S : List MO) (sl : Sl) (w : W3) (sl' : Sl) (S' : List MO), A.H = H ∧ Rl K A S ∧ SR3 K A σ sl ∧ RW K A v w ∧ f w sl S = some (sl', S') ∧
  ∀ B σ', Nx A B → Rl K B S' → SR3 K B σ' sl' → (σ'.length = σ.length ∧ ∀ j, j ∉ vs → σ'[j]? = σ[j]?) → Q σ' B.H
def EndsOk (K : PySem.W.Frag) (A : Wd) (D : Ends) : Out → Prop
  | .nx sl S => ∀ B σ', Nx A B → Rl K B S → SR3 K B σ' sl → D.nx σ' B.H
  | .rt w S => ∀ B v, Nx A B → Rl K B S → RW K B v w → D.rt v B.H
  | .bk sl S => ∀ B σ', Nx A B → Rl K B S → SR3 K B σ' sl → D.bk σ' B.H
  | .ct sl S => ∀ B σ', Nx A B → Rl K B S → SR3 K B σ' sl → D.ct σ' B.H
def tsO (K : PySem.W.Frag) (f : FS) : TS := fun D σ H => ∃ (A : Wd) (S : List MO) (sl : Sl) (o : Out), A.H = H ∧ Rl K A S ∧ SR3 K A σ sl ∧ f sl S = some o ∧ EndsOk K A D o
def ItR (K : PySem.W.Frag) (B : Wd) (J : It) (j : It3) : Prop := ∀ C S, Nv B C → Rl K C S → j.ok S = true → ∀ i,
  (∀ w, j.ws[i]? = some w → J.go i C.H ∧ ∀ v H', J.yld i C.H v H' → ∃ C', C'.H = H' ∧ Nx C C' ∧ Rl K C' S ∧ RW K C' v w) ∧ (j.ws.length ≤ i → J.stop i C.H)
def tiO (K : PySem.W.Frag) (f : FI) : TI := fun σ H R => ∃ (A : Wd) (S : List MO) (sl : Sl) (j : It3) (S' : List MO), A.H = H ∧ Rl K A S ∧ SR3 K A σ sl ∧ f sl S = some (j, S') ∧ ∀ B J, Nx A B → Rl K B S' → ItR K B J j → R J B.H
theorem EndsOk.mono {K : PySem.W.Frag} {A B : Wd} {D : Ends} (n : Nx A B) : ∀ {o : Out}, EndsOk K A D o → EndsOk K B D o
  | .nx _ _, h => fun C σ' m => h C σ' (n.trans m)
  | .rt _ _, h => fun C σ' m => h C σ' (n.trans m)
  | .bk _ _, h => fun C σ' m => h C σ' (n.trans m)
  | .ct _ _, h => fun C σ' m => h C σ' (n.trans m)

structure PE3 (K : PySem.W.Frag) (X : Cx) (e : Expr) (f : FE) : Prop where
  p : PE X e (teO K f)
structure PT3 (K : PySem.W.Frag) (X : Cx) (e : Expr) (f : FT) : Prop where
  p : PT X e (ttO K f)
structure PW3 (K : PySem.W.Frag) (X : Cx) (e : Expr) (f : FT) : Prop where
  p : PW X e (ttO K f)
structure PA3 (K : PySem.W.Frag) (X : Cx) (es : List Expr) (f : FA) : Prop where
  p : PA X es (taO K f)
  len : ∀ sl S ws S', f sl S = some (ws, S') → ws.length = es.length
structure PN3 (K : PySem.W.Frag) (X : Cx) (e : Expr) (f : FN) : Prop where
  p : PE X e (tnO K f)
structure PO3 (K : PySem.W.Frag) (X : Cx) (e : Option Expr) (f : FO) : Prop where
  p : PO X e (toO K f)
structure PG3 (K : PySem.W.Frag) (X : Cx) (e : Expr) (vs : List Nat) (f : FG) : Prop where
  p : PG X e (tgO K vs f)
structure PS3 (K : PySem.W.Frag) (X : Cx) (st : Stmt) (f : FS) : Prop where
  p : PS X st (tsO K f)
structure PSs3 (K : PySem.W.Frag) (X : Cx) (st : List Stmt) (f : FS) : Prop where
  p : PSs X st (tsO K f)
structure PI3 (K : PySem.W.Frag) (X : Cx) (tg it : Expr) (f : FI) : Prop where
  p : PI X tg it (tiO K f)

section
variable {K : PySem.W.Frag} {X : Cx} {e : Expr} {es : List Expr} {st : Stmt} {sts : List Stmt}
theorem pe_imp {t t' : TE} (h : PE X e t) (i : ∀ σ H Q, t' σ H Q → t σ H Q) : PE X e t' := ⟨fun pins s σ H Q I q => h.run pins s σ H Q I (i σ H Q q)⟩
theorem pt_imp {t t' : TT} (h : PT X e t) (i : ∀ σ H Q, t' σ H Q → t σ H Q) : PT X e t' := ⟨fun pins s σ H Q I q => h.run pins s σ H Q I (i σ H Q q)⟩
theorem pw_imp {t t' : TT} (h : PW X e t) (i : ∀ σ H Q, t' σ H Q → t σ H Q) : PW X e t' := ⟨fun wh pins s σ H Q I q => h.run wh pins s σ H Q I (i σ H Q q)⟩
theorem pa_imp {t t' : TA} (h : PA X es t) (i : ∀ σ H Q, t' σ H Q → t σ H Q) : PA X es t' := ⟨fun pos pins s σ H Q I q => h.run pos pins s σ H Q I (i σ H Q q)⟩
theorem ps_imp {t t' : TS} (h : PS X st t) (i : ∀ D σ H, t' D σ H → t D σ H) : PS X st t' := ⟨fun pins s σ H D I q => h.run pins s σ H D I (i D σ H q)⟩
theorem pss_imp {t t' : TS} (h : PSs X sts t) (i : ∀ D σ H, t' D σ H → t D σ H) : PSs X sts t' := ⟨fun pins s σ H D I q => h.run pins s σ H D I (i D σ H q)⟩
theorem pi_imp {tg : Expr} {t t' : TI} (h : PI X tg e t) (i : ∀ σ H Q, t' σ H Q → t σ H Q) : PI X tg e t' := ⟨fun pins s σ H Q I q => h.run pins s σ H Q I (i σ H Q q)⟩
end

/-! ### names, constants -/
def eVar (i : Nat) : FE := fun sl S => (sl[i]?.join).map fun w => (w, S)
def eD (x : PyData) : FE := fun _ S => some (.d x, S)
def eTy (n : String) : FE := fun _ S => some (.ty n, S)
/-- a list that is data from here on -/
def eFrz (f : FE) : FE := fun sl S => (f sl S).bind fun p => match p.1 with
  | .r i => match p.2[i]? with
    | some (.lst xs) => some (.d (.list xs), p.2.set i .gone)
    | _ => none
  | w => some (w, p.2)
section
variable {K : PySem.W.Frag} {X : Cx} {e : Expr} {es : List Expr} {pos : Pos}
/-- nothing is made -/
theorem te_c {f : FE} {v : V} {w : W3} (hf : ∀ sl S, f sl S = some (w, S)) (hr : ∀ A, RW K A v w) {σ : L2.St} {H : Hp} {Q : VK} (h : teO K f σ H Q) : tC v σ H Q := by
  obtain ⟨A, S, sl, w', S', rfl, R, s, e, q⟩ := h
  rw [hf] at e
  cases e
  exact q A v (Nx.refl A) R (hr A)
theorem e_var {i : Nat} {x : Str} (hN : X.N[i]? = some x) (hv : Vis X.env.scope x) (hd : (x == ("__debug__" : Str)) = false := by decide) (hcd : (x == ("__classdict__" : Str)) = false := by decide) : PE3 K X (.Name x pos) (eVar i) :=
  ⟨pe_imp (pe_var hN hv hd hcd) fun σ H Q h => by
    obtain ⟨A, S, sl, w, S', rfl, R, s, e, q⟩ := h
    unfold eVar at e
    cases h : sl[i]?.join with
    | none => rw [h] at e; cases e
    | some w2 =>
      rw [h] at e
      cases e
      have h2 : sl[i]? = some (some w) := by
        cases z : sl[i]? with
        | none => rw [z] at h; cases h
        | some z2 => rw [z] at h; exact congrArg some h
      obtain ⟨v, h3, h4⟩ := s.at_ i w h2
      exact ⟨v, h3, q A v (Nx.refl A) R h4⟩⟩
theorem e_int {i : Int} {j} : PE3 K X (.Constant (.int i) j pos) (eD (.int i)) := ⟨pe_imp pe_int fun σ H Q h => te_c (w := .d (.int i)) (fun _ _ => rfl) (fun A => Da.int i) h⟩
theorem e_bl {b : Bool} {j} : PE3 K X (.Constant (.bool b) j pos) (eD (.bool b)) := ⟨pe_imp pe_bl fun σ H Q h => te_c (w := .d (.bool b)) (fun _ _ => rfl) (fun A => Da.bl b) h⟩
theorem e_str {b : Str} {j} : PE3 K X (.Constant (.str b) j pos) (eD (.str b)) := ⟨pe_imp pe_str fun σ H Q h => te_c (w := .d (.str b)) (fun _ _ => rfl) (fun A => Da.str b) h⟩
theorem e_non {j} : PE3 K X (.Constant .none j pos) (eD .none) := ⟨pe_imp pe_non fun σ H Q h => te_c (w := .d .none) (fun _ _ => rfl) (fun A => Da.non) h⟩
theorem e_ty {x : Str} {n : String} (hg : Gl X x) (hm : X.mg x = none) (hv : bootBuiltins x = some (.type n)) (hn : x ≠ "__name__" := by decide) (hd : (x == ("__debug__" : Str)) = false := by decide) : PE3 K X (.Name x pos) (eTy n) :=
  ⟨pe_imp (pe_bltn (v := V.ty n) hg hm hv rfl hn hd) fun σ H Q h => te_c (w := .ty n) (fun _ _ => rfl) (fun A => (rfl : V.ty n = V.ty n)) h⟩
theorem e_frz {f : FE} (h : PE3 K X e f) : PE3 K X e (eFrz f) := ⟨pe_imp h.p fun σ H Q h => by
  obtain ⟨A, S, sl, w, S', rfl, R, s, e, q⟩ := h
  unfold eFrz at e
  obtain ⟨⟨w1, S1⟩, e1, e2⟩ := Option.bind_eq_some_iff.mp e
  refine ⟨A, S, sl, w1, S1, rfl, R, s, e1, fun B v n R' r => ?_⟩
  cases w1 with
  | d x => cases e2; exact q B v n R' r
  | sc x => cases e2; exact q B v n R' r
  | ty x => cases e2; exact q B v n R' r
  | r i =>
    dsimp only at e2
    cases o : S1[i]? with
    | none => rw [o] at e2; cases e2
    | some m =>
      rw [o] at e2
      cases m with
      | gone => cases e2
      | dic _ => cases e2
      | lst xs =>
        cases e2
        obtain ⟨a, ha, rfl⟩ := r
        obtain ⟨g, vs, hh, hd⟩ := R'.ob i _ a o ha
        obtain ⟨N2, R2⟩ := Nx.frz R' ha g hh
        exact q ⟨upd B.G a (.lst vs), B.H, B.ι⟩ _ (n.trans N2) R2 (Da.lst upd_same (hd.up N2.gg))⟩

/-! ### argument lists, displays -/
def aNil : FA := fun _ S => some ([], S)
def aCons (e : FE) (r : FA) : FA := fun sl S => (e sl S).bind fun p => (r sl p.2).map fun q => (p.1 :: q.1, q.2)
theorem a_nil : PA3 K X [] aNil := ⟨pa_imp pa_nil fun σ H Q h => by
  obtain ⟨A, S, sl, w, S', rfl, R, s, e, q⟩ := h
  cases e
  exact q A [] (Nx.refl A) R .nil, fun sl S ws S' e => by cases e; rfl⟩
theorem a_cons {f : FE} {r : FA} (h : PE3 K X e f) (hr : PA3 K X es r) (hs : starEach (e :: es) X.env = (false, eval e X.env) :: starEach es X.env := by rfl) : PA3 K X (e :: es) (aCons f r) :=
  ⟨pa_imp (pa_cons h.p hr.p hs) fun σ H Q h => by
    obtain ⟨A, S, sl, w, S', rfl, R, s, e, q⟩ := h
    obtain ⟨⟨w1, S1⟩, e1, e2⟩ := Option.bind_eq_some_iff.mp e
    obtain ⟨⟨w2, S2⟩, e3, e4⟩ := Option.map_eq_some_iff.mp e2
    cases e4
    refine ⟨A, S, sl, w1, S1, rfl, R, s, e1, fun B v n R' r => ?_⟩
    exact ⟨B, S1, sl, w2, _, rfl, R', s.mono n, e3, fun C vs n2 R2 r2 => q C (v :: vs) (n.trans n2) R2 (.cons (r.mono n2) r2)⟩, fun sl S ws S' e => by
    obtain ⟨⟨w1, S1⟩, e1, e2⟩ := Option.bind_eq_some_iff.mp e
    obtain ⟨⟨w2, S2⟩, e3, e4⟩ := Option.map_eq_some_iff.mp e2
    cases e4
    rw [List.length_cons, List.length_cons, hr.len _ _ _ _ e3]⟩
/-- all are data -/
def dsOf : List W3 → Option (List PyData)
  | [] => some []
  | .d x :: r => (dsOf r).map (x :: ·)
  | _ :: _ => none
theorem dsOf_daa {A : Wd} : ∀ {ws : List W3} {vs : List V} {ds : List PyData}, RWs K A vs ws → dsOf ws = some ds → DaA K A.G vs ds
  | [], _, _, .nil, e => by cases e; exact .nil
  | .d x :: r, _, _, .cons h t, e => by
    obtain ⟨xs, e1, e2⟩ := Option.map_eq_some_iff.mp e
    cases e2
    exact .cons h (dsOf_daa t e1)
  | .r _ :: _, _, _, .cons h t, e => by cases e
  | .sc _ :: _, _, _, .cons h t, e => by cases e
  | .ty _ :: _, _, _, .cons h t, e => by cases e
def eTup (a : FA) : FE := fun sl S => (a sl S).bind fun p => (dsOf p.1).map fun ds => (.d (.tuple ds), p.2)
def nLst (a : FA) : FN := fun sl S => (a sl S).bind fun p => (dsOf p.1).map fun ds => (ds, p.2)
/-- a new list as data; as a changeable object -/
def eNd (n : FN) : FE := fun sl S => (n sl S).map fun p => (.d (.list p.1), p.2)
def eNo (n : FN) : FE := fun sl S => (n sl S).map fun p => (.r p.2.length, p.2 ++ [.lst p.1])
theorem e_tup {f : FA} {x1} (h : PA3 K X es f) (hn : es.length ≤ 1000 := by decide) : PE3 K X (.Tuple es x1 pos) (eTup f) := ⟨pe_imp (pe_tup h.p) fun σ H Q h' => by
  obtain ⟨A, S, sl, w, S', rfl, R, s, e, q⟩ := h'
  obtain ⟨⟨w1, S1⟩, e1, e2⟩ := Option.bind_eq_some_iff.mp e
  obtain ⟨ds, e3, e4⟩ := Option.map_eq_some_iff.mp e2
  cases e4
  refine ⟨A, S, sl, w1, _, rfl, R, s, e1, fun B vs n R' r => ⟨?_, fun p hp => ?_⟩⟩
  · rw [r.len, h.len _ _ _ _ e1]; exact Nat.le_trans hn (by decide)
  · obtain ⟨n2, R2⟩ := Nx.dat (o := .tup vs) R' hp
    exact q ⟨upd B.G p (.tup vs), upd B.H p (.tup vs), B.ι⟩ _ (n.trans n2) R2 (Da.tup (SqT.of upd_same) ((dsOf_daa r e3).up n2.gg))⟩
theorem n_lst {f : FA} (h : PA3 K X es f) (hn : es.length ≤ 1000 := by decide) : PN3 K X (.List es pos) (nLst f) := ⟨pe_imp (pe_lst h.p) fun σ H Q h' => by
  obtain ⟨A, S, sl, w, S', rfl, R, s, e, q⟩ := h'
  obtain ⟨⟨w1, S1⟩, e1, e2⟩ := Option.bind_eq_some_iff.mp e
  obtain ⟨ds, e3, e4⟩ := Option.map_eq_some_iff.mp e2
  cases e4
  refine ⟨A, S, sl, w1, _, rfl, R, s, e1, fun B vs n R' r => ⟨?_, fun p hp => ?_⟩⟩
  · rw [r.len, h.len _ _ _ _ e1]; exact Nat.le_trans hn (by decide)
  · obtain ⟨n2, R2⟩ := Nx.junk (o := .lst vs) R' hp
    refine q ⟨B.G, upd B.H p (.lst vs), B.ι⟩ vs p (n.trans n2) R2 ?_ (R'.new hp) (R'.gh.free hp) upd_same (dsOf_daa (A := B) r e3)
    cases z : A.H p with
    | none => rfl
    | some u => exact absurd hp (n.dm p (by rw [z]; exact fun k => nomatch k))⟩
theorem e_nd {f : FN} (h : PN3 K X e f) : PE3 K X e (eNd f) := ⟨pe_imp h.p fun σ H Q h' => by
  obtain ⟨A, S, sl, w, S', rfl, R, s, e, q⟩ := h'
  obtain ⟨⟨w1, S1⟩, e1, e2⟩ := Option.map_eq_some_iff.mp e
  cases e2
  refine ⟨A, S, sl, w1, _, rfl, R, s, e1, fun B vs p n R' np ni g hh hd => ?_⟩
  obtain ⟨n2, R2⟩ := Nx.fix n R' np ni g hh
  exact q ⟨upd B.G p (.lst vs), B.H, B.ι⟩ _ n2 R2 (Da.lst upd_same (hd.up (fun b u e => by
    show upd B.G p _ b = _
    rw [upd_ne (ne_of_none e g)]; exact e)))⟩
theorem e_no {f : FN} (h : PN3 K X e f) : PE3 K X e (eNo f) := ⟨pe_imp h.p fun σ H Q h' => by
  obtain ⟨A, S, sl, w, S', rfl, R, s, e, q⟩ := h'
  obtain ⟨⟨w1, S1⟩, e1, e2⟩ := Option.map_eq_some_iff.mp e
  cases e2
  refine ⟨A, S, sl, w1, _, rfl, R, s, e1, fun B vs p n R' np ni g hh hd => ?_⟩
  obtain ⟨n2, R2⟩ := Nx.own0 (o := .lst w1) n R' np ni ⟨g, vs, hh, hd⟩
  exact q ⟨B.G, B.H, B.ι ++ [p]⟩ _ n2 R2 (RW.last R'.len)⟩
end

/-! ### statements -/
def sNx : FS := fun sl S => some (.nx sl S)
def sBk : FS := fun sl S => some (.bk sl S)
def sCt : FS := fun sl S => some (.ct sl S)
def sSeq (f g : FS) : FS := fun sl S => (f sl S).bind fun o => match o with
  | .nx sl' S' => g sl' S'
  | o => some o
def sEx (f : FE) : FS := fun sl S => (f sl S).map fun p => .nx sl p.2
def sRt (f : FE) : FS := fun sl S => (f sl S).map fun p => .rt p.1 p.2
def sRtN : FS := fun sl S => some (.rt (.d .none) S)
def sIf (t : FT) (a b : FS) : FS := fun sl S => (t sl S).bind fun p => if p.1 = true then a sl p.2 else b sl p.2
def sSet (i : Nat) (f : FE) : FS := fun sl S => (f sl S).map fun p => .nx (sl.set i (some p.1)) p.2
def sAsg (f : FE) (g : FG) : FS := fun sl S => (f sl S).bind fun p => (g p.1 sl p.2).map fun q => .nx q.1 q.2
section
variable {K : PySem.W.Frag} {X : Cx} {e : Expr} {es : List Expr} {st : Stmt} {sts : List Stmt} {pos : Pos}
theorem b_nil : PSs3 K X [] sNx := ⟨pss_imp pss_nil fun D σ H h => by
  obtain ⟨A, S, sl, o, rfl, R, s, e, q⟩ := h
  cases e
  exact q A σ (Nx.refl A) R s⟩
theorem b_cons {f g : FS} (h : PS3 K X st f) (hr : PSs3 K X sts g) : PSs3 K X (st :: sts) (sSeq f g) := ⟨pss_imp (pss_cons h.p hr.p) fun D σ H h => by
  obtain ⟨A, S, sl, o, rfl, R, s, e, q⟩ := h
  obtain ⟨o1, e1, e2⟩ := Option.bind_eq_some_iff.mp e
  refine ⟨A, S, sl, o1, rfl, R, s, e1, ?_⟩
  cases o1 with
  | nx sl' S' => exact fun B σ' n R' s' => ⟨B, S', sl', o, rfl, R', s', e2, q.mono n⟩
  | rt w S' => cases e2; exact q
  | bk sl' S' => cases e2; exact q
  | ct sl' S' => cases e2; exact q⟩
theorem b_one {f : FS} (h : PS3 K X st f) : PSs3 K X [st] f := ⟨pss_one h.p⟩
theorem s_pass : PS3 K X (.Pass pos) sNx := ⟨ps_imp ps_pass fun D σ H h => by
  obtain ⟨A, S, sl, o, rfl, R, s, e, q⟩ := h
  cases e
  exact q A σ (Nx.refl A) R s⟩
theorem s_break : PS3 K X (.Break pos) sBk := ⟨ps_imp ps_break fun D σ H h => by
  obtain ⟨A, S, sl, o, rfl, R, s, e, q⟩ := h
  cases e
  exact q A σ (Nx.refl A) R s⟩
theorem s_continue : PS3 K X (.Continue pos) sCt := ⟨ps_imp ps_continue fun D σ H h => by
  obtain ⟨A, S, sl, o, rfl, R, s, e, q⟩ := h
  cases e
  exact q A σ (Nx.refl A) R s⟩
theorem s_expr {f : FE} (h : PE3 K X e f) (hs : swapsWith e none pos.line X.env = pure false := by rfl) : PS3 K X (.Expr e pos) (sEx f) := ⟨ps_imp (ps_expr h.p hs) fun D σ H h => by
  obtain ⟨A, S, sl, o, rfl, R, s, e, q⟩ := h
  obtain ⟨⟨w1, S1⟩, e1, e2⟩ := Option.map_eq_some_iff.mp e
  cases e2
  exact ⟨A, S, sl, w1, S1, rfl, R, s, e1, fun B v n R' r => q B σ n R' (s.mono n)⟩⟩
theorem s_ret {f : FE} (h : PE3 K X e f) : PS3 K X (.Return (some e) pos) (sRt f) := ⟨ps_imp (ps_ret h.p) fun D σ H h => by
  obtain ⟨A, S, sl, o, rfl, R, s, e, q⟩ := h
  obtain ⟨⟨w1, S1⟩, e1, e2⟩ := Option.map_eq_some_iff.mp e
  cases e2
  exact ⟨A, S, sl, w1, S1, rfl, R, s, e1, fun B v n R' r => q B v n R' r⟩⟩
theorem s_retN : PS3 K X (.Return none pos) sRtN := ⟨ps_imp ps_retN fun D σ H h => by
  obtain ⟨A, S, sl, o, rfl, R, s, e, q⟩ := h
  cases e
  exact q A .non (Nx.refl A) R Da.non⟩
theorem s_if {t : FT} {f g : FS} {c : Expr} {a b : List Stmt} (hc : PT3 K X c t) (ha : PSs3 K X a f) (hb : PSs3 K X b g) : PS3 K X (.If c a b pos) (sIf t f g) := ⟨ps_imp (ps_if hc.p ha.p hb.p) fun D σ H h => by
  obtain ⟨A, S, sl, o, rfl, R, s, e, q⟩ := h
  obtain ⟨⟨w1, S1⟩, e1, e2⟩ := Option.bind_eq_some_iff.mp e
  refine ⟨A, S, sl, w1, S1, rfl, R, s, e1, fun B n R' => ?_⟩
  cases w1 with
  | true => exact ⟨B, S1, sl, o, rfl, R', s.mono n, e2, q.mono n⟩
  | false => exact ⟨B, S1, sl, o, rfl, R', s.mono n, e2, q.mono n⟩⟩
theorem s_set {i : Nat} {x : Str} {f : FE} {pos' : Pos} (hN : X.N.Nodup) (hi : X.N[i]? = some x) (hx : Loc X.env.scope x) (h : PE3 K X e f) (hs : swapsWith e (some (.Name x pos')) pos.line X.env = pure false := by rfl)
    (hf : X.fn x = true ∨ X.env.scope.names.lookup x = some .local := by first | exact .inl rfl | exact .inr rfl | assumption) : PS3 K X (.Assign [.Name x pos'] e pos) (sSet i f) := ⟨ps_imp (ps_set hN hi hx h.p hs hf) fun D σ H h => by
  obtain ⟨A, S, sl, o, rfl, R, s, e, q⟩ := h
  obtain ⟨⟨w1, S1⟩, e1, e2⟩ := Option.map_eq_some_iff.mp e
  cases e2
  exact ⟨A, S, sl, w1, S1, rfl, R, s, e1, fun B v n R' r => q B _ n R' ((s.mono n).set i r)⟩⟩
theorem s_asg {f : FE} {g : FG} {vs : List Nat} {tg : Expr} (h : PE3 K X e f) (hg : PG3 K X tg vs g) (hs : swapsWithSole [tg] e pos.line X.env = pure false := by rfl) (hw : swappedStores [tg] e X.env = pure none := by rfl) (h1 : (assignEach [tg] X.env).map (·.2) = [assign tg X.env] := by rfl) : PS3 K X (.Assign [tg] e pos) (sAsg f g) := ⟨ps_imp (ps_asg h.p hg.p hs hw h1) fun D σ H h => by
  obtain ⟨A, S, sl, o, rfl, R, s, e, q⟩ := h
  obtain ⟨⟨w1, S1⟩, e1, e2⟩ := Option.bind_eq_some_iff.mp e
  obtain ⟨⟨sl2, S2⟩, e3, e4⟩ := Option.map_eq_some_iff.mp e2
  cases e4
  refine ⟨A, S, sl, w1, S1, rfl, R, s, e1, fun B v n R' r => ?_⟩
  exact ⟨B, S1, sl, w1, sl2, S2, rfl, R', s.mono n, r, e3, fun C σ' n2 R2 s2 _ => q C σ' (n.trans n2) R2 s2⟩⟩
end

/-! ### targets -/
def gNm (i : Nat) : FG := fun w sl S => some (sl.set i (some w), S)
def gsNil : List PyData → Sl → List MO → Option (Sl × List MO) := fun xs sl S => match xs with
  | [] => some (sl, S)
  | _ => none
def gsCons (g : FG) (r : List PyData → Sl → List MO → Option (Sl × List MO)) : List PyData → Sl → List MO → Option (Sl × List MO) := fun xs sl S => match xs with
  | x :: xs => (g (.d x) sl S).bind fun p => r xs p.1 p.2
  | [] => none
def gTp (r : List PyData → Sl → List MO → Option (Sl × List MO)) : FG := fun w sl S => match w with
  | .d (.tuple xs) => r xs sl S
  | _ => none
def tgsO (K : PySem.W.Frag) (n : Nat) (vs : List Nat) (f : List PyData → Sl → List MO → Option (Sl × List MO)) : TGs := fun v σ H Q => ∃ (A : Wd) (S : List MO) (sl : Sl) (w : List PyData) (sl' : Sl) (S' : List MO), A.H = H ∧ Rl K A S ∧ SR3 K A σ sl ∧ DaA K A.G v w ∧ f w sl S = some (sl', S') ∧
  ∀ B σ', Nx A B → Rl K B S' → SR3 K B σ' sl' → (σ'.length = σ.length ∧ ∀ j, j ∉ vs → σ'[j]? = σ[j]?) → Q σ' B.H
structure PGs3 (K : PySem.W.Frag) (X : Cx) (es : List Expr) (n : Nat) (vs : List Nat) (f : List PyData → Sl → List MO → Option (Sl × List MO)) : Prop where
  p : PGs X es (tgsO K n vs f)
  len : ∀ xs sl S r, f xs sl S = some r → xs.length = n
section
variable {K : PySem.W.Frag} {X : Cx} {e : Expr} {es : List Expr} {pos : Pos}
theorem pg_imp {t t' : TG} (h : PG X e t) (i : ∀ v σ H Q, t' v σ H Q → t v σ H Q) : PG X e t' := ⟨fun pins s σ H v u Q I r q => h.run pins s σ H v u Q I r (i v σ H Q q)⟩
theorem pgs_imp {t t' : TGs} (h : PGs X es t) (i : ∀ v σ H Q, t' v σ H Q → t v σ H Q) : PGs X es t' := ⟨fun pins s σ H v u Q I r q => h.run pins s σ H v u Q I r (i v σ H Q q)⟩
theorem g_name {i : Nat} {x : Str} (hN : X.N.Nodup) (hi : X.N[i]? = some x) (hx : Loc X.env.scope x) (hf : X.fn x = true ∨ X.env.scope.names.lookup x = some .local := by first | exact .inl rfl | exact .inr rfl | assumption) : PG3 K X (.Name x pos) [i] (gNm i) := ⟨pg_imp (pg_name hN hi hx hf) fun v σ H Q h => by
  obtain ⟨A, S, sl, w, sl', S', rfl, R, s, r, e, q⟩ := h
  cases e
  refine q A _ (Nx.refl A) R (s.set i r) ⟨List.length_set, fun j hj => ?_⟩
  rw [List.getElem?_set_ne (fun z => hj (by simp [z]))]⟩
theorem gs_nil : PGs3 K X [] 0 [] gsNil := ⟨pgs_imp pgs_nil fun v σ H Q h => by
  obtain ⟨A, S, sl, w, sl', S', rfl, R, s, r, e, q⟩ := h
  cases w with
  | nil =>
    cases e
    cases r
    exact ⟨rfl, q A _ (Nx.refl A) R s ⟨rfl, fun _ _ => rfl⟩⟩
  | cons _ _ => (cases e), fun xs sl S r e => by
  cases xs with
  | nil => rfl
  | cons _ _ => cases e⟩
theorem gs_cons {g : FG} {r : List PyData → Sl → List MO → Option (Sl × List MO)} {n : Nat} {vs ws : List Nat} (h : PG3 K X e vs g) (hr : PGs3 K X es n ws r) (hs : (assignEach (e :: es) X.env).map (·.2) = assign e X.env :: (assignEach es X.env).map (·.2) := by rfl) : PGs3 K X (e :: es) (n + 1) (vs ++ ws) (gsCons g r) := ⟨pgs_imp (pgs_cons h.p hr.p hs) fun v σ H Q h => by
  obtain ⟨A, S, sl, w, sl', S', rfl, R, s, r, e, q⟩ := h
  cases w with
  | nil => cases e
  | cons x xs =>
    cases r
    rename_i u us hu hus
    obtain ⟨⟨sl1, S1⟩, e1, e2⟩ := Option.bind_eq_some_iff.mp e
    refine ⟨u, us, rfl, A, S, sl, .d x, sl1, S1, rfl, R, s, hu, e1, fun B σ' n1 R' s' k => ?_⟩
    exact ⟨B, S1, sl1, xs, sl', S', rfl, R', s', hus.up n1.gg, e2, fun C σ2 n2 R2 s2 k2 => q C σ2 (n1.trans n2) R2 s2 ⟨k2.1.trans k.1, fun j hj => (k2.2 j fun z => hj (List.mem_append_right _ z)).trans (k.2 j fun z => hj (List.mem_append_left _ z))⟩⟩, fun xs sl S r e => by
  cases xs with
  | nil => cases e
  | cons x xs =>
    obtain ⟨⟨sl1, S1⟩, e1, e2⟩ := Option.bind_eq_some_iff.mp e
    rw [List.length_cons, hr.len _ _ _ _ e2]⟩
theorem g_tup {r : List PyData → Sl → List MO → Option (Sl × List MO)} {n k : Nat} {vs : List Nat} (hK : X.K = K) (hc : X.calm = true) (h : PGs3 K X es n vs r)
    (hn : (assignEach es X.env).length = n := by rfl) (hst : (assignEach es X.env).findIdx? (·.1) = none := by rfl) : PG3 K X (.Tuple es k pos) vs (gTp r) := ⟨pg_imp (pg_tup hc h.p hn hst) fun v σ H Q h' => by
  obtain ⟨A, S, sl, w, sl', S', rfl, R, s, r, e, q⟩ := h'
  cases w with
  | r _ => cases e
  | sc _ => cases e
  | ty _ => cases e
  | d x =>
    cases x with
    | tuple xs =>
      obtain ⟨a, us, rfl, ha, hd⟩ := Da.tup_inv r
      subst hK
      refine ⟨a, us, rfl, sqT_up R.gh ha, by rw [hd.len]; exact h.len _ _ _ _ e, ?_⟩
      exact ⟨A, S, sl, xs, sl', S', rfl, R, s, hd, e, q⟩
    | _ => cases e⟩
end
end EA
namespace EA
open PySem PySem.Spec PyProof.Rows L2

/-! ### for -/
def fLoop (ok : List MO → Bool) (g : FG) (b : FS) : List W3 → Sl → List MO → Option Out
  | [], sl, S => if ok S = true then some (.nx sl S) else none
  | w :: ws, sl, S => if ok S = true then (g w sl S).bind fun p => (b p.1 p.2).bind fun o => match o with
      | .nx sl' S' => fLoop ok g b ws sl' S'
      | .ct sl' S' => fLoop ok g b ws sl' S'
      | .bk sl' S' => some (.nx sl' S')
      | .rt w S' => some (.rt w S') else none
def sFor (it : FI) (g : FG) (b : FS) : FS := fun sl S => (it sl S).bind fun p => fLoop p.1.ok g b p.1.ws sl p.2
theorem fLoop_ok {ok : List MO → Bool} {g : FG} {b : FS} {ws : List W3} {sl : Sl} {S : List MO} {o : Out} (h : fLoop ok g b ws sl S = some o) : ok S = true := by
  cases ws with
  | nil =>
    by_cases z : ok S = true
    · exact z
    · rw [fLoop, if_neg z] at h; cases h
  | cons w ws =>
    by_cases z : ok S = true
    · exact z
    · rw [fLoop, if_neg z] at h; cases h
section
variable {K : PySem.W.Frag} {X : Cx} {e : Expr} {es : List Expr} {st : Stmt} {sts : List Stmt} {pos : Pos}
theorem s_for {iter tg : Expr} {body : List Stmt} {it : FI} {vs : List Nat} {g : FG} {b : FS} (hp : PassesOwn (model X.prog X.w) X.A X.env X.xe) (hc : X.calm = true) (hi : PI3 K X tg iter it) (hg : PG3 K X tg vs g) (hb : PSs3 K X body b)
    (hs : ∀ x, foldedSetIterable iter X.env x = pure x := by intro _; rfl) : PS3 K X (.For tg iter body [] pos) (sFor it g b) := ⟨ps_imp (ps_for hp hc hi.p hg.p hb.p hs) fun D σ H h => by
  obtain ⟨A, S, sl, o, rfl, R, s, e, q⟩ := h
  obtain ⟨⟨j, S1⟩, e1, e2⟩ := Option.bind_eq_some_iff.mp e
  refine ⟨A, S, sl, j, S1, rfl, R, s, e1, fun B J n R' IR => ?_⟩
  refine ⟨fun i m σ H => m = j.ws.length - i ∧ i ≤ j.ws.length ∧ ∃ (C : Wd) (S : List MO) (sl : Sl) (o : Out), C.H = H ∧ Nx B C ∧ Rl K C S ∧ SR3 K C σ sl ∧ fLoop j.ok g b (j.ws.drop i) sl S = some o ∧ EndsOk K C D o,
    ⟨_, rfl, Nat.zero_le _, B, S1, sl, o, rfl, Nx.refl B, R', s.mono n, by rw [List.drop_zero]; exact e2, q.mono n⟩, ?_⟩
  rintro i m σ1 H1 ⟨rfl, hi, C, S2, sl2, o2, rfl, n2, R2, s2, e3, q2⟩
  have hok := fLoop_ok e3
  have ir := IR C S2 n2.toV R2 hok i
  by_cases hlt : i < j.ws.length
  · have hw : j.ws[i]? = some j.ws[i] := List.getElem?_eq_getElem hlt
    obtain ⟨go, step⟩ := ir.1 _ hw
    have hd : j.ws.drop i = j.ws[i] :: j.ws.drop (i + 1) := List.drop_eq_getElem_cons hlt
    rw [hd, fLoop, if_pos hok] at e3
    obtain ⟨⟨sl3, S3⟩, e4, e5⟩ := Option.bind_eq_some_iff.mp e3
    obtain ⟨o3, e6, e7⟩ := Option.bind_eq_some_iff.mp e5
    refine .inr ⟨go, fun σ' H' => ∃ (C : Wd) (S : List MO) (sl : Sl) (o : Out), C.H = H' ∧ Nx B C ∧ Rl K C S ∧ SR3 K C σ' sl ∧ fLoop j.ok g b (j.ws.drop (i + 1)) sl S = some o ∧ EndsOk K C D o, fun σ' H' w => ⟨j.ws.length - (i + 1), by omega, rfl, hlt, w⟩, fun v H' y => ?_⟩
    obtain ⟨C', rfl, n3, R3, r3⟩ := step v H' y
    refine ⟨C', S2, sl2, j.ws[i], sl3, S3, rfl, R3, s2.mono n3, r3, e4, fun E σ' n4 R4 s4 _ => ?_⟩
    have nE : Nx C E := n3.trans n4
    refine ⟨E, S3, sl3, o3, rfl, R4, s4, e6, ?_⟩
    cases o3 with
    | nx sl' S' => exact fun F σ2 n5 R5 s5 => ⟨F, S', sl', o2, rfl, n2.trans (nE.trans n5), R5, s5, e7, q2.mono (nE.trans n5)⟩
    | ct sl' S' => exact fun F σ2 n5 R5 s5 => ⟨F, S', sl', o2, rfl, n2.trans (nE.trans n5), R5, s5, e7, q2.mono (nE.trans n5)⟩
    | bk sl' S' => cases e7; exact fun F σ2 n5 R5 s5 => q2 F σ2 (nE.trans n5) R5 s5
    | rt w S' => cases e7; exact fun F v n5 R5 s5 => q2 F v (nE.trans n5) R5 s5
  · have hz : i = j.ws.length := by omega
    subst hz
    rw [List.drop_length, fLoop, if_pos hok] at e3
    cases e3
    exact .inl ⟨ir.2 (Nat.le_refl _), q2 C σ1 (Nx.refl C) R2 s2⟩⟩

/-! ### while -/
def wRun (t : FT) (b : FS) : Nat → Sl → List MO → Option Out
  | 0, _, _ => none
  | n + 1, sl, S => (t sl S).bind fun p => if p.1 = true then (b sl p.2).bind fun o => match o with
      | .nx sl' S' => wRun t b n sl' S'
      | .ct sl' S' => wRun t b n sl' S'
      | .bk sl' S' => some (.nx sl' S')
      | .rt w S' => some (.rt w S') else some (.nx sl p.2)
open Classical in
noncomputable def sWh (t : FT) (b : FS) : FS := fun sl S => if h : ∃ o, ∃ n, wRun t b n sl S = some o then some (Classical.choose h) else none
theorem wRun_up {t : FT} {b : FS} : ∀ {n : Nat} {sl : Sl} {S : List MO} {o : Out}, wRun t b n sl S = some o → ∀ m, n ≤ m → wRun t b m sl S = some o
  | 0, _, _, _, h, _, _ => by cases h
  | n + 1, sl, S, o, h, m, hm => by
    obtain ⟨m, rfl⟩ : ∃ k, m = k + 1 := ⟨m - 1, by omega⟩
    rw [wRun] at h ⊢
    obtain ⟨p, e1, e2⟩ := Option.bind_eq_some_iff.mp h
    rw [e1]
    show (if p.1 = true then _ else _) = _
    by_cases hp : p.1 = true
    · rw [if_pos hp] at e2 ⊢
      obtain ⟨o1, e3, e4⟩ := Option.bind_eq_some_iff.mp e2
      rw [e3]
      cases o1 with
      | nx sl' S' => exact wRun_up e4 m (by omega)
      | ct sl' S' => exact wRun_up e4 m (by omega)
      | bk sl' S' => exact e4
      | rt w S' => exact e4
    · rw [if_neg hp] at e2 ⊢
      exact e2
theorem sWh_of {t : FT} {b : FS} {n : Nat} {sl : Sl} {S : List MO} {o : Out} (h : wRun t b n sl S = some o) : sWh t b sl S = some o := by
  have ex : ∃ o, ∃ n, wRun t b n sl S = some o := ⟨o, n, h⟩
  unfold sWh
  rw [dif_pos ex]
  obtain ⟨m, hm⟩ := Classical.choose_spec ex
  have a := wRun_up h (n + m) (by omega)
  have b := wRun_up hm (n + m) (by omega)
  exact b.symm.trans a
theorem sWh_inv {t : FT} {b : FS} {sl : Sl} {S : List MO} {o : Out} (h : sWh t b sl S = some o) : ∃ n, wRun t b n sl S = some o := by
  unfold sWh at h
  by_cases ex : ∃ o, ∃ n, wRun t b n sl S = some o
  · rw [dif_pos ex] at h
    obtain ⟨m, hm⟩ := Classical.choose_spec ex
    exact ⟨m, hm.trans h⟩
  · rw [dif_neg ex] at h
    cases h
theorem s_while {c : Expr} {body : List Stmt} {t : FT} {b : FS} (hp : PassesOwn (model X.prog X.w) X.A X.env X.xe) (hc : PT3 K X c t) (hb : PSs3 K X body b) : PS3 K X (.While c body [] pos) (sWh t b) := ⟨ps_imp (ps_while hp hc.p hb.p) fun D σ H h => by
  obtain ⟨A, S, sl, o, rfl, R, s, e, q⟩ := h
  obtain ⟨n0, e0⟩ := sWh_inv e
  refine ⟨fun n σ H => ∃ (C : Wd) (S : List MO) (sl : Sl) (o : Out), C.H = H ∧ Rl K C S ∧ SR3 K C σ sl ∧ wRun t b n sl S = some o ∧ EndsOk K C D o, ⟨n0, A, S, sl, o, rfl, R, s, e0, q⟩, ?_⟩
  rintro n σ1 H1 ⟨C, S1, sl1, o1, rfl, R1, s1, e1, q1⟩
  cases n with
  | zero => cases e1
  | succ n =>
    rw [wRun] at e1
    obtain ⟨⟨b1, S2⟩, e2, e3⟩ := Option.bind_eq_some_iff.mp e1
    refine ⟨C, S1, sl1, b1, S2, rfl, R1, s1, e2, fun E n1 R2 => ?_⟩
    cases b1 with
    | false => cases e3; exact q1 E σ1 n1 R2 (s1.mono n1)
    | true =>
      obtain ⟨o2, e4, e5⟩ := Option.bind_eq_some_iff.mp e3
      refine ⟨fun σ' H' => ∃ (C : Wd) (S : List MO) (sl : Sl) (o : Out), C.H = H' ∧ Rl K C S ∧ SR3 K C σ' sl ∧ wRun t b n sl S = some o ∧ EndsOk K C D o, fun σ' H' w => ⟨n, Nat.lt_succ_self n, w⟩, E, S2, sl1, o2, rfl, R2, s1.mono n1, e4, ?_⟩
      cases o2 with
      | nx sl' S' => exact fun F σ2 n5 R5 s5 => ⟨F, S', sl', o1, rfl, R5, s5, e5, q1.mono (n1.trans n5)⟩
      | ct sl' S' => exact fun F σ2 n5 R5 s5 => ⟨F, S', sl', o1, rfl, R5, s5, e5, q1.mono (n1.trans n5)⟩
      | bk sl' S' => cases e5; exact fun F σ2 n5 R5 s5 => q1 F σ2 (n1.trans n5) R5 s5
      | rt w S' => cases e5; exact fun F v n5 R5 s5 => q1 F v (n1.trans n5) R5 s5⟩
end

/-! ### [e for x in xs if ..] -/
def wipe3 (sl : Sl) : List Nat → Sl
  | [] => sl
  | v :: vs => (wipe3 sl vs).set v none
def cLoop (ok : List MO → Bool) (g : FG) (t : FT) (e : FE) (sl : Sl) : List W3 → List MO → Option (List PyData × List MO)
  | [], S => if ok S = true then some ([], S) else none
  | w :: ws, S => if ok S = true then (g w sl S).bind fun p => (t p.1 p.2).bind fun b => if b.1 = true then (e p.1 b.2).bind fun y => match y.1 with
        | .d x => (cLoop ok g t e sl ws y.2).map fun z => (x :: z.1, z.2)
        | _ => none
      else cLoop ok g t e sl ws b.2
    else none
/-- own: the comprehension's names' slots -/
def nLc (own : List Nat) (it : FI) (g : FG) (t : FT) (e : FE) : FN := fun sl S => (it sl S).bind fun p => if p.1.ws.length ≤ 100000 then cLoop p.1.ok g t e (wipe3 sl own) p.1.ws p.2 else none
def tYes3 : FT := fun _ S => some (true, S)
theorem cLoop_ok {ok : List MO → Bool} {g : FG} {t : FT} {e : FE} {sl : Sl} {ws : List W3} {S : List MO} {o : List PyData × List MO} (h : cLoop ok g t e sl ws S = some o) : ok S = true := by
  cases ws with
  | nil =>
    by_cases z : ok S = true
    · exact z
    · rw [cLoop, if_neg z] at h; cases h
  | cons w ws =>
    by_cases z : ok S = true
    · exact z
    · rw [cLoop, if_neg z] at h; cases h
theorem SR3.weak {K : PySem.W.Frag} {A : Wd} {σ : L2.St} {sl : Sl} (h : SR3 K A σ sl) : ∀ vs : List Nat, SR3 K A (wipe σ vs) (wipe3 sl vs)
  | [] => h
  | v :: vs => by
    have ih := h.weak vs
    refine ⟨?_, fun j u e => ?_⟩
    · show ((wipe σ vs).set v none).length = ((wipe3 sl vs).set v none).length
      rw [List.length_set, List.length_set, ih.len]
    · have e' : ((wipe3 sl vs).set v none)[j]? = some (some u) := e
      show ∃ x, ((wipe σ vs).set v none)[j]? = some (some x) ∧ _
      by_cases hj : v = j
      · subst hj
        have hi : v < (wipe3 sl vs).length := by have := (List.getElem?_eq_some_iff.mp e').1; rwa [List.length_set] at this
        rw [List.getElem?_set_self hi] at e'
        cases e'
      · rw [List.getElem?_set_ne hj] at e' ⊢
        exact ih.at_ j u e'
theorem wipe_get {σ : L2.St} {j : Nat} : ∀ {vs : List Nat}, (wipe σ vs)[j]? = if j ∈ vs then (σ[j]?).map fun _ => none else σ[j]?
  | [] => by simp [wipe]
  | v :: vs => by
    show ((wipe σ vs).set v none)[j]? = _
    by_cases hj : v = j
    · subst hj
      rw [if_pos List.mem_cons_self]
      by_cases hi : v < σ.length
      · rw [List.getElem?_set_self (by rw [wipe_length]; exact hi), List.getElem?_eq_getElem hi]; rfl
      · rw [List.getElem?_eq_none (by rw [List.length_set, wipe_length]; omega), List.getElem?_eq_none (by omega)]; rfl
    · rw [List.getElem?_set_ne hj, wipe_get (vs := vs)]
      by_cases h : j ∈ vs
      · rw [if_pos h, if_pos (List.mem_cons_of_mem _ h)]
      · rw [if_neg h, if_neg fun z => (List.mem_cons.mp z).elim (fun z => hj z.symm) h]
theorem wipe_same {σ σ' : L2.St} {vs ws : List Nat} (hl : σ'.length = σ.length) (h : ∀ j, j ∉ ws → σ'[j]? = (wipe σ vs)[j]?) (hw : ∀ j ∈ ws, j ∈ vs) : wipe σ' vs = wipe σ vs := by
  apply List.ext_getElem?
  intro j
  rw [wipe_get, wipe_get]
  by_cases hj : j ∈ vs
  · rw [if_pos hj, if_pos hj]
    by_cases hi : j < σ.length
    · rw [List.getElem?_eq_getElem hi, List.getElem?_eq_getElem (by rw [hl]; exact hi)]; rfl
    · rw [List.getElem?_eq_none (by omega), List.getElem?_eq_none (by omega)]
  · rw [if_neg hj, if_neg hj, h j fun z => hj (hw j z), wipe_get, if_neg hj]
section
variable {K : PySem.W.Frag} {X : Cx} {e : Expr} {es : List Expr} {pos : Pos}
structure PTs3 (K : PySem.W.Frag) (X : Cx) (ifs : List Expr) (f : FT) : Prop where
  p : PTs X ifs (ttO K f)
theorem t_nil : PTs3 K X [] tYes3 := ⟨⟨fun pins s σ H Q I h => by
  obtain ⟨A, S, sl, w, S', rfl, R, s', e, q⟩ := h
  cases e
  exact (pts_nil (X := X)).run pins s σ _ Q I (q A (Nx.refl A) R)⟩⟩
theorem t_one {c : Expr} {f : FT} (h : PT3 K X c f) : PTs3 K X [c] f := ⟨pts_one h.p⟩
/-- the comprehension's reading, for a new list at D -/
theorem lc_go {it : FI} {g : FG} {t : FT} {f : FE} {vs ws : List Nat} (hw : ∀ j ∈ ws, j ∈ vs) {σ : L2.St} {H : Hp} {Q : VK} (h : tnO K (nLc vs it g t f) σ H Q) : tLc (tiO K it) (tgO K ws g) (ttO K t) (teO K f) vs σ H Q := by
  obtain ⟨A, S, sl, ys, S', rfl, R, s, e, q⟩ := h
  obtain ⟨⟨j, S1⟩, e1, e2⟩ := Option.bind_eq_some_iff.mp e
  refine ⟨A, S, sl, j, S1, rfl, R, s, e1, fun B J n R' IR D hD => ?_⟩
  have hz : j.ws.length ≤ 100000 := by
    by_cases z : j.ws.length ≤ 100000
    · exact z
    · rw [if_neg z] at e2; cases e2
  rw [if_pos hz] at e2
  have gD : B.G D = none := R'.gh.free hD
  have niD : D ∉ B.ι := R'.new hD
  have aD : A.H D = none := by
    cases z : A.H D with
    | none => rfl
    | some u => exact absurd hD (n.dm D (by rw [z]; exact fun k => nomatch k))
  obtain ⟨nj, Rj⟩ := Nx.junk (o := .lst []) R' hD
  refine ⟨fun i m H => m = j.ws.length - i ∧ i ≤ j.ws.length ∧ ∃ (C : Wd) (S : List MO) (acc : List V) (ds rest : List PyData), C.H = H ∧ Nx B C ∧ Rl K C S ∧ C.G D = none ∧ D ∉ C.ι ∧ C.H D = some (.lst acc) ∧ DaA K C.G acc ds ∧ acc.length ≤ i ∧
      cLoop j.ok g t f (wipe3 sl vs) (j.ws.drop i) S = some (rest, S') ∧ ds ++ rest = ys,
    ⟨_, rfl, Nat.zero_le _, ⟨B.G, upd B.H D (.lst []), B.ι⟩, S1, [], [], ys, rfl, nj, Rj, gD, niD, upd_same, .nil, Nat.le_refl _, by rw [List.drop_zero]; exact e2, rfl⟩, ?_⟩
  rintro i m H1 ⟨rfl, hi, C, S2, acc, ds, rest, rfl, n2, R2, gC, niC, hC, hd, hl, e3, ey⟩
  have hok := cLoop_ok e3
  have ir := IR C S2 n2.toV R2 hok i
  by_cases hlt : i < j.ws.length
  · have hwi : j.ws[i]? = some j.ws[i] := List.getElem?_eq_getElem hlt
    obtain ⟨go, step⟩ := ir.1 _ hwi
    have hdr : j.ws.drop i = j.ws[i] :: j.ws.drop (i + 1) := List.drop_eq_getElem_cons hlt
    rw [hdr, cLoop, if_pos hok] at e3
    obtain ⟨⟨sl3, S3⟩, e4, e5⟩ := Option.bind_eq_some_iff.mp e3
    obtain ⟨⟨b3, S4⟩, e6, e7⟩ := Option.bind_eq_some_iff.mp e5
    refine .inr ⟨go, fun H' => i + 1 ≤ j.ws.length ∧ ∃ (C : Wd) (S : List MO) (acc : List V) (ds rest : List PyData), C.H = H' ∧ Nx B C ∧ Rl K C S ∧ C.G D = none ∧ D ∉ C.ι ∧ C.H D = some (.lst acc) ∧ DaA K C.G acc ds ∧ acc.length ≤ i + 1 ∧
      cLoop j.ok g t f (wipe3 sl vs) (j.ws.drop (i + 1)) S = some (rest, S') ∧ ds ++ rest = ys, fun H' w => ⟨j.ws.length - (i + 1), by omega, rfl, w⟩, fun v H' y => ?_⟩
    obtain ⟨C', rfl, n3, R3, r3⟩ := step v H' y
    -- the list is still there
    have keep : ∀ {E : Wd}, Nx C E → E.G D = none ∧ D ∉ E.ι ∧ E.H D = some (.lst acc) ∧ DaA K E.G acc ds := fun {E} nE =>
      ⟨nE.nw D niC gC (by rw [hC]; exact fun z => nomatch z), fun z => (nE.fr D z).elim niC (fun k => nomatch hC.symm.trans k), nE.hh D _ niC hC, hd.up nE.gg⟩
    refine ⟨C', S2, wipe3 sl vs, j.ws[i], sl3, S3, rfl, R3, ((s.mono n).mono (n2.trans n3)).weak vs, r3, e4, fun E σ' n4 R4 s4 k4 => ⟨?_, ?_⟩⟩
    · exact wipe_same (by rw [k4.1, wipe_length]) k4.2 hw
    · refine ⟨E, S3, sl3, b3, S4, rfl, R4, s4, e6, fun F n5 R5 => ?_⟩
      have nF : Nx C F := (n3.trans n4).trans n5
      cases b3 with
      | false =>
        obtain ⟨g1, g2, g3, g4⟩ := keep nF
        exact ⟨hlt, F, S4, acc, ds, rest, rfl, n2.trans nF, R5, g1, g2, g3, g4, by omega, e7, ey⟩
      | true =>
        obtain ⟨⟨y1, S5⟩, e8, e9⟩ := Option.bind_eq_some_iff.mp e7
        refine ⟨F, S4, sl3, y1, S5, rfl, R5, s4.mono n5, e8, fun L u n6 R6 r6 => ?_⟩
        cases y1 with
        | r _ => cases e9
        | sc _ => cases e9
        | ty _ => cases e9
        | d x =>
          obtain ⟨⟨r2, S6⟩, e10, e11⟩ := Option.map_eq_some_iff.mp e9
          cases e11
          obtain ⟨g1, g2, g3, g4⟩ := keep (nF.trans n6)
          refine ⟨acc, g3, Nat.lt_of_le_of_lt (Nat.le_trans hl (Nat.le_trans hi hz)) (by decide), hlt, ⟨L.G, upd L.H D (.lst (acc ++ [u])), L.ι⟩, S5, acc ++ [u], ds ++ [x], r2, rfl, ?_, ?_, g1, g2, upd_same, g4.app (.cons r6 .nil), by rw [List.length_append]; exact Nat.succ_le_succ hl, e10, ?_⟩
          · have nL : Nx B L := n2.trans (nF.trans n6)
            exact ⟨nL.gg, fun b o hb hh => by
              show upd L.H D _ b = _
              rw [upd_ne (fun z => by rw [z, hD] at hh; cases hh)]; exact nL.hh b o hb hh, nL.nw, fun b hb z => nL.dm b hb (upd_none z), nL.pre, nL.fr⟩
          · refine ⟨fun b o hb => ?_, R6.nd, R6.len, fun i o a e1 e2 => (R6.ob i o a e1 e2).keep (Same.refl _) (fun g => g) fun u hu => ?_⟩
            · show upd L.H D _ b = _
              rw [upd_ne (ne_of_none hb g1)]; exact R6.gh b o hb
            · show upd L.H D _ a = _
              rw [upd_ne (fun z => g2 (by rw [← z]; exact List.mem_of_getElem? e2))]; exact hu
          · rw [List.append_assoc]; exact ey
  · have hz2 : i = j.ws.length := by omega
    subst hz2
    rw [List.drop_length, cLoop, if_pos hok] at e3
    cases e3
    rw [List.append_nil] at ey
    subst ey
    exact .inl ⟨ir.2 (Nat.le_refl _), q C acc D (n.trans n2) R2 aD niC gC hC hd⟩
end
end EA
namespace EA
open PySem PySem.Spec PyProof.Rows L2

/-! ### what a value is, as data -/
def view (S : List MO) : W3 → Option PyData
  | .d x => some x
  | .r i => match S[i]? with
    | some (.lst xs) => some (.list xs)
    | _ => none
  | .sc xs => some (.list (xs.map .int))
  | .ty _ => none
section
variable {K : PySem.W.Frag} {A : Wd} {S : List MO} {v : V} {w : W3} {x : PyData}
mutual
theorem Dp.ofDa {H : Hp} (s : Same A.G H) : ∀ {d : PyData} {v : V}, Da K A.G v d → Dp K H v d
  | .none, _, .non => .non
  | .bool _, _, .bl b => .bl b
  | .int _, _, .int i => .int i
  | .str _, _, .str x => .str x
  | .list _, _, .lst e h => .lst (SqL.of (s _ _ e)) (DpAll.ofDa s h)
  | .tuple _, _, .tup e h => .tup (sqT_up s e) (DpAll.ofDa s h)
theorem DpAll.ofDa {H : Hp} (s : Same A.G H) : ∀ {ds : List PyData} {vs : List V}, DaA K A.G vs ds → DpAll K H vs ds
  | [], _, .nil => .nil
  | _ :: _, _, .cons h t => .cons (Dp.ofDa s h) (DpAll.ofDa s t)
end
theorem DpAll.ints {H : Hp} : ∀ bs : List Int, DpAll K H (bs.map V.int) (bs.map PyData.int)
  | [] => .nil
  | b :: r => .cons (.int b) (DpAll.ints r)
mutual
theorem dp_plain {H : Hp} : ∀ {d : PyData} {v : V}, Dp K H v d → d.plain = true
  | .none, _, .non => rfl
  | .bool _, _, .bl b => rfl
  | .int _, _, .int i => rfl
  | .str _, _, .str x => rfl
  | .list _, _, .lst e h => dpAll_plain h
  | .tuple _, _, .tup e h => dpAll_plain h
theorem dpAll_plain {H : Hp} : ∀ {ds : List PyData} {vs : List V}, DpAll K H vs ds → PyData.plainAll ds = true
  | [], _, .nil => rfl
  | d :: ds, _, .cons h t => by
    show (d.plain && PyData.plainAll ds) = true
    rw [dp_plain h, dpAll_plain t]; rfl
end
/-- a list, as it lies -/
theorem view_list (R : Rl K A S) (r : RW K A v w) {xs : List PyData} (e : view S w = some (.list xs)) : ∃ a vs, v = .ref a ∧ SqL K A.H a vs ∧ DpAll K A.H vs xs ∧ DaA K A.G vs xs := by
  cases w with
  | d y =>
    cases e
    obtain ⟨a, vs, rfl, h1, h2⟩ := Da.list_inv r
    exact ⟨a, vs, rfl, SqL.of (R.gh _ _ h1), DpAll.ofDa R.gh h2, h2⟩
  | r i =>
    obtain ⟨a, ha, rfl⟩ := r
    unfold view at e
    dsimp only at e
    cases o : S[i]? with
    | none => rw [o] at e; cases e
    | some m =>
      rw [o] at e
      cases m with
      | gone => cases e
      | dic _ => cases e
      | lst ys =>
        cases e
        obtain ⟨g, vs, h1, h2⟩ := R.ob i _ a o ha
        exact ⟨a, vs, rfl, SqL.of h1, DpAll.ofDa R.gh h2, h2⟩
  | sc ys =>
    cases e
    obtain ⟨a, rfl, h⟩ := r
    exact ⟨a, _, rfl, R.gh.seq h, DpAll.ints ys, DaA.ints ys⟩
  | ty n => cases e
/-- a list whose object is its own -/
def viewL (S : List MO) : W3 → Option (List PyData)
  | .d (.list xs) => some xs
  | .r i => match S[i]? with
    | some (.lst xs) => some xs
    | _ => none
  | _ => none
theorem viewL_at (R : Rl K A S) (r : RW K A v w) {xs : List PyData} (e : viewL S w = some xs) : ∃ a vs, v = .ref a ∧ A.H a = some (.lst vs) ∧ DaA K A.G vs xs := by
  cases w with
  | d y =>
    cases y with
    | list ys =>
      cases e
      obtain ⟨a, vs, rfl, h1, h2⟩ := Da.list_inv r
      exact ⟨a, vs, rfl, R.gh _ _ h1, h2⟩
    | _ => cases e
  | r i =>
    obtain ⟨a, ha, rfl⟩ := r
    unfold viewL at e
    dsimp only at e
    cases o : S[i]? with
    | none => rw [o] at e; cases e
    | some m =>
      rw [o] at e
      cases m with
      | gone => cases e
      | dic _ => cases e
      | lst ys =>
        cases e
        obtain ⟨g, vs, h1, h2⟩ := R.ob i _ a o ha
        exact ⟨a, vs, rfl, h1, h2⟩
  | sc ys => cases e
  | ty n => cases e
theorem view_dp (R : Rl K A S) (r : RW K A v w) (e : view S w = some x) : Dp K A.H v x := by
  cases w with
  | d y => cases e; exact Dp.ofDa R.gh r
  | r i =>
    have e0 := e
    unfold view at e
    dsimp only at e
    cases o : S[i]? with
    | none => rw [o] at e; cases e
    | some m =>
      rw [o] at e
      cases m with
      | gone => cases e
      | dic _ => cases e
      | lst ys =>
        cases e
        obtain ⟨a, vs, rfl, h1, h2, _⟩ := view_list (K := K) R r e0
        exact .lst h1 h2
  | sc ys =>
    cases e
    obtain ⟨a, vs, rfl, h1, h2, _⟩ := view_list (K := K) (w := .sc ys) R r rfl
    exact .lst h1 h2
  | ty n => cases e
/-- a tuple, as it lies -/
theorem view_tup (R : Rl K A S) (r : RW K A v w) {xs : List PyData} (e : view S w = some (.tuple xs)) : ∃ a vs, v = .ref a ∧ SqT K A.H a vs ∧ DaA K A.G vs xs := by
  cases w with
  | d y =>
    cases e
    obtain ⟨a, vs, rfl, h1, h2⟩ := Da.tup_inv r
    exact ⟨a, vs, rfl, sqT_up R.gh h1, h2⟩
  | r i =>
    unfold view at e
    dsimp only at e
    cases o : S[i]? with
    | none => rw [o] at e; cases e
    | some m => rw [o] at e; cases m <;> cases e
  | sc ys => cases e
  | ty n => cases e
theorem Dp.int_inv {H : Hp} {i : Int} (h : Dp K H v (.int i)) : v = .int i := by cases h; rfl
theorem Dp.bool_inv {H : Hp} {i : Bool} (h : Dp K H v (.bool i)) : v = .bl i := by cases h; rfl
theorem Dp.str_inv {H : Hp} {i : Str} (h : Dp K H v (.str i)) : v = .str i := by cases h; rfl
theorem Dp.non_inv {H : Hp} (h : Dp K H v .none) : v = .non := by cases h; rfl
end

/-! ### comparisons -/
abbrev GB := PyData → PyData → Option Bool
def rB (K : PySem.W.Frag) (g : GB) : R2 := fun x y H Q => ∃ a b c, Dp K H x a ∧ Dp K H y b ∧ g a b = some c ∧ Q (.bl c) H
def gEq : GB := fun a b => if a.depth ≤ 40 ∨ b.depth ≤ 40 then some (PyData.eqv a b) else none
def gNe : GB := fun a b => if a.depth ≤ 40 ∨ b.depth ≤ 40 then some (!PyData.eqv a b) else none
def cmpOk (a b : PyData) : Bool := W.alike a b && (match a with | .none => false | _ => true) && (decide (a.depth ≤ 40) || decide (b.depth ≤ 40))
def gLt : GB := fun a b => if cmpOk a b = true then some (W.dataLt a b) else none
def gGt : GB := fun a b => if cmpOk a b = true then some (W.dataLt b a) else none
def gLe : GB := fun a b => if cmpOk a b = true then some (!W.dataLt b a) else none
def gGe : GB := fun a b => if cmpOk a b = true then some (!W.dataLt a b) else none
def isB : PyData → PyData → Bool
  | .none, .none => true
  | .bool a, .bool b => a == b
  | _, _ => false
def plainB : PyData → Bool
  | .none => true
  | .bool _ => true
  | _ => false
def gIs : GB := fun a b => if plainB b = true then some (isB a b) else none
def gIsN : GB := fun a b => if plainB b = true then some (!isB a b) else none
def gIn : GB := fun a b => match b with
  | .list xs => if PyData.depthAll xs ≤ 40 ∨ a.depth ≤ 40 then some (xs.any fun y => PyData.eqv y a) else none
  | .tuple xs => if PyData.depthAll xs ≤ 40 ∨ a.depth ≤ 40 then some (xs.any fun y => PyData.eqv y a) else none
  | .str j => match a with
    | .str i => some (!(Builtin.Str.occurrences j i 0 j.length 1).isEmpty)
    | _ => none
  | _ => none
def gNin : GB := fun a b => (gIn a b).map not
section
variable {X : Cx} {K : PySem.W.Frag}
theorem min_le40 {a b u c : Nat} (h : a ≤ 40 ∨ b ≤ 40) (hu : u + 64 < c) : u + min a b < c := by omega
theorem min_le41 {a b u c : Nat} (h : a ≤ 40 ∨ b ≤ 40) (hu : u + 64 < c) : u + 1 + min a b < c := by omega
theorem op_gEq (hu : X.A.units + 64 < cLine) : OpR X (compareOp .Eq) (rB X.K gEq) := by
  intro pins s σ H x y v u Q I rx ry h
  obtain ⟨a, b, c, ha, hb, e, q⟩ := h
  obtain ⟨as, ra⟩ := Dp.reads I a x v ha rx
  obtain ⟨bs, rb⟩ := Dp.reads I b y u hb ry
  unfold gEq at e
  by_cases z : a.depth ≤ 40 ∨ b.depth ≤ 40
  · rw [if_pos z] at e
    cases e
    exact SeqAt.eq_plain ra rb (dp_plain ha) (dp_plain hb) (min_le40 z hu) ⟨.bl _, H, I, rfl, q⟩
  · rw [if_neg z] at e; cases e
theorem op_gNe (hu : X.A.units + 64 < cLine) : OpR X (compareOp .NotEq) (rB X.K gNe) := by
  intro pins s σ H x y v u Q I rx ry h
  obtain ⟨a, b, c, ha, hb, e, q⟩ := h
  obtain ⟨as, ra⟩ := Dp.reads I a x v ha rx
  obtain ⟨bs, rb⟩ := Dp.reads I b y u hb ry
  unfold gNe at e
  by_cases z : a.depth ≤ 40 ∨ b.depth ≤ 40
  · rw [if_pos z] at e
    cases e
    exact SeqAt.ne_plain ra rb (dp_plain ha) (dp_plain hb) (min_le40 z hu) ⟨.bl _, H, I, rfl, q⟩
  · rw [if_neg z] at e; cases e
theorem cmpOk_of {a b : PyData} (h : cmpOk a b = true) : W.alike a b = true ∧ a ≠ .none ∧ (a.depth ≤ 40 ∨ b.depth ≤ 40) := by
  unfold cmpOk at h
  obtain ⟨h, h3⟩ := Bool.and_eq_true_iff.mp h
  obtain ⟨h1, h2⟩ := Bool.and_eq_true_iff.mp h
  refine ⟨h1, fun z => ?_, ?_⟩
  · subst z; cases h2
  · rcases Bool.or_eq_true_iff.mp h3 with k | k
    · exact .inl (of_decide_eq_true k)
    · exact .inr (of_decide_eq_true k)
theorem op_gLt (hu : X.A.units + 64 < cLine) : OpR X (compareOp .Lt) (rB X.K gLt) := by
  intro pins s σ H x y v u Q I rx ry h
  obtain ⟨a, b, c, ha, hb, e, q⟩ := h
  obtain ⟨as, ra⟩ := Dp.reads I a x v ha rx
  obtain ⟨bs, rb⟩ := Dp.reads I b y u hb ry
  unfold gLt at e
  by_cases z : cmpOk a b = true
  · rw [if_pos z] at e
    cases e
    obtain ⟨h1, h2, h3⟩ := cmpOk_of z
    exact W.lt_data ra rb h1 h2 (min_le40 h3 hu) ⟨.bl _, H, I, rfl, q⟩
  · rw [if_neg z] at e; cases e
theorem op_gGt (hu : X.A.units + 64 < cLine) : OpR X (compareOp .Gt) (rB X.K gGt) := by
  intro pins s σ H x y v u Q I rx ry h
  obtain ⟨a, b, c, ha, hb, e, q⟩ := h
  obtain ⟨as, ra⟩ := Dp.reads I a x v ha rx
  obtain ⟨bs, rb⟩ := Dp.reads I b y u hb ry
  unfold gGt at e
  by_cases z : cmpOk a b = true
  · rw [if_pos z] at e
    cases e
    obtain ⟨h1, h2, h3⟩ := cmpOk_of z
    exact W.gt_data ra rb h1 h2 (min_le40 h3 hu) ⟨.bl _, H, I, rfl, q⟩
  · rw [if_neg z] at e; cases e
theorem op_gLe (hu : X.A.units + 64 < cLine) : OpR X (compareOp .LtE) (rB X.K gLe) := by
  intro pins s σ H x y v u Q I rx ry h
  obtain ⟨a, b, c, ha, hb, e, q⟩ := h
  obtain ⟨as, ra⟩ := Dp.reads I a x v ha rx
  obtain ⟨bs, rb⟩ := Dp.reads I b y u hb ry
  unfold gLe at e
  by_cases z : cmpOk a b = true
  · rw [if_pos z] at e
    cases e
    obtain ⟨h1, h2, h3⟩ := cmpOk_of z
    exact W.le_data ra rb h1 h2 (min_le40 h3 hu) ⟨.bl _, H, I, rfl, q⟩
  · rw [if_neg z] at e; cases e
theorem op_gGe (hu : X.A.units + 64 < cLine) : OpR X (compareOp .GtE) (rB X.K gGe) := by
  intro pins s σ H x y v u Q I rx ry h
  obtain ⟨a, b, c, ha, hb, e, q⟩ := h
  obtain ⟨as, ra⟩ := Dp.reads I a x v ha rx
  obtain ⟨bs, rb⟩ := Dp.reads I b y u hb ry
  unfold gGe at e
  by_cases z : cmpOk a b = true
  · rw [if_pos z] at e
    cases e
    obtain ⟨h1, h2, h3⟩ := cmpOk_of z
    exact W.ge_data ra rb h1 h2 (min_le40 h3 hu) ⟨.bl _, H, I, rfl, q⟩
  · rw [if_neg z] at e; cases e
theorem is_iff {H : Hp} {x y : V} {v u : Value} {a b : PyData} (ha : Dp K H x a) (hb : Dp K H y b) (rx : RelV x v) (ry : RelV y u) (p : plainB b = true) : plainIs v u = true ∧ (v == u) = isB a b := by
  cases hb with
  | non =>
    cases ry
    cases ha with
    | non => cases rx; exact ⟨rfl, rfl⟩
    | bl _ => cases rx; exact ⟨rfl, rfl⟩
    | int _ => obtain ⟨t, rfl⟩ := rx; exact ⟨rfl, rfl⟩
    | str _ => obtain ⟨t, rfl⟩ := rx; exact ⟨rfl, rfl⟩
    | lst _ _ => cases rx; exact ⟨rfl, rfl⟩
    | tup _ _ => cases rx; exact ⟨rfl, rfl⟩
  | bl b =>
    cases ry
    cases ha with
    | non => cases rx; exact ⟨rfl, rfl⟩
    | bl c => cases rx; refine ⟨rfl, ?_⟩; cases b <;> cases c <;> rfl
    | int _ => obtain ⟨t, rfl⟩ := rx; exact ⟨rfl, rfl⟩
    | str _ => obtain ⟨t, rfl⟩ := rx; exact ⟨rfl, rfl⟩
    | lst _ _ => cases rx; exact ⟨rfl, rfl⟩
    | tup _ _ => cases rx; exact ⟨rfl, rfl⟩
  | _ => exact absurd (show false = true from p) Bool.false_ne_true
theorem op_gIs : OpR X (compareOp .Is) (rB X.K gIs) := by
  intro pins s σ H x y v u Q I rx ry h
  obtain ⟨a, b, c, ha, hb, e, q⟩ := h
  unfold gIs at e
  by_cases z : plainB b = true
  · rw [if_pos z] at e
    cases e
    obtain ⟨e1, e2⟩ := is_iff ha hb rx ry z
    exact wpAny_is_plain e1 (fin_bl I q e2.symm)
  · rw [if_neg z] at e; cases e
theorem op_gIsN : OpR X (compareOp .IsNot) (rB X.K gIsN) := by
  intro pins s σ H x y v u Q I rx ry h
  obtain ⟨a, b, c, ha, hb, e, q⟩ := h
  unfold gIsN at e
  by_cases z : plainB b = true
  · rw [if_pos z] at e
    cases e
    obtain ⟨e1, e2⟩ := is_iff ha hb rx ry z
    exact wpAny_isNot_plain e1 (fin_bl I q (by rw [e2]))
  · rw [if_neg z] at e; cases e
theorem op_gIn (hu : X.A.units + 64 < cLine) : OpR X (compareOp .In) (rB X.K gIn) := by
  intro pins s σ H x y v u Q I rx ry h
  obtain ⟨a, b, c, ha, hb, e, q⟩ := h
  obtain ⟨as, ra⟩ := Dp.reads I a x v ha rx
  obtain ⟨bs, rb⟩ := Dp.reads I b y u hb ry
  have pb := dp_plain hb
  cases b with
  | list xs =>
    unfold gIn at e
    dsimp only at e
    by_cases z : PyData.depthAll xs ≤ 40 ∨ a.depth ≤ 40
    · rw [if_pos z] at e
      cases e
      exact SeqAt.in_list_data rb ra pb (dp_plain ha) (min_le41 z hu) ⟨.bl _, H, I, rfl, q⟩
    · rw [if_neg z] at e; cases e
  | tuple xs =>
    unfold gIn at e
    dsimp only at e
    by_cases z : PyData.depthAll xs ≤ 40 ∨ a.depth ≤ 40
    · rw [if_pos z] at e
      cases e
      exact SeqAt.in_tuple_data rb ra pb (dp_plain ha) (min_le41 z hu) ⟨.bl _, H, I, rfl, q⟩
    · rw [if_neg z] at e; cases e
  | str j =>
    cases a with
    | str i =>
      cases e
      cases ha
      cases hb
      exact op_in_str pins s σ H _ _ v u Q I rx ry ⟨i, j, rfl, rfl, q⟩
    | _ => cases e
  | _ => cases e
theorem op_gNin (hu : X.A.units + 64 < cLine) : OpR X (compareOp .NotIn) (rB X.K gNin) := by
  intro pins s σ H x y v u Q I rx ry h
  obtain ⟨a, b, c, ha, hb, e, q⟩ := h
  obtain ⟨as, ra⟩ := Dp.reads I a x v ha rx
  obtain ⟨bs, rb⟩ := Dp.reads I b y u hb ry
  have pb := dp_plain hb
  obtain ⟨c', e0, rfl⟩ := Option.map_eq_some_iff.mp (show (gIn a b).map not = some c from e)
  clear e
  have fin : ∀ d : Bool, some d = some c' → Q (.bl (!d)) H := fun d h => by rw [Option.some.inj h]; exact q
  cases b with
  | list xs =>
    have e1 : (if PyData.depthAll xs ≤ 40 ∨ a.depth ≤ 40 then some (xs.any fun y => PyData.eqv y a) else none) = some c' := e0
    by_cases z : PyData.depthAll xs ≤ 40 ∨ a.depth ≤ 40
    · rw [if_pos z] at e1
      exact SeqAt.notIn_list_data rb ra pb (dp_plain ha) (min_le41 z hu) ⟨.bl _, H, I, rfl, fin _ e1⟩
    · rw [if_neg z] at e1; cases e1
  | tuple xs =>
    have e1 : (if PyData.depthAll xs ≤ 40 ∨ a.depth ≤ 40 then some (xs.any fun y => PyData.eqv y a) else none) = some c' := e0
    by_cases z : PyData.depthAll xs ≤ 40 ∨ a.depth ≤ 40
    · rw [if_pos z] at e1
      exact SeqAt.notIn_tuple_data rb ra pb (dp_plain ha) (min_le41 z hu) ⟨.bl _, H, I, rfl, fin _ e1⟩
    · rw [if_neg z] at e1; cases e1
  | str j =>
    cases a with
    | str i =>
      cases ha
      cases hb
      exact op_notIn_str pins s σ H _ _ v u Q I rx ry ⟨i, j, rfl, rfl, fin _ e0⟩
    | _ => cases e0
  | _ => cases e0
end
def eCmp (g : GB) (a b : FE) : FE := fun sl S => (a sl S).bind fun p => (b sl p.2).bind fun q => (view q.2 p.1).bind fun x => (view q.2 q.1).bind fun y => (g x y).map fun c => (.d (.bool c), q.2)
def tCmp (g : GB) (a b : FE) : FT := fun sl S => (a sl S).bind fun p => (b sl p.2).bind fun q => (view q.2 p.1).bind fun x => (view q.2 q.1).bind fun y => (g x y).map fun c => (c, q.2)
section
variable {K : PySem.W.Frag} {X : Cx} {a b : Expr} {fa fb : FE} {pos : Pos}
theorem e_cmp {op : CmpOp} {g : GB} (hK : X.K = K) (ho : OpR X (compareOp op) (rB X.K g)) (ha : PE3 K X a fa) (hb : PE3 K X b fb) (hm : behindInMarks op b = false) : PE3 K X (.Compare a [op] [b] pos) (eCmp g fa fb) := ⟨pe_imp (pe_cmpR ho ha.p hb.p hm) fun σ H Q h => by
  subst hK
  obtain ⟨A, S, sl, w, S', rfl, R, s, e, q⟩ := h
  obtain ⟨⟨w1, S1⟩, e1, e⟩ := Option.bind_eq_some_iff.mp e
  obtain ⟨⟨w2, S2⟩, e2, e⟩ := Option.bind_eq_some_iff.mp e
  obtain ⟨x, e3, e⟩ := Option.bind_eq_some_iff.mp e
  obtain ⟨y, e4, e⟩ := Option.bind_eq_some_iff.mp e
  obtain ⟨c, e5, e⟩ := Option.map_eq_some_iff.mp e
  cases e
  refine ⟨A, S, sl, w1, S1, rfl, R, s, e1, fun B v n R1 r1 => ⟨B, S1, sl, w2, S2, rfl, R1, s.mono n, e2, fun C u n2 R2 r2 => ?_⟩⟩
  exact ⟨x, y, c, view_dp R2 (r1.mono n2) e3, view_dp R2 r2 e4, e5, q C _ (n.trans n2) R2 (Da.bl c)⟩⟩
theorem t_cmp {op : CmpOp} {g : GB} (hK : X.K = K) (ho : OpR X (compareOp op) (rB X.K g)) (ha : PE3 K X a fa) (hb : PE3 K X b fb) (hm : behindInMarks op b = false) : PT3 K X (.Compare a [op] [b] pos) (tCmp g fa fb) := ⟨pt_imp (pt_cmpR ho ha.p hb.p hm) fun σ H Q h => by
  subst hK
  obtain ⟨A, S, sl, w, S', rfl, R, s, e, q⟩ := h
  obtain ⟨⟨w1, S1⟩, e1, e⟩ := Option.bind_eq_some_iff.mp e
  obtain ⟨⟨w2, S2⟩, e2, e⟩ := Option.bind_eq_some_iff.mp e
  obtain ⟨x, e3, e⟩ := Option.bind_eq_some_iff.mp e
  obtain ⟨y, e4, e⟩ := Option.bind_eq_some_iff.mp e
  obtain ⟨c, e5, e⟩ := Option.map_eq_some_iff.mp e
  cases e
  refine ⟨A, S, sl, w1, S1, rfl, R, s, e1, fun B v n R1 r1 => ⟨B, S1, sl, w2, S2, rfl, R1, s.mono n, e2, fun C u n2 R2 r2 => ?_⟩⟩
  exact ⟨x, y, _, view_dp R2 (r1.mono n2) e3, view_dp R2 r2 e4, e5, _, rfl, q C (n.trans n2) R2⟩⟩
/-! ### truth, and, or, not, if -/
def truD : PyData → Option Bool
  | .none => some false
  | .bool b => some b
  | .int i => some (i != 0)
  | .str x => if x.length ≤ 100000 then some ((x.length : Int) != 0) else none
  | .list xs => some (!xs.isEmpty)
  | .tuple xs => some (!xs.isEmpty)
  | .dict _ => none
def truW (S : List MO) (w : W3) : Option Bool := match w with
  | .r i => match S[i]? with
    | some (.dic ks) => some (!ks.isEmpty)
    | some (.lst xs) => some (!xs.isEmpty)
    | _ => none
  | w => (view S w).bind truD
theorem isEmpty_len {α β : Type} {xs : List α} {ys : List β} (h : xs.length = ys.length) : xs.isEmpty = ys.isEmpty := by
  cases xs with
  | nil =>
    cases ys with
    | nil => rfl
    | cons _ _ => simp at h
  | cons _ _ =>
    cases ys with
    | nil => simp at h
    | cons _ _ => rfl
theorem dpAll_len {H : Hp} : ∀ {vs : List V} {ds : List PyData}, DpAll K H vs ds → vs.length = ds.length
  | _, _, .nil => rfl
  | _, _, .cons _ t => by rw [List.length_cons, List.length_cons, dpAll_len t]
theorem DaK.len {G : Hp} {vs : List (Key × V)} {ds : List (Key × PyData)} (h : DaK K G vs ds) : vs.length = ds.length := by
  induction h with
  | nil => rfl
  | cons _ _ ih => rw [List.length_cons, List.length_cons, ih]
theorem tru_dp {H : Hp} {v : V} {x : PyData} {b : Bool} (h : Dp K H v x) (e : truD x = some b) : TruV K v H b := by
  cases h with
  | non => cases e; rfl
  | bl _ => cases e; rfl
  | int _ => cases e; rfl
  | str y =>
    unfold truD at e
    dsimp only at e
    by_cases z : y.length ≤ 100000
    · rw [if_pos z] at e; cases e; exact ⟨Nat.le_trans z (by decide), rfl⟩
    · rw [if_neg z] at e; cases e
  | lst h1 h2 => cases e; exact .inl ⟨_, h1, by rw [isEmpty_len (dpAll_len h2)]⟩
  | tup h1 h2 => cases e; exact .inr (.inl ⟨_, h1, by rw [isEmpty_len (dpAll_len h2)]⟩)
theorem tru_ok3 {A : Wd} {S : List MO} {v : V} {w : W3} {b : Bool} (R : Rl K A S) (r : RW K A v w) (e : truW S w = some b) : TruV K v A.H b := by
  cases w with
  | r i =>
    unfold truW at e
    obtain ⟨a, ha, rfl⟩ := r
    dsimp only at e
    cases o : S[i]? with
    | none => rw [o] at e; cases e
    | some m =>
      rw [o] at e
      cases m with
      | gone => cases e
      | lst xs => cases e; obtain ⟨_, vs, h1, h2⟩ := R.ob i _ a o ha; exact .inl ⟨vs, SqL.of h1, by rw [isEmpty_len h2.len]⟩
      | dic ks => cases e; obtain ⟨_, vs, h1, h2⟩ := R.ob i _ a o ha; exact .inr (.inr ⟨vs, h1, by rw [isEmpty_len h2.len]⟩)
  | d y =>
    obtain ⟨x, e1, e2⟩ := Option.bind_eq_some_iff.mp (show (view S (.d y)).bind truD = some b from e)
    exact tru_dp (view_dp R r e1) e2
  | sc y =>
    obtain ⟨x, e1, e2⟩ := Option.bind_eq_some_iff.mp (show (view S (.sc y)).bind truD = some b from e)
    exact tru_dp (view_dp R r e1) e2
  | ty y => cases e
def tTr (f : FE) : FT := fun sl S => (f sl S).bind fun p => (truW p.2 p.1).map fun b => (b, p.2)
theorem t_tr (hK : X.K = K) (h : PE3 K X a fa) (he : ∀ whole, isTrue a X.env whole = (do let v ← whole; standAt a.pos; holding [v] (truthy v))) : PT3 K X a (tTr fa) := ⟨pt_imp (pt_truth h.p he) fun σ H Q h => by
  subst hK
  obtain ⟨A, S, sl, w, S', rfl, R, s, e, q⟩ := h
  obtain ⟨⟨w1, S1⟩, e1, e⟩ := Option.bind_eq_some_iff.mp e
  obtain ⟨c, e2, e⟩ := Option.map_eq_some_iff.mp e
  cases e
  exact ⟨A, S, sl, w1, S1, rfl, R, s, e1, fun B v n R1 r1 => ⟨_, tru_ok3 R1 r1 e2, q B n R1⟩⟩⟩
def eNot (f : FE) : FE := fun sl S => (f sl S).bind fun p => (truW p.2 p.1).map fun b => (.d (.bool (!b)), p.2)
theorem e_not (hK : X.K = K) (h : PE3 K X a fa) : PE3 K X (.UnaryOp .Not a pos) (eNot fa) := ⟨pe_imp (pe_notT h.p) fun σ H Q h => by
  subst hK
  obtain ⟨A, S, sl, w, S', rfl, R, s, e, q⟩ := h
  obtain ⟨⟨w1, S1⟩, e1, e⟩ := Option.bind_eq_some_iff.mp e
  obtain ⟨c, e2, e⟩ := Option.map_eq_some_iff.mp e
  cases e
  exact ⟨A, S, sl, w1, S1, rfl, R, s, e1, fun B v n R1 r1 => ⟨c, tru_ok3 R1 r1 e2, q B _ n R1 (Da.bl _)⟩⟩⟩
def tNt (f : FT) : FT := fun sl S => (f sl S).map fun p => (!p.1, p.2)
theorem t_not {f : FT} (h : PT3 K X a f) : PT3 K X (.UnaryOp .Not a pos) (tNt f) := ⟨pt_imp (pt_not h.p) fun σ H Q h => by
  obtain ⟨A, S, sl, w, S', rfl, R, s, e, q⟩ := h
  obtain ⟨⟨w1, S1⟩, e1, e⟩ := Option.map_eq_some_iff.mp e
  cases e
  exact ⟨A, S, sl, w1, S1, rfl, R, s, e1, fun B n R1 => q B n R1⟩⟩
def tAn (f g : FT) : FT := fun sl S => (f sl S).bind fun p => if p.1 = true then g sl p.2 else some (false, p.2)
def tOr3 (f g : FT) : FT := fun sl S => (f sl S).bind fun p => if p.1 = true then some (true, p.2) else g sl p.2
variable {rest : List Expr}
theorem w_and1 {f : FT} (h : PT3 K X a f) : PW3 K X (.BoolOp .And [a] pos) f := ⟨pw_and1 h.p⟩
theorem w_or1 {f : FT} (h : PT3 K X a f) : PW3 K X (.BoolOp .Or [a] pos) f := ⟨pw_or1 h.p⟩
theorem w_and {f g : FT} (h : PT3 K X a f) (hb : PW3 K X (.BoolOp .And (b :: rest) pos) g) : PW3 K X (.BoolOp .And (a :: b :: rest) pos) (tAn f g) := ⟨pw_imp (pw_and h.p hb.p) fun σ H Q h => by
  obtain ⟨A, S, sl, w, S', rfl, R, s, e, q⟩ := h
  obtain ⟨⟨w1, S1⟩, e1, e⟩ := Option.bind_eq_some_iff.mp e
  refine ⟨A, S, sl, w1, S1, rfl, R, s, e1, fun B n R1 => ?_⟩
  cases w1 with
  | true => exact ⟨B, S1, sl, w, S', rfl, R1, s.mono n, e, fun C n2 R2 => q C (n.trans n2) R2⟩
  | false => cases e; exact q B n R1⟩
theorem w_or {f g : FT} (h : PT3 K X a f) (hb : PW3 K X (.BoolOp .Or (b :: rest) pos) g) : PW3 K X (.BoolOp .Or (a :: b :: rest) pos) (tOr3 f g) := ⟨pw_imp (pw_or h.p hb.p) fun σ H Q h => by
  obtain ⟨A, S, sl, w, S', rfl, R, s, e, q⟩ := h
  obtain ⟨⟨w1, S1⟩, e1, e⟩ := Option.bind_eq_some_iff.mp e
  refine ⟨A, S, sl, w1, S1, rfl, R, s, e1, fun B n R1 => ?_⟩
  cases w1 with
  | false => exact ⟨B, S1, sl, w, S', rfl, R1, s.mono n, e, fun C n2 R2 => q C (n.trans n2) R2⟩
  | true => cases e; exact q B n R1⟩
theorem t_w {f : FT} (h : PW3 K X a f) : PT3 K X a f := ⟨h.p.pt⟩
/-- and, or of truths -/
def eAn (f g : FE) : FE := fun sl S => (f sl S).bind fun p => match p.1 with
  | .d (.bool true) => g sl p.2
  | .d (.bool false) => some (.d (.bool false), p.2)
  | _ => none
def eOr (f g : FE) : FE := fun sl S => (f sl S).bind fun p => match p.1 with
  | .d (.bool false) => g sl p.2
  | .d (.bool true) => some (.d (.bool true), p.2)
  | _ => none
theorem e_one {op : BoolOp} (h : PE3 K X a fa) : PE3 K X (.BoolOp op [a] pos) fa := ⟨pe_one h.p⟩
theorem e_and (h : PE3 K X a fa) (hb : PE3 K X (.BoolOp .And (b :: rest) pos) fb) : PE3 K X (.BoolOp .And (a :: b :: rest) pos) (eAn fa fb) := ⟨pe_imp (pe_and h.p hb.p) fun σ H Q h => by
  obtain ⟨A, S, sl, w, S', rfl, R, s, e, q⟩ := h
  obtain ⟨⟨w1, S1⟩, e1, e⟩ := Option.bind_eq_some_iff.mp e
  refine ⟨A, S, sl, w1, S1, rfl, R, s, e1, fun B v n R1 r1 => ?_⟩
  cases w1 with
  | d x =>
    cases x with
    | bool c =>
      have rv := Da.bool_inv r1
      refine ⟨c, rv, ?_⟩
      cases c with
      | true => exact ⟨B, S1, sl, w, S', rfl, R1, s.mono n, e, fun C v n2 R2 => q C v (n.trans n2) R2⟩
      | false => cases e; exact q B _ n R1 (Da.bl false)
    | _ => cases e
  | _ => cases e⟩
theorem e_or (h : PE3 K X a fa) (hb : PE3 K X (.BoolOp .Or (b :: rest) pos) fb) : PE3 K X (.BoolOp .Or (a :: b :: rest) pos) (eOr fa fb) := ⟨pe_imp (pe_or h.p hb.p) fun σ H Q h => by
  obtain ⟨A, S, sl, w, S', rfl, R, s, e, q⟩ := h
  obtain ⟨⟨w1, S1⟩, e1, e⟩ := Option.bind_eq_some_iff.mp e
  refine ⟨A, S, sl, w1, S1, rfl, R, s, e1, fun B v n R1 r1 => ?_⟩
  cases w1 with
  | d x =>
    cases x with
    | bool c =>
      have rv := Da.bool_inv r1
      refine ⟨c, rv, ?_⟩
      cases c with
      | false => exact ⟨B, S1, sl, w, S', rfl, R1, s.mono n, e, fun C v n2 R2 => q C v (n.trans n2) R2⟩
      | true => cases e; exact q B _ n R1 (Da.bl true)
    | _ => cases e
  | _ => cases e⟩
def eIf (t : FT) (f g : FE) : FE := fun sl S => (t sl S).bind fun p => if p.1 = true then f sl p.2 else g sl p.2
theorem e_if {c : Expr} {t : FT} (hc : PT3 K X c t) (ha : PE3 K X a fa) (hb : PE3 K X b fb) : PE3 K X (.IfExp c a b pos) (eIf t fa fb) := ⟨pe_imp (pe_ifExp hc.p ha.p hb.p) fun σ H Q h => by
  obtain ⟨A, S, sl, w, S', rfl, R, s, e, q⟩ := h
  obtain ⟨⟨w1, S1⟩, e1, e⟩ := Option.bind_eq_some_iff.mp e
  refine ⟨A, S, sl, w1, S1, rfl, R, s, e1, fun B n R1 => ?_⟩
  cases w1 with
  | true => exact ⟨B, S1, sl, w, S', rfl, R1, s.mono n, e, fun C v n2 R2 => q C v (n.trans n2) R2⟩
  | false => exact ⟨B, S1, sl, w, S', rfl, R1, s.mono n, e, fun C v n2 R2 => q C v (n.trans n2) R2⟩⟩
end
end EA
namespace EA
open PySem PySem.Spec PyProof.Rows L2

/-! ### data in a part of the heap: G holds the data, H all; what is changed stays out of G -/
mutual
inductive Dat (G : Hp) : V → PyData → Prop
  | non : Dat G .non .none
  | bl (b : Bool) : Dat G (.bl b) (.bool b)
  | int (i : Int) : Dat G (.int i) (.int i)
  | str (x : Str) : Dat G (.str x) (.str x)
  | lst {a : Addr} {xs : List V} {ds : List PyData} : G a = some (.lst xs) → DatA G xs ds → Dat G (.ref a) (.list ds)
  | tup {a : Addr} {xs : List V} {ds : List PyData} : G a = some (.tup xs) → DatA G xs ds → Dat G (.ref a) (.tuple ds)
inductive DatA (G : Hp) : List V → List PyData → Prop
  | nil : DatA G [] []
  | cons {v : V} {vs : List V} {d : PyData} {ds : List PyData} : Dat G v d → DatA G vs ds → DatA G (v :: vs) (d :: ds)
end
section
variable {G G' H : Hp} {K : PySem.W.Frag}
mutual
theorem Dat.up (s : Same G G') : ∀ {d : PyData} {v : V}, Dat G v d → Dat G' v d
  | .none, _, .non => .non
  | .bool _, _, .bl b => .bl b
  | .int _, _, .int i => .int i
  | .str _, _, .str x => .str x
  | .list _, _, .lst e h => .lst (s _ _ e) (DatA.up s h)
  | .tuple _, _, .tup e h => .tup (s _ _ e) (DatA.up s h)
theorem DatA.up (s : Same G G') : ∀ {ds : List PyData} {vs : List V}, DatA G vs ds → DatA G' vs ds
  | [], _, .nil => .nil
  | _ :: _, _, .cons h t => .cons (Dat.up s h) (DatA.up s t)
end
mutual
theorem Dat.dp : ∀ {d : PyData} {v : V}, Dat G v d → Dp K G v d
  | .none, _, .non => .non
  | .bool _, _, .bl b => .bl b
  | .int _, _, .int i => .int i
  | .str _, _, .str x => .str x
  | .list _, _, .lst e h => .lst (SqL.of e) (DatA.dp h)
  | .tuple _, _, .tup e h => .tup (SqT.of e) (DatA.dp h)
theorem DatA.dp : ∀ {ds : List PyData} {vs : List V}, DatA G vs ds → DpAll K G vs ds
  | [], _, .nil => .nil
  | _ :: _, _, .cons h t => .cons (Dat.dp h) (DatA.dp t)
end
theorem Dat.dpS {d : PyData} {v : V} (h : Dat G v d) (s : Same G H) : Dp K H v d := (h.up s).dp
theorem DatA.len : ∀ {vs : List V} {ds : List PyData}, DatA G vs ds → vs.length = ds.length
  | _, _, .nil => rfl
  | _, _, .cons _ t => by rw [List.length_cons, List.length_cons, DatA.len t]
theorem DatA.get : ∀ {vs : List V} {ds : List PyData} {i : Nat} {d : PyData}, DatA G vs ds → ds[i]? = some d → ∃ v, vs[i]? = some v ∧ Dat G v d
  | _, _, _, _, .nil, e => by simp at e
  | _, _, 0, _, .cons h _, e => by simp at e; subst e; exact ⟨_, rfl, h⟩
  | _, _, i + 1, d, .cons _ t, e => by
    obtain ⟨v, h1, h2⟩ := DatA.get (i := i) (d := d) t (by simpa using e)
    exact ⟨v, by simpa using h1, h2⟩
theorem DatA.getV : ∀ {vs : List V} {ds : List PyData} {i : Nat} {v : V}, DatA G vs ds → vs[i]? = some v → ∃ d, ds[i]? = some d ∧ Dat G v d
  | _, _, _, _, .nil, e => by simp at e
  | _, _, 0, _, .cons h _, e => by simp at e; subst e; exact ⟨_, rfl, h⟩
  | _, _, i + 1, v, .cons _ t, e => by
    obtain ⟨d, h1, h2⟩ := DatA.getV (i := i) (v := v) t (by simpa using e)
    exact ⟨d, by simpa using h1, h2⟩
theorem DatA.app : ∀ {vs ws : List V} {ds es : List PyData}, DatA G vs ds → DatA G ws es → DatA G (vs ++ ws) (ds ++ es)
  | _, _, _, _, .nil, h => h
  | _, _, _, _, .cons h t, h2 => .cons h (DatA.app t h2)
theorem DatA.take : ∀ {vs : List V} {ds : List PyData} (n : Nat), DatA G vs ds → DatA G (vs.take n) (ds.take n)
  | _, _, 0, _ => .nil
  | _, _, _ + 1, .nil => .nil
  | _, _, n + 1, .cons h t => .cons h (DatA.take n t)
theorem DatA.drop : ∀ {vs : List V} {ds : List PyData} (n : Nat), DatA G vs ds → DatA G (vs.drop n) (ds.drop n)
  | _, _, 0, h => h
  | _, _, _ + 1, .nil => .nil
  | _, _, n + 1, .cons _ t => DatA.drop n t
theorem DatA.erase : ∀ {vs : List V} {ds : List PyData} (n : Nat), DatA G vs ds → DatA G (vs.eraseIdx n) (ds.eraseIdx n)
  | _, _, _, .nil => .nil
  | _, _, 0, .cons _ t => t
  | _, _, n + 1, .cons h t => .cons h (DatA.erase n t)
theorem DatA.last : ∀ {ds : List PyData} {vs : List V} {d : PyData}, DatA G vs (ds ++ [d]) → ∃ vs' u, vs = vs' ++ [u] ∧ DatA G vs' ds ∧ Dat G u d
  | [], _, _, .cons h .nil => ⟨[], _, rfl, .nil, h⟩
  | _ :: r, _, d, .cons h t => by
    obtain ⟨vs', u, e, h1, h2⟩ := DatA.last (ds := r) (d := d) t
    exact ⟨_ :: vs', u, by rw [e]; rfl, .cons h h1, h2⟩
theorem DatA.bls : ∀ (bs : List Bool), DatA G (bs.map V.bl) (bs.map PyData.bool)
  | [] => .nil
  | b :: r => .cons (.bl b) (DatA.bls r)
theorem DatA.ints : ∀ (bs : List Int), DatA G (bs.map V.int) (bs.map PyData.int)
  | [] => .nil
  | b :: r => .cons (.int b) (DatA.ints r)
theorem DatA.strs : ∀ (bs : List Str), DatA G (bs.map V.str) (bs.map PyData.str)
  | [] => .nil
  | b :: r => .cons (.str b) (DatA.strs r)
theorem DatA.bls_inv : ∀ {bs : List Bool} {vs : List V}, DatA G vs (bs.map PyData.bool) → vs = bs.map V.bl
  | [], _, .nil => rfl
  | _ :: _, _, .cons (.bl _) t => by rw [List.map_cons, DatA.bls_inv t]
theorem DatA.ints_inv : ∀ {bs : List Int} {vs : List V}, DatA G vs (bs.map PyData.int) → vs = bs.map V.int
  | [], _, .nil => rfl
  | _ :: _, _, .cons (.int _) t => by rw [List.map_cons, DatA.ints_inv t]
theorem DatA.strs_inv : ∀ {bs : List Str} {vs : List V}, DatA G vs (bs.map PyData.str) → vs = bs.map V.str
  | [], _, .nil => rfl
  | _ :: _, _, .cons (.str _) t => by rw [List.map_cons, DatA.strs_inv t]
theorem Dat.list_inv {v : V} {ds : List PyData} (h : Dat G v (.list ds)) : ∃ a xs, v = .ref a ∧ G a = some (.lst xs) ∧ DatA G xs ds := by
  cases h with
  | lst e t => exact ⟨_, _, rfl, e, t⟩
theorem Dat.tup_inv {v : V} {ds : List PyData} (h : Dat G v (.tuple ds)) : ∃ a xs, v = .ref a ∧ G a = some (.tup xs) ∧ DatA G xs ds := by
  cases h with
  | tup e t => exact ⟨_, _, rfl, e, t⟩
theorem Dat.int_inv {v : V} {i : Int} (h : Dat G v (.int i)) : v = .int i := by cases h; rfl
theorem Dat.bool_inv {v : V} {i : Bool} (h : Dat G v (.bool i)) : v = .bl i := by cases h; rfl
theorem Dat.str_inv {v : V} {i : Str} (h : Dat G v (.str i)) : v = .str i := by cases h; rfl
end

/-! ### from one state to a later one: only objects of M and new ones are changed -/
structure Ex (M : List Addr) (G H G' H' : Hp) : Prop where
  gg : Same G G'
  gh : Same G' H'
  hh : ∀ b o, b ∉ M → H b = some o → H' b = some o
  nw : ∀ b, G b = none → H b ≠ none → G' b = none
  dm : ∀ b, H b ≠ none → H' b ≠ none
section
variable {M M' : List Addr} {G H G1 H1 G2 H2 : Hp} {p : Addr} {o : HO}
theorem Same.none {H H' : Hp} (s : Same H H') {p : Addr} (h : H' p = none) : H p = none := s.free h
theorem Ex.refl (s : Same G H) : Ex M G H G H := ⟨Same.refl _, s, fun _ _ _ h => h, fun _ h _ => h, fun _ h => h⟩
theorem Ex.step (a : Ex M G H G1 H1) (b : Ex M' G1 H1 G2 H2) (m : ∀ x ∈ M', x ∈ M ∨ H x = none) : Ex M G H G2 H2 where
  gg := a.gg.trans b.gg
  gh := b.gh
  hh := fun x o hx e => b.hh x o (fun z => (m x z).elim hx fun n => by rw [n] at e; cases e) (a.hh x o hx e)
  nw := fun x g h => b.nw x (a.nw x g h) (a.dm x h)
  dm := fun x h => b.dm x (a.dm x h)
theorem Ex.trans (a : Ex M G H G1 H1) (b : Ex M G1 H1 G2 H2) : Ex M G H G2 H2 := a.step b fun _ h => .inl h
theorem Ex.pure (a : Ex M G H G1 H1) (b : Ex [] G1 H1 G2 H2) : Ex M G H G2 H2 := a.step b fun _ h => nomatch h
theorem Ex.mono (a : Ex M G H G1 H1) (m : ∀ x ∈ M, x ∈ M' ∨ H x = none) : Ex M' G H G1 H1 :=
  ⟨a.gg, a.gh, fun x o hx e => a.hh x o (fun z => (m x z).elim hx fun n => by rw [n] at e; cases e) e, a.nw, a.dm⟩
theorem Ex.of0 (a : Ex [] G H G1 H1) : Ex M G H G1 H1 := a.mono fun _ h => nomatch h
theorem Ex.same (a : Ex [] G H G1 H1) : Same H H1 := fun b o e => a.hh b o (fun z => nomatch z) e
/-- a new object that is not data -/
theorem Ex.new (a : Ex M G H G1 H1) (n : H1 p = none) : Ex M G H G1 (upd H1 p o) where
  gg := a.gg
  gh := fun b u e => by rw [upd_ne (ne_of_none (a.gh b u e) n)]; exact a.gh b u e
  hh := fun b u hb e => by rw [upd_ne (ne_of_none (a.hh b u hb e) n)]; exact a.hh b u hb e
  nw := a.nw
  dm := fun b h => by
    have q := a.dm b h
    by_cases e : b = p
    · subst e; exact absurd n q
    · rw [upd_ne e]; exact q
/-- a new object that is data -/
theorem Ex.dat (a : Ex M G H G1 H1) (n : H1 p = none) : Ex M G H (upd G1 p o) (upd H1 p o) where
  gg := fun b u e => by rw [upd_ne (ne_of_none (a.gg b u e) (a.gh.free n))]; exact a.gg b u e
  gh := fun b u e => by
    by_cases z : b = p
    · subst z; rw [upd_same] at e ⊢; exact e
    · rw [upd_ne z] at e ⊢; exact a.gh b u e
  hh := fun b u hb e => by rw [upd_ne (ne_of_none (a.hh b u hb e) n)]; exact a.hh b u hb e
  nw := fun b g h => by
    have q := a.dm b h
    rw [upd_ne (fun e => q (by rw [e]; exact n))]
    exact a.nw b g h
  dm := fun b h => by
    have q := a.dm b h
    by_cases e : b = p
    · subst e; exact absurd n q
    · rw [upd_ne e]; exact q
/-- an object that is changed: of M, or made since -/
theorem Ex.wr (a : Ex M G H G1 H1) (g : G1 p = none) (m : p ∈ M ∨ H p = none) : Ex M G H G1 (upd H1 p o) where
  gg := a.gg
  gh := fun b u e => by rw [upd_ne (ne_of_none e g)]; exact a.gh b u e
  hh := fun b u hb e => by
    have z : b ≠ p := fun z => by
      subst z
      rcases m with m | m
      · exact hb m
      · rw [m] at e; cases e
    rw [upd_ne z]; exact a.hh b u hb e
  nw := a.nw
  dm := fun b h => by
    by_cases e : b = p
    · subst e; rw [upd_same]; exact fun z => nomatch z
    · rw [upd_ne e]; exact a.dm b h
/-- an object made since becomes data -/
theorem Ex.fix (a : Ex M G H G1 H1) (g : G1 p = none) (h : H1 p = some o) (n : H p = none) : Ex M G H (upd G1 p o) H1 where
  gg := fun b u e => by rw [upd_ne (ne_of_none (a.gg b u e) g)]; exact a.gg b u e
  gh := fun b u e => by
    by_cases z : b = p
    · subst z; rw [upd_same] at e; rw [h]; exact e
    · rw [upd_ne z] at e; exact a.gh b u e
  hh := a.hh
  nw := fun b g' h' => by rw [upd_ne (fun z => h' (by rw [z]; exact n))]; exact a.nw b g' h'
  dm := a.dm
theorem Ex.free (a : Ex M G H G1 H1) {q : Addr} (h : H1 q = none) : H q = none := by
  cases e : H q with
  | none => rfl
  | some u => exact absurd h (a.dm q (by rw [e]; exact fun z => nomatch z))
theorem Ex.at_ (a : Ex M G H G1 H1) {q : Addr} {u : HO} (h : H q = some u) (m : q ∉ M) : H1 q = some u := a.hh q u m h
theorem Ex.out (a : Ex M G H G1 H1) {q : Addr} {u : HO} (g : G q = none) (h : H q = some u) : G1 q = none := a.nw q g (by rw [h]; exact fun z => nomatch z)
end
section
variable {G : Hp} {p : Addr} {xs : List V} {ds : List PyData}
theorem same_updG {o : HO} (n : G p = none) : Same G (upd G p o) := fun b u e => by rw [upd_ne (ne_of_none e n)]; exact e
theorem Dat.newT (h : DatA G xs ds) (n : G p = none) : Dat (upd G p (.tup xs)) (.ref p) (.tuple ds) := .tup upd_same (h.up (same_updG n))
theorem Dat.newL (h : DatA G xs ds) (n : G p = none) : Dat (upd G p (.lst xs)) (.ref p) (.list ds) := .lst upd_same (h.up (same_updG n))
end

/-! ### a pure def: from data to data -/
/-- the wish behind a pure call -/
abbrev Aft (M : List Addr) (G H : Hp) (Q : VK) (d : PyData) : Prop := ∀ G' H' r, Ex M G H G' H' → Dat G' r d → Q r H'

/-! ### rules of our own -/
section
variable {X : Cx}
/-- is, is not: a value against None or a bool -/
def plainC : V → Bool
  | .non => true
  | .bl _ => true
  | _ => false
theorem RelV.same_iff {x y : V} {v u : Value} (rx : RelV x v) (ry : RelV y u) (p : plainC y = true) : plainIs v u = true ∧ (v == u) = decide (x = y) := by
  cases y with
  | non =>
    cases ry
    cases x <;> first
      | (cases rx; exact ⟨rfl, rfl⟩)
      | (obtain ⟨t, rfl⟩ := rx; exact ⟨rfl, rfl⟩)
  | bl b =>
    cases ry
    cases x with
    | bl c =>
      cases rx
      refine ⟨rfl, ?_⟩
      cases b <;> cases c <;> rfl
    | non => cases rx; exact ⟨rfl, rfl⟩
    | ref _ => cases rx; exact ⟨rfl, rfl⟩
    | ty _ => cases rx; exact ⟨rfl, rfl⟩
    | int _ => obtain ⟨t, rfl⟩ := rx; exact ⟨rfl, rfl⟩
    | str _ => obtain ⟨t, rfl⟩ := rx; exact ⟨rfl, rfl⟩
    | byt _ => obtain ⟨t, rfl⟩ := rx; exact ⟨rfl, rfl⟩
    | flt _ => obtain ⟨t, rfl⟩ := rx; exact ⟨rfl, rfl⟩
  | _ => exact absurd (show false = true from p) Bool.false_ne_true
def rIsC : R2 := fun x y H Q => plainC y = true ∧ Q (.bl (decide (x = y))) H
def rIsNotC : R2 := fun x y H Q => plainC y = true ∧ Q (.bl (!decide (x = y))) H
theorem op_isC : OpR X (compareOp .Is) rIsC := by
  intro pins s σ H x y v u Q I rx ry h
  obtain ⟨p, q⟩ := h
  obtain ⟨e1, e2⟩ := RelV.same_iff rx ry p
  exact wpAny_is_plain e1 (fin_bl I q e2.symm)
theorem op_isnotC : OpR X (compareOp .IsNot) rIsNotC := by
  intro pins s σ H x y v u Q I rx ry h
  obtain ⟨p, q⟩ := h
  obtain ⟨e1, e2⟩ := RelV.same_iff rx ry p
  exact wpAny_isNot_plain e1 (fin_bl I q (by rw [e2]))
/-- two ints or two texts -/
def rLtA : R2 := fun x y H Q => (∃ i j, x = .int i ∧ y = .int j ∧ Q (.bl (decide (i < j))) H) ∨ (∃ i j, x = .str i ∧ y = .str j ∧ Q (.bl (decide (i.cps.toList < j.cps.toList))) H)
theorem op_ltA : OpR X (compareOp .Lt) rLtA := OpR.or op_lt op_lt_str
def rGtA : R2 := fun x y H Q => (∃ i j, x = .int i ∧ y = .int j ∧ Q (.bl (decide (j < i))) H) ∨ (∃ i j, x = .str i ∧ y = .str j ∧ Q (.bl (decide (j.cps.toList < i.cps.toList))) H)
theorem op_gtA : OpR X (compareOp .Gt) rGtA := OpR.or op_gt op_gt_str
def rLeA : R2 := fun x y H Q => (∃ i j, x = .int i ∧ y = .int j ∧ Q (.bl (decide (i ≤ j))) H) ∨ (∃ i j, x = .str i ∧ y = .str j ∧ Q (.bl (!decide (j.cps.toList < i.cps.toList))) H)
theorem op_leA : OpR X (compareOp .LtE) rLeA := OpR.or op_le op_le_str
def rGeA : R2 := fun x y H Q => (∃ i j, x = .int i ∧ y = .int j ∧ Q (.bl (decide (j ≤ i))) H) ∨ (∃ i j, x = .str i ∧ y = .str j ∧ Q (.bl (!decide (i.cps.toList < j.cps.toList))) H)
theorem op_geA : OpR X (compareOp .GtE) rGeA := OpR.or op_ge op_ge_str
/-- +: ints, texts, lists, tuples -/
def rAddA (K : PySem.W.Frag) : R2 := fun x y H Q => (∃ i j, x = .int i ∧ y = .int j ∧ Q (.int (i + j)) H) ∨ (∃ i j, x = .str i ∧ y = .str j ∧ i.length + j.length ≤ sizeLine ∧ Q (.str (i ++ j)) H) ∨ rCat x y H Q ∨ rCatT K x y H Q
theorem op_addA : OpR X (binaryOp .Add) (rAddA X.K) := OpR.or op_add (OpR.or op_add_str (OpR.or op_cat op_catT))
def rSlA (K : PySem.W.Frag) : V → Option Int → Option Int → Hp → VK → Prop := fun x lo hi H Q => rSlL K x lo hi H Q ∨ rSlT K x lo hi H Q ∨ rSlS x lo hi H Q
theorem sl_any : SlR X (rSlA X.K) := SlR.or sl_list (SlR.or sl_tup sl_str)
theorem op_inA : OpR X (compareOp .In) (rIn X.K false) := op_in_seq
theorem op_notInA : OpR X (compareOp .NotIn) (rIn X.K true) := op_notIn_seq
theorem pe_notT' {a : Expr} {ta : TE} {pos : Pos} (ha : PE X a ta) : PE X (.UnaryOp .Not a pos) (tNotT X.K ta) := pe_notT ha
/-- min of two texts -/
def strItems (xs : Array (Str × Tok)) : Array Value := xs.map fun p => .str p.1 p.2
theorem min_two_strs {P : Program} {w : World} {A : Around} {E : Value → Shared → Prop} {s : Shared} {a b : Str} {t u : Tok} {Q : Value → Shared → Prop} (hh : A.handled = none)
    (h : ∀ h' tk, (∀ c o, s.heap.get? c = some o → h'.get? c = some o) → Q (if b.cps.toList < a.cps.toList then .str b u else .str a t) { s with heap := h', toks := tk }) :
    wpAny (model P w) A (call (.builtin "min") [.str a t, .str b u]) Q E s := by
  have hT : (s.heap.push { cls := .type "tuple", data := .seq #[.str a t, .str b u] }).IsTuple s.heap.objs.size #[.str a t, .str b u] := ⟨_, Heap.get?_push_size _ rfl, rfl, 0, rfl⟩
  refine call_min_two (wpAny_pyIter_tuple hT ?_)
  have hsz : (s.heap.push { cls := .type "tuple", data := .seq #[.str a t, .str b u] }).objs.size = s.heap.objs.size + 1 := Heap.size_push ..
  refine ⟨_, [_, s.heap.objs.size], [_], _, _, _, fun i j => decide ((if i = 0 then a else b).cps.toList < (if j = 0 then a else b).cps.toList), rfl, Walks.tuple (A := A.in1) hh _ s.heap.objs.size (by rw [hsz]; exact Nat.ne_of_lt (Nat.lt_succ_self _)) #[.str a t, .str b u],
    ⟨⟨_, Heap.get?_push_size _ rfl, rfl, rfl⟩, hT.push _⟩, fun c hc => ?_, (by show 0 < 2; decide), ?_, fun v h' tk hP hk => ?_⟩
  · show c < ((s.heap.push _).push _).objs.size
    rw [Heap.size_push, hsz]
    rcases List.mem_cons.mp hc with rfl | hc
    · rw [hsz]; exact Nat.lt_succ_self _
    · rcases List.mem_cons.mp hc with rfl | hc
      · exact Nat.lt_succ_of_lt (Nat.lt_succ_self _)
      · cases hc
  · intro i j vi vj s' Q' E' hi hj hq
    have two : ∀ (k : Nat) (v : Value), (#[Value.str a t, .str b u] : Array Value)[k]? = some v → ∃ tk, v = .str (if k = 0 then a else b) tk := fun k v e => by
      match k, e with
      | 0, e => exact ⟨t, (Option.some.inj e).symm⟩
      | 1, e => exact ⟨u, (Option.some.inj e).symm⟩
      | k + 2, e => cases e
    obtain ⟨t1, rfl⟩ := two i vi hi
    obtain ⟨t2, rfl⟩ := two j vj hj
    exact lt_str hq
  · have hold : ∀ c o, s.heap.get? c = some o → h'.get? c = some o := fun c o e => by
      refine hk c o (fun hm => ?_) (Heap.get?_push_of_some _ (Heap.get?_push_of_some _ e))
      rcases List.mem_cons.mp hm with e1 | hm
      · have := Heap.lt_size e; rw [e1, hsz] at this; exact Nat.lt_irrefl _ (Nat.lt_of_succ_lt this)
      · cases hm
    have hv : v = if b.cps.toList < a.cps.toList then Value.str b u else Value.str a t := by
      have hP' : (#[Value.str a t, .str b u] : Array Value)[argBest (fun i j => decide ((if i = 0 then a else b).cps.toList < (if j = 0 then a else b).cps.toList)) 1]? = some v := hP
      by_cases hba : b.cps.toList < a.cps.toList
      · rw [if_pos hba]
        have e : argBest (fun i j => decide ((if i = 0 then a else b).cps.toList < (if j = 0 then a else b).cps.toList)) 1 = 1 := by
          simp [argBest, hba]
        rw [e] at hP'
        exact (Option.some.inj hP').symm
      · rw [if_neg hba]
        have e : argBest (fun i j => decide ((if i = 0 then a else b).cps.toList < (if j = 0 then a else b).cps.toList)) 1 = 0 := by
          simp [argBest, hba]
        rw [e] at hP'
        exact (Option.some.inj hP').symm
    rw [hv]
    exact h h' tk hold
def rMin2 : List V → Hp → VK → Prop := fun xs H Q => (∃ i j, xs = [.int i, .int j] ∧ Q (.int (if j < i then j else i)) H) ∨ (∃ i j, xs = [.str i, .str j] ∧ Q (.str (if j.cps.toList < i.cps.toList then j else i)) H)
theorem call_minS2 (hc : X.calm = true) : CallR X (.builtin "min") rMin2 := by
  refine CallR.or (call_min2 hc) ?_
  intro pins s σ H xs us Q I r h
  obtain ⟨i, j, rfl, q⟩ := h
  obtain ⟨u, w', rfl, ⟨t, rfl⟩, ⟨t', rfl⟩⟩ := vals2 r
  refine min_two_strs (I.ok.hd hc) fun h' tk k => ⟨_, H, I.kept k, ?_, q⟩
  by_cases hj : j.cps.toList < i.cps.toList
  · rw [if_pos hj, if_pos hj]; exact ⟨_, rfl⟩
  · rw [if_neg hj, if_neg hj]; exact ⟨_, rfl⟩
end
theorem line_lt {n : Nat} (h : n ≤ 100000) : n < sizeLine := Nat.lt_of_le_of_lt h (by decide)
theorem line_le {n : Nat} (h : n ≤ 100000) : n ≤ sizeLine := Nat.le_of_lt (line_lt h)
/-! ### steps -/
theorem tC_i {v : V} {σ : L2.St} {H : Hp} {Q : VK} (h : Q v H) : tC v σ H Q := h
theorem tCons_i {σ : L2.St} {H : Hp} {Q : List V → Hp → Prop} {ta : TE} {tr : TA} (h : ta σ H fun x H1 => tr σ H1 fun xs H2 => Q (x :: xs) H2) : tCons ta tr σ H Q := h
theorem tNil_i {σ : L2.St} {H : Hp} {Q : List V → Hp → Prop} (h : Q [] H) : tNil σ H Q := h
/-! ### items -/
theorem ixN_of {n : Nat} {k : Int} (h0 : 0 ≤ k) (h1 : k < n) : ixN n k = some k.toNat := by
  unfold ixN
  rw [if_pos h0, if_pos h1]
theorem atI_of {α : Type} {xs : List α} {k : Int} {v : α} (h0 : 0 ≤ k) (e : xs[k.toNat]? = some v) : atI xs k = some v := by
  have z : k = ((k.toNat : Nat) : Int) := by omega
  rw [z]
  exact atI_nat e
section
variable {K : PySem.W.Frag} {H : Hp} {p : Addr} {xs : List V} {k : Int} {v : V} {Q : VK}
theorem ixL (h : H p = some (.lst xs)) (h0 : 0 ≤ k) (e : xs[k.toNat]? = some v) (q : Q v H) : rIx K (.ref p) (.int k) H Q := .inl ⟨p, xs, k, v, rfl, rfl, SqL.of h, atI_of h0 e, q⟩
theorem ixT (h : H p = some (.tup xs)) (h0 : 0 ≤ k) (e : xs[k.toNat]? = some v) (q : Q v H) : rIx K (.ref p) (.int k) H Q := .inr (.inl ⟨p, xs, k, v, rfl, rfl, SqT.of h, atI_of h0 e, q⟩)
theorem ixS {z : Str} {c : Nat} (hz : z.length ≤ sizeLine) (h0 : 0 ≤ k) (e : z.cps.toList[k.toNat]? = some c) (q : Q (.str ⟨#[c]⟩) H) : rIx K (.str z) (.int k) H Q := .inr (.inr ⟨z, k, c, rfl, rfl, hz, atI_of h0 e, q⟩)
theorem setL {Q : Hp → Prop} (h : H p = some (.lst xs)) (h0 : 0 ≤ k) (h1 : k < xs.length) (q : Q (upd H p (.lst (xs.set k.toNat v)))) : rSetL (.ref p) (.int k) v H Q := ⟨p, xs, k, k.toNat, rfl, rfl, h, ixN_of h0 h1, q⟩
theorem set1 {a b c d : V} {Q : Hp → Prop} (h : H p = some (.lst [a, b, c, d])) (q : Q (upd H p (.lst [a, v, c, d]))) : rSetL (.ref p) (.int 1) v H Q := setL h (by decide) (by simp) q
theorem set2 {a b c d : V} {Q : Hp → Prop} (h : H p = some (.lst [a, b, c, d])) (q : Q (upd H p (.lst [a, b, v, d]))) : rSetL (.ref p) (.int 2) v H Q := setL h (by decide) (by simp) q
theorem set3 {a b c d : V} {Q : Hp → Prop} (h : H p = some (.lst [a, b, c, d])) (q : Q (upd H p (.lst [a, b, c, v]))) : rSetL (.ref p) (.int 3) v H Q := setL h (by decide) (by simp) q
theorem tyL (h : H p = some (.lst xs)) : tyV K "list" (.ref p) H := .inl ⟨rfl, _, SqL.of h⟩
theorem appL (h : H p = some (.lst xs)) (hz : xs.length < sizeLine) (q : Q .non (upd H p (.lst (xs ++ [v])))) : rAppend (.ref p) [v] H Q := ⟨p, xs, v, rfl, rfl, h, hz, q⟩
theorem lenL (h : H p = some (.lst xs)) : LenV K (.ref p) H xs.length := .inl ⟨xs, SqL.of h, rfl⟩
theorem lenT (h : H p = some (.tup xs)) : LenV K (.ref p) H xs.length := .inr ⟨xs, SqT.of h, rfl⟩
end
/-! ### the rules with the written part by name (a comprehension's block has it too) -/
section
variable {X : Cx} {K : PySem.W.Frag}
theorem ix_seqK (hK : X.K = K) : IxR X (rIx K) := by subst hK; exact ix_seq
theorem sl_anyK (hK : X.K = K) : SlR X (rSlA K) := by subst hK; exact sl_any
theorem op_eqDK (hK : X.K = K) (hu : X.A.units + 64 < cLine) : OpR X (compareOp .Eq) (rEqD K) := by subst hK; exact op_eqD hu
theorem op_neDK (hK : X.K = K) (hu : X.A.units + 64 < cLine) : OpR X (compareOp .NotEq) (rNeD K) := by subst hK; exact op_neD hu
theorem op_addAK (hK : X.K = K) : OpR X (binaryOp .Add) (rAddA K) := by subst hK; exact op_addA
theorem op_inAK (hK : X.K = K) : OpR X (compareOp .In) (rIn K false) := by subst hK; exact op_inA
theorem op_notInAK (hK : X.K = K) : OpR X (compareOp .NotIn) (rIn K true) := by subst hK; exact op_notInA
def rLen (K : PySem.W.Frag) : List V → Hp → VK → Prop := fun xs H Q => ∃ x n, xs = [x] ∧ LenV K x H n ∧ Q (.int (n : Nat)) H
theorem call_lenK (hK : X.K = K) : CallR X (.builtin "len") (rLen K) := by subst hK; exact call_len
theorem call_isiK' (hK : X.K = K) : CallR X (.builtin "isinstance") (rIsi K) := by subst hK; exact call_isi
theorem cr_sortedSK (hK : X.K = K) : CallR X (.builtin "sorted") (rSortedS K) := by subst hK; exact cr_sortedS
def rListOf (K : PySem.W.Frag) : List V → Hp → VK → Prop := fun xs H Q => ∃ p ys, xs = [.ref p] ∧ (SqL K H p ys ∨ SqT K H p ys) ∧ ∀ l, H l = none → Q (.ref l) (upd H l (.lst ys))
theorem call_list_ofK (hK : X.K = K) : CallR X (.type "list") (rListOf K) := by subst hK; exact call_list_of
def rTupOf (K : PySem.W.Frag) : List V → Hp → VK → Prop := fun xs H Q => ∃ p ys, xs = [.ref p] ∧ ((SqL K H p ys ∧ ∀ l, H l = none → Q (.ref l) (upd H l (.tup ys))) ∨ SqT K H p ys ∧ Q (.ref p) H)
theorem call_tuple_ofK (hK : X.K = K) : CallR X (.type "tuple") (rTupOf K) := by subst hK; exact call_tuple_of
def rListA (K : PySem.W.Frag) : List V → Hp → VK → Prop := fun xs H Q => rListOf K xs H Q ∨ ∃ (a : Addr) (kvs : List (Key × V)), xs = [.ref a] ∧ Rd H a (.dK kvs) ∧ ∀ p, H p = none → Q (.ref p) (upd H p (.lst (kvs.map fun kv => kV kv.1)))
theorem call_listAK (hK : X.K = K) (hc : X.calm = true) : CallR X (.type "list") (rListA K) := CallR.or (call_list_ofK hK) (call_listD hc)
theorem pi_listK {tg l : Expr} {tl : TE} (hK : X.K = K) (hl : PE X l tl) : PI X tg l (iList K tl) := by subst hK; exact pi_list hl
theorem pi_tupK {tg l : Expr} {tl : TE} (hK : X.K = K) (hl : PE X l tl) : PI X tg l (iTup K tl) := by subst hK; exact pi_tup hl
theorem pi_reversedK {tg e : Expr} {ta : TA} {p pos : Pos} (hK : X.K = K) (hg : Gl X "reversed") (hm : X.mg "reversed" = none) (ha : PA X [e] ta) (hs : starEach [e] X.env = [(false, eval e X.env)] := by rfl) : PI X tg (.Call (.Name "reversed" p) [e] [] pos) (iRev K ta) := by
  subst hK; exact pi_reversed hg hm ha hs
theorem pt_truthK {a : Expr} {ta : TE} (hK : X.K = K) (ha : PE X a ta) (he : ∀ whole, isTrue a X.env whole = (do let v ← whole; standAt a.pos; holding [v] (truthy v))) :
    PT X a (fun σ H Q => ta σ H fun x H' => ∃ k, TruV K x H' k ∧ Q k H') := by subst hK; exact pt_truth ha he
theorem pe_notTK {a : Expr} {ta : TE} {pos : Pos} (hK : X.K = K) (ha : PE X a ta) : PE X (.UnaryOp .Not a pos) (tNotT K ta) := by subst hK; exact pe_notT ha
theorem pg_tupK {es : List Expr} {k : Nat} {t : TGs} {n : Nat} {pos : Pos} (hK : X.K = K) (hc : X.calm = true) (h : PGs X es t)
    (hn : (assignEach es X.env).length = n := by rfl) (hst : (assignEach es X.env).findIdx? (·.1) = none := by rfl) : PG X (.Tuple es k pos) (gTup K n t) := by subst hK; exact pg_tup hc h hn hst
section
variable {o e : Expr} {es : List Expr} {to te : TE} {t : TA} {name : Str} {apos cpos : Pos} {T id : String} {r : V → List V → Hp → VK → Prop}
theorem pe_bm0K (hK : X.K = K) (pa : PlainAttrs T) (slot : Slot T name id) (hty : typeOf (.builtin id) = Pure.pure (.type "method_descriptor")) (hm : MtR X id r) (ho : PE X o to)
    (hbase : attributeBase o name X.env (eval o X.env) = eval o X.env := by rfl) (hline : (apos.endLine == cpos.line) = true := by rfl) : PE X (.Call (.Attribute o name apos) [] [] cpos) (tBM0 K T r to) := by
  subst hK; exact pe_bm0 pa slot hty hm ho hbase hline
theorem pe_bmK (hK : X.K = K) (pa : PlainAttrs T) (slot : Slot T name id) (hty : typeOf (.builtin id) = Pure.pure (.type "method_descriptor")) (hm : MtR X id r) (ho : PE X o to) (ha : PA X (e :: es) t)
    (hbase : attributeBase o name X.env (eval o X.env) = eval o X.env := by rfl)
    (hfew : ((backTo cpos (starEach (e :: es) X.env)).all (fun x => !x.1) && (backToKw cpos (keywordEach [] X.env)).all (fun x => x.1.isSome)
      && decide ((e :: es).length + ([] : List Keyword).length + (if ([] : List Keyword).isEmpty then 0 else 1) < 30)) = true := by rfl)
    (hline : (apos.endLine == cpos.line) = true := by rfl) (hs : starEach (e :: es) X.env = (false, eval e X.env) :: starEach es X.env := by rfl) (hplain : (backTo cpos (starEach es X.env)).any (·.1) = false := by rfl) :
    PE X (.Call (.Attribute o name apos) (e :: es) [] cpos) (tBM K T r to t) := by
  subst hK; exact pe_bm pa slot hty hm ho ha hbase hfew hline hs hplain
def rJoin (K : PySem.W.Frag) : V → List V → Hp → VK → Prop := fun x xs H Q => ∃ a p, ∃ ys : List Str, x = .str a ∧ xs = [.ref p] ∧ (SqL K H p (ys.map V.str) ∨ SqT K H p (ys.map V.str)) ∧
      (ys.map (·.length)).sum + ys.length * a.length ≤ 16777216 ∧ Q (.str (Txt.join a ys)) H
theorem pe_joinK (hK : X.K = K) (ho : PE X o to) (he : PE X e te) (hs : starEach [e] X.env = [(false, eval e X.env)] := by rfl) (hbase : attributeBase o "join" X.env (eval o X.env) = eval o X.env := by rfl) (hline : (apos.endLine == cpos.line) = true := by rfl) :
    PE X (.Call (.Attribute o "join" apos) [e] [] cpos) (tM1 (rJoin K) to te) := by
  subst hK; exact pe_join ho he hs hbase hline
end
end
theorem perm_erase {d : PyData} : ∀ {rem : List PyData} {k : Nat}, rem[k]? = some d → (d :: rem.eraseIdx k).Perm rem
  | [], _, h => by simp at h
  | x :: r, 0, h => by
    have e : x = d := Option.some.inj h
    subst e
    exact List.Perm.refl _
  | x :: r, k + 1, h => by
    have ih := perm_erase (rem := r) (k := k) (by simpa using h)
    show (d :: x :: r.eraseIdx k).Perm (x :: r)
    exact (List.Perm.swap x d _).trans (ih.cons x)
theorem perm_turn {d : PyData} {acc rem ds : List PyData} {k : Nat} (h : rem[k]? = some d) (p : (acc ++ rem).Perm ds) : ((acc ++ [d]) ++ rem.eraseIdx k).Perm ds := by
  refine List.Perm.trans ?_ p
  rw [List.append_assoc]
  exact (perm_erase h).append_left acc
theorem popL {H : Hp} {p : Addr} {xs : List V} {k : Int} {v : V} {Q : VK} (h : H p = some (.lst xs)) (h0 : 0 ≤ k) (h1 : k < xs.length) (e : xs[k.toNat]? = some v) (hz : xs.length ≤ 100000) (q : Q v (upd H p (.lst (xs.eraseIdx k.toNat)))) : rPopAt (.ref p) [.int k] H Q :=
  ⟨p, xs, k, k.toNat, v, rfl, rfl, h, by omega, by omega, (ixN_seq (ixN_of h0 h1)).1, e, q⟩
theorem lcYes {σ : L2.St} {H : Hp} {te : TE} {C : VK} {C' : Hp → Prop} (h : te σ H C) : tYes σ H fun b H3 => if b = true then te σ H3 C else C' H3 := by
  show (if true = true then te σ H C else C' H)
  rw [if_pos rfl]
  exact h
theorem fn_none {P : Program} {w : World} {K : PySem.W.Frag} {mg : Str → Option Value} {base : Heap} {k : Nat} {f : Addr} {fd : FuncData} {ps : List Str} {sp : Sp} (no : ∀ vs H Q E, ¬ sp vs H Q E) : FnOk P w K mg base CX0 k f fd ps sp :=
  ⟨fun vs H Q E h => absurd h (no vs H Q E), fun A outer s H args us vs Q E _ _ _ _ h => absurd h (no vs H Q E)⟩
theorem slL {K : PySem.W.Frag} {H : Hp} {a : Addr} {xs : List V} {lo hi : Option Int} {Q : VK} (h : H a = some (.lst xs)) (q : ∀ p, H p = none → Q (.ref p) (upd H p (.lst (cutV xs lo hi)))) : rSlA K (.ref a) lo hi H Q := .inl ⟨a, xs, rfl, SqL.of h, q⟩
theorem cut_from (xs : List V) (k : Nat) : cutV xs (some (k : Int)) none = xs.drop k := by
  unfold cutV
  rw [HT.sIx_nat, HT.sIx_none]
  by_cases h : k ≤ xs.length
  · rw [Nat.min_eq_left h]
    exact List.take_of_length_le (by rw [List.length_drop]; exact Nat.le_refl _)
  · rw [Nat.min_eq_right (by omega), List.drop_length, List.drop_eq_nil_of_le (by omega), List.take_nil]
theorem cut_to (xs : List V) (k : Nat) : cutV xs none (some (k : Int)) = xs.take k := by
  unfold cutV
  rw [HT.sIx_nat, HT.sIx_none]
  by_cases h : k ≤ xs.length
  · rw [Nat.min_eq_left h]; rfl
  · rw [Nat.min_eq_right (by omega)]
    show (xs.drop 0).take (xs.length - 0) = _
    rw [List.drop_zero, Nat.sub_zero, List.take_length, List.take_of_length_le (by omega)]
theorem map_drop' {α β : Type} (f : α → β) (k : Nat) (xs : List α) : (xs.map f).drop k = (xs.drop k).map f := by rw [List.map_drop]
theorem map_take' {α β : Type} (f : α → β) (k : Nat) (xs : List α) : (xs.map f).take k = (xs.take k).map f := by rw [List.map_take]
/-! ### isinstance of data -/
def tyN : PyData → String
  | .none => "NoneType"
  | .bool _ => "bool"
  | .int _ => "int"
  | .str _ => "str"
  | .list _ => "list"
  | .tuple _ => "tuple"
  | .dict _ => "dict"
theorem tyX_of {K : PySem.W.Frag} {G H : Hp} (s : Same G H) : ∀ {d : PyData} {v : V}, Dat G v d → TyX K H v (.type (tyN d))
  | _, _, .non => .base .non
  | _, _, .bl b => .base (.bl b)
  | _, _, .int i => .base (.int i)
  | _, _, .str x => .base (.str x)
  | _, _, .lst e _ => .base (.lst (s _ _ e))
  | _, _, .tup e _ => .base (.tup (s _ _ e))
theorem isi_of {K : PySem.W.Frag} {G H : Hp} {v : V} {d : PyData} {c : String} {Q : VK} (b : Bool) (h : Dat G v d) (s : Same G H) (e : kitB (tyN d) c = some b) (q : Q (.bl b) H) : rIsi K [v, .ty c] H Q :=
  ⟨v, .ty c, .type (tyN d), .type c, b, rfl, .ty c, tyX_of s h, kit_ty e, q⟩
/-! ### == of data -/
theorem eqD_of {K : PySem.W.Frag} {G H : Hp} {x y : V} {d e : PyData} {Q : VK} (hx : Dat G x d) (hy : Dat G y e) (s : Same G H) (sd : SeqAt.shaped d = true) (se : SeqAt.shaped e = true) (q : Q (.bl (PyData.eqv d e)) H) : rEqD K x y H Q :=
  ⟨d, e, hx.dpS s, hy.dpS s, sd, se, q⟩
theorem neD_of {K : PySem.W.Frag} {G H : Hp} {x y : V} {d e : PyData} {Q : VK} (hx : Dat G x d) (hy : Dat G y e) (s : Same G H) (sd : SeqAt.shaped d = true) (se : SeqAt.shaped e = true) (q : Q (.bl (!PyData.eqv d e)) H) : rNeD K x y H Q :=
  ⟨d, e, hx.dpS s, hy.dpS s, sd, se, q⟩
theorem shaped_int (i : Int) : SeqAt.shaped (.int i) = true := rfl
theorem shaped_bool (i : Bool) : SeqAt.shaped (.bool i) = true := rfl
theorem eqD_int {K : PySem.W.Frag} {H : Hp} {i j : Int} {Q : VK} (q : Q (.bl (i == j)) H) : rEqD K (.int i) (.int j) H Q := ⟨.int i, .int j, .int _, .int _, rfl, rfl, q⟩
theorem neD_int {K : PySem.W.Frag} {H : Hp} {i j : Int} {Q : VK} (q : Q (.bl (!(i == j))) H) : rNeD K (.int i) (.int j) H Q := ⟨.int i, .int j, .int _, .int _, rfl, rfl, q⟩
theorem eqD_bl {K : PySem.W.Frag} {H : Hp} {i j : Bool} {Q : VK} (q : Q (.bl (i == j)) H) : rEqD K (.bl i) (.bl j) H Q := ⟨.bool i, .bool j, .bl _, .bl _, rfl, rfl, q⟩
theorem neD_bl {K : PySem.W.Frag} {H : Hp} {i j : Bool} {Q : VK} (q : Q (.bl (!(i == j))) H) : rNeD K (.bl i) (.bl j) H Q := ⟨.bool i, .bool j, .bl _, .bl _, rfl, rfl, q⟩
theorem shaped_str {s : Str} (h : PyData.strOk s = true) : SeqAt.shaped (.str s) = true := by
  show (PyData.strOk s && _) = true
  rw [h]
  rfl
theorem eqD_str {K : PySem.W.Frag} {H : Hp} {i j : Str} {Q : VK} (hi : PyData.strOk i = true) (hj : PyData.strOk j = true) (q : Q (.bl (i == j)) H) : rEqD K (.str i) (.str j) H Q := ⟨.str i, .str j, .str _, .str _, shaped_str hi, shaped_str hj, q⟩
theorem neD_str {K : PySem.W.Frag} {H : Hp} {i j : Str} {Q : VK} (hi : PyData.strOk i = true) (hj : PyData.strOk j = true) (q : Q (.bl (!(i == j))) H) : rNeD K (.str i) (.str j) H Q := ⟨.str i, .str j, .str _, .str _, shaped_str hi, shaped_str hj, q⟩
/-! ### in, of texts -/
theorem flat_strs : ∀ xs : List Str, (xs.map V.str).all flatV = true
  | [] => rfl
  | _ :: r => flat_strs r
theorem inV_strs (x : Str) : ∀ xs : List Str, inV (.str x) (xs.map V.str) = decide (x ∈ xs)
  | [] => by simp [inV]
  | y :: r => by
    have ih := inV_strs x r
    unfold inV at ih ⊢
    rw [List.map_cons, List.any_cons, ih]
    show ((y == x) || decide (x ∈ r)) = _
    by_cases e : y = x
    · subst e; simp
    · have e' : (y == x) = false := beq_eq_false_iff_ne.mpr e
      have e2 : x ≠ y := fun z => e z.symm
      rw [e']
      simp [e2]
theorem flat_ints : ∀ xs : List Int, (xs.map V.int).all flatV = true
  | [] => rfl
  | _ :: r => flat_ints r
theorem inV_ints (x : Int) : ∀ xs : List Int, inV (.int x) (xs.map V.int) = decide (x ∈ xs)
  | [] => by simp [inV]
  | y :: r => by
    have ih := inV_ints x r
    unfold inV at ih ⊢
    rw [List.map_cons, List.any_cons, ih]
    show ((y == x) || decide (x ∈ r)) = _
    by_cases e : y = x
    · subst e; simp
    · have e' : (y == x) = false := beq_eq_false_iff_ne.mpr e
      have e2 : x ≠ y := fun z => e z.symm
      rw [e']
      simp [e2]
/-! ### what a loop walks, by a count -/
structure WalkJ (J : It) (n : Nat) (x : Nat → V) (OK : Hp → Prop) : Prop where
  go : ∀ i H, OK H → i < n → J.go i H
  stop : ∀ i H, OK H → n ≤ i → J.stop i H
  yld : ∀ i H v H', OK H → i < n → J.yld i H v H' → H' = H ∧ v = x i
def nth (xs : List V) (i : Nat) : V := xs.getD i .non
theorem nth_at {xs : List V} {i : Nat} (h : i < xs.length) : xs[i]? = some (nth xs i) := by
  unfold nth
  rw [List.getD_eq_getElem?_getD, List.getElem?_eq_getElem h]
  rfl
theorem walk_range {lo : Int} {n : Nat} : WalkJ (Itr lo n) n (fun i => .int (lo + (i : Nat))) (fun _ => True) :=
  ⟨fun _ _ _ h => h, fun _ _ _ h => h, fun _ _ _ _ _ _ h => h⟩
theorem walk_list {K : PySem.W.Frag} {a : Addr} {xs : List V} : WalkJ (Itl K a) xs.length (nth xs) (fun H => H a = some (.lst xs)) :=
  ⟨fun i H ok h => ⟨xs, nth xs i, SqL.of ok, nth_at h⟩, fun i H ok h => ⟨xs, SqL.of ok, h⟩, fun i H v H' ok h y => ⟨y.1, Option.some.inj ((y.2 xs (SqL.of ok)).symm.trans (nth_at h))⟩⟩
theorem walk_tup {K : PySem.W.Frag} {a : Addr} {xs : List V} : WalkJ (Itt K a) xs.length (nth xs) (fun H => H a = some (.tup xs)) :=
  ⟨fun i H ok h => ⟨xs, nth xs i, SqT.of ok, nth_at h⟩, fun i H ok h => ⟨xs, SqT.of ok, h⟩, fun i H v H' ok h y => ⟨y.1, Option.some.inj ((y.2 xs (SqT.of ok)).symm.trans (nth_at h))⟩⟩
theorem walk_rev {K : PySem.W.Frag} {a : Addr} {xs : List V} : WalkJ (Itv K a xs.length) xs.length (fun i => nth xs (xs.length - 1 - i)) (fun H => H a = some (.lst xs)) :=
  ⟨fun i H ok h => ⟨h, xs, nth xs (xs.length - 1 - i), SqL.of ok, nth_at (by omega)⟩, fun i H ok h => h, fun i H v H' ok h y => ⟨y.1, Option.some.inj ((y.2 xs (SqL.of ok)).symm.trans (nth_at (by omega)))⟩⟩
/-- a comprehension whose items are data; P: what else is known, by the turn, the items, the heaps (an object made since must not matter) -/
theorem comp_go {J : It} {n : Nat} {x : Nat → V} {OK : Hp → Prop} {M : List Addr} {G H : Hp} {σ : L2.St} {vs : List Nat} {g : TG} {tt : TT} {te : TE} {Q : VK} (P : Nat → List PyData → Hp → Hp → Prop)
    (W : WalkJ J n x OK) (s : Same G H) (hn : n < sizeLine) (hM : ∀ m ∈ M, H m ≠ none) (ok : ∀ G' H', Ex M G H G' H' → OK H')
    (P0 : P 0 [] G H) (Pw : ∀ i acc G' H' D o, P i acc G' H' → H D = none → G' D = none → P i acc G' (upd H' D o)) (Pg : ∀ i acc G' H' D o, P i acc G' H' → H D = none → G' D = none → P i acc (upd G' D o) H')
    (stp : ∀ i acc G1 H1, i < n → Ex M G H G1 H1 → P i acc G1 H1 → ∀ (C : VK) (C' : Hp → Prop), (∀ y G2 H2 d, Ex M G1 H1 G2 H2 → Dat G2 y d → P (i + 1) (acc ++ [d]) G2 H2 → C y H2) → (∀ G2 H2, Ex M G1 H1 G2 H2 → P (i + 1) acc G2 H2 → C' H2) →
      g (x i) (wipe σ vs) H1 fun σ2 H2 => wipe σ2 vs = wipe σ vs ∧ tt σ2 H2 fun b H3 => if b = true then te σ2 H3 C else C' H3)
    (fin : ∀ G' H' r acc, Ex M G H G' H' → Dat G' r (.list acc) → acc.length ≤ n → P n acc G' H' → Q r H') :
    ∀ D, H D = none → ∃ W : Nat → Nat → Hp → Prop, (∃ m, W 0 m (upd H D (.lst []))) ∧ ∀ i m H, W i m H →
      (J.stop i H ∧ Q (.ref D) H) ∨ (J.go i H ∧ ∃ Nx : Hp → Prop, (∀ H', Nx H' → ∃ m', m' < m ∧ W (i + 1) m' H') ∧ ∀ x H', J.yld i H x H' → g x (wipe σ vs) H' fun σ2 H2 => wipe σ2 vs = wipe σ vs ∧ tt σ2 H2 fun b H3 =>
        if b = true then te σ2 H3 fun y H4 => ∃ acc, H4 D = some (.lst acc) ∧ acc.length < sizeLine ∧ Nx (upd H4 D (.lst (acc ++ [y]))) else Nx H3) := by
  intro D hD
  have gD : G D = none := s.free hD
  have nM : D ∉ M := fun z => hM D z hD
  refine ⟨fun i m H' => m = n - i ∧ i ≤ n ∧ ∃ G' acc xs, Ex M G H G' H' ∧ G' D = none ∧ H' D = some (.lst xs) ∧ DatA G' xs acc ∧ acc.length ≤ i ∧ P i acc G' H', ⟨n, by omega, Nat.zero_le _, G, [], [], (Ex.refl s).new hD, gD, upd_same, .nil, Nat.le_refl _, Pw _ _ _ _ _ _ P0 hD gD⟩, ?_⟩
  rintro i m H1 ⟨rfl, hi, G1, acc, xs, E1, g1, h1, da, ha, p⟩
  have o1 := ok _ _ E1
  by_cases hlt : i < n
  · refine .inr ⟨W.go i H1 o1 hlt, fun H' => i + 1 ≤ n ∧ ∃ G' acc xs, Ex M G H G' H' ∧ G' D = none ∧ H' D = some (.lst xs) ∧ DatA G' xs acc ∧ acc.length ≤ i + 1 ∧ P (i + 1) acc G' H', fun H' q => ⟨n - (i + 1), by omega, rfl, q⟩, fun v H' y => ?_⟩
    obtain ⟨e1, e2⟩ := W.yld i H1 v H' o1 hlt y
    subst e1 e2
    refine stp i acc G1 _ hlt E1 p _ _ (fun y G2 H2 d E2 dy p2 => ?_) fun G2 H2 E2 p2 => ?_
    · have g2 : G2 D = none := E2.out g1 h1
      have h2 : H2 D = some (.lst xs) := E2.at_ h1 nM
      refine ⟨xs, h2, Nat.lt_of_le_of_lt (by rw [da.len]; omega) hn, hlt, G2, acc ++ [d], xs ++ [y], (E1.trans E2).wr g2 (.inr hD), g2, upd_same, (da.up E2.gg).app (.cons dy .nil), by rw [List.length_append, List.length_singleton]; omega, Pw _ _ _ _ _ _ p2 hD g2⟩
    · exact ⟨hlt, G2, acc, xs, E1.trans E2, E2.out g1 h1, E2.at_ h1 nM, da.up E2.gg, by omega, p2⟩
  · have e : i = n := by omega
    subst e
    refine .inl ⟨W.stop _ _ o1 (Nat.le_refl _), ?_⟩
    exact fin (upd G1 D (.lst xs)) H1 _ acc (E1.fix g1 h1 hD) (Dat.newL da g1) ha (Pg _ _ _ _ _ _ p hD g1)
end EA
namespace EA
open PySem PySem.Spec PyProof.Rows L2

theorem each_dat {G : Hp} : ∀ {xs : List V} {us : List Value} {ds : List PyData}, Vals xs us → DatA G xs ds → W.EachIs (fun v d => ∃ x : V, RelV x v ∧ Dat G x d) us ds
  | _, _, _, .nil, .nil => .nil
  | _, _, _, .cons r rs, .cons d hd => .cons ⟨_, r, d⟩ (each_dat rs hd)
theorem dat_each {G : Hp} : ∀ {us : List Value} {ds : List PyData}, W.EachIs (fun v d => ∃ x : V, RelV x v ∧ Dat G x d) us ds → ∃ xs, Vals xs us ∧ DatA G xs ds
  | _, _, .nil => ⟨[], .nil, .nil⟩
  | _, _, .cons ⟨x, r, d⟩ h => by
    obtain ⟨xs, a, b⟩ := dat_each h
    exact ⟨x :: xs, .cons r a, .cons d b⟩

def rSortedD (K : PySem.W.Frag) : List V → Hp → VK → Prop := fun vs H Q => ∃ (G : Hp) (a : Addr) (xs : List V) (ds : List PyData), vs = [V.ref a] ∧ H a = some (.lst xs) ∧ Same G H ∧ DatA G xs ds ∧ W.AllAlike ds ∧ (2 ≤ ds.length → W.Sortable ds) ∧ (∀ d ∈ ds, d.depth ≤ 40) ∧
  ∀ ys p, DatA G ys (ds.mergeSort (W.dataLe false id)) → H p = none → Q (.ref p) (upd H p (.lst ys))

theorem perm_short {α : Type} : ∀ {l m : List α}, l.length < 2 → m.Perm l → m = l
  | [], _, _, p => List.Perm.eq_nil p
  | [v], _, _, p => List.perm_singleton.mp p
  | _ :: _ :: _, _, h, _ => absurd h (by simp)
theorem sort_short {α : Type} (le : α → α → Bool) : ∀ {l : List α}, ¬ 2 ≤ l.length → l.mergeSort le = l
  | [], _ => by rw [List.mergeSort]
  | [v], _ => by rw [List.mergeSort]
  | _ :: _ :: _, h => absurd (by simp) h
theorem swo_no : SrtO.Swo (fun _ _ : Value => false) := ⟨fun _ _ _ => rfl, fun _ _ _ _ _ => rfl⟩

theorem cr_sortedD {X : Cx} (hu : X.A.units + 64 < cLine) : CallR X (.builtin "sorted") (rSortedD X.K) := by
  intro pins s σ H vs us Q I r h
  obtain ⟨G, a, xs, ds, rfl, ha, sm, hx, hal, hk, hdp, q⟩ := h
  obtain ⟨its, rv, hl, hz⟩ := I.list (SqL.of ha)
  obtain ⟨u, rfl, ru⟩ := vals1 r
  obtain rfl : u = Value.ref a := ru
  have hz' : its.length ≤ sizeLine := by rw [← rv.length]; exact hz
  have e0 := each_dat rv hx
  have fin : ∀ out : List Value, out.length = its.length → W.EachIs (fun v d => ∃ x : V, RelV x v ∧ Dat G x d) out (ds.mergeSort (W.dataLe false id)) →
      EP X pins σ Q (.ref (s.heap.objs.size + 1)) { s with heap := sortedAll s.heap its out.toArray } := by
    intro out ho eo
    obtain ⟨ys, rys, dys⟩ := dat_each eo
    obtain ⟨n, hn⟩ := sortedAll_at s.heap its out.toArray
    refine ⟨.ref (s.heap.objs.size + 1), upd H (s.heap.objs.size + 1) (.lst ys), I.laid (t' := s.toks) (fun b o e => sortedAll_old e) (Nat.le_succ _) ⟨?_, out, n, rys, hn⟩, rfl, q _ _ dys (I.hok.fresh (Nat.le_succ _))⟩
    rw [rys.length, ho]
    exact hz'
  by_cases h2 : 2 ≤ ds.length
  · refine W.sorted_data (s := s) (vs := its) (bs := ds) (enc := id) hl.isList e0 (e0.mono fun v d ⟨x, rx, dx⟩ => Dp.reads I d x v (dx.dpS sm) rx) (by rw [List.map_id]; exact hal) (by rw [List.map_id]; exact hk h2) (by rw [← e0.length]; exact hz') (fun d hd => ?_) fun out ho eo => fin out (ho.trans e0.length.symm) eo
    exact Nat.lt_of_le_of_lt (Nat.add_le_add (Nat.le_refl (X.A.units + 2)) (hdp d hd)) (Nat.lt_of_le_of_lt (Nat.le_trans (Nat.le_of_eq (Nat.add_assoc _ 2 40)) (Nat.add_le_add_left (by decide) _)) hu)
  · have hl2 : its.length < 2 := by rw [e0.length]; omega
    refine SrtO.sorted_ord (s := s) (vs := its) swo_no hl.isList hz' (fun h => absurd h (by omega)) fun out h1 hb => ?_
    have eo : out = its := perm_short hl2 hb.perm
    have es : ds.mergeSort (W.dataLe false id) = ds := sort_short _ h2
    refine fin out (by rw [eo]) ?_
    rw [es, eo]
    exact e0

/-- sorted lists of the same things are one -/
theorem sort_same {le : PyData → PyData → Bool} (tr : ∀ a b c, le a b = true → le b c = true → le a c = true) (tt : ∀ a b, (le a b || le b a) = true) :
    ∀ {l m : List PyData}, l.Pairwise (fun a b => le a b = true) → m.Pairwise (fun a b => le a b = true) → l.Perm m → (∀ a ∈ l, ∀ b ∈ l, le a b = true → le b a = true → a = b) → l = m
  | [], m, _, _, p, _ => (List.Perm.nil_eq p)
  | x :: l, [], _, _, p, _ => absurd p.length_eq (by simp)
  | x :: l, y :: m, hl, hm, p, as => by
    have rf : ∀ a, le a a = true := fun a => by have := tt a a; rw [Bool.or_self] at this; exact this
    have hy : y ∈ x :: l := p.mem_iff.mpr List.mem_cons_self
    have hx : x ∈ y :: m := p.mem_iff.mp List.mem_cons_self
    have a1 : le x y = true := by
      rcases List.mem_cons.mp hy with e | e
      · rw [e]; exact rf x
      · exact (List.pairwise_cons.mp hl).1 y e
    have a2 : le y x = true := by
      rcases List.mem_cons.mp hx with e | e
      · rw [e]; exact rf y
      · exact (List.pairwise_cons.mp hm).1 x e
    have e := as x List.mem_cons_self y hy a1 a2
    subst e
    rw [sort_same tr tt (List.pairwise_cons.mp hl).2 (List.pairwise_cons.mp hm).2 p.cons_inv fun a ha b hb => as a (List.mem_cons_of_mem _ ha) b (List.mem_cons_of_mem _ hb)]

theorem toks_inj {x y : PyData} (h : W.alike x y = true) (e : W.keyToks x = W.keyToks y) : PyData.eqv x y = true := by
  cases he : PyData.eqv x y with
  | true => rfl
  | false =>
    have t := (W.toks_eqv x y h).2 he [.inl 0] [.inl 1]
    rw [e, W.lex_pre] at t
    rw [PyProof.Rows.lex_irrefl (O := itemOrd)] at t
    exact absurd t (by decide)

theorem sort_perm {l m : List PyData} (p : l.Perm m) (h : ∀ a ∈ l, ∀ b ∈ l, W.alike a b = true ∧ (PyData.eqv a b = true → a = b)) : l.mergeSort (W.dataLe false id) = m.mergeSort (W.dataLe false id) := by
  have T := W.sortLe_total (PyProof.Rows.listOrd itemOrd) false (fun b : PyData => W.keyToks b)
  have tr : ∀ a b c, W.dataLe false id a b = true → W.dataLe false id b c = true → W.dataLe (β := PyData) false id a c = true := fun a b c => T.trans a b c
  have tt : ∀ a b, (W.dataLe false id a b || W.dataLe (β := PyData) false id b a) = true := fun a b => by
    rcases T.total a b with h | h
    · rw [show W.dataLe (β := PyData) false id a b = true from h]; rfl
    · rw [show W.dataLe (β := PyData) false id b a = true from h]; exact Bool.or_true _
  refine sort_same tr tt (List.pairwise_mergeSort (fun a b c => tr a b c) (fun a b => tt a b) l) (List.pairwise_mergeSort (fun a b c => tr a b c) (fun a b => tt a b) m) (((List.mergeSort_perm l _).trans p).trans (List.mergeSort_perm m _).symm) ?_
  intro a ha b hb h1 h2
  have ha' := (List.mergeSort_perm l _).mem_iff.mp ha
  have hb' := (List.mergeSort_perm l _).mem_iff.mp hb
  obtain ⟨al, inj⟩ := h a ha' b hb'
  refine inj (toks_inj al ?_)
  have h1' : (!PyProof.Rows.lexLt itemOrd (W.keyToks b) (W.keyToks a)) = true := h1
  have h2' : (!PyProof.Rows.lexLt itemOrd (W.keyToks a) (W.keyToks b)) = true := h2
  exact PyProof.Rows.lex_total (O := itemOrd) _ _ (by simpa using h2') (by simpa using h1')
end EA
namespace EA
open PySem PySem.Spec PyProof.Rows L2

section
variable {K : PySem.W.Frag} {A : Wd} {S : List MO}
theorem tup_of (R : Rl K A S) {ds : List PyData} {vs : List V} (hd : DaA K A.G vs ds) {Q : VK} (q : ∀ B v, Nx A B → Rl K B S → Da K B.G v (.tuple ds) → Q v B.H) (p : Addr) (hp : A.H p = none) : Q (.ref p) (upd A.H p (.tup vs)) := by
  obtain ⟨n2, R2⟩ := Nx.dat (o := .tup vs) R hp
  exact q ⟨upd A.G p (.tup vs), upd A.H p (.tup vs), A.ι⟩ _ n2 R2 (Da.tup (SqT.of upd_same) (hd.up n2.gg))
theorem lst_of (R : Rl K A S) {ds : List PyData} {vs : List V} (hd : DaA K A.G vs ds) {Q : VK} (q : ∀ B v, Nx A B → Rl K B S → Da K B.G v (.list ds) → Q v B.H) (p : Addr) (hp : A.H p = none) : Q (.ref p) (upd A.H p (.lst vs)) := by
  obtain ⟨n2, R2⟩ := Nx.dat (o := .lst vs) R hp
  exact q ⟨upd A.G p (.lst vs), upd A.H p (.lst vs), A.ι⟩ _ n2 R2 (Da.lst upd_same (hd.up n2.gg))
theorem new_of (R : Rl K A S) {ds : List PyData} {vs : List V} (hd : DaA K A.G vs ds) {Q : VK} (q : ∀ B vs p, Nx A B → Rl K B S → A.H p = none → p ∉ B.ι → B.G p = none → B.H p = some (.lst vs) → DaA K B.G vs ds → Q (.ref p) B.H) (p : Addr) (hp : A.H p = none) : Q (.ref p) (upd A.H p (.lst vs)) := by
  obtain ⟨n2, R2⟩ := Nx.junk (o := .lst vs) R hp
  exact q ⟨A.G, upd A.H p (.lst vs), A.ι⟩ vs p n2 R2 hp (R.new hp) (R.gh.free hp) upd_same hd
end

/-! ### two-place operations -/
abbrev GO := List MO → W3 → W3 → Option PyData
def OpOk (K : PySem.W.Frag) (r : R2) (g : GO) : Prop := ∀ (A : Wd) (S : List MO) (x y : W3) (vx vy : V) (d : PyData) (Q : VK), Rl K A S → RW K A vx x → RW K A vy y → g S x y = some d → (∀ B v, Nx A B → Rl K B S → Da K B.G v d → Q v B.H) → r vx vy A.H Q
def eOp (g : GO) (a b : FE) : FE := fun sl S => (a sl S).bind fun p => (b sl p.2).bind fun q => (g q.2 p.1 q.1).map fun d => (.d d, q.2)
theorem eop_imp {K : PySem.W.Frag} {r : R2} {g : GO} (ok : OpOk K r g) {fa fb : FE} {σ : L2.St} {H : Hp} {Q : VK} (h : teO K (eOp g fa fb) σ H Q) : tOp r (teO K fa) (teO K fb) σ H Q := by
  obtain ⟨A, S, sl, w, S', rfl, R, s, e, q⟩ := h
  obtain ⟨⟨w1, S1⟩, e1, e⟩ := Option.bind_eq_some_iff.mp e
  obtain ⟨⟨w2, S2⟩, e2, e⟩ := Option.bind_eq_some_iff.mp e
  obtain ⟨d, e3, e⟩ := Option.map_eq_some_iff.mp e
  cases e
  refine ⟨A, S, sl, w1, S1, rfl, R, s, e1, fun B v n R1 r1 => ⟨B, S1, sl, w2, _, rfl, R1, s.mono n, e2, fun C u n2 R2 r2 => ?_⟩⟩
  exact ok C _ w1 w2 v u d Q R2 (r1.mono n2) r2 e3 fun D v n3 R3 r3 => q D v ((n.trans n2).trans n3) R3 r3
section
variable {K : PySem.W.Frag} {X : Cx} {a b : Expr} {fa fb : FE} {pos : Pos}
theorem e_op {op : Operator} {r : R2} {g : GO} (ho : OpR X (binaryOp op) r) (ok : OpOk K r g) (ha : PE3 K X a fa) (hb : PE3 K X b fb) : PE3 K X (.BinOp a op b pos) (eOp g fa fb) := ⟨pe_imp (pe_op ho ha.p hb.p) fun _ _ _ h => eop_imp ok h⟩
theorem e_ix {r : R2} {g : GO} (ho : IxR X r) (ok : OpOk K r g) (ha : PE3 K X a fa) (hb : PE3 K X b fb) (hs : PlainIx b) : PE3 K X (.Subscript a b pos) (eOp g fa fb) := ⟨pe_imp (pe_ix ho ha.p hb.p hs) fun _ _ _ h => eop_imp ok h⟩
end
/-- ints -/
def gI (C : Int → Int → Bool) (f : Int → Int → Int) : GO := fun _ x y => match x, y with
  | .d (.int i), .d (.int j) => if C i j = true then some (.int (f i j)) else none
  | _, _ => none
def gSub : GO := gI (fun _ _ => true) fun i j => i - j
def gMul : GO := gI (fun i j => decide (-(2 ^ 64) < i ∧ i < 2 ^ 64) || decide (-(2 ^ 64) < j ∧ j < 2 ^ 64)) fun i j => i * j
def gFdiv : GO := gI (fun _ j => decide (0 < j ∧ j < 1073741824)) fun i j => i / j
def gMod : GO := gI (fun _ j => decide (0 < j)) fun i j => i % j
def gPow : GO := gI (fun i j => decide (0 ≤ j ∧ j ≤ 1000000 ∧ i.natAbs < 2 ^ 64)) fun i j => i ^ j.toNat
def gShl : GO := gI (fun i j => decide (0 ≤ j ∧ j ≤ 1000000 ∧ i.natAbs < 2 ^ 64)) fun i j => i * 2 ^ j.toNat
section
variable {K : PySem.W.Frag} {X : Cx}
theorem okI {C : Int → Int → Bool} {f : Int → Int → Int} {P : Int → Int → Prop} (h : ∀ i j, C i j = true → P i j) : OpOk K (rI P fun i j => .int (f i j)) (gI C f) := by
  intro A S x y vx vy d Q R rx ry e q
  unfold gI at e
  split at e
  · rename_i i j
    by_cases z : C i j = true
    · rw [if_pos z] at e
      cases e
      cases Da.int_inv rx
      cases Da.int_inv ry
      exact ⟨i, j, rfl, rfl, h i j z, q A _ (Nx.refl A) R (Da.int _)⟩
    · rw [if_neg z] at e; cases e
  · cases e
theorem okI0 {f : Int → Int → Int} : OpOk K (rI0 fun i j => .int (f i j)) (gI (fun _ _ => true) f) := by
  intro A S x y vx vy d Q R rx ry e q
  obtain ⟨i, j, e1, e2, _, h⟩ := okI (K := K) (C := fun _ _ => true) (f := f) (P := fun _ _ => True) (fun _ _ _ => trivial) A S x y vx vy d Q R rx ry e q
  exact ⟨i, j, e1, e2, h⟩
theorem ok_sub : OpOk K (rI0 fun i j => .int (i - j)) gSub := okI0
theorem ok_mul : OpOk K (rI CMul fun i j => .int (i * j)) gMul := okI fun i j h => by
  rcases Bool.or_eq_true_iff.mp h with h | h
  · exact .inl (of_decide_eq_true h)
  · exact .inr (of_decide_eq_true h)
theorem ok_fdiv : OpOk K (rI CDiv fun i j => .int (i / j)) gFdiv := okI fun i j h => (of_decide_eq_true (p := 0 < j ∧ j < 1073741824) h)
theorem ok_mod : OpOk K (rI (fun _ j => 0 < j) fun i j => .int (i % j)) gMod := okI fun i j h => (of_decide_eq_true h :)
theorem ok_pow : OpOk K (rI CPow fun i j => .int (i ^ j.toNat)) gPow := okI fun i j h => (of_decide_eq_true (p := 0 ≤ j ∧ j ≤ 1000000 ∧ i.natAbs < 2 ^ 64) h)
theorem ok_shl : OpOk K (rI CPow fun i j => .int (i * 2 ^ j.toNat)) gShl := okI fun i j h => (of_decide_eq_true (p := 0 ≤ j ∧ j ≤ 1000000 ∧ i.natAbs < 2 ^ 64) h)
/-- + of ints, texts, lists, tuples -/
def rAd (K : PySem.W.Frag) : R2 := fun x y H Q => (∃ i j, x = .int i ∧ y = .int j ∧ Q (.int (i + j)) H) ∨ (∃ i j, x = .str i ∧ y = .str j ∧ i.length + j.length ≤ sizeLine ∧ Q (.str (i ++ j)) H) ∨ rCat x y H Q ∨ rCatA K x y H Q
theorem op_ad (hK : X.K = K) : OpR X (binaryOp .Add) (rAd K) := by subst hK; exact OpR.or op_add (OpR.or op_add_str (OpR.or op_cat op_catA))
def gAddD : PyData → PyData → Option PyData
  | .int i, .int j => some (.int (i + j))
  | .str i, .str j => if i.length + j.length ≤ 100000 then some (.str (i ++ j)) else none
  | .tuple i, .tuple j => if i.length + j.length ≤ 100000 then some (.tuple (i ++ j)) else none
  | _, _ => none
def gCatL (S : List MO) (x y : W3) : Option (List PyData) := (viewL S x).bind fun xs => (viewL S y).bind fun ys => if xs.length + ys.length ≤ 100000 then some (xs ++ ys) else none
def gAdd : GO := fun S x y => match x, y with
  | .d a, .d b => (gAddD a b).or ((gCatL S x y).map .list)
  | _, _ => (gCatL S x y).map .list
theorem lineD {n : Nat} (h : n ≤ 100000) : n ≤ sizeLine := Nat.le_trans h (by decide)
theorem catL_ok {A : Wd} {S : List MO} {x y : W3} {vx vy : V} {ds : List PyData} (R : Rl K A S) (rx : RW K A vx x) (ry : RW K A vy y) (e : gCatL S x y = some ds) :
    ∃ l b xs zs, vx = .ref l ∧ vy = .ref b ∧ A.H l = some (.lst xs) ∧ A.H b = some (.lst zs) ∧ xs.length + zs.length ≤ sizeLine ∧ DaA K A.G (xs ++ zs) ds := by
  obtain ⟨xs, e1, e⟩ := Option.bind_eq_some_iff.mp e
  obtain ⟨ys, e2, e⟩ := Option.bind_eq_some_iff.mp e
  by_cases z : xs.length + ys.length ≤ 100000
  · rw [if_pos z] at e
    cases e
    obtain ⟨l, us, rfl, h1, d1⟩ := viewL_at R rx e1
    obtain ⟨b, ws, rfl, h2, d2⟩ := viewL_at R ry e2
    exact ⟨l, b, us, ws, rfl, rfl, h1, h2, by rw [d1.len, d2.len]; exact lineD z, d1.app d2⟩
  · rw [if_neg z] at e; cases e
theorem ok_add : OpOk K (rAd K) gAdd := by
  intro A S x y vx vy d Q R rx ry e q
  have lists : (gCatL S x y).map PyData.list = some d → rAd K vx vy A.H Q := fun e => by
    obtain ⟨ds, e1, e2⟩ := Option.map_eq_some_iff.mp e
    subst e2
    obtain ⟨l, b, xs, zs, rfl, rfl, h1, h2, hz, hd⟩ := catL_ok R rx ry e1
    exact .inr (.inr (.inl ⟨l, b, xs, zs, rfl, rfl, h1, h2, hz, lst_of R hd q⟩))
  unfold gAdd at e
  split at e
  · rename_i a b
    cases z : gAddD a b with
    | none => rw [z] at e; exact lists e
    | some c =>
      rw [z] at e
      cases e
      unfold gAddD at z
      split at z
      · cases z
        cases Da.int_inv rx
        cases Da.int_inv ry
        exact .inl ⟨_, _, rfl, rfl, q A _ (Nx.refl A) R (Da.int _)⟩
      · rename_i i j
        by_cases h : i.length + j.length ≤ 100000
        · rw [if_pos h] at z
          cases z
          cases Da.str_inv rx
          cases Da.str_inv ry
          exact .inr (.inl ⟨_, _, rfl, rfl, lineD h, q A _ (Nx.refl A) R (Da.str _)⟩)
        · rw [if_neg h] at z; cases z
      · rename_i i j
        by_cases h : i.length + j.length ≤ 100000
        · rw [if_pos h] at z
          cases z
          obtain ⟨a1, xs, rfl, h1, d1⟩ := Da.tup_inv rx
          obtain ⟨a2, ys, rfl, h2, d2⟩ := Da.tup_inv ry
          refine .inr (.inr (.inr ⟨a1, a2, xs, ys, rfl, rfl, sqT_up R.gh h1, sqT_up R.gh h2, by rw [d1.len, d2.len]; exact lineD h, fun z => ?_, fun _ z => ?_, fun _ _ => tup_of R (d1.app d2) q⟩))
          · subst z
            cases d1
            exact q A _ (Nx.refl A) R ry
          · subst z
            cases d2
            refine q A _ (Nx.refl A) R ?_
            rw [List.append_nil]; exact rx
        · rw [if_neg h] at z; cases z
      · cases z
  · exact lists e
/-- list + list, a new list -/
def nOp (g : List MO → W3 → W3 → Option (List PyData)) (a b : FE) : FN := fun sl S => (a sl S).bind fun p => (b sl p.2).bind fun q => (g q.2 p.1 q.1).map fun d => (d, q.2)
variable {a b : Expr} {fa fb : FE} {pos : Pos}
theorem fresh_back {A B : Wd} (n : Nx A B) {p : Addr} (h : B.H p = none) : A.H p = none := by
  cases z : A.H p with
  | none => rfl
  | some u => exact absurd h (n.dm p (by rw [z]; exact fun k => nomatch k))
theorem n_cat (ha : PE3 K X a fa) (hb : PE3 K X b fb) : PN3 K X (.BinOp a .Add b pos) (nOp gCatL fa fb) := ⟨pe_imp (pe_op op_cat ha.p hb.p) fun σ H Q h => by
  obtain ⟨A, S, sl, w, S', rfl, R, s, e, q⟩ := h
  obtain ⟨⟨w1, S1⟩, e1, e⟩ := Option.bind_eq_some_iff.mp e
  obtain ⟨⟨w2, S2⟩, e2, e⟩ := Option.bind_eq_some_iff.mp e
  obtain ⟨d, e3, e⟩ := Option.map_eq_some_iff.mp e
  cases e
  refine ⟨A, S, sl, w1, S1, rfl, R, s, e1, fun B v n R1 r1 => ⟨B, S1, sl, w2, _, rfl, R1, s.mono n, e2, fun C u n2 R2 r2 => ?_⟩⟩
  obtain ⟨l, b, xs, zs, rfl, rfl, h1, h2, hz, hd⟩ := catL_ok R2 (r1.mono n2) r2 e3
  refine ⟨l, b, xs, zs, rfl, rfl, h1, h2, hz, new_of R2 hd fun D vs p n3 R3 np ni g hh hd => q D vs p ((n.trans n2).trans n3) R3 (fresh_back (n.trans n2) np) ni g hh hd⟩⟩

/-! ### items -/
def gIx : GO := fun S x y => match y with
  | .d (.int k) => match view S x with
    | some (.list xs) => atI xs k
    | some (.tuple xs) => atI xs k
    | some (.str z) => if z.length ≤ 100000 then (atI z.cps.toList k).map fun c => .str ⟨#[c]⟩ else none
    | _ => none
  | _ => none
theorem atI_daa {G : Hp} {vs : List V} {ds : List PyData} {k : Int} {d : PyData} (h : DaA K G vs ds) (e : atI ds k = some d) : ∃ v, atI vs k = some v ∧ Da K G v d := by
  unfold atI at e ⊢
  rw [h.len]
  obtain ⟨j, e1, e2⟩ := Option.bind_eq_some_iff.mp e
  rw [e1]
  exact h.get e2
theorem ok_ix : OpOk K (rIx K) gIx := by
  intro A S x y vx vy d Q R rx ry e q
  unfold gIx at e
  split at e
  · rename_i k
    cases Da.int_inv ry
    split at e
    · rename_i xs hx
      obtain ⟨a, vs, rfl, h1, _, hd⟩ := view_list R rx hx
      obtain ⟨v, h3, h4⟩ := atI_daa hd e
      exact .inl ⟨a, vs, k, v, rfl, rfl, h1, h3, q A _ (Nx.refl A) R h4⟩
    · rename_i xs hx
      obtain ⟨a, vs, rfl, h1, hd⟩ := view_tup R rx hx
      obtain ⟨v, h3, h4⟩ := atI_daa hd e
      exact .inr (.inl ⟨a, vs, k, v, rfl, rfl, h1, h3, q A _ (Nx.refl A) R h4⟩)
    · rename_i z hz
      by_cases h : z.length ≤ 100000
      · rw [if_pos h] at e
        obtain ⟨c, e1, e2⟩ := Option.map_eq_some_iff.mp e
        subst e2
        have dz := view_dp R rx hz
        cases dz
        exact .inr (.inr ⟨z, k, c, rfl, rfl, lineD h, e1, q A _ (Nx.refl A) R (Da.str _)⟩)
      · rw [if_neg h] at e; cases e
    · cases e
  · cases e
theorem ix_sq (hK : X.K = K) : IxR X (rIx K) := by subst hK; exact ix_seq

/-! ### slices -/
def oNone : FO := fun _ S => some (none, S)
def oSome (f : FE) : FO := fun sl S => (f sl S).bind fun p => match p.1 with
  | .d (.int i) => some (some i, p.2)
  | _ => none
theorem o_none : PO3 K X none oNone := ⟨⟨fun pins s σ H Q I h => by
  obtain ⟨A, S, sl, w, S', rfl, R, s', e, q⟩ := h
  cases e
  exact (po_none (X := X)).run pins s σ _ Q I (q A (Nx.refl A) R)⟩⟩
theorem o_some (h : PE3 K X a fa) : PO3 K X (some a) (oSome fa) := ⟨⟨fun pins s σ H Q I hh => by
  refine (po_some h.p).run pins s σ _ Q I ?_
  obtain ⟨A, S, sl, w, S', rfl, R, s', e, q⟩ := hh
  obtain ⟨⟨w1, S1⟩, e1, e⟩ := Option.bind_eq_some_iff.mp e
  dsimp only at e
  refine ⟨A, S, sl, w1, S1, rfl, R, s', e1, fun B v n R1 r1 => ?_⟩
  split at e
  · cases e
    exact ⟨_, Da.int_inv r1, q B n R1⟩
  · cases e⟩⟩
def cutD {α : Type} (xs : List α) (lo hi : Option Int) : List α := (xs.drop (HT.sIx xs.length 0 lo)).take (HT.sIx xs.length xs.length hi - HT.sIx xs.length 0 lo)
theorem cut_daa {G : Hp} {vs : List V} {ds : List PyData} (h : DaA K G vs ds) (lo hi : Option Int) : DaA K G (cutV vs lo hi) (cutD ds lo hi) := by
  unfold cutV cutD
  rw [h.len]
  exact (h.drop _).take _
/-- texts, tuples, lists -/
def rSl3 (K : PySem.W.Frag) : V → Option Int → Option Int → Hp → VK → Prop := fun x lo hi H Q => rSlL K x lo hi H Q ∨ L2.rSlA K x lo hi H Q ∨ rSlS x lo hi H Q
theorem sl_3 (hK : X.K = K) : SlR X (rSl3 K) := by subst hK; exact SlR.or sl_list (SlR.or sl_tupA sl_str)
def eSl (a : FE) (l h : FO) : FE := fun sl S => (a sl S).bind fun p => (l sl p.2).bind fun q => (h sl q.2).bind fun u => match view u.2 p.1 with
  | some (.list xs) => some (.d (.list (cutD xs q.1 u.1)), u.2)
  | some (.tuple xs) => some (.d (.tuple (cutD xs q.1 u.1)), u.2)
  | some (.str z) => if z.length ≤ 100000 then some (.d (.str (cutS z q.1 u.1)), u.2) else none
  | _ => none
def nSl (a : FE) (l h : FO) : FN := fun sl S => (a sl S).bind fun p => (l sl p.2).bind fun q => (h sl q.2).bind fun u => match view u.2 p.1 with
  | some (.list xs) => some (cutD xs q.1 u.1, u.2)
  | _ => none
end
end EA
namespace EA
open PySem PySem.Spec PyProof.Rows L2
/-! ### sets over any kind of keys -/
section
variable {P : Program} {w : World} {Kt : Type} [DecidableEq Kt]
/-- no key twice -/
def Apart (knd : PySem.KeyKind P w Kt) (l : List (Int × Value)) : Prop := l.Pairwise fun e f => ∀ k, knd.is k e.2 = true → knd.is k f.2 = true → False
theorem Apart.perm {knd : PySem.KeyKind P w Kt} {l m : List (Int × Value)} (h : Apart knd l) (p : m.Perm l) : Apart knd m :=
  (p.pairwise_iff (fun {x y} g k a b => g k b a)).mpr h
/-- what a set's entries and table keep -/
structure GS (knd : PySem.KeyKind P w Kt) (es : Array (Int × Value)) (t : SetTable) (S : Kt → Bool) : Prop where
  el : ElemsOf knd es.toList
  ap : Apart knd es.toList
  mem : ∀ k, S k = true ↔ ∃ e ∈ es.toList, knd.is k e.2 = true
  bd : es.size < scanBound
  fit : t.fits es.size = true
  ris : Ris t.place.toList
  led : w.params.followText "set-order" = true ∨ t.led = true
def SetG (knd : PySem.KeyKind P w Kt) (h : Heap) (a : Addr) (S : Kt → Bool) (n : Nat) : Prop :=
  ∃ o es ep t, h.get? a = some o ∧ o.ExactSet ∧ o.data = .set es ep t ∧ GS knd es t S ∧ es.size = n
theorem SetG.at {knd : PySem.KeyKind P w Kt} {h h' : Heap} {a : Addr} {S : Kt → Bool} {n : Nat} (R : SetG knd h a S n) (k : ∀ o, h.get? a = some o → h'.get? a = some o) : SetG knd h' a S n := by
  obtain ⟨o, es, ep, t, ho, r⟩ := R
  exact ⟨o, es, ep, t, k o ho, r⟩
theorem SetG.congr {knd : PySem.KeyKind P w Kt} {h : Heap} {a : Addr} {S S' : Kt → Bool} {n : Nat} (R : SetG knd h a S n) (e : ∀ k, S' k = S k) : SetG knd h a S' n := by
  have q : S' = S := funext e
  rw [q]; exact R
variable {knd : PySem.KeyKind P w Kt} {A : Around} {E : Value → Shared → Prop} {s : Shared} {a : Addr} {S : Kt → Bool} {n : Nat}
theorem set_stored {h : Heap} {o : Obj} {es es' : Array (Int × Value)} {ep : Nat} {t t' : SetTable} (ho : h.get? a = some o) (hd : o.data = .set es ep t) :
    (h.update a (Obj.putSet es' t')).get? a = some { o with data := .set es' (ep + 1) t' } := by
  have q := Heap.get?_update_self (Obj.putSet es' t') ho (by rw [putSet_of es' t' hd]; rfl)
  rw [putSet_of es' t' hd] at q
  exact q
/-- entries put down, and laid out anew where the table is too full -/
theorem set_put {g : Bool → Sem Unit} (hg : ∀ (b : Bool) (s₁ : Shared) (Q' : Unit → Shared → Prop), Q' () s₁ → wpAny (model P w) A (g b) Q' E s₁)
    {o : Obj} {es es1 : Array (Int × Value)} {ep : Nat} {t t2 : SetTable} (ho : s.heap.get? a = some o) (hex : o.ExactSet) (hd : o.data = .set es ep t) (G : GS knd es1 t2 S)
    {was : Bool} {R : Option Bool → Shared → Prop} (hR : ∀ h', Heap.SameBut a s.heap h' → SetG knd h' a S es1.size → R (some true) { s with heap := h' }) :
    wpAny (model P w) A (do
        storeSet a es1 t2
        if (!was && t2.tooFull) = true then do
            g (relayAll t2 es1 (SetTable.grown es1.size)).2.2
            storeSet a (relayAll t2 es1 (SetTable.grown es1.size)).1 (relayAll t2 es1 (SetTable.grown es1.size)).2.1
            pure (some true)
          else pure (some true)) R E s := by
  refine wpAny_bind (wpAny_storeSet_of ho hd ?_ (fits_of_scanBound G.bd))
  have ho1 := set_stored (es' := es1) (t' := t2) ho hd
  have sb1 := Heap.SameBut.update s.heap a (Obj.putSet es1 t2)
  by_cases full : (!was && t2.tooFull) = true
  · rw [if_pos full]
    have pm := relayAll_perm t2 es1 (SetTable.grown es1.size)
    have f3 := relayAll_fits t2 es1 (SetTable.grown es1.size)
    have r3 := relayAll_ris t2 es1 (SetTable.grown es1.size)
    have l3 := relayAll_led t2 es1 (SetTable.grown es1.size)
    have z3 : (relayAll t2 es1 (SetTable.grown es1.size)).1.size = es1.size := by rw [← Array.length_toList, pm.length_eq, Array.length_toList]
    refine wpAny_bind (hg _ _ _ ?_)
    refine wpAny_bind (wpAny_storeSet_of ho1 rfl ?_ (fits_of_scanBound (by rw [z3]; exact G.bd)))
    have ho2 := set_stored (es' := (relayAll t2 es1 (SetTable.grown es1.size)).1) (t' := (relayAll t2 es1 (SetTable.grown es1.size)).2.1) ho1 rfl
    refine wpAny_pure (hR _ (sb1.trans (Heap.SameBut.update _ a _)) ⟨_, _, _, _, ho2, hex, rfl, ⟨G.el.perm pm, G.ap.perm pm, fun k => (G.mem k).trans ?_, by rw [z3]; exact G.bd, f3, r3, G.led.imp id fun z => by rw [l3]; exact z⟩, z3⟩)
    exact ⟨fun ⟨e, he, q⟩ => ⟨e, pm.mem_iff.mpr he, q⟩, fun ⟨e, he, q⟩ => ⟨e, pm.mem_iff.mp he, q⟩⟩
  · rw [if_neg full]
    exact wpAny_pure (hR _ sb1 ⟨_, es1, _, t2, ho1, hex, rfl, G, rfl⟩)
theorem setG_add {k : Kt} {x : Value} {Q : Bool → Shared → Prop} (hkey : knd.is k x = true) (hsc : x.scannable = true) (R : SetG knd s.heap a S n) (room : n + 1 < scanBound)
    (hQ : ∀ h' m, Heap.SameBut a s.heap h' → m ≤ n + 1 → SetG knd h' a (fun j => S j || decide (j = k)) m → Q (!S k) { s with heap := h' }) :
    wpAny (model P w) A (setAddHashed a x (knd.hash k)) Q E s := by
  obtain ⟨o, es, ep, t, ho, hex, hd, G, hn⟩ := R
  unfold setAddHashed setAddHashedIn
  refine wpAny_holding (wpAny_bind (wpAny_setState_of ho hd G.fit ?_))
  dsimp only
  rw [byScan_of hsc G.bd G.el]
  simp only [↓reduceIte]
  unfold setAddByScan
  refine wpAny_bind ?_
  refine wpAny_bind (wpAny_rule ?_)
  refine wpAny_bind (wpAny_setScan_of hkey ho hd G.fit G.el ?_)
  cases met : List.findIdx? (fun e => knd.is k e.2) es.toList with
  | some j =>
    dsimp only
    obtain ⟨hj, pj, _⟩ := List.findIdx?_eq_some_iff_getElem.mp met
    have yes : S k = true := (G.mem k).mpr ⟨es.toList[j], List.getElem_mem hj, pj⟩
    refine wpAny_pure (wpAny_pure ?_)
    have q := hQ s.heap n (Heap.SameBut.refl a s.heap) (Nat.le_succ n) (SetG.congr ⟨o, es, ep, t, ho, hex, hd, G, hn⟩ fun i => by
      by_cases e : i = k
      · rw [e, yes]; rfl
      · rw [decide_eq_false e, Bool.or_false])
    rw [yes] at q
    exact q
  | none =>
    dsimp only
    have none_is : ∀ e ∈ es.toList, knd.is k e.2 = false := fun e he => by simpa using List.findIdx?_eq_none_iff.mp met e he
    have no : S k = false := by
      cases q : S k with
      | false => rfl
      | true =>
        obtain ⟨e, he, h⟩ := (G.mem k).mp q
        rw [none_is e he] at h
        exact absurd h Bool.false_ne_true
    have gw : ∀ (b : Bool) {s₁ : Shared} {Q' : Unit → Shared → Prop}, Q' () s₁ → wpAny (model P w) A (match b with | true => rule "set.scan.the-table-gave-way" | false => pure ()) Q' E s₁ :=
      fun b s₁ Q' q => by cases b <;> first | exact wpAny_pure q | exact wpAny_rule q
    have pm := layNew_perm t es (knd.hash k) x
    have f1 := layNew_fits t es (knd.hash k) x
    have r1 := layNew_ris t es (knd.hash k) x G.ris
    have l1 := layNew_led t es (knd.hash k) x
    generalize layNew t es (knd.hash k) x = Z at pm f1 r1 l1 ⊢
    obtain ⟨es1, t1, was, gave⟩ := Z
    dsimp only at pm f1 r1 l1 ⊢
    rw [Array.toList_push] at pm
    have sz : es1.size = n + 1 := by rw [← Array.length_toList, pm.length_eq, List.length_append, Array.length_toList, hn]; rfl
    have G1 : GS knd es1 t1 (fun j => S j || decide (j = k)) := by
      refine ⟨(G.el.push hkey hsc).perm pm, Apart.perm ?_ pm, mem_push_iff hkey G.mem pm, by rw [sz]; exact room, f1, r1, G.led.imp id fun z => by rw [l1]; exact z⟩
      refine List.pairwise_append.mpr ⟨G.ap, List.pairwise_singleton _ _, fun e he f hf i h1 h2 => ?_⟩
      have ef : f = (knd.hash k, x) := by simpa using hf
      subst ef
      have ik : i = k := knd.inj x i k h2 hkey
      subst ik
      rw [none_is e he] at h1
      exact absurd h1 Bool.false_ne_true
    have fin : ∀ h', Heap.SameBut a s.heap h' → SetG knd h' a (fun j => S j || decide (j = k)) es1.size → Q true { s with heap := h' } := fun h' sb r => by
      have q := hQ h' es1.size sb (Nat.le_of_eq sz) r
      rw [no] at q
      exact q
    refine wpAny_bind (gw _ ?_)
    split
    · refine wpAny_bind ?_
      rw [hashByValue_scannable 8 hsc]
      refine wpAny_pure ?_
      refine set_put (knd := knd) (S := fun j => S j || decide (j = k)) ?_ ho hex hd ?_ ?_
      · intro b s₁ Q' q; cases b <;> first | exact wpAny_pure q | exact wpAny_rule q
      · split
        · exact G1
        · exact ⟨G1.el, G1.ap, G1.mem, G1.bd, SetTable.fits_plain_off f1, G1.ris, G1.led⟩
      · intro h' sb r; dsimp only; exact wpAny_pure (fin h' sb r)
    · refine wpAny_bind (wpAny_pure ?_)
      simp only [↓reduceIte]
      refine set_put (knd := knd) (S := fun j => S j || decide (j = k)) ?_ ho hex hd G1 ?_
      · intro b s₁ Q' q; cases b <;> first | exact wpAny_pure q | exact wpAny_rule q
      · intro h' sb r; dsimp only; exact wpAny_pure (fin h' sb r)
end
end EA
namespace EA
open PySem PySem.Spec PyProof.Rows L2
abbrev newS (w : World) : Obj := { cls := .type "set", dict := none, data := .set #[] 0 (.fresh 0 0 (!w.params.followText "set-order")) }
section
variable {P : Program} {w : World} {Kt : Type} [DecidableEq Kt] {knd : PySem.KeyKind P w Kt}
theorem setG_new {h : Heap} {a : Addr} (ho : h.get? a = some (newS w)) : SetG knd h a (fun _ => false) 0 :=
  ⟨_, #[], 0, _, ho, ⟨rfl, rfl, rfl⟩, rfl, ⟨fun e he => (by simp at he), List.Pairwise.nil, fun k => by simp, by decide, by rfl, List.Pairwise.nil, by
    show _ ∨ (!w.params.followText "set-order") = true
    cases w.params.followText "set-order"
    · exact .inr rfl
    · exact .inl rfl⟩, rfl⟩
/-- the keys of a set's items, in any order -/
theorem keys_out {es : Array (Int × Value)} {t : SetTable} {S : Kt → Bool} {vs : List Value} (g : GS knd es t S) (pm : vs.Perm (es.toList.map (·.2))) :
    ∃ ks : List Kt, W.EachIs (fun v k => knd.is k v = true) vs ks ∧ ks.Nodup ∧ ∀ k, k ∈ ks ↔ S k = true := by
  have ap : vs.Pairwise fun u v => ∀ k, knd.is k u = true → knd.is k v = true → False :=
    (pm.pairwise_iff (fun {x y} g k a b => g k b a)).mpr (List.pairwise_map.mpr g.ap)
  have ex : ∀ v ∈ vs, ∃ k, knd.is k v = true := fun v hv => by
    obtain ⟨e, he, rfl⟩ := List.mem_map.mp (pm.mem_iff.mp hv)
    obtain ⟨⟨k, hk, _⟩, _⟩ := g.el e he
    exact ⟨k, hk⟩
  have mem : ∀ k, S k = true ↔ ∃ v ∈ vs, knd.is k v = true := fun k => (g.mem k).trans
    ⟨fun ⟨e, he, q⟩ => ⟨e.2, pm.mem_iff.mpr (List.mem_map.mpr ⟨e, he, rfl⟩), q⟩, fun ⟨v, hv, q⟩ => by
      obtain ⟨e, he, rfl⟩ := List.mem_map.mp (pm.mem_iff.mp hv)
      exact ⟨e, he, q⟩⟩
  clear pm
  suffices h : ∃ ks : List Kt, W.EachIs (fun v k => knd.is k v = true) vs ks ∧ ks.Nodup ∧ ∀ k, k ∈ ks ↔ ∃ v ∈ vs, knd.is k v = true by
    obtain ⟨ks, h1, h2, h3⟩ := h
    exact ⟨ks, h1, h2, fun k => (h3 k).trans (mem k).symm⟩
  clear mem
  induction vs with
  | nil => exact ⟨[], .nil, List.nodup_nil, fun k => ⟨fun h => (nomatch h), fun ⟨_, h, _⟩ => (nomatch h)⟩⟩
  | cons v vs ih =>
    obtain ⟨a1, a2⟩ := List.pairwise_cons.mp ap
    obtain ⟨ks, h1, h2, h3⟩ := ih a2 fun u hu => ex u (List.mem_cons_of_mem _ hu)
    obtain ⟨k, hk⟩ := ex v List.mem_cons_self
    refine ⟨k :: ks, .cons hk h1, List.nodup_cons.mpr ⟨fun m => ?_, h2⟩, fun j => ?_⟩
    · obtain ⟨u, hu, q⟩ := (h3 k).mp m
      exact a1 u hu k hk q
    · rw [List.mem_cons, h3]
      constructor
      · rintro (rfl | ⟨u, hu, q⟩)
        · exact ⟨v, List.mem_cons_self, hk⟩
        · exact ⟨u, List.mem_cons_of_mem _ hu, q⟩
      · rintro ⟨u, hu, q⟩
        rcases List.mem_cons.mp hu with rfl | hu
        · exact .inl (knd.inj _ _ _ q hk)
        · exact .inr ⟨u, hu, q⟩
variable {A : Around} {E : Value → Shared → Prop} {s : Shared}
/-- the walk that puts each item in -/
theorem set_fill {I : Addr} {fp wr : List Addr} {G : Array GenState → Array GenState → Prop} {n : Nat} {Pv : Nat → Value → Prop} {St : Nat → Shared → Prop} {R : Result → Shared → Prop}
    (W : WalksS P w A.in1 I fp wr G n Pv St) (D : Addr) (hD : D ∉ fp) (ks : List Kt) (hn : n = ks.length) (hb : ks.length + 1 < scanBound) (hval : ∀ i v, Pv i v → ∃ k, ks[i]? = some k ∧ knd.is k v = true ∧ v.scannable = true) :
    ∀ (left i : Nat) (s : Shared), n - i = left → i ≤ n → St i s → (∃ c, c ≤ i ∧ SetG knd s.heap D (fun j => decide (j ∈ ks.take i)) c) →
      (∀ s' c, Moved (D :: wr) G s s' → c ≤ n → SetG knd s'.heap D (fun j => decide (j ∈ ks)) c → R (.ok (.ret .none)) s') →
      codeAny (model P w) A (.builtin "set.update.loop" ⟨[.ref D, .ref I], []⟩) R s := by
  have notin : D ∉ wr := fun h => hD (W.sub _ h)
  have more : ∀ b ∈ wr, b ∈ D :: wr := fun b hb => List.mem_cons_of_mem _ hb
  intro left
  induction left with
  | zero =>
    intro i s e hi st ⟨c, hc, g⟩ hR
    have ein : i = n := by omega
    subst ein
    refine codeAny_builtin F.entry_set_update_loop ?_
    rw [Around.under_plainId F.plain_set_update_loop _]
    show wpAny _ A.in1 (pyNext (.ref I) >>= _) _ _ s
    refine wpAny_bind (W.done s _ _ st fun s' mv => ?_)
    show wpAny _ A.in1 (ret Value.none) _ _ s'
    rw [List.take_of_length_le (Nat.le_of_eq hn.symm)] at g
    exact wpAny_pure (hR s' c (mv.mono more) hc (g.at fun o e => mv.heap D o notin e))
  | succ left ih =>
    intro i s e hi st ⟨c, hc, g⟩ hR
    have lt : i < n := by omega
    refine codeAny_builtin F.entry_set_update_loop ?_
    rw [Around.under_plainId F.plain_set_update_loop _]
    show wpAny _ A.in1 (pyNext (.ref I) >>= _) _ _ s
    refine wpAny_bind (W.item i s _ _ lt st fun v s' hv st' mv => ?_)
    obtain ⟨z, hz, isz, sc⟩ := hval i v hv
    have g' : SetG knd s'.heap D (fun j => decide (j ∈ ks.take i)) c := g.at fun o e => mv.heap D o notin e
    show wpAny _ A.in1 (holding [v] (setAdd D v) >>= _) _ _ s'
    refine wpAny_bind (wpAny_holding ?_)
    unfold setAdd
    refine wpAny_holding ?_
    refine wpAny_bind (knd.pyHash isz ?_)
    refine setG_add (s := { s' with toks := s'.toks + 1 }) isz sc g' (by omega) fun h' m sb hm g2 => ?_
    have g3 : SetG knd h' D (fun j => decide (j ∈ ks.take (i + 1))) m := g2.congr fun j => by
      rw [List.take_add_one, hz]
      simp [List.mem_append]
    refine wpAny_pure ⟨plainId_quiet F.plain_set_update_loop _, ih (i + 1) _ (by omega) lt (W.frame _ s' _ _ st' (Nat.le_succ _) fun b hb o e => ?_) ⟨m, by omega, g3⟩ fun s'' c2 mv2 hc2 g4 => ?_⟩
    · rw [sb.2 b (fun h : b = D => hD (by rw [← h]; exact hb))]; exact e
    · refine hR s'' c2 (Moved.trans W.gtrans ((mv.mono more).then_heap (Nat.le_succ _) fun b o hb e => ?_) mv2) hc2 g4
      rw [sb.2 b (fun h : b = D => hb (by rw [h]; exact List.mem_cons_self))]; exact e

/-- set(x), x a list -/
theorem call_set_list {l : Addr} {items : Array Value} (ks : List Kt) {Q : Value → Shared → Prop} (hh : A.handled = none) (hl : s.heap.IsList l items) (hn : items.size = ks.length) (hit : ∀ (i : Nat) v, items[i]? = some v → ∃ k, ks[i]? = some k ∧ knd.is k v = true ∧ v.scannable = true) (hb : ks.length + 1 < scanBound)
    (h : ∀ (h' : Heap) (tk c : Nat), SetG knd h' s.heap.objs.size (fun j => decide (j ∈ ks)) c → c ≤ ks.length → (∀ b o, s.heap.get? b = some o → h'.get? b = some o) → Q (.ref s.heap.objs.size) { s with heap := h', toks := tk }) :
    wpAny (model P w) A (call (.type "set") [.ref l]) Q E s := by
  obtain ⟨c, tl, hmro⟩ := F.called_set.mro
  have hmade := F.called_set.made
  have hsub := F.called_set.sub
  refine wpAny_call (codeAny_of_tree ?_)
  show wpAny _ _ (callAny (.type "set") _) _ _ _
  refine wpAny_pure ⟨Code.quiet_builtin _ (by decide +kernel), codeAny_builtin F.entry_type_call ?_⟩
  rw [Around.under_plain (weight_type_call_type "set" [.ref l] []) rfl]
  have h1 := F.called_set.notType
  have h2 := F.called_set.canCreate
  have hct := F.typeCall_set_1 (.ref l)
  repeat (any_goals (first | assumption | wp_step))
  refine codeAny_mono (code_set_led1 (.ref l) (E := E) (Q₁ := fun obj s₁ => obj = .ref s.heap.objs.size ∧ s₁ = { s with heap := s.heap.push (newS w) }) ⟨rfl, rfl⟩) fun r s₁ hr => ?_
  cases r with
  | error e => exact hr
  | ok fl =>
    cases fl with
    | ret obj =>
      obtain ⟨rfl, rfl⟩ := hr
      have hS : (s.heap.push (newS w)).get? s.heap.objs.size = some (newS w) := Heap.get?_push_size _ rfl
      have hT : Shared.TypeIs { s with heap := s.heap.push (newS w) } (.ref s.heap.objs.size) "set" := ⟨_, hS, rfl⟩
      have hli := F.called_set.init.lookup
      have hbi := F.called_set.init.bind (.ref s.heap.objs.size)
      repeat (any_goals (first | assumption | wp_step))
      refine codeAny_mono (codeAny_call_builtin (R := wants (fun r s₂ => r = .none ∧ ∃ h' tk c, s₂ = { s with heap := h', toks := tk } ∧ SetG knd h' s.heap.objs.size (fun j => decide (j ∈ ks)) c ∧ c ≤ ks.length ∧
          (∀ b o, s.heap.get? b = some o → h'.get? b = some o)) E) F.called_set.init.plain F.entry_set_init (check_set_init_1 hT ?_)) fun r₂ s₂ hr₂ => ?_
      · obtain ⟨ol, hol, hcl, nl, hdl⟩ := hl
        obtain ⟨ocls, odict, odata, oslots⟩ := ol
        simp only at hcl hdl
        subst hcl; subst hdl
        have hol' : (s.heap.push (newS w)).get? l = some { cls := .type "list", dict := odict, data := .seq items nl, slots := oslots } := Heap.get?_push_of_some _ hol
        have hsls := F.sub_list_set
        have hslf := F.sub_list_frozenset
        have hne : (Value.type "list" == Value.type "dict") = false := by decide
        have hl1 : (s.heap.push (newS w)).IsList l items := ⟨_, hol', rfl, nl, rfl⟩
        unfold Builtin.«set.__init__» noKeywords Builtin.Frozenset.updateFrom
        generalize hPI : pyIter = PI
        wp_walk
        subst hPI
        refine wpAny_pyIter_list hl1 ?_
        refine wpAny_bind (wpAny_runValue ?_)
        have lS : l < s.heap.objs.size := Heap.lt_size hol
        have hh3 : A.in1.in1.in1.handled = none := by simp [hh]
        have zI : (s.heap.push (newS w)).objs.size = s.heap.objs.size + 1 := Heap.size_push ..
        have neI : l ≠ (s.heap.push (newS w)).objs.size := by rw [zI]; exact Nat.ne_of_lt (Nat.lt_succ_of_lt lS)
        have notin : s.heap.objs.size ∉ [(s.heap.push (newS w)).objs.size, l] := by
          rw [zI]
          simp only [List.mem_cons, List.not_mem_nil, or_false, not_or]
          exact ⟨Nat.ne_of_lt (Nat.lt_succ_self _), Nat.ne_of_gt lS⟩
        refine set_fill ((Walks.list hh3 _ l neI items).toS) s.heap.objs.size notin ks hn hb hit (items.size - 0) 0 _ rfl (Nat.zero_le _)
          ⟨⟨_, Heap.get?_push_size _ rfl, rfl, rfl⟩, (hl1.push _)⟩ ⟨0, Nat.le_refl 0, SetG.congr (setG_new (Heap.get?_push_of_some _ hS)) fun k => (by simp)⟩ fun s' c' mv hc' g => ?_
        obtain ⟨h', g2, d', tk', os'⟩ := s'
        have eg : g2 = s.gens := mv.gens
        have ed : d' = s.drawn := mv.drawn
        have eo : os' = s.os := mv.os
        subst eg; subst ed; subst eo
        show wpAny _ _ _ _ _ _
        refine wpAny_pure ?_
        show wpAny _ _ (ret Value.none) _ _ _
        rw [hn] at hc'
        refine wpAny_pure ⟨rfl, h', tk', c', rfl, g, hc', fun b o e => ?_⟩
        have b0 : b < s.heap.objs.size := Heap.lt_size e
        refine mv.heap b o ?_ (Heap.get?_push_of_some _ (Heap.get?_push_of_some _ e))
        rw [zI]
        simp only [List.mem_cons, List.not_mem_nil, or_false, not_or]
        exact ⟨Nat.ne_of_lt b0, Nat.ne_of_lt (Nat.lt_succ_of_lt b0)⟩
      · cases r₂ with
        | error e => exact hr₂
        | ok fl₂ =>
          cases fl₂ with
          | ret r =>
            obtain ⟨rfl, h', tk, c', rfl, g, hc', k'⟩ := hr₂
            repeat (any_goals (first | assumption | wp_step))
            exact h _ _ _ g hc' k'
          | _ => exact hr₂.elim
    | _ => exact hr.elim

/-- set(x), x a tuple -/
theorem call_set_tuple {l : Addr} {items : Array Value} (ks : List Kt) {Q : Value → Shared → Prop} (hh : A.handled = none) (hl : s.heap.IsTuple l items) (hn : items.size = ks.length) (hit : ∀ (i : Nat) v, items[i]? = some v → ∃ k, ks[i]? = some k ∧ knd.is k v = true ∧ v.scannable = true) (hb : ks.length + 1 < scanBound)
    (h : ∀ (h' : Heap) (tk c : Nat), SetG knd h' s.heap.objs.size (fun j => decide (j ∈ ks)) c → c ≤ ks.length → (∀ b o, s.heap.get? b = some o → h'.get? b = some o) → Q (.ref s.heap.objs.size) { s with heap := h', toks := tk }) :
    wpAny (model P w) A (call (.type "set") [.ref l]) Q E s := by
  obtain ⟨c, tl, hmro⟩ := F.called_set.mro
  have hmade := F.called_set.made
  have hsub := F.called_set.sub
  refine wpAny_call (codeAny_of_tree ?_)
  show wpAny _ _ (callAny (.type "set") _) _ _ _
  refine wpAny_pure ⟨Code.quiet_builtin _ (by decide +kernel), codeAny_builtin F.entry_type_call ?_⟩
  rw [Around.under_plain (weight_type_call_type "set" [.ref l] []) rfl]
  have h1 := F.called_set.notType
  have h2 := F.called_set.canCreate
  have hct := F.typeCall_set_1 (.ref l)
  repeat (any_goals (first | assumption | wp_step))
  refine codeAny_mono (code_set_led1 (.ref l) (E := E) (Q₁ := fun obj s₁ => obj = .ref s.heap.objs.size ∧ s₁ = { s with heap := s.heap.push (newS w) }) ⟨rfl, rfl⟩) fun r s₁ hr => ?_
  cases r with
  | error e => exact hr
  | ok fl =>
    cases fl with
    | ret obj =>
      obtain ⟨rfl, rfl⟩ := hr
      have hS : (s.heap.push (newS w)).get? s.heap.objs.size = some (newS w) := Heap.get?_push_size _ rfl
      have hT : Shared.TypeIs { s with heap := s.heap.push (newS w) } (.ref s.heap.objs.size) "set" := ⟨_, hS, rfl⟩
      have hli := F.called_set.init.lookup
      have hbi := F.called_set.init.bind (.ref s.heap.objs.size)
      repeat (any_goals (first | assumption | wp_step))
      refine codeAny_mono (codeAny_call_builtin (R := wants (fun r s₂ => r = .none ∧ ∃ h' tk c, s₂ = { s with heap := h', toks := tk } ∧ SetG knd h' s.heap.objs.size (fun j => decide (j ∈ ks)) c ∧ c ≤ ks.length ∧
          (∀ b o, s.heap.get? b = some o → h'.get? b = some o)) E) F.called_set.init.plain F.entry_set_init (check_set_init_1 hT ?_)) fun r₂ s₂ hr₂ => ?_
      · obtain ⟨ol, hol, hcl, nl, hdl⟩ := hl
        obtain ⟨ocls, odict, odata, oslots⟩ := ol
        simp only at hcl hdl
        subst hcl; subst hdl
        have hol' : (s.heap.push (newS w)).get? l = some { cls := .type "tuple", dict := odict, data := .seq items nl, slots := oslots } := Heap.get?_push_of_some _ hol
        have hsls := F.sub_tuple_set
        have hslf := F.sub_tuple_frozenset
        have hne : (Value.type "tuple" == Value.type "dict") = false := by decide
        have hl1 : (s.heap.push (newS w)).IsTuple l items := ⟨_, hol', rfl, nl, rfl⟩
        unfold Builtin.«set.__init__» noKeywords Builtin.Frozenset.updateFrom
        generalize hPI : pyIter = PI
        wp_walk
        subst hPI
        refine wpAny_pyIter_tuple hl1 ?_
        refine wpAny_bind (wpAny_runValue ?_)
        have lS : l < s.heap.objs.size := Heap.lt_size hol
        have hh3 : A.in1.in1.in1.handled = none := by simp [hh]
        have zI : (s.heap.push (newS w)).objs.size = s.heap.objs.size + 1 := Heap.size_push ..
        have neI : l ≠ (s.heap.push (newS w)).objs.size := by rw [zI]; exact Nat.ne_of_lt (Nat.lt_succ_of_lt lS)
        have notin : s.heap.objs.size ∉ [(s.heap.push (newS w)).objs.size, l] := by
          rw [zI]
          simp only [List.mem_cons, List.not_mem_nil, or_false, not_or]
          exact ⟨Nat.ne_of_lt (Nat.lt_succ_self _), Nat.ne_of_gt lS⟩
        refine set_fill ((Walks.tuple hh3 _ l neI items).toS) s.heap.objs.size notin ks hn hb hit (items.size - 0) 0 _ rfl (Nat.zero_le _)
          ⟨⟨_, Heap.get?_push_size _ rfl, rfl, rfl⟩, (hl1.push _)⟩ ⟨0, Nat.le_refl 0, SetG.congr (setG_new (Heap.get?_push_of_some _ hS)) fun k => (by simp)⟩ fun s' c' mv hc' g => ?_
        obtain ⟨h', g2, d', tk', os'⟩ := s'
        have eg : g2 = s.gens := mv.gens
        have ed : d' = s.drawn := mv.drawn
        have eo : os' = s.os := mv.os
        subst eg; subst ed; subst eo
        show wpAny _ _ _ _ _ _
        refine wpAny_pure ?_
        show wpAny _ _ (ret Value.none) _ _ _
        rw [hn] at hc'
        refine wpAny_pure ⟨rfl, h', tk', c', rfl, g, hc', fun b o e => ?_⟩
        have b0 : b < s.heap.objs.size := Heap.lt_size e
        refine mv.heap b o ?_ (Heap.get?_push_of_some _ (Heap.get?_push_of_some _ e))
        rw [zI]
        simp only [List.mem_cons, List.not_mem_nil, or_false, not_or]
        exact ⟨Nat.ne_of_lt b0, Nat.ne_of_lt (Nat.lt_succ_of_lt b0)⟩
      · cases r₂ with
        | error e => exact hr₂
        | ok fl₂ =>
          cases fl₂ with
          | ret r =>
            obtain ⟨rfl, h', tk, c', rfl, g, hc', k'⟩ := hr₂
            repeat (any_goals (first | assumption | wp_step))
            exact h _ _ _ g hc' k'
          | _ => exact hr₂.elim
    | _ => exact hr.elim

/-- sorted(x), x a set -/
theorem sorted_setG {enc : Kt → PyData} {a : Addr} {S : Kt → Bool} {n : Nat} {Q : Value → Shared → Prop} (R : SetG knd s.heap a S n) (hh : A.handled = none) (hu : A.units + 64 < cLine) (hn : n ≤ 100000)
    (hread : ∀ (h : Heap) k v, knd.is k v = true → Reads h v (enc k) []) (hal : ∀ j k, W.alike (enc j) (enc k) = true) (hne : ∀ k, enc k ≠ .none ∧ ∀ xs, enc k ≠ .tuple xs) (hdp : ∀ k, (enc k).depth ≤ 40)
    (hQ : ∀ s' p (out : List Value) (c : Nat) (ks : List Kt), (∀ b o, s.heap.get? b = some o → s'.heap.get? b = some o) → s'.gens = s.gens → s'.os = s.os → s.heap.objs.size ≤ p →
      s'.heap.get? p = some (seqObj "list" out.toArray c) → ks.Nodup → (∀ k, k ∈ ks ↔ S k = true) → ks.length = n → W.EachIs (fun v k => knd.is k v = true) out (ks.mergeSort (W.dataLe false enc)) → Q (.ref p) s') :
    wpAny (model P w) A (call (.builtin "sorted") [.ref a]) Q E s := by
  obtain ⟨o, es, ep, t, ho, hex, hd, g, sz⟩ := R
  refine Calls.call_function_entry kind_sorted plain_sorted entry_sorted (args_sorted1 _) ?_
  unfold Builtin.«sorted»
  refine wpAny_bind (m := checkCount "sorted" 1 1 _) (wpAny_pure ?_)
  refine wpAny_bind (collect_set (A := A.in1) hh ⟨o, ho, hex.1, hd⟩ g.fit g.bd g.ris g.led fun s1 vs k1 hz g1 o1 pm => ?_)
  have lv : vs.length = n := by rw [pm.length_eq, List.length_map, Array.length_toList]; exact sz
  obtain ⟨ks, ek, nd, mk⟩ := keys_out g pm
  have lk : ks.length = n := by rw [← ek.length]; exact lv
  refine wpAny_bind (wpAny_newList ?_ (by rw [lv]; exact line_le hn))
  have hoL : (s1.heap.push (seqObj "list" vs.toArray 0)).get? s1.heap.objs.size = some (seqObj "list" vs.toArray 0) := Heap.get?_push_size _ rfl
  refine wpAny_bind (wpAny_holding (W.list_sort_data (R := fun v k => knd.is k v = true) (enc := enc) (bs := ks) hoL ek (ek.mono fun v k h => ⟨[], hread _ k v h, by simp⟩) (W.AllAlike.of hal) (W.Sortable.others hne) (by rw [lk]; exact line_le hn) (fun k _ => ?_) fun out lo eo => ?_))
  · exact Nat.lt_of_le_of_lt (Nat.add_le_add (Nat.le_refl (A.units + 1 + 1)) (hdp k)) (Nat.lt_of_le_of_lt (Nat.le_trans (Nat.le_of_eq (by rw [Nat.add_assoc, Nat.add_assoc])) (Nat.add_le_add_left (by decide) _)) hu)
  obtain ⟨c, hc⟩ := sortedHeap_at (vs := vs) (out := out.toArray) hoL
  refine wpAny_pure ⟨_, rfl, hQ _ s1.heap.objs.size out c ks (fun b u e => ?_) g1 o1 hz hc nd mk lk eo⟩
  have q := k1 b u e
  have lt := Heap.lt_size q
  show (sortedHeap (s1.heap.push (seqObj "list" vs.toArray 0)) s1.heap.objs.size vs out.toArray).get? b = some u
  rw [sortedHeap_old (Nat.ne_of_lt lt) (by rw [size_push']; exact Nat.lt_succ_of_lt lt)]
  exact Heap.get?_push_of_some _ q
end
end EA
namespace EA
open PySem PySem.Spec PyProof.Rows L2
/-! ### texts in order -/
def slt (a b : Str) : Prop := a.cps.toList < b.cps.toList
instance (a b : Str) : Decidable (slt a b) := inferInstanceAs (Decidable (a.cps.toList < b.cps.toList))
theorem str_ext {a b : Str} (h : a.cps.toList = b.cps.toList) : a = b := by
  cases a; cases b
  simp only [Str.mk.injEq]
  exact Array.ext' h
theorem slt_irrefl (a : Str) : ¬ slt a a := List.lt_irrefl _
theorem slt_trans {a b c : Str} (h : slt a b) (k : slt b c) : slt a c := List.lt_trans h k
theorem slt_tri {a b : Str} (h : ¬ slt a b) (k : ¬ slt b a) : a = b := str_ext (List.le_antisymm (List.not_lt.mp k) (List.not_lt.mp h))
theorem slt_asymm {a b : Str} (h : slt a b) : ¬ slt b a := fun k => slt_irrefl _ (slt_trans h k)
theorem slt_ne {a b : Str} (h : slt a b) : a ≠ b := fun e => slt_irrefl b (by rw [e] at h; exact h)
/-! ### conditions -/
inductive C where
  | b (v : Bool)
  | nd (s : Str) (on off : C)
  deriving DecidableEq
def C.enc : C → PyData
  | .b v => .bool v
  | .nd s x y => .tuple [.str s, x.enc, y.enc]
def C.ev (f : Str → Bool) : C → Bool
  | .b v => v
  | .nd s x y => if f s then x.ev f else y.ev f
def C.no : C → C
  | .b v => .b (!v)
  | .nd s x y => .nd s x.no y.no
def C.formed (s : Str) (x y : C) : C := if x = y then x else .nd s x y
def C.side : C → Str → Bool → C
  | .b v, _, _ => .b v
  | .nd t x y, s, o => if t = s then (if o then x else y) else .nd t x y
def C.vars : C → List Str
  | .b _ => []
  | .nd s x y => s :: (x.vars ++ y.vars)
/-- of the one form, over these switches in this order -/
inductive OC : List Str → C → Prop where
  | leaf {ns : List Str} (v : Bool) : OC ns (.b v)
  | node {x : Str} {xs : List Str} {a b : C} : OC xs a → OC xs b → a ≠ b → OC (x :: xs) (.nd x a b)
  | skip {x : Str} {xs : List Str} {c : C} : OC xs c → OC (x :: xs) c
theorem C.no_no : ∀ c : C, c.no.no = c
  | .b v => by simp [C.no]
  | .nd s x y => by simp [C.no, C.no_no x, C.no_no y]
theorem C.ev_no (f : Str → Bool) : ∀ c : C, c.no.ev f = !c.ev f
  | .b v => rfl
  | .nd s x y => by
    show (if f s then x.no.ev f else y.no.ev f) = !(if f s then x.ev f else y.ev f)
    rw [C.ev_no f x, C.ev_no f y]
    split <;> rfl
theorem OC.no {ns : List Str} {c : C} (h : OC ns c) : OC ns c.no := by
  induction h with
  | leaf v => exact .leaf _
  | node _ _ ne ha hb => exact .node ha hb fun e => ne (by have z := congrArg C.no e; rwa [C.no_no, C.no_no] at z)
  | skip _ h => exact .skip h
theorem C.ev_formed (f : Str → Bool) (s : Str) (x y : C) : (C.formed s x y).ev f = if f s then x.ev f else y.ev f := by
  unfold C.formed
  split
  · rename_i e
    subst e
    split <;> rfl
  · rfl
theorem OC.formed {x : Str} {xs : List Str} {a b : C} (ha : OC xs a) (hb : OC xs b) : OC (x :: xs) (C.formed x a b) := by
  unfold C.formed
  split
  · exact .skip ha
  · rename_i e
    exact .node ha hb e
theorem C.ev_side (f : Str → Bool) (s : Str) (c : C) : c.ev f = if f s then (c.side s true).ev f else (c.side s false).ev f := by
  cases c with
  | b v => simp [C.side]
  | nd t x y =>
    unfold C.side
    by_cases e : t = s
    · subst e
      simp [C.ev]
    · simp [e]
theorem OC.app {ns : List Str} {c : C} (h : OC ns c) : ∀ pre : List Str, OC (pre ++ ns) c
  | [] => h
  | x :: r => .skip (OC.app h r)
theorem OC.bool_of {c : C} (h : OC [] c) : ∃ v, c = .b v := by
  cases h with
  | leaf v => exact ⟨v, rfl⟩
/-- where the first switch stands -/
theorem OC.split {ns : List Str} {s : Str} {x y : C} (h : OC ns (.nd s x y)) : ∃ pre ys, ns = pre ++ s :: ys ∧ OC ys x ∧ OC ys y ∧ x ≠ y := by
  generalize e : C.nd s x y = c at h
  induction h with
  | leaf v => cases e
  | node ha hb ne _ _ => cases e; exact ⟨[], _, rfl, ha, hb, ne⟩
  | @skip z xs c h ih =>
    obtain ⟨pre, ys, e1, r⟩ := ih e
    exact ⟨z :: pre, ys, by rw [e1]; rfl, r⟩
theorem OC.drop1 {x : Str} {xs : List Str} {s : Str} {a b : C} (h : OC (x :: xs) (.nd s a b)) (n : s ≠ x) : OC xs (.nd s a b) := by
  cases h with
  | node _ _ _ => exact absurd rfl n
  | skip h => exact h
theorem OC.dropn {s : Str} {a b : C} : ∀ {pre ys : List Str}, OC (pre ++ ys) (.nd s a b) → s ∉ pre → OC ys (.nd s a b)
  | [], _, h, _ => h
  | x :: r, ys, h, n => OC.dropn (pre := r) (h.drop1 fun e => n (by rw [e]; exact List.mem_cons_self)) fun m => n (List.mem_cons_of_mem _ m)
theorem OC.vars {ns : List Str} {c : C} (h : OC ns c) : ∀ s ∈ c.vars, s ∈ ns := by
  induction h with
  | leaf v => intro s hs; cases hs
  | @node x xs a b _ _ _ ha hb =>
    intro s hs
    rcases List.mem_cons.mp hs with e | hs
    · rw [e]; exact List.mem_cons_self
    · rcases List.mem_append.mp hs with hs | hs
      · exact List.mem_cons_of_mem _ (ha s hs)
      · exact List.mem_cons_of_mem _ (hb s hs)
  | skip _ ih => exact fun s hs => List.mem_cons_of_mem _ (ih s hs)
theorem C.ev_congr {f g : Str → Bool} : ∀ (c : C), (∀ s ∈ c.vars, f s = g s) → c.ev f = c.ev g
  | .b _, _ => rfl
  | .nd s x y, h => by
    show (if f s then x.ev f else y.ev f) = (if g s then x.ev g else y.ev g)
    rw [h s List.mem_cons_self, C.ev_congr x fun t ht => h t (List.mem_cons_of_mem _ (List.mem_append_left _ ht)), C.ev_congr y fun t ht => h t (List.mem_cons_of_mem _ (List.mem_append_right _ ht))]
def fset (f : Str → Bool) (s : Str) (o : Bool) : Str → Bool := fun t => if t = s then o else f t
theorem C.ev_fset {f : Str → Bool} {s : Str} {o : Bool} {c : C} (h : s ∉ c.vars) : c.ev (fset f s o) = c.ev f :=
  C.ev_congr c fun t ht => by
    unfold fset
    rw [if_neg fun e => h (by rw [← e]; exact ht)]
theorem OC.ev_fset {ns : List Str} {f : Str → Bool} {s : Str} {o : Bool} {c : C} (h : OC ns c) (n : s ∉ ns) : c.ev (fset f s o) = c.ev f := C.ev_fset fun m => n (h.vars s m)
/-- one set of settings, one form -/
theorem OC.uniq : ∀ {ns : List Str}, ns.Nodup → ∀ {c d : C}, OC ns c → OC ns d → (∀ f, c.ev f = d.ev f) → c = d
  | [], _, c, d, hc, hd, h => by
    obtain ⟨v, rfl⟩ := hc.bool_of
    obtain ⟨w, rfl⟩ := hd.bool_of
    exact congrArg C.b (h fun _ => true)
  | x :: xs, nd, c, d, hc, hd, h => by
    obtain ⟨nx, nd'⟩ := List.nodup_cons.mp nd
    have cof : ∀ {c : C}, OC (x :: xs) c → ∃ p q, OC xs p ∧ OC xs q ∧ (∀ f, c.ev f = if f x then p.ev f else q.ev f) ∧ c = C.formed x p q := fun {c} hc => by
      cases hc with
      | leaf v => exact ⟨.b v, .b v, .leaf v, .leaf v, fun f => by simp [C.ev], by simp [C.formed]⟩
      | @node _ _ a b ha hb ne => exact ⟨a, b, ha, hb, fun f => rfl, by simp [C.formed, ne]⟩
      | skip h => exact ⟨c, c, h, h, fun f => by simp, by simp [C.formed]⟩
    obtain ⟨p, q, hp, hq, e1, r1⟩ := cof hc
    obtain ⟨p', q', hp', hq', e2, r2⟩ := cof hd
    have ep : p = p' := OC.uniq nd' hp hp' fun f => by
      have z := h (fset f x true)
      rw [e1, e2] at z
      simp only [fset, if_true] at z
      have z1 := hp.ev_fset (f := f) (o := true) nx
      have z2 := hp'.ev_fset (f := f) (o := true) nx
      rw [← z1, ← z2]
      exact z
    have eq : q = q' := OC.uniq nd' hq hq' fun f => by
      have z := h (fset f x false)
      rw [e1, e2] at z
      simp only [fset, if_true, Bool.false_eq_true, if_false] at z
      have z1 := hq.ev_fset (f := f) (o := false) nx
      have z2 := hq'.ev_fset (f := f) (o := false) nx
      rw [← z1, ← z2]
      exact z
    rw [r1, r2, ep, eq]
/-- sorted names -/
structure NS (ns : List Str) : Prop where
  srt : ns.Pairwise slt
  ok : ∀ n ∈ ns, PyData.strOk n = true ∧ n.length ≤ 100
  few : ns.length ≤ 12
theorem pw_nodup {ns : List Str} (h : ns.Pairwise slt) : ns.Nodup := h.imp fun h => slt_ne h
theorem NS.nd {ns : List Str} (h : NS ns) : ns.Nodup := pw_nodup h.srt
theorem NS.suf {pre ns : List Str} (h : NS (pre ++ ns)) : NS ns :=
  ⟨(List.pairwise_append.mp h.srt).2.1, fun n m => h.ok n (List.mem_append_right _ m), by have := h.few; rw [List.length_append] at this; omega⟩
/-- the sides at the least first switch -/
theorem OC.sides {pre ys : List Str} {y : Str} (hn : NS (pre ++ y :: ys)) {c : C} (hc : OC (pre ++ y :: ys) c) (hm : ∀ s x z, c = .nd s x z → ¬ slt s y) : ∀ o, OC ys (c.side y o) := by
  intro o
  cases c with
  | b v => exact .leaf v
  | nd s x z =>
    have h1 := hm s x z rfl
    have srt := List.pairwise_append.mp hn.srt
    have npre : s ∉ pre := fun m => h1 (srt.2.2 s m y List.mem_cons_self)
    have h2 := hc.dropn npre
    show OC ys (if s = y then (if o then x else z) else .nd s x z)
    by_cases e : s = y
    · subst e
      rw [if_pos rfl]
      have nys : s ∉ ys := fun m => slt_irrefl s ((List.pairwise_cons.mp srt.2.1).1 s m)
      cases h2 with
      | node ha hb _ =>
        cases o with
        | true => exact ha
        | false => exact hb
      | skip h =>
        obtain ⟨p, q, e, _⟩ := h.split
        exact absurd (by rw [e]; simp) nys
    · rw [if_neg e]
      exact h2.drop1 e
theorem OC.mins {ns : List Str} (hn : NS ns) {t t2 : Str} {x y x2 y2 : C} (hc : OC ns (.nd t x y)) (hd : OC ns (.nd t2 x2 y2)) (m : Str) (hm : m = if t2.cps.toList < t.cps.toList then t2 else t) :
    ∃ pre ys, ns = pre ++ m :: ys ∧ (∀ o, OC ys (C.side (.nd t x y) m o)) ∧ ∀ o, OC ys (C.side (.nd t2 x2 y2) m o) := by
  by_cases h : t2.cps.toList < t.cps.toList
  · rw [if_pos h] at hm
    subst hm
    obtain ⟨pre, ys, rfl, _⟩ := hd.split
    exact ⟨pre, ys, rfl, hc.sides hn (fun s a b e => by cases e; exact slt_asymm h), hd.sides hn (fun s a b e => by cases e; exact slt_irrefl _)⟩
  · rw [if_neg h] at hm
    subst hm
    obtain ⟨pre, ys, rfl, _⟩ := hc.split
    exact ⟨pre, ys, rfl, hc.sides hn (fun s a b e => by cases e; exact slt_irrefl _), hd.sides hn (fun s a b e => by cases e; exact h)⟩
/-! ### what the data must be for == -/
theorem C.depth_le {ns : List Str} {c : C} (h : OC ns c) : c.enc.depth ≤ ns.length := by
  induction h with
  | leaf v => exact Nat.zero_le _
  | @node x xs a b _ _ _ ha hb =>
    show max (PyData.depth (.str x)) (max a.enc.depth (max b.enc.depth 0)) + 1 ≤ _
    have : PyData.depth (.str x) = 0 := rfl
    rw [List.length_cons]
    omega
  | skip _ ih => rw [List.length_cons]; omega
theorem C.canLay {ns : List Str} {c : C} (h : OC ns c) (k : ∀ n ∈ ns, PyData.strOk n = true) : c.enc.canLay0 = true := by
  induction h with
  | leaf v => rfl
  | @node x xs a b _ _ _ ha hb =>
    show (PyData.canLay0 (.str x) && (a.enc.canLay0 && (b.enc.canLay0 && true))) = true
    rw [ha fun n m => k n (List.mem_cons_of_mem _ m), hb fun n m => k n (List.mem_cons_of_mem _ m)]
    have : PyData.canLay0 (.str x) = PyData.strOk x := rfl
    rw [this, k x List.mem_cons_self]
    rfl
  | skip _ ih => exact ih fun n m => k n (List.mem_cons_of_mem _ m)
theorem OC.shaped {ns : List Str} {c : C} (h : OC ns c) (n : NS ns) : SeqAt.shaped c.enc = true := by
  show (c.enc.canLay0 && decide (c.enc.depth ≤ 64)) = true
  have d := C.depth_le h
  have f := n.few
  rw [C.canLay h fun x m => (n.ok x m).1, decide_eq_true (by omega)]
  rfl
theorem C.eqv_iff : ∀ c d : C, PyData.eqv c.enc d.enc = decide (c = d)
  | .b v, .b w => by
    show (v == w) = _
    cases v <;> cases w <;> rfl
  | .b v, .nd _ _ _ => rfl
  | .nd _ _ _, .b v => rfl
  | .nd s x y, .nd t z w => by
    show ((s == t) && (PyData.eqv x.enc z.enc && (PyData.eqv y.enc w.enc && true))) = _
    rw [C.eqv_iff x z, C.eqv_iff y w]
    by_cases e1 : s = t
    · by_cases e2 : x = z
      · by_cases e3 : y = w
        · simp [e1, e2, e3]
        · simp [e1, e2, e3]
      · simp [e1, e2]
    · simp [e1]
theorem Dat.enc_b {G : Hp} {v : V} {c : C} (h : Dat G v c.enc) (e : v = .bl true ∨ v = .bl false ∨ ∃ a, v = .ref a) : True := trivial
theorem Dat.c_inv {G : Hp} {v : V} {c : C} (h : Dat G v c.enc) : (∃ b, c = .b b ∧ v = .bl b) ∨ (∃ s x y a vx vy, c = .nd s x y ∧ v = .ref a ∧ G a = some (.tup [.str s, vx, vy]) ∧ Dat G vx x.enc ∧ Dat G vy y.enc) := by
  cases c with
  | b b => exact .inl ⟨b, rfl, h.bool_inv⟩
  | nd s x y =>
    obtain ⟨a, xs, rfl, e, da⟩ := Dat.tup_inv (show Dat G v (.tuple [.str s, x.enc, y.enc]) from h)
    cases da with
    | cons h1 t1 =>
      cases t1 with
      | cons h2 t2 =>
        cases t2 with
        | cons h3 t3 =>
          cases t3
          have e1 := h1.str_inv
          subst e1
          exact .inr ⟨s, x, y, a, _, _, rfl, rfl, e, h2, h3⟩
/-! ### keys of a dict, sorted texts -/
theorem keys_put {s : Str} {v : V} : ∀ {kvs : List (Key × V)} {ks : List Str}, kvs.map (·.1) = ks.map Sum.inr → (putK kvs (.inr s) v).map (·.1) = (if s ∈ ks then ks else ks ++ [s]).map Sum.inr := by
  intro kvs ks h
  have hany : (kvs.any fun kv => decide (kv.1 = Sum.inr s)) = decide (s ∈ ks) := by
    have e1 : (kvs.any fun kv => decide (kv.1 = Sum.inr s)) = ((kvs.map (·.1)).any fun k => decide (k = Sum.inr s)) := by
      rw [List.any_map]; rfl
    rw [e1, h, List.any_map]
    rw [Bool.eq_iff_iff, List.any_eq_true, decide_eq_true_iff]
    constructor
    · rintro ⟨t, ht, e⟩
      have e2 : (Sum.inr t : Key) = Sum.inr s := of_decide_eq_true e
      have e3 : t = s := Sum.inr.inj e2
      rw [← e3]; exact ht
    · intro m
      exact ⟨s, m, decide_eq_true rfl⟩
  unfold putK
  rw [hany]
  by_cases m : s ∈ ks
  · rw [if_pos (decide_eq_true m), if_pos m, List.map_map, ← h]
    refine List.map_congr_left fun kv _ => ?_
    show (if kv.1 = Sum.inr s then (kv.1, v) else kv).1 = kv.1
    split <;> rfl
  · rw [if_neg (by rw [decide_eq_false m]; exact Bool.false_ne_true), if_neg m, List.map_append, h, List.map_append]
    rfl
theorem nodup_len [DecidableEq Str] : ∀ {l m : List Str}, l.Nodup → (∀ x ∈ l, x ∈ m) → l.length ≤ m.length
  | [], _, _, _ => Nat.zero_le _
  | x :: r, m, nd, h => by
    obtain ⟨nx, nd'⟩ := List.nodup_cons.mp nd
    have hx := h x List.mem_cons_self
    have ih := nodup_len (l := r) (m := m.erase x) nd' fun y hy => by
      have hne : y ≠ x := fun e => nx (by rw [← e]; exact hy)
      exact (List.mem_erase_of_ne hne).mpr (h y (List.mem_cons_of_mem _ hy))
    rw [List.length_erase_of_mem hx] at ih
    have : 0 < m.length := List.length_pos_of_mem hx
    rw [List.length_cons]
    omega
theorem rising_pw : ∀ {p : Str} {ss : List Str}, risingS p ss = true → (∀ x ∈ ss, ¬ slt x p) ∧ ss.Pairwise fun a b => ¬ slt b a
  | p, [], _ => ⟨fun x h => (nomatch h), .nil⟩
  | p, x :: r, h => by
    have h' : (!ltCps x.cps.toList p.cps.toList && risingS x r) = true := h
    rw [ltCps_eq, Bool.and_eq_true] at h'
    obtain ⟨h1, h2⟩ := h'
    have h1' : ¬ slt x p := by
      intro z
      rw [decide_eq_true (show x.cps.toList < p.cps.toList from z)] at h1
      cases h1
    obtain ⟨i1, i2⟩ := rising_pw h2
    refine ⟨fun y hy => ?_, .cons (fun y hy => i1 y hy) i2⟩
    rcases List.mem_cons.mp hy with e | hy
    · rw [e]; exact h1'
    · intro z
      -- y < p, and neither y < x nor x < p
      have a := i1 y hy
      by_cases hxy : slt x y
      · exact h1' (slt_trans hxy z)
      · have e : x = y := slt_tri hxy a
        rw [← e] at z
        exact h1' z
theorem sorted_pw {ss : List Str} (h : sortedS ss = true) : ss.Pairwise fun a b => ¬ slt b a := by
  cases ss with
  | nil => exact .nil
  | cons x r =>
    obtain ⟨i1, i2⟩ := rising_pw (p := x) (ss := r) h
    exact .cons (fun y hy => i1 y hy) i2
theorem sorted_strict {ss ks : List Str} (h : sortedS ss = true) (p : ss.Perm ks) (nd : ks.Nodup) : ss.Pairwise slt := by
  have nd' : ss.Nodup := (p.nodup_iff).mpr nd
  have h1 := sorted_pw h
  refine List.Pairwise.imp₂ ?_ h1 nd'
  intro a b x y
  by_cases z : slt a b
  · exact z
  · exact absurd (slt_tri z x) y
/-- strictly sorted lists with the same members are one -/
theorem sorted_uniq : ∀ {xs ys : List Str}, xs.Pairwise slt → ys.Pairwise slt → (∀ s, s ∈ xs ↔ s ∈ ys) → xs = ys
  | [], [], _, _, _ => rfl
  | [], y :: r, _, _, h => absurd ((h y).mpr List.mem_cons_self) (fun z => nomatch z)
  | x :: r, [], _, _, h => absurd ((h x).mp List.mem_cons_self) (fun z => nomatch z)
  | x :: r, y :: q, hx, hy, h => by
    obtain ⟨x1, x2⟩ := List.pairwise_cons.mp hx
    obtain ⟨y1, y2⟩ := List.pairwise_cons.mp hy
    have e : x = y := by
      rcases List.mem_cons.mp ((h x).mp List.mem_cons_self) with e | m
      · exact e
      · rcases List.mem_cons.mp ((h y).mpr List.mem_cons_self) with e | m2
        · exact e.symm
        · exact absurd (slt_trans (y1 x m) (x1 y m2)) (slt_irrefl _)
    subst e
    rw [sorted_uniq x2 y2 fun s => ⟨fun m => ?_, fun m => ?_⟩]
    · rcases List.mem_cons.mp ((h s).mp (List.mem_cons_of_mem _ m)) with e | m2
      · rw [e] at m; exact absurd (x1 x m) (slt_irrefl _)
      · exact m2
    · rcases List.mem_cons.mp ((h s).mpr (List.mem_cons_of_mem _ m)) with e | m2
      · rw [e] at m; exact absurd (y1 x m) (slt_irrefl _)
      · exact m2
def C.size : C → Nat
  | .b _ => 1
  | .nd _ x y => x.size + y.size + 1
theorem C.size_pos : ∀ c : C, 0 < c.size
  | .b _ => Nat.zero_lt_one
  | .nd _ _ _ => Nat.succ_pos _
theorem OC.size_lt {ns : List Str} {c : C} (h : OC ns c) : c.size < 2 ^ (ns.length + 1) := by
  induction h with
  | @leaf ns v =>
    have : 0 < 2 ^ ns.length := Nat.two_pow_pos _
    show 1 < _
    rw [Nat.pow_succ]
    omega
  | @node x xs a b _ _ _ ha hb =>
    show a.size + b.size + 1 < _
    rw [List.length_cons, Nat.pow_succ]
    omega
  | @skip x xs c _ ih =>
    rw [List.length_cons, Nat.pow_succ]
    omega
theorem OC.size_few {ns : List Str} {c : C} (h : OC ns c) (n : NS ns) : c.size ≤ 10000 := by
  have a := h.size_lt
  have b : 2 ^ (ns.length + 1) ≤ 2 ^ 13 := Nat.pow_le_pow_right (by decide) (by have := n.few; omega)
  have d : (2 : Nat) ^ 13 = 8192 := by decide
  omega
end EA
namespace EA
open PySem PySem.Spec PyProof.Rows L2
def SetGO {P : Program} {w : World} {Kt : Type} [DecidableEq Kt] (knd : PySem.KeyKind P w Kt) (a : Addr) (S : Kt → Bool) (n : Nat) : HO := .ext fun h => SetG knd h a S n
section
variable {X : Cx} {Kt : Type} [DecidableEq Kt] {knd : PySem.KeyKind X.prog X.w Kt}
theorem setGO_new {H : Hp} {h : Heap} {a : Addr} {S : Kt → Bool} {n : Nat} (R : SetG knd h a S n) : ObjOk X.prog X.w H h a (SetGO knd a S n) := by
  have ⟨o, _, _, _, ho, _⟩ := R
  exact ⟨R, ⟨o, ho⟩, fun h1 h2 p k => SetG.at p k⟩
theorem setGO_get {pins : List (Addr × Obj)} {σ : L2.St} {H : Hp} {s : Shared} {a : Addr} {S : Kt → Bool} {n : Nat} (I : Inv X pins σ H s) (ha : H a = some (SetGO knd a S n)) : SetG knd s.heap a S n := (I.hok a _ ha).1
end
/-! ### texts -/
def rSetOfS (K : PySem.W.Frag) (P : Program) (w : World) : List V → Hp → VK → Prop := fun xs H Q => ∃ (p : Addr) (ks : List Str), xs = [.ref p] ∧ (SqL K H p (ks.map V.str) ∨ SqT K H p (ks.map V.str)) ∧ ks.length ≤ 2000 ∧
  ∀ D n, H D = none → n ≤ ks.length → Q (.ref D) (upd H D (SetGO (PySem.strKind P w) D (fun k => decide (k ∈ ks)) n))
def rSortedSetS (P : Program) (w : World) : List V → Hp → VK → Prop := fun xs H Q => ∃ (a : Addr) (S : Str → Bool) (n : Nat), xs = [.ref a] ∧ H a = some (SetGO (PySem.strKind P w) a S n) ∧ n ≤ 2000 ∧
  ∀ (ss : List Str) p, ss.Pairwise slt → (∀ k, k ∈ ss ↔ S k = true) → ss.length = n → H p = none → Q (.ref p) (upd H p (.lst (ss.map V.str)))
theorem strs_keys {P : Program} {w : World} {ks : List Str} {its : List Value} (r : Vals (ks.map V.str) its) : ∀ (i : Nat) v, its.toArray[i]? = some v → ∃ k, ks[i]? = some k ∧ (PySem.strKind P w).is k v = true ∧ v.scannable = true := by
  intro i v hv
  have hv' : its[i]? = some v := by simpa using hv
  have hl := r.length
  rw [List.length_map] at hl
  have hi : i < ks.length := by rw [hl]; exact (List.getElem?_eq_some_iff.mp hv').1
  obtain ⟨u, hu, ru⟩ := r.get (i := i) (x := .str ks[i]) (by rw [List.getElem?_map, List.getElem?_eq_getElem hi]; rfl)
  rw [hv'] at hu
  cases hu
  obtain ⟨t, rfl⟩ := ru
  exact ⟨ks[i], List.getElem?_eq_getElem hi, strKind_is _ _ _ _, rfl⟩
theorem scan_small {n : Nat} (h : n ≤ 2000) : n + 1 < scanBound := Nat.lt_of_le_of_lt (Nat.succ_le_succ h) (by decide)
section
variable {X : Cx}
theorem cr_setOfS (hc : X.calm = true) : CallR X (.type "set") (rSetOfS X.K X.prog X.w) := by
  intro pins s σ H vs us Q I r h
  obtain ⟨p, ks, rfl, hq, hk, q⟩ := h
  obtain ⟨u, rfl, ru⟩ := vals1 r
  obtain rfl : u = Value.ref p := ru
  have fin : ∀ (h' : Heap) (tk c : Nat), SetG (PySem.strKind X.prog X.w) h' s.heap.objs.size (fun j => decide (j ∈ ks)) c → c ≤ ks.length → (∀ b o, s.heap.get? b = some o → h'.get? b = some o) → EP X pins σ Q (.ref s.heap.objs.size) { s with heap := h', toks := tk } :=
    fun h' tk c g hc' k => ⟨.ref s.heap.objs.size, upd H s.heap.objs.size (SetGO (PySem.strKind X.prog X.w) s.heap.objs.size (fun j => decide (j ∈ ks)) c), I.laid (t' := tk) k (Nat.le_refl _) (setGO_new g), rfl, q _ c (I.hok.fresh (Nat.le_refl _)) hc'⟩
  rcases hq with hq | hq
  · obtain ⟨its, rv, pl, hz⟩ := I.list hq
    exact call_set_list (knd := PySem.strKind X.prog X.w) ks (I.ok.hd hc) pl.isList (by rw [List.size_toArray, ← rv.length, List.length_map]) (strs_keys rv) (scan_small hk) fin
  · obtain ⟨its, rv, pl, hz⟩ := I.tuple hq
    exact call_set_tuple (knd := PySem.strKind X.prog X.w) ks (I.ok.hd hc) pl (by rw [List.size_toArray, ← rv.length, List.length_map]) (strs_keys rv) (scan_small hk) fin
theorem each_strs {P : Program} {w : World} : ∀ {out : List Value} {ks : List Str}, W.EachIs (fun v k => (PySem.strKind P w).is k v = true) out ks → Vals (ks.map V.str) out
  | _, _, .nil => .nil
  | _, _, .cons h t => by
    obtain ⟨u, rfl⟩ := Value.isStrOf_shape h
    exact .cons ⟨u, rfl⟩ (each_strs t)
theorem strs_strict {ks : List Str} (nd : ks.Nodup) : (ks.mergeSort (W.dataLe false PyData.str)).Pairwise slt ∧ ∀ k, k ∈ ks.mergeSort (W.dataLe false PyData.str) ↔ k ∈ ks := by
  have T := W.sortLe_total (PyProof.Rows.listOrd itemOrd) false (fun b : Str => W.keyToks (.str b))
  have pw := List.pairwise_mergeSort (le := W.dataLe false PyData.str) (fun a b c => T.trans a b c) (fun a b => by
    rcases T.total a b with h | h
    · rw [show W.dataLe false PyData.str a b = true from h]; rfl
    · rw [show W.dataLe false PyData.str b a = true from h]; exact Bool.or_true _) ks
  have pm := List.mergeSort_perm ks (W.dataLe false PyData.str)
  refine ⟨?_, fun k => pm.mem_iff⟩
  have nd2 : (ks.mergeSort (W.dataLe false PyData.str)).Nodup := pm.nodup_iff.mpr nd
  refine List.Pairwise.imp₂ (fun a b h ne => ?_) pw nd2
  have e : W.dataLe false PyData.str = fun a b => decide (a.cps.toList ≤ b.cps.toList) := W.dataLe_str (fun b => b)
  rw [e] at h
  have h := of_decide_eq_true h
  exact Classical.byContradiction fun n => ne (str_ext (List.le_antisymm h (List.not_lt.mp n)))
theorem cr_sortedSetS (hc : X.calm = true) (hu : X.A.units + 64 < cLine) : CallR X (.builtin "sorted") (rSortedSetS X.prog X.w) := by
  intro pins s σ H vs us Q I r h
  obtain ⟨a, S, n, rfl, ha, hn, q⟩ := h
  have R := setGO_get I ha
  rw [Vals.ref1 r]
  refine sorted_setG (enc := PyData.str) R (I.ok.hd hc) hu (by omega) (fun h k v e => ?_) (fun j k => rfl) (fun k => ⟨(fun z => by cases z), (fun xs z => by cases z)⟩) (fun k => Nat.zero_le _) fun s' p out c ks k g o hp hg nd mem hl eo => ?_
  · obtain ⟨t, rfl⟩ := Value.isStrOf_shape e
    exact Reads.str k t
  obtain ⟨st, mm⟩ := strs_strict nd
  have rv := each_strs eo
  generalize he : ks.mergeSort (W.dataLe false PyData.str) = ss at *
  have hls : ss.length = n := by rw [← he, List.length_mergeSort]; exact hl
  have hlen : (ss.map V.str).length ≤ sizeLine := by rw [List.length_map, hls]; exact line_le (by omega)
  have hf : H p = none := I.hok.fresh hp
  have J : Inv X pins σ (upd H p (.lst (ss.map V.str))) { s with heap := s'.heap, gens := s'.gens, drawn := s'.drawn, toks := s'.toks } :=
    I.call (ch := []) (Un.laid k hp hf) (I.hok.laid k hp ⟨hlen, out, c, rv, hg⟩) (by rw [g]; exact I.bare) (fun _ z => nomatch z)
  have e : s' = { s with heap := s'.heap, gens := s'.gens, drawn := s'.drawn, toks := s'.toks } := by
    cases s'
    cases s
    cases o
    rfl
  rw [e]
  exact ⟨.ref p, _, J, rfl, q ss p st (fun k => (mm k).trans (mem k)) hls hf⟩
end
end EA
namespace EA
open PySem PySem.Spec PyProof.Rows L2
/-! ### whole numbers -/
def rSetOfI (K : PySem.W.Frag) (P : Program) (w : World) : List V → Hp → VK → Prop := fun xs H Q => ∃ (p : Addr) (ks : List Int), xs = [.ref p] ∧ (SqL K H p (ks.map V.int) ∨ SqT K H p (ks.map V.int)) ∧ ks.length ≤ 2000 ∧
  ∀ D n, H D = none → n ≤ ks.length → Q (.ref D) (upd H D (SetGO (PySem.intKind P w) D (fun k => decide (k ∈ ks)) n))
def rSortedSetI (P : Program) (w : World) : List V → Hp → VK → Prop := fun xs H Q => ∃ (a : Addr) (S : Int → Bool) (n : Nat), xs = [.ref a] ∧ H a = some (SetGO (PySem.intKind P w) a S n) ∧ n ≤ 2000 ∧
  ∀ (ss : List Int) p, ss.Pairwise (· < ·) → (∀ k, k ∈ ss ↔ S k = true) → ss.length = n → H p = none → Q (.ref p) (upd H p (.lst (ss.map V.int)))
theorem ints_keys {P : Program} {w : World} {ks : List Int} {its : List Value} (r : Vals (ks.map V.int) its) : ∀ (i : Nat) v, its.toArray[i]? = some v → ∃ k, ks[i]? = some k ∧ (PySem.intKind P w).is k v = true ∧ v.scannable = true := by
  intro i v hv
  have hv' : its[i]? = some v := by simpa using hv
  have hl := r.length
  rw [List.length_map] at hl
  have hi : i < ks.length := by rw [hl]; exact (List.getElem?_eq_some_iff.mp hv').1
  obtain ⟨u, hu, ru⟩ := r.get (i := i) (x := .int ks[i]) (by rw [List.getElem?_map, List.getElem?_eq_getElem hi]; rfl)
  rw [hv'] at hu
  cases hu
  obtain ⟨t, rfl⟩ := ru
  exact ⟨ks[i], List.getElem?_eq_getElem hi, intKind_is _ _ _ _, rfl⟩
theorem int_shape {P : Program} {w : World} {k : Int} {v : Value} (h : (PySem.intKind P w).is k v = true) : ∃ t, v = .int k t := Value.isInt_shape h
section
variable {X : Cx}
theorem cr_setOfI (hc : X.calm = true) : CallR X (.type "set") (rSetOfI X.K X.prog X.w) := by
  intro pins s σ H vs us Q I r h
  obtain ⟨p, ks, rfl, hq, hk, q⟩ := h
  obtain ⟨u, rfl, ru⟩ := vals1 r
  obtain rfl : u = Value.ref p := ru
  have fin : ∀ (h' : Heap) (tk c : Nat), SetG (PySem.intKind X.prog X.w) h' s.heap.objs.size (fun j => decide (j ∈ ks)) c → c ≤ ks.length → (∀ b o, s.heap.get? b = some o → h'.get? b = some o) → EP X pins σ Q (.ref s.heap.objs.size) { s with heap := h', toks := tk } :=
    fun h' tk c g hc' k => ⟨.ref s.heap.objs.size, upd H s.heap.objs.size (SetGO (PySem.intKind X.prog X.w) s.heap.objs.size (fun j => decide (j ∈ ks)) c), I.laid (t' := tk) k (Nat.le_refl _) (setGO_new g), rfl, q _ c (I.hok.fresh (Nat.le_refl _)) hc'⟩
  rcases hq with hq | hq
  · obtain ⟨its, rv, pl, hz⟩ := I.list hq
    exact call_set_list (knd := PySem.intKind X.prog X.w) ks (I.ok.hd hc) pl.isList (by rw [List.size_toArray, ← rv.length, List.length_map]) (ints_keys rv) (scan_small hk) fin
  · obtain ⟨its, rv, pl, hz⟩ := I.tuple hq
    exact call_set_tuple (knd := PySem.intKind X.prog X.w) ks (I.ok.hd hc) pl (by rw [List.size_toArray, ← rv.length, List.length_map]) (ints_keys rv) (scan_small hk) fin
theorem each_ints {P : Program} {w : World} : ∀ {out : List Value} {ks : List Int}, W.EachIs (fun v k => (PySem.intKind P w).is k v = true) out ks → Vals (ks.map V.int) out
  | _, _, .nil => .nil
  | _, _, .cons h t => by
    obtain ⟨u, rfl⟩ := int_shape h
    exact .cons ⟨u, rfl⟩ (each_ints t)
theorem ints_strict {ks : List Int} (nd : ks.Nodup) : (ks.mergeSort (W.dataLe false PyData.int)).Pairwise (· < ·) ∧ ∀ k, k ∈ ks.mergeSort (W.dataLe false PyData.int) ↔ k ∈ ks := by
  have T := W.sortLe_total (PyProof.Rows.listOrd itemOrd) false (fun b : Int => W.keyToks (.int b))
  have pw := List.pairwise_mergeSort (le := W.dataLe false PyData.int) (fun a b c => T.trans a b c) (fun a b => by
    rcases T.total a b with h | h
    · rw [show W.dataLe false PyData.int a b = true from h]; rfl
    · rw [show W.dataLe false PyData.int b a = true from h]; exact Bool.or_true _) ks
  have pm := List.mergeSort_perm ks (W.dataLe false PyData.int)
  refine ⟨?_, fun k => pm.mem_iff⟩
  have nd2 : (ks.mergeSort (W.dataLe false PyData.int)).Nodup := pm.nodup_iff.mpr nd
  refine List.Pairwise.imp₂ (fun a b h ne => ?_) pw nd2
  have e : W.dataLe false PyData.int = fun a b => decide (a ≤ b) := W.dataLe_int (fun b => b)
  rw [e] at h
  have h := of_decide_eq_true h
  omega
theorem cr_sortedSetI (hc : X.calm = true) (hu : X.A.units + 64 < cLine) : CallR X (.builtin "sorted") (rSortedSetI X.prog X.w) := by
  intro pins s σ H vs us Q I r h
  obtain ⟨a, S, n, rfl, ha, hn, q⟩ := h
  have R := setGO_get I ha
  rw [Vals.ref1 r]
  refine sorted_setG (enc := PyData.int) R (I.ok.hd hc) hu (by omega) (fun h k v e => ?_) (fun j k => rfl) (fun k => ⟨(fun z => by cases z), (fun xs z => by cases z)⟩) (fun k => Nat.zero_le _) fun s' p out c ks k g o hp hg nd mem hl eo => ?_
  · obtain ⟨t, rfl⟩ := int_shape e
    exact Reads.int k t
  obtain ⟨st, mm⟩ := ints_strict nd
  have rv := each_ints eo
  generalize he : ks.mergeSort (W.dataLe false PyData.int) = ss at *
  have hls : ss.length = n := by rw [← he, List.length_mergeSort]; exact hl
  have hlen : (ss.map V.int).length ≤ sizeLine := by rw [List.length_map, hls]; exact line_le (by omega)
  have hf : H p = none := I.hok.fresh hp
  have J : Inv X pins σ (upd H p (.lst (ss.map V.int))) { s with heap := s'.heap, gens := s'.gens, drawn := s'.drawn, toks := s'.toks } :=
    I.call (ch := []) (Un.laid k hp hf) (I.hok.laid k hp ⟨hlen, out, c, rv, hg⟩) (by rw [g]; exact I.bare) (fun _ z => nomatch z)
  have e : s' = { s with heap := s'.heap, gens := s'.gens, drawn := s'.drawn, toks := s'.toks } := by
    cases s'
    cases s
    cases o
    rfl
  rw [e]
  exact ⟨.ref p, _, J, rfl, q ss p st (fun k => (mm k).trans (mem k)) hls hf⟩
/-! ### any, all of a list of truths -/
def rAny (K : PySem.W.Frag) : List V → Hp → VK → Prop := fun xs H Q => ∃ (p : Addr) (bs : List Bool), xs = [.ref p] ∧ SqL K H p (bs.map V.bl) ∧ Q (.bl (bs.any id)) H
def rAll (K : PySem.W.Frag) : List V → Hp → VK → Prop := fun xs H Q => ∃ (p : Addr) (bs : List Bool), xs = [.ref p] ∧ SqL K H p (bs.map V.bl) ∧ Q (.bl (bs.all id)) H
theorem reads_bools {h : Heap} : ∀ {bs : List Bool} {us : List Value}, Vals (bs.map V.bl) us → ∃ as, ReadsAll h us (bs.map PyData.bool) as
  | [], _, .nil => ⟨_, .nil⟩
  | b :: bs, _, .cons r rs => by
    cases r
    obtain ⟨as, q⟩ := reads_bools rs
    exact ⟨_, .cons (.bool b) q⟩
theorem plain_bools : ∀ bs : List Bool, PyData.plainAll (bs.map PyData.bool) = true
  | [] => rfl
  | b :: bs => by
    show (true && PyData.plainAll (bs.map PyData.bool)) = true
    rw [plain_bools bs]
    rfl
theorem any_bools_id : ∀ bs : List Bool, (bs.map PyData.bool).any PyData.truthy = bs.any id
  | [] => rfl
  | b :: bs => by
    rw [List.map_cons, List.any_cons, List.any_cons, any_bools_id bs]
    rfl
theorem all_bools_id : ∀ bs : List Bool, (bs.map PyData.bool).all PyData.truthy = bs.all id
  | [] => rfl
  | b :: bs => by
    rw [List.map_cons, List.all_cons, List.all_cons, all_bools_id bs]
    rfl
theorem cr_any (hc : X.calm = true) : CallR X (.builtin "any") (rAny X.K) := by
  intro pins s σ H vs us Q I r h
  obtain ⟨p, bs, rfl, hq, q⟩ := h
  obtain ⟨u, rfl, ru⟩ := vals1 r
  obtain rfl : u = Value.ref p := ru
  obtain ⟨its, rv, pl, hz⟩ := I.list hq
  obtain ⟨as, ra⟩ := reads_bools (h := s.heap) rv
  refine W.any_list_data (I.ok.hd hc) pl.isList (by simpa using ra) (plain_bools bs) (fun x hx => ?_) fun h' tk k => ?_
  · obtain ⟨b, _, rfl⟩ := List.mem_map.mp hx
    trivial
  · rw [any_bools_id]
    exact ⟨.bl _, H, I.kept (t' := tk) k, rfl, q⟩
theorem cr_all (hc : X.calm = true) : CallR X (.builtin "all") (rAll X.K) := by
  intro pins s σ H vs us Q I r h
  obtain ⟨p, bs, rfl, hq, q⟩ := h
  obtain ⟨u, rfl, ru⟩ := vals1 r
  obtain rfl : u = Value.ref p := ru
  obtain ⟨its, rv, pl, hz⟩ := I.list hq
  obtain ⟨as, ra⟩ := reads_bools (h := s.heap) rv
  refine W.all_list_data (I.ok.hd hc) pl.isList (by simpa using ra) (plain_bools bs) (fun x hx => ?_) fun h' tk k => ?_
  · obtain ⟨b, _, rfl⟩ := List.mem_map.mp hx
    trivial
  · rw [all_bools_id]
    exact ⟨.bl _, H, I.kept (t' := tk) k, rfl, q⟩
end
end EA
namespace EA
open PySem PySem.Spec PyProof.Rows L2
/-! ### the settings by their numbers -/
def asg : List Str → Nat → Str → Bool
  | [], _, _ => false
  | x :: xs, k, s => if s = x then decide (k / 2 ^ xs.length % 2 = 1) else asg xs k s
theorem div_mod_add {a m k q : Nat} (h : q < a) : (2 ^ a * m + k) / 2 ^ q % 2 = k / 2 ^ q % 2 := by
  have e : 2 ^ a = 2 ^ q * (2 * 2 ^ (a - q - 1)) := by
    rw [← Nat.pow_succ', ← Nat.pow_add]
    congr 1
    omega
  rw [e, Nat.mul_assoc, Nat.add_comm, Nat.add_mul_div_left _ _ (Nat.two_pow_pos q), Nat.mul_assoc, Nat.add_mul_mod_self_left]
theorem asg_add (m : Nat) : ∀ (xs : List Str) (a k : Nat) (s : Str), xs.length ≤ a → asg xs (2 ^ a * m + k) s = asg xs k s
  | [], _, _, _, _ => rfl
  | x :: xs, a, k, s, h => by
    rw [List.length_cons] at h
    show (if s = x then _ else _) = if s = x then _ else _
    rw [div_mod_add (by omega), asg_add m xs a k s (by omega)]
theorem asg_at {s : Str} : ∀ {ns : List Str} {j k : Nat}, ns.Nodup → ns[j]? = some s → asg ns k s = decide (k / 2 ^ (ns.length - 1 - j) % 2 = 1)
  | [], _, _, _, h => by simp at h
  | x :: xs, 0, k, nd, h => by
    have e : x = s := Option.some.inj h
    subst e
    show (if x = x then _ else _) = _
    rw [if_pos rfl, List.length_cons, Nat.add_sub_cancel, Nat.sub_zero]
  | x :: xs, j + 1, k, nd, h => by
    obtain ⟨nx, nd'⟩ := List.nodup_cons.mp nd
    have h' : xs[j]? = some s := by simpa using h
    have ne : s ≠ x := fun e => nx (by rw [← e]; exact List.mem_of_getElem? h')
    show (if s = x then _ else _) = _
    rw [if_neg ne, asg_at nd' h', List.length_cons]
    have z : xs.length + 1 - 1 - (j + 1) = xs.length - 1 - j := by omega
    rw [z]
/-- the number of a setting -/
def idx : List Str → (Str → Bool) → Nat
  | [], _ => 0
  | x :: xs, f => (if f x then 2 ^ xs.length else 0) + idx xs f
theorem idx_lt : ∀ (ns : List Str) (f : Str → Bool), idx ns f < 2 ^ ns.length
  | [], _ => Nat.zero_lt_one
  | x :: xs, f => by
    have ih := idx_lt xs f
    show (if f x then 2 ^ xs.length else 0) + idx xs f < _
    rw [List.length_cons, Nat.pow_succ]
    split <;> omega
theorem asg_idx : ∀ {ns : List Str} {f : Str → Bool}, ns.Nodup → ∀ s ∈ ns, asg ns (idx ns f) s = f s
  | [], _, _, s, h => nomatch h
  | x :: xs, f, nd, s, h => by
    obtain ⟨nx, nd'⟩ := List.nodup_cons.mp nd
    have ih := idx_lt xs f
    have p := Nat.two_pow_pos xs.length
    show (if s = x then decide (((if f x then 2 ^ xs.length else 0) + idx xs f) / 2 ^ xs.length % 2 = 1) else asg xs ((if f x then 2 ^ xs.length else 0) + idx xs f) s) = f s
    by_cases e : s = x
    · rw [if_pos e, e]
      cases hf : f x with
      | true =>
        simp only [if_true]
        rw [Nat.add_div_left _ p, Nat.div_eq_of_lt ih]
        rfl
      | false =>
        simp only [Bool.false_eq_true, if_false, Nat.zero_add]
        rw [Nat.div_eq_of_lt ih]
        rfl
    · rw [if_neg e]
      have hs : s ∈ xs := (List.mem_cons.mp h).resolve_left e
      have ihs := asg_idx (f := f) nd' s hs
      split
      · have z := asg_add 1 xs xs.length (idx xs f) s (Nat.le_refl _)
        rw [Nat.mul_one] at z
        rw [z]
        exact ihs
      · rw [Nat.zero_add]
        exact ihs
/-- the truth row of a condition -/
structure Rep (ns : List Str) (c : C) (row : List Bool) : Prop where
  oc : OC ns c
  len : row.length = 2 ^ ns.length
  at_ : ∀ k, k < 2 ^ ns.length → row[k]? = some (c.ev (asg ns k))
theorem ev_idx {ns : List Str} {c : C} (h : OC ns c) (nd : ns.Nodup) (f : Str → Bool) : c.ev f = c.ev (asg ns (idx ns f)) :=
  C.ev_congr c fun s hs => (asg_idx nd s (h.vars s hs)).symm
theorem Rep.all {ns : List Str} {c : C} {row : List Bool} (h : Rep ns c row) (nd : ns.Nodup) {d : C} (hd : OC ns d) (e : ∀ k, k < 2 ^ ns.length → c.ev (asg ns k) = d.ev (asg ns k)) : c = d :=
  OC.uniq nd h.oc hd fun f => by rw [ev_idx h.oc nd, ev_idx hd nd]; exact e _ (idx_lt ns f)
theorem Rep.uniq {ns : List Str} {c d : C} {row : List Bool} (nd : ns.Nodup) (h : Rep ns c row) (k : Rep ns d row) : c = d :=
  h.all nd k.oc fun i hi => Option.some.inj ((h.at_ i hi).symm.trans (k.at_ i hi))
theorem rep_of {ns : List Str} {c : C} (h : OC ns c) (g : Nat → Bool) (e : ∀ k, k < 2 ^ ns.length → c.ev (asg ns k) = g k) : Rep ns c ((List.range (2 ^ ns.length)).map g) :=
  ⟨h, by rw [List.length_map, List.length_range], fun k hk => by rw [List.getElem?_map, List.getElem?_range hk, e k hk]; rfl⟩
/-- a switch and the rows of both sides -/
theorem Rep.form {x : Str} {xs : List Str} {a b : C} {r1 r2 : List Bool} (ha : Rep xs a r1) (hb : Rep xs b r2) (nx : x ∉ xs) : Rep (x :: xs) (C.formed x b a) (r1 ++ r2) := by
  have p := Nat.two_pow_pos xs.length
  refine ⟨OC.formed hb.oc ha.oc, by rw [List.length_append, ha.len, hb.len, List.length_cons, Nat.pow_succ]; omega, fun k hk => ?_⟩
  rw [List.length_cons, Nat.pow_succ] at hk
  rw [C.ev_formed]
  have ax : ∀ k s, asg (x :: xs) k s = if s = x then decide (k / 2 ^ xs.length % 2 = 1) else asg xs k s := fun k s => rfl
  have cut : ∀ (c : C), OC xs c → ∀ k, c.ev (asg (x :: xs) k) = c.ev (asg xs k) := fun c hc k => C.ev_congr c fun s hs => by
    rw [ax, if_neg fun e => nx (by rw [← e]; exact hc.vars s hs)]
  rw [cut _ ha.oc, cut _ hb.oc, ax, if_pos rfl]
  by_cases h : k < 2 ^ xs.length
  · rw [List.getElem?_append_left (by rw [ha.len]; exact h), ha.at_ k h, Nat.div_eq_of_lt h]
    rfl
  · have hk2 : k - 2 ^ xs.length < 2 ^ xs.length := by omega
    rw [List.getElem?_append_right (by rw [ha.len]; omega), ha.len, hb.at_ _ hk2]
    have e1 : k = 2 ^ xs.length * 1 + (k - 2 ^ xs.length) := by omega
    have e2 : k / 2 ^ xs.length = 1 := by
      rw [e1, Nat.add_comm, Nat.add_mul_div_left _ _ p, Nat.div_eq_of_lt hk2]
    rw [e2]
    simp only [Nat.mod_eq_of_lt (show 1 < 2 by decide), decide_true, if_true]
    congr 1
    refine C.ev_congr b fun s hs => ?_
    conv => rhs; rw [e1]
    rw [asg_add 1 xs xs.length _ s (Nat.le_refl _)]
/-! ### a setting with one switch turned -/
def tn (wt k : Nat) (on : Bool) : Nat := (if k / wt % 2 = 1 then k - wt else k) + (if on then wt else 0)
theorem tn_parts (p k : Nat) (on : Bool) : tn (2 ^ p) k on = 2 ^ (p + 1) * (k / 2 ^ (p + 1)) + ((if on then 2 ^ p else 0) + k % 2 ^ p) := by
  have h1 := Nat.div_add_mod k (2 ^ p)
  have h2 := Nat.div_add_mod (k / 2 ^ p) 2
  have e : k / 2 ^ p / 2 = k / 2 ^ (p + 1) := by rw [Nat.div_div_eq_div_mul, Nat.pow_succ]
  have z : 2 ^ p * (k / 2 ^ p) = 2 ^ (p + 1) * (k / 2 ^ (p + 1)) + 2 ^ p * (k / 2 ^ p % 2) := by
    rw [← e, Nat.pow_succ, Nat.mul_assoc, ← Nat.mul_add, h2]
  unfold tn
  have m := Nat.mod_two_eq_zero_or_one (k / 2 ^ p)
  rcases m with m | m
  · rw [m] at z
    rw [if_neg (by omega)]
    split <;> omega
  · rw [m] at z
    rw [if_pos m]
    split <;> omega
theorem tn_same (p k : Nat) (on : Bool) : tn (2 ^ p) k on / 2 ^ p % 2 = if on then 1 else 0 := by
  rw [tn_parts]
  have q := Nat.two_pow_pos p
  have l := Nat.mod_lt k q
  rw [div_mod_add (Nat.lt_succ_self p)]
  cases on with
  | true =>
    simp only [if_true]
    rw [Nat.add_div_left _ q, Nat.div_eq_of_lt l]
  | false =>
    simp only [Bool.false_eq_true, if_false, Nat.zero_add]
    rw [Nat.div_eq_of_lt l]
theorem tn_other (p k q : Nat) (on : Bool) (h : q ≠ p) : tn (2 ^ p) k on / 2 ^ q % 2 = k / 2 ^ q % 2 := by
  rw [tn_parts]
  have pp := Nat.two_pow_pos p
  have l := Nat.mod_lt k pp
  by_cases hq : q < p
  · rw [div_mod_add (by omega)]
    have e1 : (if on = true then 2 ^ p else 0) = 2 ^ p * (if on = true then 1 else 0) := by split <;> simp
    rw [e1, div_mod_add hq]
    conv => rhs; rw [← Nat.div_add_mod k (2 ^ p)]
    rw [div_mod_add hq]
  · have e : 2 ^ q = 2 ^ (p + 1) * 2 ^ (q - (p + 1)) := by
      rw [← Nat.pow_add]
      congr 1
      omega
    have lt : (if on = true then 2 ^ p else 0) + k % 2 ^ p < 2 ^ (p + 1) := by
      rw [Nat.pow_succ]
      split <;> omega
    rw [e, ← Nat.div_div_eq_div_mul, ← Nat.div_div_eq_div_mul]
    congr 2
    rw [Nat.add_comm, Nat.add_mul_div_left _ _ (Nat.two_pow_pos _), Nat.div_eq_of_lt lt, Nat.zero_add]
theorem tn_lt {p k n : Nat} (on : Bool) (hp : p < n) (hk : k < 2 ^ n) : tn (2 ^ p) k on < 2 ^ n := by
  rw [tn_parts]
  have pp := Nat.two_pow_pos p
  have l := Nat.mod_lt k pp
  have e : 2 ^ n = 2 ^ (p + 1) * 2 ^ (n - (p + 1)) := by
    rw [← Nat.pow_add]
    congr 1
    omega
  have h1 : k / 2 ^ (p + 1) < 2 ^ (n - (p + 1)) := by
    rw [Nat.div_lt_iff_lt_mul (Nat.two_pow_pos _), Nat.mul_comm, ← e]
    exact hk
  have h2 : 2 ^ (p + 1) * (k / 2 ^ (p + 1)) + 2 ^ (p + 1) ≤ 2 ^ (p + 1) * 2 ^ (n - (p + 1)) := by
    rw [← Nat.mul_succ]
    exact Nat.mul_le_mul_left _ h1
  rw [e]
  have lt : (if on = true then 2 ^ p else 0) + k % 2 ^ p < 2 ^ (p + 1) := by
    rw [Nat.pow_succ]
    split <;> omega
  omega
theorem asg_tn {ns : List Str} (nd : ns.Nodup) {j : Nat} {z : Str} (hj : ns[j]? = some z) (k : Nat) (on : Bool) : ∀ s ∈ ns, asg ns (tn (2 ^ (ns.length - 1 - j)) k on) s = fset (asg ns k) z on s := by
  intro s hs
  obtain ⟨i, hi⟩ := List.getElem?_of_mem hs
  have li : i < ns.length := (List.getElem?_eq_some_iff.mp hi).1
  have lj : j < ns.length := (List.getElem?_eq_some_iff.mp hj).1
  rw [asg_at nd hi]
  unfold fset
  by_cases e : s = z
  · subst e
    have ij : i = j := nodup_ix nd hi hj
    subst ij
    rw [if_pos rfl, tn_same]
    cases on <;> rfl
  · have ij : i ≠ j := fun h => e (by rw [h, hj] at hi; exact (Option.some.inj hi).symm)
    rw [if_neg e, asg_at nd hi, tn_other _ _ _ _ (by omega)]
theorem ev_tn {ns : List Str} (nd : ns.Nodup) {j : Nat} {z : Str} (hj : ns[j]? = some z) {c : C} (h : OC ns c) (k : Nat) (on : Bool) : c.ev (asg ns (tn (2 ^ (ns.length - 1 - j)) k on)) = c.ev (fset (asg ns k) z on) :=
  C.ev_congr c fun s hs => asg_tn nd hj k on s (h.vars s hs)
/-- the switches of a condition are those that matter -/
theorem fset_comm {f : Str → Bool} {s t : Str} {a b : Bool} (h : s ≠ t) : fset (fset f s a) t b = fset (fset f t b) s a := by
  funext u
  unfold fset
  by_cases e1 : u = t
  · by_cases e2 : u = s
    · exact absurd (e2.symm.trans e1) h
    · simp [e1]
      intro z
      exact absurd z.symm h
  · simp [e1]
theorem OC.ess {s : Str} : ∀ {ns : List Str} {c : C}, ns.Nodup → OC ns c → s ∈ c.vars → ∃ f, c.ev (fset f s true) ≠ c.ev (fset f s false)
  | [], c, _, h, hs => by
    obtain ⟨v, rfl⟩ := h.bool_of
    cases hs
  | x :: xs, c, nd, h, hs => by
    obtain ⟨nx, nd'⟩ := List.nodup_cons.mp nd
    cases h with
    | leaf v => cases hs
    | skip h => exact OC.ess nd' h hs
    | @node _ _ a b ha hb ne =>
      rcases List.mem_cons.mp hs with e | hs
      · subst e
        -- the sides are unlike
        have hne : ∃ f, a.ev f ≠ b.ev f := Classical.byContradiction fun z => ne (OC.uniq nd' ha hb fun f => Classical.byContradiction fun k => z ⟨f, k⟩)
        obtain ⟨f, hf⟩ := hne
        refine ⟨f, ?_⟩
        show (if fset f s true s then a.ev (fset f s true) else b.ev (fset f s true)) ≠ (if fset f s false s then a.ev (fset f s false) else b.ev (fset f s false))
        have q1 := ha.ev_fset (f := f) (o := true) nx
        have q2 := hb.ev_fset (f := f) (o := false) nx
        simp only [fset, if_true, Bool.false_eq_true, if_false]
        intro z
        exact hf (by rw [← q1, ← q2]; exact z)
      · have hsx : ∀ {d : C}, OC xs d → s ∈ d.vars → s ≠ x := fun hd m e => nx (by rw [← e]; exact hd.vars s m)
        rcases List.mem_append.mp hs with hs | hs
        · obtain ⟨f, hf⟩ := OC.ess nd' ha hs
          have sx := hsx ha hs
          refine ⟨fset f x true, fun z => hf ?_⟩
          rw [fset_comm sx.symm, fset_comm sx.symm] at z
          have z' : (if fset (fset f s true) x true x then a.ev (fset (fset f s true) x true) else b.ev (fset (fset f s true) x true)) = (if fset (fset f s false) x true x then a.ev (fset (fset f s false) x true) else b.ev (fset (fset f s false) x true)) := z
          have q1 := ha.ev_fset (f := fset f s true) (o := true) nx
          have q2 := ha.ev_fset (f := fset f s false) (o := true) nx
          rw [q1, q2] at z'
          simpa [fset] using z'
        · obtain ⟨f, hf⟩ := OC.ess nd' hb hs
          have sx := hsx hb hs
          refine ⟨fset f x false, fun z => hf ?_⟩
          rw [fset_comm sx.symm, fset_comm sx.symm] at z
          have z' : (if fset (fset f s true) x false x then a.ev (fset (fset f s true) x false) else b.ev (fset (fset f s true) x false)) = (if fset (fset f s false) x false x then a.ev (fset (fset f s false) x false) else b.ev (fset (fset f s false) x false)) := z
          have q1 := hb.ev_fset (f := fset f s true) (o := false) nx
          have q2 := hb.ev_fset (f := fset f s false) (o := false) nx
          rw [q1, q2] at z'
          simpa [fset] using z'
theorem OC.ess_iff {s : Str} {ns : List Str} {c : C} (nd : ns.Nodup) (h : OC ns c) : s ∈ c.vars ↔ ∃ f, c.ev (fset f s true) ≠ c.ev (fset f s false) := by
  refine ⟨OC.ess nd h, fun ⟨f, hf⟩ => ?_⟩
  refine Classical.byContradiction fun m => hf ?_
  rw [C.ev_fset m, C.ev_fset m]
end EA
namespace EA
open PySem PySem.Spec PyProof.Rows L2
theorem tNoPart_i {σ : L2.St} {H : Hp} {Q : Option Int → Hp → Prop} (h : Q none H) : tNoPart σ H Q := h
/-- the same where what follows is not yet named -/
theorem comp_goD {J : It} {n : Nat} {x : Nat → V} {OK : Hp → Prop} {M : List Addr} {G H : Hp} {σ : L2.St} {vs : List Nat} {g : TG} {tt : TT} {te : TE} {Qd : Addr → Hp → Prop} (P : Nat → List PyData → Hp → Hp → Prop)
    (W : WalkJ J n x OK) (s : Same G H) (hn : n < sizeLine) (hM : ∀ m ∈ M, H m ≠ none) (ok : ∀ G' H', Ex M G H G' H' → OK H')
    (P0 : P 0 [] G H) (Pw : ∀ i acc G' H' D o, P i acc G' H' → H D = none → G' D = none → P i acc G' (upd H' D o)) (Pg : ∀ i acc G' H' D o, P i acc G' H' → H D = none → G' D = none → P i acc (upd G' D o) H')
    (stp : ∀ i acc G1 H1, i < n → Ex M G H G1 H1 → P i acc G1 H1 → ∀ (C : VK) (C' : Hp → Prop), (∀ y G2 H2 d, Ex M G1 H1 G2 H2 → Dat G2 y d → P (i + 1) (acc ++ [d]) G2 H2 → C y H2) → (∀ G2 H2, Ex M G1 H1 G2 H2 → P (i + 1) acc G2 H2 → C' H2) →
      g (x i) (wipe σ vs) H1 fun σ2 H2 => wipe σ2 vs = wipe σ vs ∧ tt σ2 H2 fun b H3 => if b = true then te σ2 H3 C else C' H3)
    (fin : ∀ G' H' D acc, Ex M G H G' H' → Dat G' (.ref D) (.list acc) → acc.length ≤ n → P n acc G' H' → Qd D H') :
    ∀ D, H D = none → ∃ W : Nat → Nat → Hp → Prop, (∃ m, W 0 m (upd H D (.lst []))) ∧ ∀ i m H, W i m H →
      (J.stop i H ∧ Qd D H) ∨ (J.go i H ∧ ∃ Nx : Hp → Prop, (∀ H', Nx H' → ∃ m', m' < m ∧ W (i + 1) m' H') ∧ ∀ x H', J.yld i H x H' → g x (wipe σ vs) H' fun σ2 H2 => wipe σ2 vs = wipe σ vs ∧ tt σ2 H2 fun b H3 =>
        if b = true then te σ2 H3 fun y H4 => ∃ acc, H4 D = some (.lst acc) ∧ acc.length < sizeLine ∧ Nx (upd H4 D (.lst (acc ++ [y]))) else Nx H3) := by
  intro D hD
  obtain ⟨W, h0, hW⟩ := comp_go (Q := fun v H => ∀ D, v = .ref D → Qd D H) P W s hn hM ok P0 Pw Pg stp (fun G' H' r acc E d l p D e => by subst e; exact fin G' H' D acc E d l p) D hD
  exact ⟨W, h0, fun i m H w => (hW i m H w).imp (fun ⟨a, b⟩ => ⟨a, b D rfl⟩) id⟩
section
variable {K : PySem.W.Frag} {H : Hp} {c : String} {Q : VK}
theorem isi_non (r : Bool) (e : kitB "NoneType" c = some r) (q : Q (.bl r) H) : rIsi K [.non, .ty c] H Q := isi_of r (G := H) .non (Same.refl H) e q
theorem isi_bl {b : Bool} (r : Bool) (e : kitB "bool" c = some r) (q : Q (.bl r) H) : rIsi K [.bl b, .ty c] H Q := isi_of r (G := H) (.bl b) (Same.refl H) e q
theorem isi_int {i : Int} (r : Bool) (e : kitB "int" c = some r) (q : Q (.bl r) H) : rIsi K [.int i, .ty c] H Q := isi_of r (G := H) (.int i) (Same.refl H) e q
theorem isi_str {s : Str} (r : Bool) (e : kitB "str" c = some r) (q : Q (.bl r) H) : rIsi K [.str s, .ty c] H Q := isi_of r (G := H) (.str s) (Same.refl H) e q
theorem isi_tup {a : Addr} {xs : List V} (h : H a = some (.tup xs)) (r : Bool) (e : kitB "tuple" c = some r) (q : Q (.bl r) H) : rIsi K [.ref a, .ty c] H Q :=
  ⟨.ref a, .ty c, .type "tuple", .type c, r, rfl, .ty c, .base (.tup h), kit_ty e, q⟩
theorem isi_lst {a : Addr} {xs : List V} (h : H a = some (.lst xs)) (r : Bool) (e : kitB "list" c = some r) (q : Q (.bl r) H) : rIsi K [.ref a, .ty c] H Q :=
  ⟨.ref a, .ty c, .type "list", .type c, r, rfl, .ty c, .base (.lst h), kit_ty e, q⟩
end
end EA
namespace EA
open PySem PySem.Spec PyProof.Rows L2
theorem for_go {J : It} {n : Nat} {x : Nat → V} {OK : Hp → Prop} (Wk : WalkJ J n x OK) {g : TG} {tb : TS} {D : Ends} {σ : L2.St} {H : Hp} (Pv : Nat → L2.St → Hp → Prop) (h0 : Pv 0 σ H) (hl : ∀ i σ H, i ≤ n → Pv i σ H → OK H)
    (hs : ∀ i σ H, i < n → Pv i σ H → g (x i) σ H fun σ2 H2 => tb { D with nx := Pv (i + 1), ct := Pv (i + 1), bk := D.nx } σ2 H2) (hd : ∀ σ H, Pv n σ H → D.nx σ H) :
    ∃ W : Nat → Nat → L2.St → Hp → Prop, (∃ m, W 0 m σ H) ∧ ∀ i m σ H, W i m σ H →
      (J.stop i H ∧ D.nx σ H) ∨ (J.go i H ∧ ∃ N : L2.St → Hp → Prop, (∀ σ' H', N σ' H' → ∃ m', m' < m ∧ W (i + 1) m' σ' H') ∧ ∀ x H', J.yld i H x H' → g x σ H' fun σ2 H2 => tb { D with nx := N, ct := N, bk := D.nx } σ2 H2) := by
  refine ⟨fun i m σ H => m = n - i ∧ i ≤ n ∧ Pv i σ H, ⟨n, by simp, Nat.zero_le _, h0⟩, ?_⟩
  rintro i m σ H ⟨rfl, hi, p⟩
  have q := hl i σ H hi p
  by_cases hlt : i < n
  · refine .inr ⟨Wk.go i H q hlt, Pv (i + 1), fun σ' H' p' => ⟨n - (i + 1), by omega, rfl, hlt, p'⟩, fun v H' y => ?_⟩
    obtain ⟨e1, e2⟩ := Wk.yld i H v H' q hlt y
    subst e1 e2
    exact hs i σ _ hlt p
  · have e : i = n := by omega
    subst e
    exact .inl ⟨Wk.stop _ _ q (Nat.le_refl _), hd σ H p⟩
/-! ### all settings -/
def SL : List Str → List (List Str)
  | [] => [[]]
  | x :: xs => SL xs ++ (SL xs).map (x :: ·)
theorem SL_len : ∀ ns : List Str, (SL ns).length = 2 ^ ns.length
  | [] => rfl
  | x :: xs => by
    show (SL xs ++ (SL xs).map (x :: ·)).length = _
    rw [List.length_append, List.length_map, SL_len xs, List.length_cons, Nat.pow_succ]
    omega
theorem SL_mem : ∀ {ns : List Str} {k : Nat} {l : List Str}, ns.Nodup → (SL ns)[k]? = some l → ∀ s, s ∈ l ↔ s ∈ ns ∧ asg ns k s = true
  | [], k, l, _, h, s => by
    match k, h with
    | 0, h =>
      have e : [] = l := Option.some.inj h
      subst e
      simp
  | x :: xs, k, l, nd, h, s => by
    obtain ⟨nx, nd'⟩ := List.nodup_cons.mp nd
    have p := Nat.two_pow_pos xs.length
    have ax : asg (x :: xs) k s = if s = x then decide (k / 2 ^ xs.length % 2 = 1) else asg xs k s := rfl
    have h' : (SL xs ++ (SL xs).map (x :: ·))[k]? = some l := h
    by_cases hk : k < 2 ^ xs.length
    · rw [List.getElem?_append_left (by rw [SL_len]; exact hk)] at h'
      rw [SL_mem nd' h' s, ax, Nat.div_eq_of_lt hk]
      by_cases e : s = x
      · subst e
        simp [nx]
      · simp [e]
    · rw [List.getElem?_append_right (by rw [SL_len]; omega), SL_len, List.getElem?_map] at h'
      obtain ⟨l', h1, rfl⟩ := Option.map_eq_some_iff.mp h'
      have lt : k - 2 ^ xs.length < 2 ^ xs.length := by
        have := (List.getElem?_eq_some_iff.mp h1).1
        rw [SL_len] at this
        exact this
      have e1 : k = 2 ^ xs.length * 1 + (k - 2 ^ xs.length) := by omega
      have e2 : k / 2 ^ xs.length = 1 := by rw [e1, Nat.add_comm, Nat.add_mul_div_left _ _ p, Nat.div_eq_of_lt lt]
      have e3 : asg xs k s = asg xs (k - 2 ^ xs.length) s := by
        conv => lhs; rw [e1]
        rw [asg_add 1 xs xs.length _ s (Nat.le_refl _)]
      rw [List.mem_cons, SL_mem nd' h1 s, ax, e2, e3]
      by_cases e : s = x
      · subst e
        simp
      · simp [e]
theorem SL_few : ∀ {ns : List Str} {l : List Str}, l ∈ SL ns → l.length ≤ ns.length ∧ ∀ s ∈ l, s ∈ ns
  | [], l, h => by
    have e : l = [] := by simpa [SL] using h
    subst e
    exact ⟨Nat.le_refl _, fun s hs => nomatch hs⟩
  | x :: xs, l, h => by
    have h' : l ∈ SL xs ++ (SL xs).map (x :: ·) := h
    rcases List.mem_append.mp h' with h' | h'
    · obtain ⟨a, b⟩ := SL_few h'
      exact ⟨Nat.le_succ_of_le a, fun s hs => List.mem_cons_of_mem _ (b s hs)⟩
    · obtain ⟨l', h1, rfl⟩ := List.mem_map.mp h'
      obtain ⟨a, b⟩ := SL_few h1
      refine ⟨Nat.succ_le_succ a, fun s hs => ?_⟩
      rcases List.mem_cons.mp hs with e | hs
      · rw [e]; exact List.mem_cons_self
      · exact List.mem_cons_of_mem _ (b s hs)
abbrev strsD (l : List Str) : PyData := .list (l.map PyData.str)
theorem ev_SL {ns : List Str} {k : Nat} {l : List Str} {c : C} (nd : ns.Nodup) (h : (SL ns)[k]? = some l) (hc : OC ns c) {es : List Str} (he : ∀ s, s ∈ es ↔ s ∈ l ∨ s = "Q9") (nq : (Str.ofString "Q9") ∉ ns) : (c.ev fun s => decide (s ∈ es)) = c.ev (asg ns k) :=
  C.ev_congr c fun s hs => by
    have m := hc.vars s hs
    have ne : s ≠ "Q9" := fun e => nq (by rw [← show s = Str.ofString "Q9" from e]; exact m)
    rw [Bool.eq_iff_iff, decide_eq_true_iff, he, SL_mem nd h]
    simp [m, ne]
theorem ev_SL' {ns : List Str} {k : Nat} {l : List Str} {c : C} (nd : ns.Nodup) (h : (SL ns)[k]? = some l) (hc : OC ns c) : (c.ev fun s => decide (s ∈ l)) = c.ev (asg ns k) :=
  C.ev_congr c fun s hs => by
    have m := hc.vars s hs
    rw [Bool.eq_iff_iff, decide_eq_true_iff, SL_mem nd h]
    simp [m]
theorem mat_iff {ns : List Str} {c : C} {z : Str} (nd : ns.Nodup) (h : OC ns c) : (∀ k, k < 2 ^ ns.length → c.ev (fset (asg ns k) z true) = c.ev (fset (asg ns k) z false)) ↔ z ∉ c.vars := by
  constructor
  · intro e m
    obtain ⟨f, hf⟩ := OC.ess nd h m
    refine hf ?_
    have q : ∀ o, c.ev (fset f z o) = c.ev (fset (asg ns (idx ns f)) z o) := fun o => C.ev_congr c fun s hs => by
      unfold fset
      split
      · rfl
      · exact (asg_idx nd s (h.vars s hs)).symm
    rw [q, q]
    exact e _ (idx_lt ns f)
  · intro m k _
    rw [C.ev_fset m, C.ev_fset m]
theorem filter_take {ns : List Str} {p : Str → Bool} {i : Nat} {z : Str} (h : ns[i]? = some z) : (ns.take (i + 1)).filter p = (ns.take i).filter p ++ (if p z then [z] else []) := by
  rw [List.take_add_one, h, List.filter_append]
  congr 1
  show List.filter p [z] = _
  cases hp : p z <;> simp [hp]
end EA
namespace EA
open PySem PySem.Spec PyProof.Rows L2
theorem perm_map_inv {α β : Type} {f : α → β} : ∀ {l k : List β}, l.Perm k → ∀ {m : List α}, k = m.map f → ∃ m' : List α, l = m'.map f ∧ m'.Perm m := by
  intro l k h
  induction h with
  | nil =>
    intro m e
    have z : m = [] := List.map_eq_nil_iff.mp e.symm
    subst z
    exact ⟨[], rfl, List.Perm.refl _⟩
  | cons x _ ih =>
    intro m e
    cases m with
    | nil => cases e
    | cons y r =>
      rw [List.map_cons, List.cons.injEq] at e
      obtain ⟨m', e1, p⟩ := ih e.2
      exact ⟨y :: m', by rw [List.map_cons, ← e1, e.1], p.cons y⟩
  | swap x y l =>
    intro m e
    match m, e with
    | a :: b :: r, e =>
      rw [List.map_cons, List.map_cons, List.cons.injEq, List.cons.injEq] at e
      exact ⟨b :: a :: r, by rw [List.map_cons, List.map_cons, e.1, e.2.1, e.2.2], List.Perm.swap a b r⟩
  | trans _ _ ih1 ih2 =>
    intro m e
    obtain ⟨m1, e1, p1⟩ := ih2 e
    obtain ⟨m2, e2, p2⟩ := ih1 e1
    exact ⟨m2, e2, p2.trans p1⟩
/-! ### drawn names -/
abbrev cl (s : Str) : List Nat := s.cps.toList
def Tag (k : Nat) (s : Str) : Prop := cl s = [109, 49 + k] ∨ cl s = [101, 49 + k] ∨ ∃ (c : Nat) (mid : List Nat), cl s = c :: (mid ++ [48 + k]) ∧ 65 ≤ c ∧ c ≤ 90 ∧ (∀ x ∈ mid, 97 ≤ x ∧ x ≤ 122) ∧ mid.length ≤ 7
theorem Tag.inj {i j : Nat} {s : Str} (h : Tag i s) (k : Tag j s) : i = j := by
  have last : ∀ {c : Nat} {mid mid' : List Nat} {c' x y : Nat}, c :: (mid ++ [x]) = c' :: (mid' ++ [y]) → x = y := fun {c mid mid' c' x y} e => by
    have e2 : mid ++ [x] = mid' ++ [y] := (List.cons.inj e).2
    have := congrArg List.getLast? e2
    simpa using this
  rcases h with h | h | ⟨c, mid, h, c1, c2, _, _⟩ <;> rcases k with k | k | ⟨c', mid', k, d1, d2, _, _⟩ <;> rw [h] at k
  · simp at k; omega
  · simp at k
  · have := (List.cons.inj k).1; omega
  · simp at k
  · simp at k; omega
  · have := (List.cons.inj k).1; omega
  · have := (List.cons.inj k).1; omega
  · have := (List.cons.inj k).1; omega
  · have := last k; omega
theorem Tag.ok {k : Nat} {s : Str} (h : Tag k s) (hk : k ≤ 8) : PyData.strOk s = true ∧ s.length ≤ 100 := by
  have len : s.length = (cl s).length := by
    show s.cps.size = s.cps.toList.length
    rw [Array.length_toList]
  have al : PyData.strOk s = (cl s).all fun x => decide (x < 0x110000) := by
    show s.cps.all (· < 0x110000) = _
    rw [Array.all_toList]
  rw [al, len, List.all_eq_true]
  rcases h with h | h | ⟨c, mid, h, c1, c2, m1, m2⟩ <;> rw [h]
  · refine ⟨fun x hx => ?_, by simp⟩
    have : x = 109 ∨ x = 49 + k := by simpa using hx
    exact decide_eq_true (by omega)
  · refine ⟨fun x hx => ?_, by simp⟩
    have : x = 101 ∨ x = 49 + k := by simpa using hx
    exact decide_eq_true (by omega)
  · refine ⟨fun x hx => ?_, by simp; omega⟩
    rcases List.mem_cons.mp hx with e | hx
    · exact decide_eq_true (by omega)
    · rcases List.mem_append.mp hx with hx | hx
      · have := m1 x hx
        exact decide_eq_true (by omega)
      · have : x = 48 + k := by simpa using hx
        exact decide_eq_true (by omega)
theorem cl_Q9 : cl (Str.ofString "Q9") = [81, 57] := by decide +kernel
theorem Tag.q9 {k : Nat} (hk : k ≤ 7) : ¬ Tag k (Str.ofString "Q9") := by
  intro h
  rcases h with h | h | ⟨c, mid, h, c1, c2, _, _⟩ <;> rw [cl_Q9] at h
  · simp at h
  · simp at h
  · have e : [57] = mid ++ [48 + k] := (List.cons.inj h).2
    have := congrArg List.getLast? e
    have z : 57 = 48 + k := by simpa using this
    omega
theorem cl_append (a b : Str) : cl (a ++ b) = cl a ++ cl b := by
  show (a.cps ++ b.cps).toList = _
  rw [Array.toList_append]
theorem digit : ∀ k : Nat, k < 10 → cl (Str.ofString (toString (k : Int))) = [48 + k] := by
  intro k h
  match k, h with
  | 0, _ => decide +kernel
  | 1, _ => decide +kernel
  | 2, _ => decide +kernel
  | 3, _ => decide +kernel
  | 4, _ => decide +kernel
  | 5, _ => decide +kernel
  | 6, _ => decide +kernel
  | 7, _ => decide +kernel
  | 8, _ => decide +kernel
  | 9, _ => decide +kernel
theorem low_at : ∀ r : Nat, r < 26 → (cl (Str.ofString "abcdefghijklmnopqrstuvwxyz"))[r]? = some (97 + r) := by decide +kernel
theorem up_at : ∀ r : Nat, r < 26 → (cl (Str.ofString "ABCDEFGHIJKLMNOPQRSTUVWXYZ"))[r]? = some (65 + r) := by decide +kernel
theorem joinL_nil : ∀ ps : List (List Nat), TL.joinL [] ps = ps.flatten
  | [] => rfl
  | [p] => by simp [TL.joinL]
  | p :: q :: r => by
    show p ++ ([] ++ TL.joinL [] (q :: r)) = _
    rw [joinL_nil (q :: r)]
    rfl
theorem cl_join {e : Str} (h : cl e = []) (ps : List Str) : cl (Txt.join e ps) = (ps.map cl).flatten := by
  rw [TL.join_eq]
  have z := TL.tl_join e ps
  rw [show TL.tl e = [] from h, joinL_nil] at z
  exact z
theorem flat_one : ∀ (ps : List Str) (ms : List Nat), ps.map cl = ms.map (fun x => [x]) → (ps.map cl).flatten = ms := by
  intro ps ms h
  rw [h]
  induction ms generalizing ps with
  | nil => rfl
  | cons x r ih =>
    cases ps with
    | nil => cases h
    | cons p q =>
      rw [List.map_cons, List.map_cons, List.cons.injEq] at h
      rw [List.map_cons, List.flatten_cons, ih q h.2]
      rfl
theorem sum_one : ∀ ms : List Nat, ((ms.map fun x => (⟨#[x]⟩ : Str)).map (·.length)).sum = ms.length
  | [] => rfl
  | x :: r => by
    rw [List.map_cons, List.map_cons, List.sum_cons, sum_one r, List.length_cons]
    have : (⟨#[x]⟩ : Str).length = 1 := rfl
    omega
theorem tag_nodup : ∀ {ss : List Str} (o : Nat), (∀ j s, ss[j]? = some s → Tag (j + o) s) → ss.Nodup
  | [], _, _ => .nil
  | x :: r, o, h => by
    refine List.nodup_cons.mpr ⟨fun m => ?_, tag_nodup (o + 1) fun j s e => ?_⟩
    · obtain ⟨j, hj⟩ := List.getElem?_of_mem m
      have a := h 0 x rfl
      have b := h (j + 1) x (by simpa using hj)
      have := a.inj b
      omega
    · have b := h (j + 1) s (by simpa using e)
      rw [show j + (o + 1) = j + 1 + o by omega]
      exact b
end EA
namespace EA
open PySem PySem.Spec PyProof.Rows L2
abbrev rowD (row : List Bool) : PyData := .list (row.map PyData.bool)
/-- a row of truths by a range -/
theorem comp_bools {n : Nat} (f : Nat → Bool) {G H : Hp} {σ : L2.St} {vs : List Nat} {g : TG} {tt : TT} {te : TE} {Qd : Addr → Hp → Prop} (s : Same G H) (hn : n ≤ 100000)
    (stp : ∀ k G1 H1, k < n → Ex [] G H G1 H1 → ∀ (C : VK) (C' : Hp → Prop), (∀ G2 H2, Ex [] G1 H1 G2 H2 → C (.bl (f k)) H2) →
      g (.int (0 + (k : Nat))) (wipe σ vs) H1 fun σ2 H2 => wipe σ2 vs = wipe σ vs ∧ tt σ2 H2 fun b H3 => if b = true then te σ2 H3 C else C' H3)
    (fin : ∀ G' H' D, Ex [] G H G' H' → Dat G' (.ref D) (rowD ((List.range n).map f)) → Qd D H') :
    ∀ D, H D = none → ∃ W : Nat → Nat → Hp → Prop, (∃ m, W 0 m (upd H D (.lst []))) ∧ ∀ i m H, W i m H →
      ((Itr 0 n).stop i H ∧ Qd D H) ∨ ((Itr 0 n).go i H ∧ ∃ Nx : Hp → Prop, (∀ H', Nx H' → ∃ m', m' < m ∧ W (i + 1) m' H') ∧ ∀ x H', (Itr 0 n).yld i H x H' → g x (wipe σ vs) H' fun σ2 H2 => wipe σ2 vs = wipe σ vs ∧ tt σ2 H2 fun b H3 =>
        if b = true then te σ2 H3 fun y H4 => ∃ acc, H4 D = some (.lst acc) ∧ acc.length < sizeLine ∧ Nx (upd H4 D (.lst (acc ++ [y]))) else Nx H3) := by
  refine comp_goD (M := []) (fun i acc G' H' => acc = ((List.range i).map f).map PyData.bool) walk_range s (line_lt hn) (fun m hm => nomatch hm) (fun _ _ _ => trivial) rfl (fun i acc G' H' D o hp n1 n2 => hp) (fun i acc G' H' D o hp n1 n2 => hp)
    (fun k acc G1 H1 hk E1 hp C C' hC hC' => ?_) (fun G' H' D acc E1 dr hacc hp => ?_)
  · refine stp k G1 H1 hk E1 C C' fun G2 H2 E2 => hC _ G2 H2 (.bool (f k)) E2 (.bl _) ?_
    rw [hp, List.range_succ, List.map_append, List.map_append]
    rfl
  · subst hp
    exact fin G' H' D E1 dr
theorem lcYesC {σ : L2.St} {H : Hp} {te : TE} {C : VK} {C' : Hp → Prop} (h : te σ H C) : tYes σ H fun b H3 => if b = true then te σ H3 C else C' H3 := lcYes h
theorem ixLast {K : PySem.W.Frag} {H : Hp} {p : Addr} {xs : List V} {v : V} {Q : VK} (h : H p = some (.lst (xs ++ [v]))) (q : Q v H) : rIx K (.ref p) (.int (-1)) H Q :=
  .inl ⟨p, xs ++ [v], -1, v, rfl, rfl, SqL.of h, atI_last _ _, q⟩
theorem row_at {ns : List Str} {c : C} {row : List Bool} (h : Rep ns c row) {k : Nat} (hk : k < 2 ^ ns.length) : (row.map V.bl)[(0 + (k : Int)).toNat]? = some (.bl (c.ev (asg ns k))) := by
  rw [show (0 + (k : Int)).toNat = k by omega, List.getElem?_map, h.at_ k hk]
  rfl
theorem tRet_i {te : TE} {D : Ends} {σ : L2.St} {H : Hp} {Q : VK} (e : D.rt = Q) (h : te σ H Q) : tRet te D σ H := by
  subst e
  exact h
end EA
namespace EA
open PySem PySem.Spec PyProof.Rows L2
section
variable {X : Cx} {K : PySem.W.Frag} {P : Program} {w : World}
theorem cr_anyK (hK : X.K = K) (hc : X.calm = true) : CallR X (.builtin "any") (rAny K) := by subst hK; exact cr_any hc
theorem cr_allK (hK : X.K = K) (hc : X.calm = true) : CallR X (.builtin "all") (rAll K) := by subst hK; exact cr_all hc
theorem cr_setOfIK (hK : X.K = K) (hP : X.prog = P) (hw : X.w = w) (hc : X.calm = true) : CallR X (.type "set") (rSetOfI K P w) := by subst hK hP hw; exact cr_setOfI hc
theorem cr_setOfSK (hK : X.K = K) (hP : X.prog = P) (hw : X.w = w) (hc : X.calm = true) : CallR X (.type "set") (rSetOfS K P w) := by subst hK hP hw; exact cr_setOfS hc
theorem cr_sortedSetIK (hP : X.prog = P) (hw : X.w = w) (hc : X.calm = true) (hu : X.A.units + 64 < cLine) : CallR X (.builtin "sorted") (rSortedSetI P w) := by subst hP hw; exact cr_sortedSetI hc hu
theorem cr_sortedSetSK (hP : X.prog = P) (hw : X.w = w) (hc : X.calm = true) (hu : X.A.units + 64 < cLine) : CallR X (.builtin "sorted") (rSortedSetS P w) := by subst hP hw; exact cr_sortedSetS hc hu
/-- +, any tuples -/
def rAddB (K : PySem.W.Frag) : R2 := fun x y H Q => (∃ i j, x = .int i ∧ y = .int j ∧ Q (.int (i + j)) H) ∨ (∃ i j, x = .str i ∧ y = .str j ∧ i.length + j.length ≤ sizeLine ∧ Q (.str (i ++ j)) H) ∨ rCat x y H Q ∨ rCatA K x y H Q
theorem op_addBK (hK : X.K = K) : OpR X (binaryOp .Add) (rAddB K) := by subst hK; exact OpR.or op_add (OpR.or op_add_str (OpR.or op_cat op_catA))
end
theorem catT {K : PySem.W.Frag} {H : Hp} {a b : Addr} {xs ys : List V} {Q : VK} (h1 : H a = some (.tup xs)) (h2 : H b = some (.tup ys)) (hn : xs.length + ys.length ≤ 100000) (q0 : xs = [] → Q (.ref b) H) (q1 : ys = [] → Q (.ref a) H) (q2 : ∀ p, H p = none → Q (.ref p) (upd H p (.tup (xs ++ ys)))) : rAddB K (.ref a) (.ref b) H Q :=
  .inr (.inr (.inr ⟨a, b, xs, ys, rfl, rfl, SqT.of h1, SqT.of h2, line_le hn, q0, fun _ h => q1 h, fun _ _ => q2⟩))
theorem catLB {K : PySem.W.Frag} {H : Hp} {l b : Addr} {xs zs : List V} {Q : VK} (h1 : H l = some (.lst xs)) (h2 : H b = some (.lst zs)) (hn : xs.length + zs.length ≤ 100000) (q : ∀ p, H p = none → Q (.ref p) (upd H p (.lst (xs ++ zs)))) : rAddB K (.ref l) (.ref b) H Q :=
  .inr (.inr (.inl ⟨l, b, xs, zs, rfl, rfl, h1, h2, line_le hn, q⟩))
theorem setI {K : PySem.W.Frag} {P : Program} {w : World} {H : Hp} {p : Addr} {ks : List Int} {Q : VK} (h : H p = some (.lst (ks.map V.int)) ∨ H p = some (.tup (ks.map V.int))) (hn : ks.length ≤ 2000) (q : ∀ D n, H D = none → n ≤ ks.length → Q (.ref D) (upd H D (SetGO (PySem.intKind P w) D (fun k => decide (k ∈ ks)) n))) : rSetOfI K P w [.ref p] H Q :=
  ⟨p, ks, rfl, h.imp SqL.of SqT.of, hn, q⟩
theorem sortI {P : Program} {w : World} {H : Hp} {D : Addr} {S : Int → Bool} {n : Nat} {Q : VK} (hn : n ≤ 2000) (h : H D = some (SetGO (PySem.intKind P w) D S n)) (q : ∀ (ss : List Int) p, ss.Pairwise (· < ·) → (∀ k, k ∈ ss ↔ S k = true) → H p = none → Q (.ref p) (upd H p (.lst (ss.map V.int)))) : rSortedSetI P w [.ref D] H Q :=
  ⟨D, S, n, rfl, h, hn, fun ss p a b _ c => q ss p a b c⟩
end EA
namespace EA
open PySem PySem.Spec PyProof.Rows L2

section
variable {K : PySem.W.Frag} {X : Cx} {a b : Expr} {fa fb : FE} {pos p2 : Pos} {es : List Expr}
theorem e_sl {lo hi : Option Expr} {l h : FO} (hK : X.K = K) (ha : PE3 K X a fa) (hl : PO3 K X lo l) (hh : PO3 K X hi h) : PE3 K X (.Subscript a (.Slice lo hi none p2) pos) (eSl fa l h) := ⟨pe_imp (pe_slice (sl_3 hK) ha.p hl.p hh.p) fun σ H Q h => by
  obtain ⟨A, S, sl, w, S', rfl, R, s, e, q⟩ := h
  obtain ⟨⟨w1, S1⟩, e1, e⟩ := Option.bind_eq_some_iff.mp e
  obtain ⟨⟨w2, S2⟩, e2, e⟩ := Option.bind_eq_some_iff.mp e
  obtain ⟨⟨w3, S3⟩, e3, e⟩ := Option.bind_eq_some_iff.mp e
  dsimp only at e
  refine ⟨A, S, sl, w1, S1, rfl, R, s, e1, fun B v n R1 r1 => ⟨B, S1, sl, w2, S2, rfl, R1, s.mono n, e2, fun C n2 R2 => ⟨C, S2, sl, w3, S3, rfl, R2, (s.mono n).mono n2, e3, fun D n3 R3 => ?_⟩⟩⟩
  have n' := (n.trans n2).trans n3
  have r3 := (r1.mono n2).mono n3
  split at e
  · rename_i xs hx
    cases e
    obtain ⟨a, vs, rfl, h1, _, hd⟩ := view_list R3 r3 hx
    exact .inl ⟨a, vs, rfl, h1, lst_of R3 (cut_daa hd _ _) fun B v m R r => q B v (n'.trans m) R r⟩
  · rename_i xs hx
    cases e
    obtain ⟨a, vs, rfl, h1, hd⟩ := view_tup R3 r3 hx
    refine .inr (.inl ⟨a, vs, rfl, h1, fun hw => ?_, fun _ => tup_of R3 (cut_daa hd _ _) fun B v m R r => q B v (n'.trans m) R r⟩)
    have ec : cutD xs w2 w3 = xs := by
      unfold cutD
      rw [← hd.len, hw.1, hw.2, List.drop_zero, Nat.sub_zero, hd.len, List.take_length]
    rw [ec] at q
    cases w1 with
    | d y => cases hx; exact q D _ n' R3 r3
    | r i =>
      unfold view at hx
      dsimp only at hx
      cases o : S'[i]? with
      | none => rw [o] at hx; cases hx
      | some m => rw [o] at hx; cases m <;> cases hx
    | sc _ => cases hx
    | ty _ => cases hx
  · rename_i z hz
    by_cases h : z.length ≤ 100000
    · rw [if_pos h] at e
      cases e
      have dz := view_dp R3 r3 hz
      cases dz
      exact .inr (.inr ⟨z, rfl, lineD h, q D _ n' R3 (Da.str _)⟩)
    · rw [if_neg h] at e; cases e
  · cases e⟩
theorem n_sl {lo hi : Option Expr} {l h : FO} (hK : X.K = K) (ha : PE3 K X a fa) (hl : PO3 K X lo l) (hh : PO3 K X hi h) : PN3 K X (.Subscript a (.Slice lo hi none p2) pos) (nSl fa l h) := ⟨pe_imp (pe_slice (sl_3 hK) ha.p hl.p hh.p) fun σ H Q h => by
  obtain ⟨A, S, sl, w, S', rfl, R, s, e, q⟩ := h
  obtain ⟨⟨w1, S1⟩, e1, e⟩ := Option.bind_eq_some_iff.mp e
  obtain ⟨⟨w2, S2⟩, e2, e⟩ := Option.bind_eq_some_iff.mp e
  obtain ⟨⟨w3, S3⟩, e3, e⟩ := Option.bind_eq_some_iff.mp e
  dsimp only at e
  refine ⟨A, S, sl, w1, S1, rfl, R, s, e1, fun B v n R1 r1 => ⟨B, S1, sl, w2, S2, rfl, R1, s.mono n, e2, fun C n2 R2 => ⟨C, S2, sl, w3, S3, rfl, R2, (s.mono n).mono n2, e3, fun D n3 R3 => ?_⟩⟩⟩
  have n' := (n.trans n2).trans n3
  split at e
  · rename_i xs hx
    cases e
    obtain ⟨a, vs, rfl, h1, _, hd⟩ := view_list R3 ((r1.mono n2).mono n3) hx
    exact .inl ⟨a, vs, rfl, h1, new_of R3 (cut_daa hd _ _) fun B vs p m R np ni g hh hd => q B vs p (n'.trans m) R (fresh_back n' np) ni g hh hd⟩
  · cases e⟩
/-! ### calls of known things -/
abbrev GC := List MO → List W3 → Option PyData
def CkOk (K : PySem.W.Frag) (r : List V → Hp → VK → Prop) (g : GC) : Prop := ∀ (A : Wd) (S : List MO) (ws : List W3) (vs : List V) (d : PyData) (Q : VK), Rl K A S → RWs K A vs ws → g S ws = some d → (∀ B v, Nx A B → Rl K B S → Da K B.G v d → Q v B.H) → r vs A.H Q
def NkOk (K : PySem.W.Frag) (r : List V → Hp → VK → Prop) (g : List MO → List W3 → Option (List PyData)) : Prop := ∀ (A : Wd) (S : List MO) (ws : List W3) (vs : List V) (d : List PyData) (Q : VK), Rl K A S → RWs K A vs ws → g S ws = some d →
  (∀ B vs p, Nx A B → Rl K B S → A.H p = none → p ∉ B.ι → B.G p = none → B.H p = some (.lst vs) → DaA K B.G vs d → Q (.ref p) B.H) → r vs A.H Q
def eB (g : GC) (a : FA) : FE := fun sl S => (a sl S).bind fun p => (g p.2 p.1).map fun d => (.d d, p.2)
def nB (g : List MO → List W3 → Option (List PyData)) (a : FA) : FN := fun sl S => (a sl S).bind fun p => (g p.2 p.1).map fun d => (d, p.2)
theorem eb_imp {r : List V → Hp → VK → Prop} {g : GC} (ok : CkOk K r g) {f : FA} {σ : L2.St} {H : Hp} {Q : VK} (h : teO K (eB g f) σ H Q) : taO K f σ H fun vs H1 => r vs H1 Q := by
  obtain ⟨A, S, sl, w, S', rfl, R, s, e, q⟩ := h
  obtain ⟨⟨w1, S1⟩, e1, e⟩ := Option.bind_eq_some_iff.mp e
  obtain ⟨d, e2, e⟩ := Option.map_eq_some_iff.mp e
  cases e
  exact ⟨A, S, sl, w1, _, rfl, R, s, e1, fun B vs n R1 r1 => ok B _ w1 vs d Q R1 r1 e2 fun C v m R r => q C v (n.trans m) R r⟩
theorem nb_imp {r : List V → Hp → VK → Prop} {g : List MO → List W3 → Option (List PyData)} (ok : NkOk K r g) {f : FA} {σ : L2.St} {H : Hp} {Q : VK} (h : tnO K (nB g f) σ H Q) : taO K f σ H fun vs H1 => r vs H1 Q := by
  obtain ⟨A, S, sl, w, S', rfl, R, s, e, q⟩ := h
  obtain ⟨⟨w1, S1⟩, e1, e⟩ := Option.bind_eq_some_iff.mp e
  obtain ⟨d, e2, e⟩ := Option.map_eq_some_iff.mp e
  cases e
  exact ⟨A, S, sl, w1, _, rfl, R, s, e1, fun B vs n R1 r1 => ok B _ w1 vs _ Q R1 r1 e2 fun C us p m R np ni g hh hd => q C us p (n.trans m) R (fresh_back n np) ni g hh hd⟩
variable {r : List V → Hp → VK → Prop} {x : Str} {e : Expr} {f : FA} {bid : String} {T : String} {pp : Pos}
theorem e_cB {g : GC} (hc : CallR X (.builtin bid) r) (ok : CkOk K r g) (hg : Gl X x) (hm : X.mg x = none) (hv : bootBuiltins x = some (.builtin bid)) (ha : PA3 K X (e :: es) f) (hn : x ≠ "__name__" := by decide) (hdb : (x == ("__debug__" : Str)) = false := by decide)
    (he : starEach (e :: es) X.env = (false, eval e X.env) :: starEach es X.env := by rfl) (hpl : (backTo pos (starEach es X.env)).any (·.1) = false := by rfl) : PE3 K X (.Call (.Name x pp) (e :: es) [] pos) (eB g f) := ⟨pe_imp (pe_callB hc hg hm hv ha.p hn hdb he hpl) fun _ _ _ h => eb_imp ok h⟩
theorem e_cT {g : GC} (hc : CallR X (.type T) r) (ok : CkOk K r g) (hg : Gl X x) (hm : X.mg x = none) (hv : bootBuiltins x = some (.type T)) (ha : PA3 K X (e :: es) f) (hn : x ≠ "__name__" := by decide) (hdb : (x == ("__debug__" : Str)) = false := by decide)
    (he : starEach (e :: es) X.env = (false, eval e X.env) :: starEach es X.env := by rfl) (hpl : (backTo pos (starEach es X.env)).any (·.1) = false := by rfl) : PE3 K X (.Call (.Name x pp) (e :: es) [] pos) (eB g f) := ⟨pe_imp (pe_callTy hc hg hm hv ha.p hn hdb he hpl) fun _ _ _ h => eb_imp ok h⟩
theorem n_cB {g : List MO → List W3 → Option (List PyData)} (hc : CallR X (.builtin bid) r) (ok : NkOk K r g) (hg : Gl X x) (hm : X.mg x = none) (hv : bootBuiltins x = some (.builtin bid)) (ha : PA3 K X (e :: es) f) (hn : x ≠ "__name__" := by decide) (hdb : (x == ("__debug__" : Str)) = false := by decide)
    (he : starEach (e :: es) X.env = (false, eval e X.env) :: starEach es X.env := by rfl) (hpl : (backTo pos (starEach es X.env)).any (·.1) = false := by rfl) : PN3 K X (.Call (.Name x pp) (e :: es) [] pos) (nB g f) := ⟨pe_imp (pe_callB hc hg hm hv ha.p hn hdb he hpl) fun _ _ _ h => nb_imp ok h⟩
theorem n_cT {g : List MO → List W3 → Option (List PyData)} (hc : CallR X (.type T) r) (ok : NkOk K r g) (hg : Gl X x) (hm : X.mg x = none) (hv : bootBuiltins x = some (.type T)) (ha : PA3 K X (e :: es) f) (hn : x ≠ "__name__" := by decide) (hdb : (x == ("__debug__" : Str)) = false := by decide)
    (he : starEach (e :: es) X.env = (false, eval e X.env) :: starEach es X.env := by rfl) (hpl : (backTo pos (starEach es X.env)).any (·.1) = false := by rfl) : PN3 K X (.Call (.Name x pp) (e :: es) [] pos) (nB g f) := ⟨pe_imp (pe_callTy hc hg hm hv ha.p hn hdb he hpl) fun _ _ _ h => nb_imp ok h⟩

def g1 (g : PyData → Option PyData) : GC := fun S ws => match ws with
  | [w] => (view S w).bind g
  | _ => none
theorem ck1 {r : List V → Hp → VK → Prop} {g : PyData → Option PyData} (h : ∀ (A : Wd) (S : List MO) (v : V) (x d : PyData) (Q : VK), Rl K A S → Dp K A.H v x → g x = some d → (∀ B v, Nx A B → Rl K B S → Da K B.G v d → Q v B.H) → r [v] A.H Q) : CkOk K r (g1 g) := by
  intro A S ws vs d Q R rs e q
  unfold g1 at e
  split at e
  · obtain ⟨x, e1, e2⟩ := Option.bind_eq_some_iff.mp e
    cases rs with
    | cons rv rr =>
      cases rr
      exact h A S _ x d Q R (view_dp R rv e1) e2 q
  · cases e
/-- len, also of a dict -/
def gLen : GC := fun S ws => match ws with
  | [w] => match view S w with
    | some (.list xs) => some (.int (xs.length : Nat))
    | some (.tuple xs) => some (.int (xs.length : Nat))
    | some (.str x) => if x.length ≤ 100000 then some (.int (x.length : Nat)) else none
    | _ => none
  | _ => none
theorem ck_len : CkOk K (rLen K) gLen := by
  intro A S ws vs d Q R rs e q
  unfold gLen at e
  split at e
  · rename_i w
    cases rs with
    | cons rv rr =>
      cases rr
      split at e
      · rename_i xs hx
        cases e
        obtain ⟨a, us, rfl, h1, _, hd⟩ := view_list R rv hx
        exact ⟨_, us.length, rfl, .inl ⟨us, h1, rfl⟩, by rw [hd.len]; exact q A _ (Nx.refl A) R (Da.int _)⟩
      · rename_i xs hx
        cases e
        obtain ⟨a, us, rfl, h1, hd⟩ := view_tup R rv hx
        exact ⟨_, us.length, rfl, .inr ⟨us, h1, rfl⟩, by rw [hd.len]; exact q A _ (Nx.refl A) R (Da.int _)⟩
      · rename_i y hy
        by_cases h : y.length ≤ 100000
        · rw [if_pos h] at e
          cases e
          have dz := view_dp R rv hy
          cases dz
          exact ⟨_, y.length, rfl, ⟨lineD h, rfl⟩, q A _ (Nx.refl A) R (Da.int _)⟩
        · rw [if_neg h] at e; cases e
      · cases e
  · cases e
def intD : PyData → Option PyData
  | .int i => some (.int i)
  | .bool b => some (.int (if b then 1 else 0))
  | _ => none
def rInt1 : List V → Hp → VK → Prop := fun xs H Q => (∃ i, xs = [.int i] ∧ Q (.int i) H) ∨ ∃ k, xs = [.bl k] ∧ Q (.int (if k then 1 else 0)) H
theorem ck_int : CkOk K rInt1 (g1 intD) := ck1 fun A S v x d Q R h e q => by
  cases h with
  | int i => cases e; exact .inl ⟨i, rfl, q A _ (Nx.refl A) R (Da.int _)⟩
  | bl b => cases e; exact .inr ⟨b, rfl, q A _ (Nx.refl A) R (Da.int _)⟩
  | _ => cases e
def absD : PyData → Option PyData
  | .int i => some (.int (if i < 0 then -i else i))
  | _ => none
def rAbs : List V → Hp → VK → Prop := fun xs H Q => ∃ i, xs = [.int i] ∧ Q (.int (if i < 0 then -i else i)) H
theorem ck_abs : CkOk K rAbs (g1 absD) := ck1 fun A S v x d Q R h e q => by
  cases h with
  | int i => cases e; exact ⟨i, rfl, q A _ (Nx.refl A) R (Da.int _)⟩
  | _ => cases e
def strD : PyData → Option PyData
  | .int i => if i.natAbs.log2 < 1920 then some (.str (toString i)) else none
  | _ => none
def rStrI : List V → Hp → VK → Prop := fun xs H Q => ∃ i, xs = [.int i] ∧ i.natAbs.log2 < 1920 ∧ Q (.str (toString i)) H
theorem ck_str : CkOk K rStrI (g1 strD) := ck1 fun A S v x d Q R h e q => by
  cases h with
  | int i =>
    unfold strD at e
    dsimp only at e
    by_cases z : i.natAbs.log2 < 1920
    · rw [if_pos z] at e; cases e; exact ⟨i, rfl, z, q A _ (Nx.refl A) R (Da.str _)⟩
    · rw [if_neg z] at e; cases e
  | _ => cases e
/-- isinstance(x, T), T a builtin type -/
def gIsi : GC := fun S ws => match ws with
  | [w, .ty c] => (view S w).bind fun x => (kitB (tyN x) c).map .bool
  | _ => none
theorem tyX_dp {H : Hp} {v : V} {d : PyData} (h : Dp K H v d) : TyX K H v (.type (tyN d)) := by
  cases h with
  | non => exact .base .non
  | bl b => exact .base (.bl b)
  | int i => exact .base (.int i)
  | str x => exact .base (.str x)
  | lst h _ =>
    rcases h with (h | ⟨o, h⟩) | ⟨o, its, n, h, c, _⟩
    · exact .base (.lst h)
    · exact .base (.frz h)
    · exact .kList h c
  | tup h _ =>
    rcases h with (h | ⟨o, h⟩) | ⟨o, its, n, h, c, _⟩
    · exact .base (.tup h)
    · exact .fTuple h
    · exact .kTuple h c
theorem ck_isi : CkOk K (rIsi K) gIsi := by
  intro A S ws vs d Q R rs e q
  unfold gIsi at e
  split at e
  · rename_i w c
    cases rs with
    | cons rv rr =>
      cases rr with
      | cons rc rr =>
        cases rr
        obtain ⟨x, e1, e2⟩ := Option.bind_eq_some_iff.mp e
        obtain ⟨b, e3, e4⟩ := Option.map_eq_some_iff.mp e2
        subst e4
        obtain rfl := (rc : _ = V.ty c)
        exact ⟨_, .ty c, .type (tyN x), .type c, b, rfl, .ty c, tyX_dp (view_dp R rv e1), kit_ty e3, q A _ (Nx.refl A) R (Da.bl _)⟩
  · cases e
/-- tuple(xs), list(xs) -/
def gTupOf : GC := fun S ws => match ws with
  | [w] => match view S w with
    | some (.list xs) => some (.tuple xs)
    | some (.tuple xs) => some (.tuple xs)
    | _ => none
  | _ => none
theorem ck_tupOf : CkOk K (rTupOf K) gTupOf := by
  intro A S ws vs d Q R rs e q
  unfold gTupOf at e
  split at e
  · rename_i w
    cases rs with
    | cons rv rr =>
      cases rr
      split at e
      · rename_i xs hx
        cases e
        obtain ⟨a, us, rfl, h1, _, hd⟩ := view_list R rv hx
        exact ⟨a, us, rfl, .inl ⟨h1, tup_of R hd q⟩⟩
      · rename_i xs hx
        cases e
        obtain ⟨a, us, rfl, h1, hd⟩ := view_tup R rv hx
        refine ⟨a, us, rfl, .inr ⟨h1, ?_⟩⟩
        cases w with
        | d y => cases hx; exact q A _ (Nx.refl A) R rv
        | r i =>
          unfold view at hx
          dsimp only at hx
          cases o : S[i]? with
          | none => rw [o] at hx; cases hx
          | some m => rw [o] at hx; cases m <;> cases hx
        | sc _ => cases hx
        | ty _ => cases hx
      · cases e
  · cases e
def gSeq (S : List MO) (ws : List W3) : Option (List PyData) := match ws with
  | [w] => match view S w with
    | some (.list xs) => some xs
    | some (.tuple xs) => some xs
    | _ => none
  | _ => none
theorem nk_list : NkOk K (rListOf K) gSeq := by
  intro A S ws vs d Q R rs e q
  unfold gSeq at e
  split at e
  · rename_i w
    cases rs with
    | cons rv rr =>
      cases rr
      split at e
      · rename_i xs hx
        cases e
        obtain ⟨a, us, rfl, h1, _, hd⟩ := view_list R rv hx
        exact ⟨a, us, rfl, .inl h1, new_of R hd q⟩
      · rename_i xs hx
        cases e
        obtain ⟨a, us, rfl, h1, hd⟩ := view_tup R rv hx
        exact ⟨a, us, rfl, .inr h1, new_of R hd q⟩
      · cases e
  · cases e
/-- sorted(xs) of a list -/
def rSortD (K : PySem.W.Frag) : List V → Hp → VK → Prop := fun vs H Q => ∃ (G : Hp) (a : Addr) (xs : List V) (ds : List PyData), vs = [V.ref a] ∧ SqL K H a xs ∧ Same G H ∧ DaA K G xs ds ∧ W.AllAlike ds ∧ (2 ≤ ds.length → W.Sortable ds) ∧ (∀ d ∈ ds, d.depth ≤ 40) ∧
  ∀ ys p, DaA K G ys (ds.mergeSort (W.dataLe false id)) → H p = none → Q (.ref p) (upd H p (.lst ys))
theorem each_daa {G : Hp} : ∀ {xs : List V} {us : List Value} {ds : List PyData}, Vals xs us → DaA K G xs ds → W.EachIs (fun v d => ∃ x : V, RelV x v ∧ Da K G x d) us ds
  | _, _, _, .nil, .nil => .nil
  | _, _, _, .cons r rs, .cons d hd => .cons ⟨_, r, d⟩ (each_daa rs hd)
theorem daa_each {G : Hp} : ∀ {us : List Value} {ds : List PyData}, W.EachIs (fun v d => ∃ x : V, RelV x v ∧ Da K G x d) us ds → ∃ xs, Vals xs us ∧ DaA K G xs ds
  | _, _, .nil => ⟨[], .nil, .nil⟩
  | _, _, .cons ⟨x, r, d⟩ h => by
    obtain ⟨xs, a, b⟩ := daa_each h
    exact ⟨x :: xs, .cons r a, .cons d b⟩
theorem cr_sortD (hu : X.A.units + 64 < cLine) : CallR X (.builtin "sorted") (rSortD X.K) := by
  intro pins s σ H vs us Q I r h
  obtain ⟨G, a, xs, ds, rfl, ha, sm, hx, hal, hk, hdp, q⟩ := h
  obtain ⟨its, rv, hl, hz⟩ := I.list ha
  obtain ⟨u, rfl, ru⟩ := vals1 r
  obtain rfl : u = Value.ref a := ru
  have hz' : its.length ≤ sizeLine := by rw [← rv.length]; exact hz
  have e0 := each_daa rv hx
  have fin : ∀ out : List Value, out.length = its.length → W.EachIs (fun v d => ∃ x : V, RelV x v ∧ Da X.K G x d) out (ds.mergeSort (W.dataLe false id)) →
      EP X pins σ Q (.ref (s.heap.objs.size + 1)) { s with heap := sortedAll s.heap its out.toArray } := by
    intro out ho eo
    obtain ⟨ys, rys, dys⟩ := daa_each eo
    obtain ⟨n, hn⟩ := sortedAll_at s.heap its out.toArray
    refine ⟨.ref (s.heap.objs.size + 1), upd H (s.heap.objs.size + 1) (.lst ys), I.laid (t' := s.toks) (fun b o e => sortedAll_old e) (Nat.le_succ _) ⟨?_, out, n, rys, hn⟩, rfl, q _ _ dys (I.hok.fresh (Nat.le_succ _))⟩
    rw [rys.length, ho]
    exact hz'
  by_cases h2 : 2 ≤ ds.length
  · refine W.sorted_data (s := s) (vs := its) (bs := ds) (enc := id) hl.isList e0 (e0.mono fun v d ⟨x, rx, dx⟩ => Dp.reads I d x v (Da.dp (dx.up sm)) rx) (by rw [List.map_id]; exact hal) (by rw [List.map_id]; exact hk h2) (by rw [← e0.length]; exact hz') (fun d hd => ?_) fun out ho eo => fin out (ho.trans e0.length.symm) eo
    exact Nat.lt_of_le_of_lt (Nat.add_le_add (Nat.le_refl (X.A.units + 2)) (hdp d hd)) (Nat.lt_of_le_of_lt (Nat.le_trans (Nat.le_of_eq (Nat.add_assoc _ 2 40)) (Nat.add_le_add_left (by decide) _)) hu)
  · have hl2 : its.length < 2 := by rw [e0.length]; omega
    refine SrtO.sorted_ord (s := s) (vs := its) swo_no hl.isList hz' (fun h => absurd h (by omega)) fun out h1 hb => ?_
    have eo : out = its := perm_short hl2 hb.perm
    have es : ds.mergeSort (W.dataLe false id) = ds := sort_short _ h2
    refine fin out (by rw [eo]) ?_
    rw [es, eo]
    exact e0
open Classical in
noncomputable def sortD (ds : List PyData) : Option (List PyData) := if W.AllAlike ds ∧ (2 ≤ ds.length → W.Sortable ds) ∧ (∀ d ∈ ds, d.depth ≤ 40) then some (ds.mergeSort (W.dataLe false id)) else none
noncomputable def gSorted (S : List MO) (ws : List W3) : Option (List PyData) := match ws with
  | [w] => match view S w with
    | some (.list xs) => sortD xs
    | _ => none
  | _ => none
theorem nk_sorted : NkOk K (rSortD K) gSorted := by
  intro A S ws vs d Q R rs e q
  unfold gSorted at e
  split at e
  · rename_i w
    cases rs with
    | cons rv rr =>
      cases rr
      split at e
      · rename_i xs hx
        obtain ⟨a, us, rfl, h1, _, hd⟩ := view_list R rv hx
        unfold sortD at e
        by_cases z : W.AllAlike xs ∧ (2 ≤ xs.length → W.Sortable xs) ∧ (∀ d ∈ xs, d.depth ≤ 40)
        · rw [if_pos z] at e
          cases e
          exact ⟨A.G, a, us, xs, rfl, h1, R.gh, hd, z.1, z.2.1, z.2.2, fun ys p hy hp => new_of R hy q p hp⟩
        · rw [if_neg z] at e; cases e
      · cases e
  · cases e
/-- two numbers or texts: the lesser, the greater -/
def gMin2 : GC := fun S ws => match ws with
  | [.d (.int i), .d (.int j)] => some (.int (if j < i then j else i))
  | [.d (.str i), .d (.str j)] => some (.str (if j.cps.toList < i.cps.toList then j else i))
  | _ => none
theorem ck_min2 : CkOk K rMin2 gMin2 := by
  intro A S ws vs d Q R rs e q
  unfold gMin2 at e
  split at e
  · cases e
    cases rs with
    | cons r1 rr =>
      cases rr with
      | cons r2 rr =>
        cases rr
        cases Da.int_inv r1
        cases Da.int_inv r2
        exact .inl ⟨_, _, rfl, q A _ (Nx.refl A) R (Da.int _)⟩
  · cases e
    cases rs with
    | cons r1 rr =>
      cases rr with
      | cons r2 rr =>
        cases rr
        cases Da.str_inv r1
        cases Da.str_inv r2
        exact .inr ⟨_, _, rfl, q A _ (Nx.refl A) R (Da.str _)⟩
  · cases e
def rMax2 : List V → Hp → VK → Prop := fun xs H Q => ∃ i j, xs = [.int i, .int j] ∧ Q (.int (if j > i then j else i)) H
def gMax2 : GC := fun S ws => match ws with
  | [.d (.int i), .d (.int j)] => some (.int (if j > i then j else i))
  | _ => none
theorem ck_max2 : CkOk K rMax2 gMax2 := by
  intro A S ws vs d Q R rs e q
  unfold gMax2 at e
  split at e
  · cases e
    cases rs with
    | cons r1 rr =>
      cases rr with
      | cons r2 rr =>
        cases rr
        cases Da.int_inv r1
        cases Da.int_inv r2
        exact ⟨_, _, rfl, q A _ (Nx.refl A) R (Da.int _)⟩
  · cases e
/-- any, all of a list of truths -/
def boolsOf : List PyData → Option (List Bool)
  | [] => some []
  | .bool b :: r => (boolsOf r).map (b :: ·)
  | _ :: _ => none
theorem boolsOf_eq : ∀ {ds : List PyData} {bs : List Bool}, boolsOf ds = some bs → ds = bs.map .bool
  | [], _, e => by cases e; rfl
  | .bool b :: r, _, e => by
    obtain ⟨bs, e1, rfl⟩ := Option.map_eq_some_iff.mp (show (boolsOf r).map (b :: ·) = some _ from e)
    rw [boolsOf_eq e1]; rfl
  | .none :: _, _, e => by cases e
  | .int _ :: _, _, e => by cases e
  | .str _ :: _, _, e => by cases e
  | .list _ :: _, _, e => by cases e
  | .tuple _ :: _, _, e => by cases e
  | .dict _ :: _, _, e => by cases e
theorem boolsOf_map : ∀ bs : List Bool, boolsOf (bs.map .bool) = some bs
  | [] => rfl
  | b :: r => by
    show (boolsOf (r.map .bool)).map (b :: ·) = _
    rw [boolsOf_map r]; rfl
def anyD (f : List Bool → Bool) : PyData → Option PyData
  | .list xs => (boolsOf xs).map fun bs => .bool (f bs)
  | _ => none
theorem dp_bls {H : Hp} : ∀ {bs : List Bool} {vs : List V}, DpAll K H vs (bs.map PyData.bool) → vs = bs.map V.bl
  | [], _, .nil => rfl
  | _ :: _, _, .cons (.bl _) t => by rw [List.map_cons, dp_bls t]
theorem ck_any : CkOk K (EA.rAny K) (g1 (anyD fun bs => bs.any id)) := ck1 fun A S v x d Q R h e q => by
  cases h with
  | lst h1 h2 =>
    obtain ⟨bs, e1, rfl⟩ := Option.map_eq_some_iff.mp (show (boolsOf _).map (fun bs => PyData.bool (bs.any id)) = some d from e)
    have eb := boolsOf_eq e1
    subst eb
    have hv := dp_bls h2
    subst hv
    exact ⟨_, bs, rfl, h1, q A _ (Nx.refl A) R (Da.bl _)⟩
  | _ => cases e
theorem ck_all : CkOk K (EA.rAll K) (g1 (anyD fun bs => bs.all id)) := ck1 fun A S v x d Q R h e q => by
  cases h with
  | lst h1 h2 =>
    obtain ⟨bs, e1, rfl⟩ := Option.map_eq_some_iff.mp (show (boolsOf _).map (fun bs => PyData.bool (bs.all id)) = some d from e)
    have eb := boolsOf_eq e1
    subst eb
    have hv := dp_bls h2
    subst hv
    exact ⟨_, bs, rfl, h1, q A _ (Nx.refl A) R (Da.bl _)⟩
  | _ => cases e
end
end EA
namespace EA
open PySem PySem.Spec PyProof.Rows L2

/-! ### defs -/
def sp3 (K : PySem.W.Frag) (f : F3) : Sp := fun vs H Q _ => ∃ (A : Wd) (S : List MO) (ws : List W3) (w : W3) (S' : List MO), A.H = H ∧ Rl K A S ∧ RWs K A vs ws ∧ f ws S = some (w, S') ∧ ∀ B v, Nx A B → Rl K B S' → RW K B v w → Q v B.H
def eCall (f : F3) (a : FA) : FE := fun sl S => (a sl S).bind fun p => f p.1 p.2
/-- with written defaults behind the arguments -/
def eCallD (f : F3) (a : FA) (ds : List PyData) : FE := fun sl S => (a sl S).bind fun p => f (p.1 ++ ds.map .d) p.2
/-- what a body's end comes to: own: a list made here is handed on as a changeable object -/
def ret3 (own : Bool) (n0 : Nat) : Out → Option (W3 × List MO)
  | .nx _ S => some (.d .none, S.take n0)
  | .rt (.d x) S => some (.d x, S.take n0)
  | .rt (.r i) S => if i < n0 then some (.r i, S.take n0) else match S[i]? with
    | some (.lst xs) => if own = true then some (.r n0, S.take n0 ++ [.lst xs]) else some (.d (.list xs), S.take n0)
    | some (.dic ks) => if own = true then some (.r n0, S.take n0 ++ [.dic ks]) else none
    | _ => none
  | _ => none
def fdef (own : Bool) (np nl : Nat) (body : FS) : F3 := fun ws S => if ws.length = np then (body (ws.map some ++ List.replicate nl none) S).bind (ret3 own S.length) else none
section
variable {K : PySem.W.Frag} {X : Cx} {a b e : Expr} {fa fb : FE} {pos p2 : Pos} {es : List Expr}
theorem e_call {k : Nat} {f : Addr} {fd : FuncData} {ps : List Str} {x : Str} {p : Pos} {f3 : F3} {fa : FA} (hK : X.K = K) (F : FnOk X.prog X.w X.K X.mg X.base CX0 k f fd ps (sp3 K f3)) (hr : Room k X.A) (hg : Gl X x) (hm : X.mg x = some (.ref f)) (hk : PySem.W.keepIn X.K (.ref f) = true) (hb : Binds X.K fd ps [])
    (ha : PA3 K X (e :: es) fa) (hdb : (x == ("__debug__" : Str)) = false := by decide) (he : starEach (e :: es) X.env = (false, eval e X.env) :: starEach es X.env := by rfl) (hpl : (backTo pos (starEach es X.env)).any (·.1) = false := by rfl) :
    PE3 K X (.Call (.Name x p) (e :: es) [] pos) (eCall f3 fa) := ⟨pe_imp (pe_call (dvs := []) F hr hg hm hk hb .nil pass0 ha.p hdb he hpl) fun σ H Q h => by
  obtain ⟨A, S, sl, w, S', rfl, R, s, e, q⟩ := h
  obtain ⟨⟨w1, S1⟩, e1, e⟩ := Option.bind_eq_some_iff.mp e
  refine ⟨A, S, sl, w1, S1, rfl, R, s, e1, fun B vs n R1 r1 => ⟨B, S1, w1, w, S', rfl, R1, by rw [List.append_nil]; exact r1, e, fun C v n2 R2 r2 => q C v (n.trans n2) R2 r2⟩⟩⟩
theorem e_callD {k : Nat} {f : Addr} {fd : FuncData} {ps : List Str} {x : Str} {p : Pos} {f3 : F3} {fa : FA} {dvs : List V} {dus : List Value} {ds : List PyData} (hK : X.K = K) (F : FnOk X.prog X.w X.K X.mg X.base CX0 k f fd ps (sp3 K f3)) (hr : Room k X.A) (hg : Gl X x) (hm : X.mg x = some (.ref f)) (hk : PySem.W.keepIn X.K (.ref f) = true) (hb : Binds X.K fd ps dus) (hd : Vals dvs dus) (hds : ∀ G, DaA K G dvs ds)
    (ha : PA3 K X (e :: es) fa) (hdb : (x == ("__debug__" : Str)) = false := by decide) (he : starEach (e :: es) X.env = (false, eval e X.env) :: starEach es X.env := by rfl) (hpl : (backTo pos (starEach es X.env)).any (·.1) = false := by rfl) :
    PE3 K X (.Call (.Name x p) (e :: es) [] pos) (eCallD f3 fa ds) := ⟨pe_imp (pe_call F hr hg hm hk hb hd pass0 ha.p hdb he hpl) fun σ H Q h => by
  obtain ⟨A, S, sl, w, S', rfl, R, s, e, q⟩ := h
  obtain ⟨⟨w1, S1⟩, e1, e⟩ := Option.bind_eq_some_iff.mp e
  refine ⟨A, S, sl, w1, S1, rfl, R, s, e1, fun B vs n R1 r1 => ⟨B, S1, w1 ++ ds.map .d, w, S', rfl, R1, r1.app (RWs.of (hds B.G)), e, fun C v n2 R2 r2 => q C v (n.trans n2) R2 r2⟩⟩⟩
theorem sr3_start {A : Wd} {vs : List V} {ws : List W3} (h : RWs K A vs ws) (n : Nat) : SR3 K A (vs.map some ++ List.replicate n none) (ws.map some ++ List.replicate n none) := by
  refine ⟨by rw [List.length_append, List.length_append, List.length_map, List.length_map, h.len, List.length_replicate, List.length_replicate], fun i w e => ?_⟩
  by_cases hi : i < ws.length
  · rw [List.getElem?_append_left (by rw [List.length_map]; exact hi), List.getElem?_map] at e
    rw [List.getElem?_append_left (by rw [List.length_map, h.len]; exact hi), List.getElem?_map]
    clear hi
    induction h generalizing i with
    | nil => simp at e
    | @cons v w' vs ws hv t ih =>
      cases i with
      | zero => simp at e; subst e; exact ⟨v, rfl, hv⟩
      | succ i => exact ih i (by simpa using e)
  · rw [List.getElem?_append_right (by rw [List.length_map]; omega), List.getElem?_replicate] at e
    split at e <;> cases e
theorem rw_cut {A B : Wd} {v : V} {j : Nat} (pre : A.ι <+: B.ι) (hj : j < A.ι.length) (r : RW K B v (.r j)) : RW K ⟨B.G, B.H, A.ι⟩ v (.r j) := by
  obtain ⟨a, h1, h2⟩ := r
  refine ⟨a, ?_, h2⟩
  show A.ι[j]? = some a
  obtain ⟨t, ht⟩ := pre
  rw [← ht, List.getElem?_append_left hj] at h1
  exact h1
theorem ret_nx {own : Bool} {A : Wd} {S : List MO} (R : Rl K A S) {o : Out} {w : W3} {S' : List MO} (e : ret3 own S.length o = some (w, S')) {Q : VK} (q : ∀ B v, Nx A B → Rl K B S' → RW K B v w → Q v B.H) :
    EndsOk K A { nx := fun _ H' => Q .non H', rt := Q } o := by
  have len := R.len
  cases o with
  | nx sl S1 =>
    cases e
    intro B σ' n R1 _
    obtain ⟨n2, R2⟩ := Nx.cut n R1
    rw [len] at R2
    exact q ⟨B.G, B.H, A.ι⟩ _ n2 R2 Da.non
  | bk _ _ => cases e
  | ct _ _ => cases e
  | rt u S1 =>
    intro B v n R1 r
    obtain ⟨n2, R2⟩ := Nx.cut n R1
    rw [len] at R2
    cases u with
    | ty _ => cases e
    | sc _ => cases e
    | d x =>
      cases e
      exact q ⟨B.G, B.H, A.ι⟩ _ n2 R2 r
    | r i =>
      have e : (if i < S.length then some (W3.r i, S1.take S.length) else match S1[i]? with
        | some (.lst xs) => if own = true then some (W3.r S.length, S1.take S.length ++ [.lst xs]) else some (.d (.list xs), S1.take S.length)
        | some (.dic ks) => if own = true then some (.r S.length, S1.take S.length ++ [.dic ks]) else none
        | _ => none) = some (w, S') := e
      by_cases hi : i < S.length
      · rw [if_pos hi] at e
        cases e
        exact q ⟨B.G, B.H, A.ι⟩ _ n2 R2 (rw_cut n.pre (by rw [len]; exact hi) r)
      · rw [if_neg hi] at e
        obtain ⟨p, hp, rfl⟩ := r
        have np : p ∉ A.ι := fun z => by
          obtain ⟨j, hj, ej⟩ := List.getElem_of_mem z
          have : A.ι[j]? = some p := by rw [List.getElem?_eq_getElem hj, ej]
          have := nodup_at R1.nd hp (ix_pre n.pre this)
          rw [len] at hj; omega
        have fp : A.H p = none := (n.fr p (List.mem_of_getElem? hp)).elim (fun z => absurd z np) id
        have lst : ∀ o, OR K B p o → Q (.ref p) B.H ∨ True := fun _ _ => .inr trivial
        cases o : S1[i]? with
        | none => rw [o] at e; cases e
        | some m =>
          rw [o] at e
          have ob := R1.ob i m p o hp
          have owned : ∀ m', OR K B p m' → w = .r S.length → S' = S1.take S.length ++ [m'] → Q (.ref p) B.H := fun m' ob ew es => by
            subst ew es
            obtain ⟨n3, R3⟩ := Nx.own0 (B := ⟨B.G, B.H, A.ι⟩) (o := m') n2 R2 fp np (ob.keep (Same.refl _) (fun g => g) fun u h => h)
            have l2 : A.ι.length = (S1.take S.length).length := R2.len
            have r3 : RW K ⟨B.G, B.H, A.ι ++ [p]⟩ (.ref p) (.r (S1.take S.length).length) := RW.last (B := ⟨B.G, B.H, A.ι⟩) l2
            rw [← l2, len] at r3
            exact q ⟨B.G, B.H, A.ι ++ [p]⟩ _ n3 R3 r3
          cases m with
          | gone => cases e
          | dic ks =>
            dsimp only at e
            by_cases ho : own = true
            · rw [if_pos ho] at e
              cases e
              exact owned _ ob rfl rfl
            · rw [if_neg ho] at e; cases e
          | lst xs =>
            dsimp only at e
            by_cases ho : own = true
            · rw [if_pos ho] at e
              cases e
              exact owned _ ob rfl rfl
            · rw [if_neg ho] at e
              cases e
              obtain ⟨g, vs, hh, hd⟩ := ob
              obtain ⟨n3, R3⟩ := Nx.fix (B := ⟨B.G, B.H, A.ι⟩) n2 R2 fp np g hh
              exact q ⟨upd B.G p (.lst vs), B.H, A.ι⟩ _ n3 R3 (Da.lst upd_same (hd.up (fun b u e => by
                show upd B.G p _ b = _
                rw [upd_ne (ne_of_none e g)]; exact e)))
/-- THE RULE for a def -/
theorem fn3 {P : Program} {w : World} {mg : Str → Option Value} {base : Heap} {x qual : Str} {st : Stmt} {f : Addr} {fd : FuncData} {N ps : List Str} {k np nl : Nat} {own : Bool} {body : FS} (F : Fun K x qual st f fd) (S : FnScope N ps (defScope st)) (hnp : ps.length = np) (hnl : N.length = np + nl)
    (hb : ∀ (cdv : Value) (A : Around) (outer : List Env) (s : Shared) (H : Hp) (E : XK), Room k (A.deeper (envOfC qual (defScope st) s.heap.objs.size f cdv)) → PSs3 K (cxOf CX0 P w K mg base N qual (defScope st) f cdv A outer s H E).nox (defBody st) body) : FnOk P w K mg base CX0 (k + 1) f fd ps (sp3 K (fdef own np nl body)) := by
  have arity : ∀ {ws : List W3} {S0 : List MO} {r}, fdef own np nl body ws S0 = some r → ws.length = np ∧ (body (ws.map some ++ List.replicate nl none) S0).bind (ret3 own S0.length) = some r := fun {ws S0 r} e => by
    unfold fdef at e
    by_cases z : ws.length = np
    · rw [if_pos z] at e; exact ⟨z, e⟩
    · rw [if_neg z] at e; cases e
  refine F.ok S (fun vs H Q E h => ?_) fun cdv A outer s H vs Q E hr h => ?_
  · obtain ⟨A, S0, ws, w, S', _, _, r, e, _⟩ := h
    rw [r.len, (arity e).1, hnp]
  · obtain ⟨B, S0, ws, w, S', rfl, R, r, e, q⟩ := h
    obtain ⟨hl, e⟩ := arity e
    obtain ⟨o, e1, e2⟩ := Option.bind_eq_some_iff.mp e
    refine ⟨_, (hb cdv A outer s B.H E hr).p, B, S0, _, o, rfl, R, ?_, e1, ret_nx R e2 q⟩
    have z := sr3_start r nl
    have ez : N.length - vs.length = nl := by rw [r.len, hl]; omega
    unfold L2.start
    rw [ez]; exact z

/-! ### comprehensions -/
theorem n_lc {elt tg iter : Expr} {ifs : List Expr} {scope : Scope} {own : List (Str × Nat)} {vs ws : List Nat} {it : FI} {g : FG} {t : FT} {f : FE} (hc : X.calm = true) (hN : X.N.Nodup) (hi : PI3 K X tg iter it) (ok : BlkOk X.N X.env.scope scope own) (hv : own.map (·.2) = vs) (hw : ∀ j ∈ ws, j ∈ vs)
    (hg : ∀ (s : Shared) (H : Hp) (C : Addr) (cl : List (Str × Addr)) (fp : List Addr), PG3 K (X.blk s H scope (compEnvC scope cl C X.env) fp) tg ws g) (ht : ∀ (s : Shared) (H : Hp) (C : Addr) (cl : List (Str × Addr)) (fp : List Addr), PTs3 K (X.blk s H scope (compEnvC scope cl C X.env) fp) ifs t)
    (he : ∀ (s : Shared) (H : Hp) (C : Addr) (cl : List (Str × Addr)) (fp : List Addr), PE3 K (X.blk s H scope (compEnvC scope cl C X.env) fp) elt f) (hs : ∀ x, foldedSetIterable iter X.env x = pure x := by intro _; rfl) :
    PN3 K X (.ListComp elt [⟨tg, iter, ifs, 0⟩] scope pos) (nLc vs it g t f) := ⟨pe_imp (pe_lc hc hN hi.p ok (fun s H C cl fp => (hg s H C cl fp).p) (fun s H C cl fp => (ht s H C cl fp).p) (fun s H C cl fp => (he s H C cl fp).p) hs) fun _ _ _ h => by rw [hv]; exact lc_go hw h⟩
theorem nd_imp {f : FN} {σ : L2.St} {H : Hp} {Q : VK} (h : teO K (eNd f) σ H Q) : tnO K f σ H Q := by
  obtain ⟨A, S, sl, w, S', rfl, R, s, e, q⟩ := h
  obtain ⟨⟨w1, S1⟩, e1, e2⟩ := Option.map_eq_some_iff.mp e
  cases e2
  refine ⟨A, S, sl, w1, _, rfl, R, s, e1, fun B vs p n R' np ni g hh hd => ?_⟩
  obtain ⟨n2, R2⟩ := Nx.fix n R' np ni g hh
  exact q ⟨upd B.G p (.lst vs), B.H, B.ι⟩ _ n2 R2 (Da.lst upd_same (hd.up (fun b u e => by
    show upd B.G p _ b = _
    rw [upd_ne (ne_of_none e g)]; exact e)))
theorem no_imp {f : FN} {σ : L2.St} {H : Hp} {Q : VK} (h : teO K (eNo f) σ H Q) : tnO K f σ H Q := by
  obtain ⟨A, S, sl, w, S', rfl, R, s, e, q⟩ := h
  obtain ⟨⟨w1, S1⟩, e1, e2⟩ := Option.map_eq_some_iff.mp e
  cases e2
  refine ⟨A, S, sl, w1, _, rfl, R, s, e1, fun B vs p n R' np ni g hh hd => ?_⟩
  obtain ⟨n2, R2⟩ := Nx.own0 (o := .lst w1) n R' np ni ⟨g, vs, hh, hd⟩
  exact q ⟨B.G, B.H, B.ι ++ [p]⟩ _ n2 R2 (RW.last R'.len)
theorem set_imp {i : Nat} {f : FE} {D : Ends} {σ : L2.St} {H : Hp} (h : tsO K (sSet i f) D σ H) : teO K f σ H fun x H1 => D.nx (σ.set i (some x)) H1 := by
  obtain ⟨A, S, sl, o, rfl, R, s, e, q⟩ := h
  obtain ⟨⟨w1, S1⟩, e1, e2⟩ := Option.map_eq_some_iff.mp e
  cases e2
  exact ⟨A, S, sl, w1, S1, rfl, R, s, e1, fun B v n R' r => q B _ n R' ((s.mono n).set i r)⟩
/-- name = [..] on one line, the name a local: as data (eNd), as its own (eNo) -/
theorem s_setLc {i : Nat} {y : Str} {py spos : Pos} {elt tg iter : Expr} {ifs : List Expr} {scope : Scope} {own : List (Str × Nat)} {vs ws : List Nat} {it : FI} {g : FG} {t : FT} {f : FE} (w : FN → FE) (hwrap : w = eNd ∨ w = eNo) (hc : X.calm = true) (hN : X.N.Nodup) (hy : X.N[i]? = some y) (hyl : X.env.scope.names.lookup y = some .local)
    (hsw : swapsWith (.ListComp elt [⟨tg, iter, ifs, 0⟩] scope pos) (some (.Name y py)) spos.line X.env = pure true) (hi : PI3 K X tg iter it) (ok : BlkOk X.N X.env.scope scope own) (hv : own.map (·.2) = vs) (hw : ∀ j ∈ ws, j ∈ vs)
    (hg : ∀ (s : Shared) (H : Hp) (C : Addr) (cl : List (Str × Addr)) (fp : List Addr), PG3 K (X.blk s H scope (compEnvC scope cl C X.env) fp) tg ws g) (ht : ∀ (s : Shared) (H : Hp) (C : Addr) (cl : List (Str × Addr)) (fp : List Addr), PTs3 K (X.blk s H scope (compEnvC scope cl C X.env) fp) ifs t)
    (he : ∀ (s : Shared) (H : Hp) (C : Addr) (cl : List (Str × Addr)) (fp : List Addr), PE3 K (X.blk s H scope (compEnvC scope cl C X.env) fp) elt f) (hs : ∀ x, foldedSetIterable iter X.env x = pure x := by intro _; rfl) :
    PS3 K X (.Assign [.Name y py] (.ListComp elt [⟨tg, iter, ifs, 0⟩] scope pos) spos) (sSet i (w (nLc vs it g t f))) := ⟨ps_imp (ps_setLc hc hN hy hyl hsw hi.p ok (fun s H C cl fp => (hg s H C cl fp).p) (fun s H C cl fp => (ht s H C cl fp).p) (fun s H C cl fp => (he s H C cl fp).p) hs) fun D σ H h => by
  have h' := set_imp h
  have h2 : tnO K (nLc vs it g t f) σ H fun x H1 => D.nx (σ.set i (some x)) H1 := by
    rcases hwrap with rfl | rfl
    · exact nd_imp h'
    · exact no_imp h'
  have h3 := lc_go hw h2
  rw [← hv] at h3
  exact h3⟩

/-! ### what is walked -/
theorem walkJ_r {B : Wd} {J : It} {n : Nat} {x : Nat → V} {OK : Hp → Prop} {j : It3} (W : WalkJ J n x OK) (hn : n = j.ws.length) (h : ∀ (C : Wd) (S : List MO), Nv B C → Rl K C S → j.ok S = true → OK C.H ∧ ∀ i w, j.ws[i]? = some w → RW K C (x i) w) : ItR K B J j := by
  intro C S n1 R1 hok i
  obtain ⟨h1, h2⟩ := h C S n1 R1 hok
  refine ⟨fun w hw => ?_, fun hi => W.stop i _ h1 (by omega)⟩
  have hi : i < n := by rw [hn]; exact (List.getElem?_eq_some_iff.mp hw).1
  refine ⟨W.go i _ h1 hi, fun v H' y => ?_⟩
  obtain ⟨rfl, rfl⟩ := W.yld i _ v H' h1 hi y
  exact ⟨C, rfl, Nx.refl C, R1, h2 i w hw⟩
open Classical in
/-- the store still has the list that is walked -/
noncomputable def seqOk (w : W3) (x : PyData) : List MO → Bool := match w with
  | .d _ => fun _ => true
  | .sc _ => fun _ => true
  | w => fun S => decide (view S w = some x)
noncomputable def iSq (f : FE) : FI := fun sl S => (f sl S).bind fun p => match view p.2 p.1 with
  | some (.list xs) => some (⟨xs.map .d, seqOk p.1 (.list xs)⟩, p.2)
  | some (.tuple xs) => some (⟨xs.map .d, seqOk p.1 (.tuple xs)⟩, p.2)
  | _ => none
theorem seqOk_view {S S1 : List MO} {w : W3} {x : PyData} (h : seqOk w x S = true) (e : view S1 w = some x) : view S w = some x := by
  cases w with
  | d y => exact e
  | sc y => exact e
  | r i => simpa [seqOk] using h
  | ty y => cases e
theorem nth_of {xs : List V} {i : Nat} {v : V} (h : xs[i]? = some v) : nth xs i = v := by
  unfold nth
  rw [List.getD_eq_getElem?_getD, h]; rfl
theorem walk_listK {a : Addr} {xs : List V} : WalkJ (Itl K a) xs.length (nth xs) (fun H => SqL K H a xs) :=
  ⟨fun i H ok h => ⟨xs, nth xs i, ok, nth_at h⟩, fun i H ok h => ⟨xs, ok, h⟩, fun i H v H' ok h y => ⟨y.1, Option.some.inj ((y.2 xs ok).symm.trans (nth_at h))⟩⟩
theorem walk_tupK {a : Addr} {xs : List V} : WalkJ (Itt K a) xs.length (nth xs) (fun H => SqT K H a xs) :=
  ⟨fun i H ok h => ⟨xs, nth xs i, ok, nth_at h⟩, fun i H ok h => ⟨xs, ok, h⟩, fun i H v H' ok h y => ⟨y.1, Option.some.inj ((y.2 xs ok).symm.trans (nth_at h))⟩⟩
end
end EA
namespace EA
open PySem PySem.Spec PyProof.Rows L2

/-! ### what is walked: lists, tuples, ranges, backwards -/
theorem pi_or {X : Cx} {tg e : Expr} {t u : TI} (h1 : PI X tg e t) (h2 : PI X tg e u) : PI X tg e (fun σ H R => t σ H R ∨ u σ H R) := ⟨fun pins s σ H R I h => h.elim (h1.run pins s σ H R I) (h2.run pins s σ H R I)⟩
section
variable {K : PySem.W.Frag} {X : Cx} {a b e tg : Expr} {fa fb : FE} {pos p2 pp : Pos} {es : List Expr}
theorem ws_get {xs : List PyData} {i : Nat} {w : W3} (h : (xs.map W3.d)[i]? = some w) : ∃ x, xs[i]? = some x ∧ w = .d x := by
  rw [List.getElem?_map] at h
  obtain ⟨x, h1, h2⟩ := Option.map_eq_some_iff.mp h
  exact ⟨x, h1, h2.symm⟩
theorem i_sq (hK : X.K = K) (h : PE3 K X e fa) : PI3 K X tg e (iSq fa) := ⟨pi_imp (pi_or (pi_list h.p) (pi_tup h.p)) fun σ H R h => by
  subst hK
  obtain ⟨A, S, sl, j, S', rfl, R0, s, e, q⟩ := h
  obtain ⟨⟨w1, S1⟩, e1, e⟩ := Option.bind_eq_some_iff.mp e
  dsimp only at e
  split at e
  · rename_i xs hx
    cases e
    refine .inl ⟨A, S, sl, w1, S', rfl, R0, s, e1, fun B v n R1 r1 => ?_⟩
    obtain ⟨a, vs, rfl, h1, _, hd⟩ := view_list R1 r1 hx
    refine ⟨a, rfl, ⟨vs, h1⟩, q B _ n R1 fun C S2 n2 R2 ok i => ?_⟩
    obtain ⟨a2, vs2, ea, h2, _, hd2⟩ := view_list R2 (r1.monov n2) (seqOk_view ok hx)
    cases ea
    refine ⟨fun w hw => ?_, fun hi => ⟨vs2, h2, by rw [hd2.len]; simpa using hi⟩⟩
    obtain ⟨x, hx2, rfl⟩ := ws_get hw
    obtain ⟨u, hu, du⟩ := hd2.get hx2
    refine ⟨⟨vs2, u, h2, hu⟩, fun v H' y => ?_⟩
    obtain ⟨rfl, y2⟩ := y
    have := y2 vs2 h2
    rw [hu] at this
    cases this
    exact ⟨C, rfl, Nx.refl C, R2, du⟩
  · rename_i xs hx
    cases e
    refine .inr ⟨A, S, sl, w1, S', rfl, R0, s, e1, fun B v n R1 r1 => ?_⟩
    obtain ⟨a, vs, rfl, h1, hd⟩ := view_tup R1 r1 hx
    refine ⟨a, rfl, ⟨vs, h1⟩, q B _ n R1 fun C S2 n2 R2 ok i => ?_⟩
    obtain ⟨a2, vs2, ea, h2, hd2⟩ := view_tup R2 (r1.monov n2) (seqOk_view ok hx)
    cases ea
    refine ⟨fun w hw => ?_, fun hi => ⟨vs2, h2, by rw [hd2.len]; simpa using hi⟩⟩
    obtain ⟨x, hx2, rfl⟩ := ws_get hw
    obtain ⟨u, hu, du⟩ := hd2.get hx2
    refine ⟨⟨vs2, u, h2, hu⟩, fun v H' y => ?_⟩
    obtain ⟨rfl, y2⟩ := y
    have := y2 vs2 h2
    rw [hu] at this
    cases this
    exact ⟨C, rfl, Nx.refl C, R2, du⟩
  · cases e⟩
def yes : List MO → Bool := fun _ => true
/-- the numbers lo, lo + 1, .. -/
def intsW (lo : Int) (n : Nat) : List W3 := (List.range n).map fun i => .d (.int (lo + (i : Nat)))
theorem intsW_get {lo : Int} {n i : Nat} {w : W3} (h : (intsW lo n)[i]? = some w) : i < n ∧ w = .d (.int (lo + (i : Nat))) := by
  unfold intsW at h
  rw [List.getElem?_map] at h
  obtain ⟨k, h1, h2⟩ := Option.map_eq_some_iff.mp h
  obtain ⟨h3, h4⟩ := List.getElem?_eq_some_iff.mp h1
  rw [List.getElem_range] at h4
  rw [List.length_range] at h3
  subst h4
  exact ⟨h3, h2.symm⟩
theorem itr_r {B : Wd} {lo : Int} {n : Nat} : ItR K B (Itr lo n) ⟨intsW lo n, yes⟩ := fun C S n1 R1 _ i => by
  refine ⟨fun w hw => ?_, fun hi => ?_⟩
  · obtain ⟨hi, rfl⟩ := intsW_get hw
    refine ⟨hi, fun v H' y => ?_⟩
    obtain ⟨rfl, rfl⟩ := y
    exact ⟨C, rfl, Nx.refl C, R1, Da.int _⟩
  · have z : (intsW lo n).length = n := by unfold intsW; rw [List.length_map, List.length_range]
    show n ≤ i
    have hi : (intsW lo n).length ≤ i := hi
    omega
def iR1 (f : FA) : FI := fun sl S => (f sl S).bind fun p => match p.1 with
  | [.d (.int j)] => if -(2 ^ 62) ≤ j ∧ j < 2 ^ 62 then some (⟨intsW 0 j.toNat, yes⟩, p.2) else none
  | _ => none
def iR2 (f : FA) : FI := fun sl S => (f sl S).bind fun p => match p.1 with
  | [.d (.int i), .d (.int j)] => if -(2 ^ 62) ≤ i ∧ i < 2 ^ 62 ∧ -(2 ^ 62) ≤ j ∧ j < 2 ^ 62 then some (⟨intsW i (j - i).toNat, yes⟩, p.2) else none
  | _ => none
theorem i_r1 {f : FA} (hg : Gl X "range") (hm : X.mg "range" = none) (ha : PA3 K X [a] f) (hs : starEach [a] X.env = [(false, eval a X.env)] := by rfl) : PI3 K X tg (.Call (.Name "range" pp) [a] [] pos) (iR1 f) := ⟨pi_imp (pi_range1 hg hm ha.p hs) fun σ H R h => by
  obtain ⟨A, S, sl, j, S', rfl, R0, s, e, q⟩ := h
  obtain ⟨⟨w1, S1⟩, e1, e⟩ := Option.bind_eq_some_iff.mp e
  dsimp only at e
  split at e
  · rename_i k
    by_cases z : -(2 ^ 62) ≤ k ∧ k < 2 ^ 62
    · rw [if_pos z] at e
      cases e
      refine ⟨A, S, sl, _, S', rfl, R0, s, e1, fun B vs n R1 rs => ?_⟩
      cases rs with
      | cons r rr =>
        cases rr
        cases Da.int_inv r
        exact ⟨k, rfl, z.1, z.2, q B _ n R1 itr_r⟩
    · rw [if_neg z] at e; cases e
  · cases e⟩
theorem i_r2 {f : FA} (hg : Gl X "range") (hm : X.mg "range" = none) (ha : PA3 K X [a, b] f) (hs : starEach [a, b] X.env = [(false, eval a X.env), (false, eval b X.env)] := by rfl) (hs2 : starEach [b] X.env = [(false, eval b X.env)] := by rfl) : PI3 K X tg (.Call (.Name "range" pp) [a, b] [] pos) (iR2 f) := ⟨pi_imp (pi_range2 hg hm ha.p hs hs2) fun σ H R h => by
  obtain ⟨A, S, sl, j, S', rfl, R0, s, e, q⟩ := h
  obtain ⟨⟨w1, S1⟩, e1, e⟩ := Option.bind_eq_some_iff.mp e
  dsimp only at e
  split at e
  · rename_i i k
    by_cases z : -(2 ^ 62) ≤ i ∧ i < 2 ^ 62 ∧ -(2 ^ 62) ≤ k ∧ k < 2 ^ 62
    · rw [if_pos z] at e
      cases e
      refine ⟨A, S, sl, _, S', rfl, R0, s, e1, fun B vs n R1 rs => ?_⟩
      cases rs with
      | cons r rr =>
        cases rr with
        | cons r2 rr =>
          cases rr
          cases Da.int_inv r
          cases Da.int_inv r2
          exact ⟨i, k, rfl, z, q B _ n R1 itr_r⟩
    · rw [if_neg z] at e; cases e
  · cases e⟩
/-- reversed(x) of a list or a tuple that is data -/
def iRv (f : FE) : FI := fun sl S => (f sl S).bind fun p => match p.1 with
  | .d (.list xs) => some (⟨xs.reverse.map .d, yes⟩, p.2)
  | .d (.tuple xs) => some (⟨xs.reverse.map .d, yes⟩, p.2)
  | _ => none
theorem rev_get {vs : List V} {xs : List PyData} {G : Hp} (hd : DaA K G vs xs) {i : Nat} {w : W3} (h : (xs.reverse.map W3.d)[i]? = some w) : i < vs.length ∧ ∃ u x, vs[vs.length - 1 - i]? = some u ∧ Da K G u x ∧ w = .d x := by
  obtain ⟨x, hx, rfl⟩ := ws_get h
  have hi : i < xs.length := by have := (List.getElem?_eq_some_iff.mp hx).1; rwa [List.length_reverse] at this
  rw [List.getElem?_reverse hi] at hx
  obtain ⟨u, hu, du⟩ := hd.get hx
  rw [hd.len]
  exact ⟨hi, u, x, hu, du, rfl⟩
theorem i_rv (hK : X.K = K) (hg : Gl X "reversed") (hm : X.mg "reversed" = none) (h : PE3 K X e fa) (hs : starEach [e] X.env = (false, eval e X.env) :: starEach [] X.env := by rfl) : PI3 K X tg (.Call (.Name "reversed" pp) [e] [] pos) (iRv fa) := ⟨pi_imp (RT.pi_revA hg hm h.p hs) fun σ H R h => by
  subst hK
  obtain ⟨A, S, sl, j, S', rfl, R0, s, e, q⟩ := h
  obtain ⟨⟨w1, S1⟩, e1, e⟩ := Option.bind_eq_some_iff.mp e
  dsimp only at e
  split at e
  · rename_i xs
    cases e
    refine ⟨A, S, sl, _, S', rfl, R0, s, e1, fun B v n R1 r1 => ?_⟩
    obtain ⟨a, vs, rfl, h1, hd⟩ := Da.list_inv r1
    refine ⟨a, vs, rfl, .inl ⟨SqL.of (R1.gh _ _ h1), q B _ n R1 fun C S2 n2 R2 ok i => ?_⟩⟩
    have hH : C.H a = some (.lst vs) := R2.gh _ _ (n2.gg _ _ h1)
    refine ⟨fun w hw => ?_, fun hi => ?_⟩
    · obtain ⟨hi, u, x, hu, du, rfl⟩ := rev_get hd hw
      refine ⟨⟨hi, vs, u, SqL.of hH, hu⟩, fun v H' y => ?_⟩
      obtain ⟨rfl, y2⟩ := y
      have := y2 vs (SqL.of hH)
      rw [hu] at this
      cases this
      exact ⟨C, rfl, Nx.refl C, R2, du.up n2.gg⟩
    · show vs.length ≤ i
      rw [hd.len]; simpa using hi
  · rename_i xs
    cases e
    refine ⟨A, S, sl, _, S', rfl, R0, s, e1, fun B v n R1 r1 => ?_⟩
    obtain ⟨a, vs, rfl, h1, hd⟩ := Da.tup_inv r1
    refine ⟨a, vs, rfl, .inr ⟨sqT_up R1.gh h1, q B _ n R1 fun C S2 n2 R2 ok i => ?_⟩⟩
    have hH : SqT X.K C.H a vs := sqT_up R2.gh (sqT_up n2.gg h1)
    refine ⟨fun w hw => ?_, fun hi => ?_⟩
    · obtain ⟨hi, u, x, hu, du, rfl⟩ := rev_get hd hw
      refine ⟨⟨hi, vs, u, hH, hu⟩, fun v H' y => ?_⟩
      obtain ⟨rfl, y2⟩ := y
      have := y2 vs hH
      rw [hu] at this
      cases this
      exact ⟨C, rfl, Nx.refl C, R2, du.up n2.gg⟩
    · show vs.length ≤ i
      rw [hd.len]; simpa using hi
  · cases e⟩
/-- the signs of a text -/
def iSt (f : FE) : FI := fun sl S => (f sl S).bind fun p => match p.1 with
  | .d (.str x) => some (⟨x.cps.toList.map fun c => .d (.str ⟨#[c]⟩), yes⟩, p.2)
  | _ => none
theorem i_st (h : PE3 K X e fa) : PI3 K X tg e (iSt fa) := ⟨pi_imp (pi_str h.p) fun σ H R h => by
  obtain ⟨A, S, sl, j, S', rfl, R0, s, e, q⟩ := h
  obtain ⟨⟨w1, S1⟩, e1, e⟩ := Option.bind_eq_some_iff.mp e
  dsimp only at e
  split at e
  · rename_i x
    cases e
    refine ⟨A, S, sl, _, S', rfl, R0, s, e1, fun B v n R1 r1 => ?_⟩
    cases Da.str_inv r1
    refine ⟨x, rfl, q B _ n R1 fun C S2 n2 R2 ok i => ?_⟩
    refine ⟨fun w hw => ?_, fun hi => ?_⟩
    · rw [List.getElem?_map] at hw
      obtain ⟨c, hc, rfl⟩ := Option.map_eq_some_iff.mp hw
      have hc' : x.cps[i]? = some c := by simpa using hc
      refine ⟨(Array.getElem?_eq_some_iff.mp hc').1, fun v H' y => ?_⟩
      obtain ⟨rfl, c2, hc2, rfl⟩ := y
      rw [hc'] at hc2
      cases hc2
      exact ⟨C, rfl, Nx.refl C, R2, Da.str _⟩
    · show x.cps.size ≤ i
      simpa using hi
  · cases e⟩

/-! ### methods of lists -/
def listAt (S : List MO) : W3 → Option (List PyData)
  | .r i => match S[i]? with
    | some (.lst xs) => some xs
    | _ => none
  | _ => none
theorem listAt_of {A : Wd} {S : List MO} {v : V} {w : W3} {xs : List PyData} (R : Rl K A S) (r : RW K A v w) (e : listAt S w = some xs) : ∃ i a vs, w = .r i ∧ A.ι[i]? = some a ∧ S[i]? = some (.lst xs) ∧ v = .ref a ∧ A.G a = none ∧ A.H a = some (.lst vs) ∧ DaA K A.G vs xs := by
  cases w with
  | r i =>
    obtain ⟨a, ha, rfl⟩ := r
    unfold listAt at e
    dsimp only at e
    cases o : S[i]? with
    | none => rw [o] at e; cases e
    | some m =>
      rw [o] at e
      cases m with
      | lst ys =>
        cases e
        obtain ⟨g, vs, h1, h2⟩ := R.ob i _ a o ha
        exact ⟨i, a, vs, rfl, ha, o, rfl, g, h1, h2⟩
      | _ => cases e
  | _ => cases e
def setAt (S : List MO) (w : W3) (o : MO) : List MO := match w with
  | .r i => S.set i o
  | _ => S
/-- a method that may change its list: what it gives, the list behind it -/
abbrev GM := List PyData → List W3 → Option (PyData × List PyData)
def MkOk (K : PySem.W.Frag) (r : V → List V → Hp → VK → Prop) (g : GM) : Prop := ∀ (A : Wd) (a : Addr) (vs : List V) (xs : List PyData) (S : List MO) (ws : List W3) (us : List V) (d : PyData) (ys : List PyData) (Q : VK), Rl K A S → A.H a = some (.lst vs) → DaA K A.G vs xs → RWs K A us ws → g xs ws = some (d, ys) →
  (∀ (v : V) (vs' : List V), Da K A.G v d → DaA K A.G vs' ys → Q v (upd A.H a (.lst vs'))) → r (.ref a) us A.H Q
def eM (g : GM) (o : FE) (a : FA) : FE := fun sl S => (o sl S).bind fun p => if (listAt p.2 p.1).isSome = true then (a sl p.2).bind fun q => (listAt q.2 p.1).bind fun xs => (g xs q.1).map fun z => (.d z.1, setAt q.2 p.1 (.lst z.2)) else none
theorem eM_imp {r : V → List V → Hp → VK → Prop} {g : GM} (ok : MkOk K r g) {o : FE} {f : FA} {σ : L2.St} {H : Hp} {Q : VK} (h : teO K (eM g o f) σ H Q) : tBM K "list" r (teO K o) (taO K f) σ H Q := by
  obtain ⟨A, S, sl, w, S', rfl, R, s, e, q⟩ := h
  obtain ⟨⟨w1, S1⟩, e1, e⟩ := Option.bind_eq_some_iff.mp e
  dsimp only at e
  by_cases z : (listAt S1 w1).isSome = true
  · rw [if_pos z] at e
    obtain ⟨⟨w2, S2⟩, e2, e⟩ := Option.bind_eq_some_iff.mp e
    obtain ⟨xs, e3, e⟩ := Option.bind_eq_some_iff.mp e
    obtain ⟨⟨d, ys⟩, e4, e⟩ := Option.map_eq_some_iff.mp e
    cases e
    obtain ⟨xs0, h0⟩ := Option.isSome_iff_exists.mp z
    refine ⟨A, S, sl, w1, S1, rfl, R, s, e1, fun B v n R1 r1 => ⟨?_, B, S1, sl, w2, S2, rfl, R1, s.mono n, e2, fun C us n2 R2 r2 => ?_⟩⟩
    · obtain ⟨i, a, vs, rfl, _, _, rfl, _, h, _⟩ := listAt_of R1 r1 h0
      exact .inl ⟨rfl, _, SqL.of h⟩
    · obtain ⟨i, a, vs, rfl, ha, hS, rfl, g0, h, hd⟩ := listAt_of R2 (r1.mono n2) e3
      refine ok C a vs xs S2 w2 us d ys Q R2 h hd r2 e4 fun v vs' dv dvs => ?_
      obtain ⟨n3, R3⟩ := Nx.wr (u := .lst vs') (o := .lst ys) R2 ha g0 ⟨g0, vs', upd_same, dvs⟩
      exact q ⟨C.G, upd C.H a (.lst vs'), C.ι⟩ v ((n.trans n2).trans n3) R3 dv
  · rw [if_neg z] at e; cases e
theorem eM0_imp {r : V → List V → Hp → VK → Prop} {g : GM} (ok : MkOk K r g) {o : FE} {σ : L2.St} {H : Hp} {Q : VK} (h : teO K (eM g o aNil) σ H Q) : tBM0 K "list" r (teO K o) σ H Q := by
  obtain ⟨A, S, sl, w, S', rfl, R, s, e, q⟩ := h
  obtain ⟨⟨w1, S1⟩, e1, e⟩ := Option.bind_eq_some_iff.mp e
  dsimp only at e
  by_cases z : (listAt S1 w1).isSome = true
  · rw [if_pos z] at e
    obtain ⟨⟨w2, S2⟩, e2, e⟩ := Option.bind_eq_some_iff.mp e
    cases e2
    obtain ⟨xs, e3, e⟩ := Option.bind_eq_some_iff.mp e
    obtain ⟨⟨d, ys⟩, e4, e⟩ := Option.map_eq_some_iff.mp e
    cases e
    refine ⟨A, S, sl, w1, S1, rfl, R, s, e1, fun B v n R1 r1 => ?_⟩
    obtain ⟨i, a, vs, rfl, ha, hS, rfl, g0, h, hd⟩ := listAt_of R1 r1 e3
    refine ⟨.inl ⟨rfl, _, SqL.of h⟩, ok B a vs xs S1 [] [] d ys Q R1 h hd .nil e4 fun v vs' dv dvs => ?_⟩
    obtain ⟨n3, R3⟩ := Nx.wr (u := .lst vs') (o := .lst ys) R1 ha g0 ⟨g0, vs', upd_same, dvs⟩
    exact q ⟨B.G, upd B.H a (.lst vs'), B.ι⟩ v (n.trans n3) R3 dv
  · rw [if_neg z] at e; cases e
variable {o : Expr} {fo : FE} {f : FA} {name : Str} {apos cpos : Pos} {mid : String} {r : V → List V → Hp → VK → Prop} {g : GM}
theorem e_m0 (hK : X.K = K) (slot : Slot "list" name mid) (hty : typeOf (.builtin mid) = Pure.pure (.type "method_descriptor")) (hm : MtR X mid r) (ok : MkOk K r g) (ho : PE3 K X o fo)
    (hbase : attributeBase o name X.env (eval o X.env) = eval o X.env := by rfl) (hline : (apos.endLine == cpos.line) = true := by rfl) : PE3 K X (.Call (.Attribute o name apos) [] [] cpos) (eM g fo aNil) := ⟨pe_imp (pe_bm0 PySem.F.plainAttrs_list slot hty hm ho.p hbase hline) fun _ _ _ h => by subst hK; exact eM0_imp ok h⟩
theorem e_m (hK : X.K = K) (slot : Slot "list" name mid) (hty : typeOf (.builtin mid) = Pure.pure (.type "method_descriptor")) (hm : MtR X mid r) (ok : MkOk K r g) (ho : PE3 K X o fo) (ha : PA3 K X (e :: es) f)
    (hbase : attributeBase o name X.env (eval o X.env) = eval o X.env := by rfl)
    (hfew : ((backTo cpos (starEach (e :: es) X.env)).all (fun x => !x.1) && (backToKw cpos (keywordEach [] X.env)).all (fun x => x.1.isSome)
      && decide ((e :: es).length + ([] : List Keyword).length + (if ([] : List Keyword).isEmpty then 0 else 1) < 30)) = true := by rfl)
    (hline : (apos.endLine == cpos.line) = true := by rfl) (hs : starEach (e :: es) X.env = (false, eval e X.env) :: starEach es X.env := by rfl) (hplain : (backTo cpos (starEach es X.env)).any (·.1) = false := by rfl) :
    PE3 K X (.Call (.Attribute o name apos) (e :: es) [] cpos) (eM g fo f) := ⟨pe_imp (pe_bm PySem.F.plainAttrs_list slot hty hm ho.p ha.p hbase hfew hline hs hplain) fun _ _ _ h => by subst hK; exact eM_imp ok h⟩
def mApp : GM := fun xs ws => match ws with
  | [.d x] => if xs.length ≤ 100000 then some (.none, xs ++ [x]) else none
  | _ => none
def mPop : GM := fun xs ws => match ws with
  | [] => (xs[xs.length - 1]?).map fun x => (x, xs.dropLast)
  | _ => none
def mPopAt : GM := fun xs ws => match ws with
  | [.d (.int k)] => if 0 ≤ k ∧ k < xs.length ∧ xs.length ≤ 100000 then (xs[k.toNat]?).map fun x => (x, xs.eraseIdx k.toNat) else none
  | _ => none
theorem DaA.dropLast {G : Hp} {vs : List V} {ds : List PyData} (h : DaA K G vs ds) : DaA K G vs.dropLast ds.dropLast := by
  rw [List.dropLast_eq_take, List.dropLast_eq_take, h.len]
  exact h.take _
theorem mk_app : MkOk K rAppend mApp := by
  intro A a vs xs S ws us d ys Q R h hd rs e q
  unfold mApp at e
  split at e
  · by_cases z : xs.length ≤ 100000
    · rw [if_pos z] at e
      cases e
      cases rs with
      | cons r rr =>
        cases rr
        exact ⟨a, vs, _, rfl, rfl, h, by rw [hd.len]; exact line_lt z, q _ _ Da.non (hd.app (.cons r .nil))⟩
    · rw [if_neg z] at e; cases e
  · cases e
theorem mk_pop : MkOk K rPop mPop := by
  intro A a vs xs S ws us d ys Q R h hd rs e q
  unfold mPop at e
  split at e
  · obtain ⟨x, hx, e⟩ := Option.map_eq_some_iff.mp e
    cases e
    cases rs
    obtain ⟨u, hu, du⟩ := hd.get hx
    refine ⟨a, vs, u, rfl, rfl, h, ?_, q _ _ du hd.dropLast⟩
    rw [hd.len]; exact hu
  · cases e
theorem mk_popAt : MkOk K rPopAt mPopAt := by
  intro A a vs xs S ws us d ys Q R h hd rs e q
  unfold mPopAt at e
  split at e
  · rename_i k
    by_cases z : 0 ≤ k ∧ k < xs.length ∧ xs.length ≤ 100000
    · rw [if_pos z] at e
      obtain ⟨x, hx, e⟩ := Option.map_eq_some_iff.mp e
      cases e
      cases rs with
      | cons r rr =>
        cases rr
        cases Da.int_inv r
        obtain ⟨u, hu, du⟩ := hd.get hx
        exact popL h z.1 (by rw [hd.len]; exact z.2.1) hu (by rw [hd.len]; exact z.2.2) (q _ _ du (hd.erase _))
    · rw [if_neg z] at e; cases e
  · cases e
/-! ### x[i] = v -/
def gSubL (o i : FE) : FG := fun w sl S => match w with
  | .d x => (o sl S).bind fun p => (i sl p.2).bind fun q => match q.1 with
    | .d (.int k) => (listAt q.2 p.1).bind fun xs => (ixN xs.length k).map fun j => (sl, setAt q.2 p.1 (.lst (xs.set j x)))
    | _ => none
  | _ => none
theorem g_sub {i : Expr} {fi : FE} (ho : PE3 K X o fo) (hi : PE3 K X i fi) (ha : ∀ v, assign (.Subscript o i pos) X.env v = (do let ov ← holding [v] (eval o X.env); let iv ← holding [v, ov] (eval i X.env); standAt pos; holding [v, ov, iv] (setItem ov iv v); release [v, ov, iv] []) := by intro _; rfl) : PG3 K X (.Subscript o i pos) [] (gSubL fo fi) := ⟨pg_imp (pg_sub ho.p hi.p set_list ha) fun v σ H Q h => by
  obtain ⟨A, S, sl, w, sl', S', rfl, R, s, r, e, q⟩ := h
  cases w with
  | d x =>
    obtain ⟨⟨w1, S1⟩, e1, e⟩ := Option.bind_eq_some_iff.mp e
    obtain ⟨⟨w2, S2⟩, e2, e⟩ := Option.bind_eq_some_iff.mp e
    dsimp only at e
    refine ⟨A, S, sl, w1, S1, rfl, R, s, e1, fun B u n R1 r1 => ⟨B, S1, sl, w2, S2, rfl, R1, s.mono n, e2, fun C t n2 R2 r2 => ?_⟩⟩
    split at e
    · rename_i k
      obtain ⟨xs, e3, e⟩ := Option.bind_eq_some_iff.mp e
      obtain ⟨j, e4, e⟩ := Option.map_eq_some_iff.mp e
      cases e
      cases Da.int_inv r2
      obtain ⟨i, a, vs, rfl, ha, hS, rfl, g0, h, hd⟩ := listAt_of R2 (r1.mono n2) e3
      have n' := n.trans n2
      refine ⟨a, vs, k, j, rfl, rfl, h, by rw [hd.len]; exact e4, ?_⟩
      obtain ⟨n3, R3⟩ := Nx.wr (u := .lst (vs.set j v)) (o := .lst (xs.set j x)) R2 ha g0 ⟨g0, vs.set j v, upd_same, DaA.set (Da.up n'.gg r) j hd⟩
      exact q ⟨C.G, upd C.H a (.lst (vs.set j v)), C.ι⟩ σ (n'.trans n3) R3 (s.mono (n'.trans n3)) ⟨rfl, fun _ _ => rfl⟩
    · cases e
  | _ => cases e⟩
/-! ### name += e, of numbers -/
def sAug (i : Nat) (h : Int → Int → Int) (f : FE) : FS := fun sl S => match sl[i]?.join with
  | some (.d (.int x)) => (f sl S).bind fun p => match p.1 with
    | .d (.int y) => some (.nx (sl.set i (some (.d (.int (h x y))))) p.2)
    | _ => none
  | _ => none
theorem s_aug {i : Nat} {x : Str} {op : Operator} {pos' : Pos} {h : Int → Int → Int} (hN : X.N.Nodup) (hi : X.N[i]? = some x) (hx : Loc X.env.scope x) (he : PE3 K X e fa) (ho : PIp X op (ipI h)) (hf : X.fn x = true ∨ X.env.scope.names.lookup x = some .local := by first | exact .inl rfl | exact .inr rfl | assumption) :
    PS3 K X (.AugAssign (.Name x pos') op e pos) (sAug i h fa) := ⟨ps_imp (ps_aug hN hi hx he.p ho hf) fun D σ H hh => by
  obtain ⟨A, S, sl, o, rfl, R, s, e, q⟩ := hh
  unfold sAug at e
  split at e
  · rename_i x0 hx0
    obtain ⟨⟨w1, S1⟩, e1, e⟩ := Option.bind_eq_some_iff.mp e
    dsimp only at e
    split at e
    · rename_i y0
      cases e
      have h2 : sl[i]? = some (some (.d (.int x0))) := by
        cases z : sl[i]? with
        | none => rw [z] at hx0; cases hx0
        | some z2 => rw [z] at hx0; exact congrArg some hx0
      obtain ⟨v, h3, h4⟩ := s.at_ i _ h2
      cases Da.int_inv h4
      refine ⟨_, h3, A, S, sl, _, S1, rfl, R, s, e1, fun B v n R1 r1 => ?_⟩
      cases Da.int_inv r1
      exact ⟨x0, y0, rfl, rfl, q B _ n R1 ((s.mono n).set i (w := .d (.int _)) (Da.int _))⟩
    · cases e
  · cases e⟩
/-! ### a, b = x, y -/
def sPar (i j : Nat) (f : FA) : FS := fun sl S => (f sl S).bind fun p => match p.1 with
  | [x, y] => some (.nx ((sl.set i (some x)).set j (some y)) p.2)
  | _ => none
theorem s_par {i j : Nat} {x y : Str} {px py pt : Pos} {kt k2 pt2} (hc : X.calm = true) (hN : X.N.Nodup) (hi : X.N[i]? = some x) (hj : X.N[j]? = some y) (hij : i ≠ j)
    (hx : X.env.scope.names.lookup x = some .local) (hy : X.env.scope.names.lookup y = some .local) (ha : PA3 K X [a, b] f)
    (hw : swappedStores [.Tuple [.Name x px, .Name y py] kt pt] (.Tuple [a, b] k2 pt2) X.env = pure (some [x, y]))
    (hs : swapsWithSole [.Tuple [.Name x px, .Name y py] kt pt] (.Tuple [a, b] k2 pt2) pos.line X.env = pure false := by rfl) :
    PS3 K X (.Assign [.Tuple [.Name x px, .Name y py] kt pt] (.Tuple [a, b] k2 pt2) pos) (sPar i j f) := ⟨ps_imp (ps_par hc hN hi hj hij hx hy ha.p hw hs) fun D σ H h => by
  obtain ⟨A, S, sl, o, rfl, R, s, e, q⟩ := h
  obtain ⟨⟨w1, S1⟩, e1, e⟩ := Option.bind_eq_some_iff.mp e
  dsimp only at e
  split at e
  · cases e
    refine ⟨A, S, sl, _, S1, rfl, R, s, e1, fun B vs n R1 rs => ?_⟩
    cases rs with
    | cons r1 rr =>
      cases rr with
      | cons r2 rr =>
        cases rr
        exact ⟨_, _, rfl, q B _ n R1 (((s.mono n).set i r1).set j r2)⟩
  · cases e⟩
end
end EA
namespace EA
open PySem PySem.Spec PyProof.Rows L2
/-! ### in order, each once -/
section
variable {α : Type} [DecidableEq α] (lt : α → α → Bool)
def insS (a : α) : List α → List α
  | [] => [a]
  | b :: l => if a = b then b :: l else if lt a b = true then a :: b :: l else b :: insS a l
def sset : List α → List α
  | [] => []
  | a :: l => insS lt a (sset l)
variable {lt}
structure Strict (lt : α → α → Bool) : Prop where
  tr : ∀ a b c, lt a b = true → lt b c = true → lt a c = true
  ir : ∀ a, lt a a = false
  tot : ∀ a b, a ≠ b → lt a b = true ∨ lt b a = true
theorem mem_insS {a x : α} : ∀ {l : List α}, x ∈ insS lt a l ↔ x = a ∨ x ∈ l
  | [] => by simp [insS]
  | b :: l => by
    unfold insS
    by_cases e : a = b
    · rw [if_pos e]; subst e; simp
    · rw [if_neg e]
      by_cases h : lt a b = true
      · rw [if_pos h]; simp
      · rw [if_neg h, List.mem_cons, mem_insS (l := l), List.mem_cons]
        constructor
        · rintro (h | h | h)
          · exact .inr (.inl h)
          · exact .inl h
          · exact .inr (.inr h)
        · rintro (h | h | h)
          · exact .inr (.inl h)
          · exact .inl h
          · exact .inr (.inr h)
theorem mem_sset {x : α} : ∀ {l : List α}, x ∈ sset lt l ↔ x ∈ l
  | [] => Iff.rfl
  | a :: l => by rw [sset, mem_insS, mem_sset (l := l), List.mem_cons]
theorem insS_strict (O : Strict lt) {a : α} : ∀ {l : List α}, l.Pairwise (fun x y => lt x y = true) → (insS lt a l).Pairwise (fun x y => lt x y = true)
  | [], _ => by simp [insS]
  | b :: l, h => by
    obtain ⟨h1, h2⟩ := List.pairwise_cons.mp h
    unfold insS
    by_cases e : a = b
    · rw [if_pos e]; exact h
    · rw [if_neg e]
      by_cases k : lt a b = true
      · rw [if_pos k]
        exact List.pairwise_cons.mpr ⟨fun y hy => (List.mem_cons.mp hy).elim (fun z => by rw [z]; exact k) fun z => O.tr _ _ _ k (h1 y z), h⟩
      · rw [if_neg k]
        refine List.pairwise_cons.mpr ⟨fun y hy => ?_, insS_strict O h2⟩
        rcases mem_insS.mp hy with z | z
        · rw [z]; exact (O.tot a b e).elim (fun z => absurd z k) id
        · exact h1 y z
theorem sset_strict (O : Strict lt) : ∀ l : List α, (sset lt l).Pairwise (fun x y => lt x y = true)
  | [] => .nil
  | a :: l => insS_strict O (sset_strict O l)
theorem strict_uniq (O : Strict lt) : ∀ {l m : List α}, l.Pairwise (fun x y => lt x y = true) → m.Pairwise (fun x y => lt x y = true) → (∀ x, x ∈ l ↔ x ∈ m) → l = m
  | [], [], _, _, _ => rfl
  | [], b :: m, _, _, h => absurd ((h b).mpr List.mem_cons_self) (by simp)
  | a :: l, [], _, _, h => absurd ((h a).mp List.mem_cons_self) (by simp)
  | a :: l, b :: m, hl, hm, h => by
    obtain ⟨l1, l2⟩ := List.pairwise_cons.mp hl
    obtain ⟨m1, m2⟩ := List.pairwise_cons.mp hm
    have e : a = b := by
      refine Classical.byContradiction fun ne => ?_
      have ha : a ∈ m := (List.mem_cons.mp ((h a).mp List.mem_cons_self)).elim (fun z => absurd z ne) id
      have hb : b ∈ l := (List.mem_cons.mp ((h b).mpr List.mem_cons_self)).elim (fun z => absurd z.symm ne) id
      have := O.tr _ _ _ (l1 b hb) (m1 a ha)
      rw [O.ir] at this; cases this
    subst e
    have t : l = m := strict_uniq O l2 m2 fun x => by
      constructor
      · intro hx
        exact (List.mem_cons.mp ((h x).mp (List.mem_cons_of_mem _ hx))).elim (fun z => by subst z; have := l1 x hx; rw [O.ir] at this; cases this) id
      · intro hx
        exact (List.mem_cons.mp ((h x).mpr (List.mem_cons_of_mem _ hx))).elim (fun z => by subst z; have := m1 x hx; rw [O.ir] at this; cases this) id
    rw [t]
theorem sset_of (O : Strict lt) {l m : List α} (h1 : m.Pairwise (fun x y => lt x y = true)) (h2 : ∀ x, x ∈ m ↔ x ∈ l) : sset lt l = m := strict_uniq O (sset_strict O l) h1 fun x => mem_sset.trans (h2 x).symm
end
def ltI (a b : Int) : Bool := decide (a < b)
def ltS (a b : Str) : Bool := decide (a.cps.toList < b.cps.toList)
theorem strictI : Strict ltI := ⟨fun a b c h k => decide_eq_true (Int.lt_trans (of_decide_eq_true h) (of_decide_eq_true k)), fun a => decide_eq_false (Int.lt_irrefl a), fun a b h => (Int.lt_or_gt_of_ne h).imp (fun z => decide_eq_true z) fun z => decide_eq_true z⟩
theorem strictS : Strict ltS := ⟨fun a b c h k => decide_eq_true (List.lt_trans (of_decide_eq_true h) (of_decide_eq_true k)), fun a => decide_eq_false (List.lt_irrefl _), fun a b h => by
  by_cases z : a.cps.toList < b.cps.toList
  · exact .inl (decide_eq_true z)
  · refine .inr (decide_eq_true (Classical.byContradiction fun n => h (str_ext (List.le_antisymm (List.not_lt.mp n) (List.not_lt.mp z)))))⟩
def intsOf : List PyData → Option (List Int)
  | [] => some []
  | .int b :: r => (intsOf r).map (b :: ·)
  | _ :: _ => none
def strsOf : List PyData → Option (List Str)
  | [] => some []
  | .str b :: r => (strsOf r).map (b :: ·)
  | _ :: _ => none
theorem intsOf_map : ∀ bs : List Int, intsOf (bs.map .int) = some bs
  | [] => rfl
  | b :: r => by
    show (intsOf (r.map .int)).map (b :: ·) = _
    rw [intsOf_map r]; rfl
theorem strsOf_map : ∀ bs : List Str, strsOf (bs.map .str) = some bs
  | [] => rfl
  | b :: r => by
    show (strsOf (r.map .str)).map (b :: ·) = _
    rw [strsOf_map r]; rfl
theorem intsOf_eq : ∀ {ds : List PyData} {bs : List Int}, intsOf ds = some bs → ds = bs.map .int
  | [], _, e => by cases e; rfl
  | .int b :: r, _, e => by
    obtain ⟨bs, e1, rfl⟩ := Option.map_eq_some_iff.mp (show (intsOf r).map (b :: ·) = some _ from e)
    rw [intsOf_eq e1]; rfl
  | .none :: _, _, e => by cases e
  | .bool _ :: _, _, e => by cases e
  | .str _ :: _, _, e => by cases e
  | .list _ :: _, _, e => by cases e
  | .tuple _ :: _, _, e => by cases e
  | .dict _ :: _, _, e => by cases e
theorem strsOf_eq : ∀ {ds : List PyData} {bs : List Str}, strsOf ds = some bs → ds = bs.map .str
  | [], _, e => by cases e; rfl
  | .str b :: r, _, e => by
    obtain ⟨bs, e1, rfl⟩ := Option.map_eq_some_iff.mp (show (strsOf r).map (b :: ·) = some _ from e)
    rw [strsOf_eq e1]; rfl
  | .none :: _, _, e => by cases e
  | .bool _ :: _, _, e => by cases e
  | .int _ :: _, _, e => by cases e
  | .list _ :: _, _, e => by cases e
  | .tuple _ :: _, _, e => by cases e
  | .dict _ :: _, _, e => by cases e
/-- the members of a set of numbers or of texts, in order -/
def ssD (ds : List PyData) : Option (List PyData) := if ds.length ≤ 2000 then ((intsOf ds).map fun ks => (sset ltI ks).map .int).or ((strsOf ds).map fun ks => (sset ltS ks).map .str) else none
def gSS (S : List MO) (ws : List W3) : Option (List PyData) := (gSeq S ws).bind ssD
theorem ssD_ints {ks : List Int} (h : ks.length ≤ 2000) : ssD (ks.map .int) = some ((sset ltI ks).map .int) := by
  unfold ssD
  rw [if_pos (by rw [List.length_map]; exact h), intsOf_map]; rfl
theorem ssD_strs {ks : List Str} (h : ks.length ≤ 2000) : ssD (ks.map .str) = some ((sset ltS ks).map .str) := by
  unfold ssD
  rw [if_pos (by rw [List.length_map]; exact h)]
  cases ks with
  | nil => rfl
  | cons k ks => rw [strsOf_map]; rfl
section
variable {K : PySem.W.Frag} {X : Cx} {e o : Expr} {fa fo fi : FE} {pos pos2 pp pp2 : Pos} {P : Program} {w : World}
theorem gSeq_of {B : Wd} {S : List MO} {ws : List W3} {vs : List V} {xs : List PyData} (R1 : Rl K B S) (rs : RWs K B vs ws) (e3 : gSeq S ws = some xs) : ∃ p us, vs = [.ref p] ∧ (SqL K B.H p us ∨ SqT K B.H p us) ∧ DaA K B.G us xs := by
  unfold gSeq at e3
  split at e3
  · rename_i u
    cases rs with
    | cons rv rr =>
      cases rr
      split at e3
      · rename_i ys hy
        cases e3
        obtain ⟨a, us, rfl, h1, _, hd⟩ := view_list R1 rv hy
        exact ⟨a, us, rfl, .inl h1, hd⟩
      · rename_i ys hy
        cases e3
        obtain ⟨a, us, rfl, h1, hd⟩ := view_tup R1 rv hy
        exact ⟨a, us, rfl, .inr h1, hd⟩
      · cases e3
  · cases e3
def rSet3 (K : PySem.W.Frag) (P : Program) (w : World) : List V → Hp → VK → Prop := fun xs H Q => rSetOfI K P w xs H Q ∨ rSetOfS K P w xs H Q
def rSS3 (P : Program) (w : World) : List V → Hp → VK → Prop := fun xs H Q => rSortedSetI P w xs H Q ∨ rSortedSetS P w xs H Q
theorem n_ss {f : FA} (hK : X.K = K) (hP : X.prog = P) (hw : X.w = w) (hc : X.calm = true) (hu : X.A.units + 64 < cLine) (hg : Gl X "sorted") (hm : X.mg "sorted" = none) (hg2 : Gl X "set") (hm2 : X.mg "set" = none) (ha : PA3 K X [e] f)
    (he : starEach [e] X.env = (false, eval e X.env) :: starEach [] X.env := by rfl) (he2 : starEach [.Call (.Name "set" pp2) [e] [] pos2] X.env = (false, eval (.Call (.Name "set" pp2) [e] [] pos2) X.env) :: starEach [] X.env := by rfl)
    (hpl : (backTo pos (starEach [] X.env)).any (·.1) = false := by rfl) (hpl2 : (backTo pos2 (starEach [] X.env)).any (·.1) = false := by rfl) :
    PN3 K X (.Call (.Name "sorted" pp) [.Call (.Name "set" pp2) [e] [] pos2] [] pos) (nB gSS f) := ⟨pe_imp (pe_callB (CallR.or (cr_sortedSetI hc hu) (cr_sortedSetS hc hu)) hg hm (by decide +kernel) (pa_cons (pe_callTy (CallR.or (cr_setOfI hc) (cr_setOfS hc)) hg2 hm2 (by decide +kernel) ha.p (he := he) (hpl := hpl2)) pa_nil he2) (he := he2) (hpl := hpl)) fun σ H Q h => by
  subst hK hP hw
  obtain ⟨A, S, sl, w0, S', rfl, R, s, e, q⟩ := h
  obtain ⟨⟨w1, S1⟩, e1, e⟩ := Option.bind_eq_some_iff.mp e
  obtain ⟨d, e2, e⟩ := Option.map_eq_some_iff.mp e
  cases e
  obtain ⟨xs, e3, e4⟩ := Option.bind_eq_some_iff.mp e2
  refine ⟨A, S, sl, w1, _, rfl, R, s, e1, fun B vs n R1 rs => ?_⟩
  have at_ := gSeq_of R1 rs e3
  obtain ⟨p, us, rfl, hq, hd⟩ := at_
  unfold ssD at e4
  by_cases hl : xs.length ≤ 2000
  · rw [if_pos hl] at e4
    cases hi : intsOf xs with
    | some ks =>
      rw [hi] at e4
      cases e4
      have ex := intsOf_eq hi
      subst ex
      have hu := hd.ints_inv
      subst hu
      rw [List.length_map] at hl
      refine .inl ⟨p, ks, rfl, hq, hl, fun D m hD hm => .inl ⟨D, _, m, rfl, upd_same, by omega, fun ss p2 st mem _ hp => ?_⟩⟩
      obtain ⟨n2, R2⟩ := Nx.junk (o := SetGO (PySem.intKind X.prog X.w) D (fun k => decide (k ∈ ks)) m) R1 hD
      have es : sset ltI ks = ss := sset_of strictI (st.imp fun h => decide_eq_true h) fun x => (mem x).trans decide_eq_true_iff
      dsimp only at q
      rw [es] at q
      exact new_of (A := ⟨B.G, upd B.H D _, B.ι⟩) R2 (DaA.ints ss) (fun C us p3 n3 R3 np ni g hh hd3 => q C us p3 ((n.trans n2).trans n3) R3 (fresh_back (n.trans n2) np) ni g hh hd3) p2 hp
    | none =>
      rw [hi] at e4
      obtain ⟨ks, hs, e5⟩ := Option.map_eq_some_iff.mp (show (strsOf xs).map (fun ks => (sset ltS ks).map PyData.str) = some _ from e4)
      subst e5
      have ex := strsOf_eq hs
      subst ex
      have hu := hd.strs_inv
      subst hu
      rw [List.length_map] at hl
      refine .inr ⟨p, ks, rfl, hq, hl, fun D m hD hm => .inr ⟨D, _, m, rfl, upd_same, by omega, fun ss p2 st mem _ hp => ?_⟩⟩
      obtain ⟨n2, R2⟩ := Nx.junk (o := SetGO (PySem.strKind X.prog X.w) D (fun k => decide (k ∈ ks)) m) R1 hD
      have es : sset ltS ks = ss := sset_of strictS (st.imp fun h => decide_eq_true h) fun x => (mem x).trans decide_eq_true_iff
      dsimp only at q
      rw [es] at q
      exact new_of (A := ⟨B.G, upd B.H D _, B.ι⟩) R2 (DaA.strs ss) (fun C us p3 n3 R3 np ni g hh hd3 => q C us p3 ((n.trans n2).trans n3) R3 (fresh_back (n.trans n2) np) ni g hh hd3) p2 hp
  · rw [if_neg hl] at e4; cases e4⟩

/-! ### dicts with numbers and texts as keys -/
def keyD : PyData → Option Key
  | .int i => some (.inl i)
  | .str x => some (.inr x)
  | _ => none
def dicAt (S : List MO) : W3 → Option (List (Key × PyData))
  | .r i => match S[i]? with
    | some (.dic xs) => some xs
    | _ => none
  | _ => none
def valD (kvs : List (Key × PyData)) (k : Key) : Option PyData := (kvs.find? fun kv => decide (kv.1 = k)).map (·.2)
def putD (kvs : List (Key × PyData)) (k : Key) (v : PyData) : List (Key × PyData) :=
  if (kvs.any fun kv => decide (kv.1 = k)) = true then kvs.map (fun kv => if kv.1 = k then (kv.1, v) else kv) else kvs ++ [(k, v)]
theorem dicAt_of {A : Wd} {S : List MO} {v : V} {w : W3} {xs : List (Key × PyData)} (R : Rl K A S) (r : RW K A v w) (e : dicAt S w = some xs) : ∃ i a vs, w = .r i ∧ A.ι[i]? = some a ∧ S[i]? = some (.dic xs) ∧ v = .ref a ∧ A.G a = none ∧ A.H a = some (.dK vs) ∧ DaK K A.G vs xs := by
  cases w with
  | r i =>
    obtain ⟨a, ha, rfl⟩ := r
    unfold dicAt at e
    dsimp only at e
    cases o : S[i]? with
    | none => rw [o] at e; cases e
    | some m =>
      rw [o] at e
      cases m with
      | dic ys =>
        cases e
        obtain ⟨g, vs, h1, h2⟩ := R.ob i _ a o ha
        exact ⟨i, a, vs, rfl, ha, o, rfl, g, h1, h2⟩
      | _ => cases e
  | _ => cases e
theorem key_da {G : Hp} {v : V} {x : PyData} {k : Key} (h : Da K G v x) (e : keyD x = some k) : v = kV k := by
  cases h with
  | int i => cases e; rfl
  | str i => cases e; rfl
  | _ => cases e
theorem daK_app {G : Hp} {vs us : List (Key × V)} {ds es : List (Key × PyData)} (h : DaK K G vs ds) (h2 : DaK K G us es) : DaK K G (vs ++ us) (ds ++ es) := by
  induction h with
  | nil => exact h2
  | cons a _ ih => exact .cons a ih
theorem daK_put {G : Hp} {vs : List (Key × V)} {ds : List (Key × PyData)} {k : Key} {v : V} {d : PyData} (h : DaK K G vs ds) (hv : Da K G v d) : DaK K G (putK vs k v) (putD ds k d) := by
  have e : (vs.any fun kv => decide (kv.1 = k)) = (ds.any fun kv => decide (kv.1 = k)) := by
    induction h with
    | nil => rfl
    | cons a _ ih => rw [List.any_cons, List.any_cons, ih]
  unfold putK putD
  rw [e]
  by_cases z : (ds.any fun kv => decide (kv.1 = k)) = true
  · rw [if_pos z, if_pos z]
    clear e z
    induction h with
    | nil => exact .nil
    | @cons k' v' d' vs ds a _ ih =>
      rw [List.map_cons, List.map_cons]
      by_cases c : k' = k
      · rw [if_pos c, if_pos c]; exact .cons hv ih
      · rw [if_neg c, if_neg c]; exact .cons a ih
  · rw [if_neg z, if_neg z]
    exact daK_app h (.cons hv .nil)
theorem daK_val {G : Hp} {vs : List (Key × V)} {ds : List (Key × PyData)} {k : Key} (h : DaK K G vs ds) : (valD ds k = none ∧ valV vs k = none) ∨ ∃ v d, valD ds k = some d ∧ valV vs k = some v ∧ Da K G v d := by
  induction h with
  | nil => exact .inl ⟨rfl, rfl⟩
  | @cons k' v' d' vs ds a _ ih =>
    unfold valD valV at ih ⊢
    rw [List.find?_cons, List.find?_cons]
    by_cases c : k' = k
    · have : decide (k' = k) = true := decide_eq_true c
      dsimp only
      rw [this]
      exact .inr ⟨v', d', rfl, rfl, a⟩
    · have : decide (k' = k) = false := decide_eq_false c
      dsimp only
      rw [this]
      exact ih
def eDN : FE := fun _ S => some (.r S.length, S ++ [.dic []])
theorem e_dn : PE3 K X (.Dict [] [] pos) eDN := ⟨pe_imp pe_dnewK fun σ H Q h => by
  obtain ⟨A, S, sl, w, S', rfl, R, s, e, q⟩ := h
  cases e
  intro p hp
  obtain ⟨n, R2⟩ := Nx.own (u := .dK []) (o := .dic []) R hp ⟨R.gh.free hp, [], upd_same, .nil⟩
  exact q ⟨A.G, upd A.H p (.dK []), A.ι ++ [p]⟩ _ n R2 (RW.last (B := ⟨A.G, upd A.H p (.dK []), A.ι⟩) R.len)⟩
def sDP (o i v : FE) : FS := fun sl S => (v sl S).bind fun p => match p.1 with
  | .d x => (o sl p.2).bind fun q => (i sl q.2).bind fun u => match u.1 with
    | .d y => (keyD y).bind fun k => (dicAt u.2 q.1).bind fun kvs => if kvs.length ≤ 100000 then some (.nx sl (setAt u.2 q.1 (.dic (putD kvs k x)))) else none
    | _ => none
  | _ => none
theorem s_dp {i v : Expr} {fv : FE} {pos' : Pos} (hu : X.A.units + 1 < cLine) (ho : PE3 K X o fo) (hi : PE3 K X i fi) (hv : PE3 K X v fv) (hs : swapsWith v (some (.Subscript o i pos')) pos.line X.env = pure false) : PS3 K X (.Assign [.Subscript o i pos'] v pos) (sDP fo fi fv) := ⟨ps_imp (ps_dput hu ho.p hi.p hv.p hs) fun D σ H h => by
  obtain ⟨A, S, sl, oo, rfl, R, s, e, q⟩ := h
  obtain ⟨⟨w1, S1⟩, e1, e⟩ := Option.bind_eq_some_iff.mp e
  cases w1 with
  | d x =>
    obtain ⟨⟨w2, S2⟩, e2, e⟩ := Option.bind_eq_some_iff.mp e
    obtain ⟨⟨w3, S3⟩, e3, e⟩ := Option.bind_eq_some_iff.mp e
    dsimp only at e
    refine ⟨A, S, sl, _, S1, rfl, R, s, e1, fun B v1 n R1 r1 => ⟨B, S1, sl, w2, S2, rfl, R1, s.mono n, e2, fun C v2 n2 R2 r2 => ⟨C, S2, sl, w3, S3, rfl, R2, (s.mono n).mono n2, e3, fun E v3 n3 R3 r3 => ?_⟩⟩⟩
    split at e
    · rename_i y
      obtain ⟨k, e4, e⟩ := Option.bind_eq_some_iff.mp e
      obtain ⟨kvs, e5, e⟩ := Option.bind_eq_some_iff.mp e
      by_cases z : kvs.length ≤ 100000
      · rw [if_pos z] at e
        cases e
        cases key_da r3 e4
        obtain ⟨i, a, vs, rfl, ha, hS, rfl, g0, h, hd⟩ := dicAt_of R3 (r2.mono n3) e5
        have n' := (n.trans n2).trans n3
        refine ⟨a, upd E.H a (.dK (putK vs k v1)), rfl, DPut.k h (by rw [hd.len]; exact line_lt z), ?_⟩
        obtain ⟨n4, R4⟩ := Nx.wr (u := .dK (putK vs k v1)) (o := .dic (putD kvs k x)) R3 ha g0 ⟨g0, putK vs k v1, upd_same, daK_put hd (Da.up (n2.trans n3).gg r1)⟩
        exact q ⟨E.G, upd E.H a (.dK (putK vs k v1)), E.ι⟩ σ (n'.trans n4) R4 (s.mono (n'.trans n4))
      · rw [if_neg z] at e; cases e
    · cases e
  | _ => cases e⟩
def keyP : Key → PyData
  | .inl i => .int i
  | .inr x => .str x
/-- list(d): the keys -/
def gKeys (S : List MO) (ws : List W3) : Option (List PyData) := match ws with
  | [w] => (dicAt S w).map fun kvs => kvs.map fun kv => keyP kv.1
  | _ => none
theorem daK_keys {G : Hp} {vs : List (Key × V)} {ds : List (Key × PyData)} (h : DaK K G vs ds) : DaA K G (vs.map fun kv => kV kv.1) (ds.map fun kv => keyP kv.1) := by
  induction h with
  | nil => exact .nil
  | @cons k v d vs ds a _ ih =>
    refine .cons ?_ ih
    cases k with
    | inl i => exact .int i
    | inr x => exact .str x
def rKeys : List V → Hp → VK → Prop := fun xs H Q => ∃ (a : Addr) (kvs : List (Key × V)), xs = [.ref a] ∧ Rd H a (.dK kvs) ∧ ∀ p, H p = none → Q (.ref p) (upd H p (.lst (kvs.map fun kv => kV kv.1)))
theorem nk_keys : NkOk K rKeys gKeys := by
  intro A S ws vs d Q R rs e q
  unfold gKeys at e
  split at e
  · rename_i w
    obtain ⟨kvs, e1, rfl⟩ := Option.map_eq_some_iff.mp e
    cases rs with
    | cons rv rr =>
      cases rr
      obtain ⟨i, a, us, rfl, ha, hS, rfl, g0, h, hd⟩ := dicAt_of R rv e1
      exact ⟨a, us, rfl, Rd.of h, new_of R (daK_keys hd) q⟩
  · cases e
/-- list(x) of a list, a tuple or a dict -/
def rLst3 (K : PySem.W.Frag) : List V → Hp → VK → Prop := fun xs H Q => rListOf K xs H Q ∨ rKeys xs H Q
def gLst3 (S : List MO) (ws : List W3) : Option (List PyData) := (gSeq S ws).or (gKeys S ws)
theorem nk_lst3 : NkOk K (rLst3 K) gLst3 := by
  intro A S ws vs d Q R rs e q
  unfold gLst3 at e
  cases h : gSeq S ws with
  | some z => rw [h] at e; cases e; exact .inl (nk_list A S ws vs _ Q R rs h q)
  | none => rw [h] at e; exact .inr (nk_keys A S ws vs _ Q R rs e q)
theorem cr_lst3 (hK : X.K = K) (hc : X.calm = true) : CallR X (.type "list") (rLst3 K) := CallR.or (call_list_ofK hK) (call_listD hc)
end
end EA
namespace EA
open PySem PySem.Spec PyProof.Rows L2
section
variable {K : PySem.W.Frag} {X : Cx}
theorem v3 (i : Nat) {x : Str} {pos : Pos} (hN : X.N[i]? = some x := by rfl) (hv : Vis X.env.scope x := by first | exact Or.inl rfl | exact Or.inr (Or.inl rfl) | exact Or.inr (Or.inr rfl)) (hd : (x == ("__debug__" : Str)) = false := by decide)
    (hcd : (x == ("__classdict__" : Str)) = false := by decide) : PE3 K X (.Name x pos) (eVar i) := e_var hN hv hd hcd
theorem lenK3 (hK : X.K = K) : CallR X (.builtin "len") (rLen K) := call_lenK hK
theorem isiK3 (hK : X.K = K) : CallR X (.builtin "isinstance") (rIsi K) := by subst hK; exact call_isi
theorem tupK3 (hK : X.K = K) : CallR X (.type "tuple") (rTupOf K) := call_tuple_ofK hK
theorem sortK3 (hK : X.K = K) (hu : X.A.units + 64 < cLine) : CallR X (.builtin "sorted") (rSortD K) := by subst hK; exact cr_sortD hu
theorem anyK3 (hK : X.K = K) (hc : X.calm = true) : CallR X (.builtin "any") (EA.rAny K) := by subst hK; exact EA.cr_any hc
theorem allK3 (hK : X.K = K) (hc : X.calm = true) : CallR X (.builtin "all") (EA.rAll K) := by subst hK; exact EA.cr_all hc
theorem int1_3 : CallR X (.type "int") rInt1 := call_int1
theorem abs_3 : CallR X (.builtin "abs") rAbs := call_abs
theorem str_3 : CallR X (.type "str") rStrI := call_str_int
theorem fn3_none {P : Program} {w : World} {mg : Str → Option Value} {base : Heap} {k : Nat} {f : Addr} {fd : FuncData} {ps : List Str} : FnOk P w K mg base CX0 k f fd ps (sp3 K fun _ _ => none) :=
  fn_none fun vs H Q E h => by obtain ⟨_, _, _, _, _, _, _, _, e, _⟩ := h; cases e
/-! ### "sep".join(xs) -/
def joinD (a : Str) (ys : List Str) : Option PyData := if (ys.map (·.length)).sum + ys.length * a.length ≤ 100000 then some (.str (Txt.join a ys)) else none
def eJoin (o e : FE) : FE := fun sl S => (o sl S).bind fun p => match p.1 with
  | .d (.str a) => (e sl p.2).bind fun q => (gSeq q.2 [q.1]).bind fun xs => (strsOf xs).bind fun ys => (joinD a ys).map fun d => (.d d, q.2)
  | _ => none
theorem e_join {o e : Expr} {fo fe : FE} {apos cpos : Pos} (hK : X.K = K) (ho : PE3 K X o fo) (he : PE3 K X e fe) (hs : starEach [e] X.env = [(false, eval e X.env)] := by rfl) (hbase : attributeBase o "join" X.env (eval o X.env) = eval o X.env := by rfl) (hline : (apos.endLine == cpos.line) = true := by rfl) :
    PE3 K X (.Call (.Attribute o "join" apos) [e] [] cpos) (eJoin fo fe) := ⟨pe_imp (pe_join ho.p he.p hs hbase hline) fun σ H Q h => by
  subst hK
  obtain ⟨A, S, sl, w, S', rfl, R, s, e, q⟩ := h
  obtain ⟨⟨w1, S1⟩, e1, e⟩ := Option.bind_eq_some_iff.mp e
  dsimp only at e
  split at e
  · rename_i a
    obtain ⟨⟨w2, S2⟩, e2, e⟩ := Option.bind_eq_some_iff.mp e
    obtain ⟨xs, e3, e⟩ := Option.bind_eq_some_iff.mp e
    obtain ⟨ys, e4, e⟩ := Option.bind_eq_some_iff.mp e
    obtain ⟨d, e5, e⟩ := Option.map_eq_some_iff.mp e
    cases e
    refine ⟨A, S, sl, _, S1, rfl, R, s, e1, fun B v n R1 r1 => ?_⟩
    cases Da.str_inv r1
    refine ⟨⟨a, rfl⟩, B, S1, sl, w2, S2, rfl, R1, s.mono n, e2, fun C u n2 R2 r2 => ?_⟩
    obtain ⟨p, us, hv, hq, hd⟩ := gSeq_of (vs := [u]) (ws := [w2]) R2 (.cons r2 .nil) e3
    cases hv
    have ex := strsOf_eq e4
    subst ex
    have hu := hd.strs_inv
    subst hu
    unfold joinD at e5
    by_cases z : (ys.map (·.length)).sum + ys.length * a.length ≤ 100000
    · rw [if_pos z] at e5
      cases e5
      exact ⟨a, p, ys, rfl, rfl, hq, Nat.le_trans z (by decide), q C _ (n.trans n2) R2 (Da.str _)⟩
    · rw [if_neg z] at e5; cases e5
  · cases e⟩
end
theorem _root_.L2.Room.units1 {k : Nat} {A : Around} (r : Room k A) : A.units + 1 < cLine := by have := r.un; omega
/-- the law, from its function -/
def spLaw3 (K : PySem.W.Frag) : Sp := fun vs H Q _ => ∃ (a : Addr) (ns : List Int), vs = [.ref a] ∧ SqL K H a (ns.map V.int) ∧ ns.length ≤ 63 ∧ ∀ H', Q (.bl true) H'
theorem law3 {P : Program} {w : World} {K : PySem.W.Frag} {mg : Str → Option Value} {base : Heap} {k : Nat} {f : Addr} {fd : FuncData} {x : Str} {f3 : F3} (F : FnOk P w K mg base CX0 k f fd [x] (sp3 K f3)) (h : ∀ ns : List Int, ns.length ≤ 63 → ∃ S, f3 [.sc ns] [] = some (.d (.bool true), S)) : FnOk P w K mg base CX0 k f fd [x] (spLaw3 K) :=
  F.imp fun vs H Q E hh => by
    obtain ⟨a, ns, rfl, hS, hl, q⟩ := hh
    obtain ⟨S, e⟩ := h ns hl
    refine ⟨⟨H, H, []⟩, [], [.sc ns], .d (.bool true), S, rfl, ⟨Same.refl _, .nil, rfl, fun i o a e => by simp at e⟩, .cons ⟨a, rfl, hS⟩ .nil, e, fun B v n R r => ?_⟩
    cases Da.bool_inv r
    exact q B.H
end EA
namespace EA
open PySem PySem.Spec PyProof.Rows L2
/-! ### it comes to a value that is so -/
def Wp {α : Type} (x : Option α) (Q : α → Prop) : Prop := ∃ a, x = some a ∧ Q a
section
variable {α β : Type} {x : Option α} {Q : α → Prop}
theorem wp_some {a : α} : Wp (some a) Q ↔ Q a := ⟨fun ⟨_, e, q⟩ => by cases e; exact q, fun q => ⟨a, rfl, q⟩⟩
theorem wp_bind {f : α → Option β} {Q : β → Prop} : Wp (x.bind f) Q ↔ Wp x fun a => Wp (f a) Q :=
  ⟨fun ⟨b, e, q⟩ => by obtain ⟨a, h1, h2⟩ := Option.bind_eq_some_iff.mp e; exact ⟨a, h1, b, h2, q⟩, fun ⟨a, h1, b, h2, q⟩ => ⟨b, by rw [h1]; exact h2, q⟩⟩
theorem wp_map {f : α → β} {Q : β → Prop} : Wp (x.map f) Q ↔ Wp x fun a => Q (f a) :=
  ⟨fun ⟨b, e, q⟩ => by obtain ⟨a, h1, rfl⟩ := Option.map_eq_some_iff.mp e; exact ⟨a, h1, q⟩, fun ⟨a, h1, q⟩ => ⟨f a, by rw [h1]; rfl, q⟩⟩
theorem Wp.imp {Q' : α → Prop} (h : Wp x Q) (i : ∀ a, Q a → Q' a) : Wp x Q' := let ⟨a, e, q⟩ := h; ⟨a, e, i a q⟩
theorem wp_if {c : Prop} [Decidable c] {y : Option α} (h1 : c → Wp x Q) (h2 : ¬ c → Wp y Q) : Wp (if c then x else y) Q := by
  by_cases h : c
  · rw [if_pos h]; exact h1 h
  · rw [if_neg h]; exact h2 h
theorem wp_guard {c : Prop} [Decidable c] (h : c) (q : Wp x Q) : Wp (if c then x else none) Q := by rw [if_pos h]; exact q
theorem wp_eq {a : α} (h : x = some a) (q : Q a) : Wp x Q := ⟨a, h, q⟩
end
/-- .. with the store behind it -/
def Wp2 {α β : Type} (x : Option (α × β)) (Q : α → β → Prop) : Prop := Wp x fun a => Q a.1 a.2
theorem Wp2.imp {α β : Type} {x : Option (α × β)} {Q Q' : α → β → Prop} (h : Wp2 x Q) (i : ∀ a b, Q a b → Q' a b) : Wp2 x Q' := Wp.imp h fun a h => i a.1 a.2 h
theorem wp2_eq {α β : Type} {x : Option (α × β)} {Q : α → β → Prop} {a : α} {b : β} (h : x = some (a, b)) (q : Q a b) : Wp2 x Q := ⟨(a, b), h, q⟩
theorem wp2_some {α β : Type} {Q : α → β → Prop} {a : α} {b : β} (q : Q a b) : Wp2 (some (a, b)) Q := ⟨(a, b), rfl, q⟩
/-! ### the parts, run -/
section
variable {sl : Sl} {S : List MO}
theorem r_var {i : Nat} : eVar i sl S = (sl[i]?.join).map fun w => (w, S) := rfl
theorem r_d {x : PyData} : eD x sl S = some (.d x, S) := rfl
theorem r_ty {n : String} : eTy n sl S = some (.ty n, S) := rfl
theorem r_frz {f : FE} : eFrz f sl S = (f sl S).bind fun p => match p.1 with
  | .r i => match p.2[i]? with
    | some (.lst xs) => some (.d (.list xs), p.2.set i .gone)
    | _ => none
  | w => some (w, p.2) := rfl
theorem r_nil : aNil sl S = some ([], S) := rfl
theorem r_cons {e : FE} {r : FA} : aCons e r sl S = (e sl S).bind fun p => (r sl p.2).map fun q => (p.1 :: q.1, q.2) := rfl
theorem r_tup {a : FA} : eTup a sl S = (a sl S).bind fun p => (dsOf p.1).map fun ds => (.d (.tuple ds), p.2) := rfl
theorem r_nlst {a : FA} : nLst a sl S = (a sl S).bind fun p => (dsOf p.1).map fun ds => (ds, p.2) := rfl
theorem r_nd {n : FN} : eNd n sl S = (n sl S).map fun p => (.d (.list p.1), p.2) := rfl
theorem r_no {n : FN} : eNo n sl S = (n sl S).map fun p => (.r p.2.length, p.2 ++ [.lst p.1]) := rfl
theorem r_nx : sNx sl S = some (.nx sl S) := rfl
theorem r_bk : sBk sl S = some (.bk sl S) := rfl
theorem r_ct : sCt sl S = some (.ct sl S) := rfl
theorem r_seq {f g : FS} : sSeq f g sl S = (f sl S).bind fun o => match o with
  | .nx sl' S' => g sl' S'
  | o => some o := rfl
theorem r_ex {f : FE} : sEx f sl S = (f sl S).map fun p => .nx sl p.2 := rfl
theorem r_rt {f : FE} : sRt f sl S = (f sl S).map fun p => .rt p.1 p.2 := rfl
theorem r_rtn : sRtN sl S = some (.rt (.d .none) S) := rfl
theorem r_if {t : FT} {a b : FS} : sIf t a b sl S = (t sl S).bind fun p => if p.1 = true then a sl p.2 else b sl p.2 := rfl
theorem r_set {i : Nat} {f : FE} : sSet i f sl S = (f sl S).map fun p => .nx (sl.set i (some p.1)) p.2 := rfl
theorem r_asg {f : FE} {g : FG} : sAsg f g sl S = (f sl S).bind fun p => (g p.1 sl p.2).map fun q => .nx q.1 q.2 := rfl
theorem r_gnm {i : Nat} {w : W3} : gNm i w sl S = some (sl.set i (some w), S) := rfl
theorem r_gtp {r : List PyData → Sl → List MO → Option (Sl × List MO)} {xs : List PyData} : gTp r (.d (.tuple xs)) sl S = r xs sl S := rfl
theorem r_gsn : gsNil [] sl S = some (sl, S) := rfl
theorem r_gsc {g : FG} {r : List PyData → Sl → List MO → Option (Sl × List MO)} {x : PyData} {xs : List PyData} : gsCons g r (x :: xs) sl S = (g (.d x) sl S).bind fun p => r xs p.1 p.2 := rfl
theorem r_for {it : FI} {g : FG} {b : FS} : sFor it g b sl S = (it sl S).bind fun p => fLoop p.1.ok g b p.1.ws sl p.2 := rfl
theorem r_lc {own : List Nat} {it : FI} {g : FG} {t : FT} {e : FE} : nLc own it g t e sl S = (it sl S).bind fun p => if p.1.ws.length ≤ 100000 then cLoop p.1.ok g t e (wipe3 sl own) p.1.ws p.2 else none := rfl
theorem r_ecmp {g : GB} {a b : FE} : eCmp g a b sl S = (a sl S).bind fun p => (b sl p.2).bind fun q => (view q.2 p.1).bind fun x => (view q.2 q.1).bind fun y => (g x y).map fun c => (.d (.bool c), q.2) := rfl
theorem r_tcmp {g : GB} {a b : FE} : tCmp g a b sl S = (a sl S).bind fun p => (b sl p.2).bind fun q => (view q.2 p.1).bind fun x => (view q.2 q.1).bind fun y => (g x y).map fun c => (c, q.2) := rfl
theorem r_ttr {f : FE} : tTr f sl S = (f sl S).bind fun p => (truW p.2 p.1).map fun b => (b, p.2) := rfl
theorem r_not {f : FE} : eNot f sl S = (f sl S).bind fun p => (truW p.2 p.1).map fun b => (.d (.bool (!b)), p.2) := rfl
theorem r_tnt {f : FT} : tNt f sl S = (f sl S).map fun p => (!p.1, p.2) := rfl
theorem r_tan {f g : FT} : tAn f g sl S = (f sl S).bind fun p => if p.1 = true then g sl p.2 else some (false, p.2) := rfl
theorem r_tor {f g : FT} : tOr3 f g sl S = (f sl S).bind fun p => if p.1 = true then some (true, p.2) else g sl p.2 := rfl
theorem r_ean {f g : FE} : eAn f g sl S = (f sl S).bind fun p => match p.1 with
  | .d (.bool true) => g sl p.2
  | .d (.bool false) => some (.d (.bool false), p.2)
  | _ => none := rfl
theorem r_eor {f g : FE} : eOr f g sl S = (f sl S).bind fun p => match p.1 with
  | .d (.bool false) => g sl p.2
  | .d (.bool true) => some (.d (.bool true), p.2)
  | _ => none := rfl
theorem r_eif {t : FT} {f g : FE} : eIf t f g sl S = (t sl S).bind fun p => if p.1 = true then f sl p.2 else g sl p.2 := rfl
theorem r_op {g : GO} {a b : FE} : eOp g a b sl S = (a sl S).bind fun p => (b sl p.2).bind fun q => (g q.2 p.1 q.1).map fun d => (.d d, q.2) := rfl
theorem r_nop {g : List MO → W3 → W3 → Option (List PyData)} {a b : FE} : nOp g a b sl S = (a sl S).bind fun p => (b sl p.2).bind fun q => (g q.2 p.1 q.1).map fun d => (d, q.2) := rfl
theorem r_onone : oNone sl S = some (none, S) := rfl
theorem r_osome {f : FE} : oSome f sl S = (f sl S).bind fun p => match p.1 with
  | .d (.int i) => some (some i, p.2)
  | _ => none := rfl
theorem r_esl {a : FE} {l h : FO} : eSl a l h sl S = (a sl S).bind fun p => (l sl p.2).bind fun q => (h sl q.2).bind fun u => match view u.2 p.1 with
  | some (.list xs) => some (.d (.list (cutD xs q.1 u.1)), u.2)
  | some (.tuple xs) => some (.d (.tuple (cutD xs q.1 u.1)), u.2)
  | some (.str z) => if z.length ≤ 100000 then some (.d (.str (cutS z q.1 u.1)), u.2) else none
  | _ => none := rfl
theorem r_nsl {a : FE} {l h : FO} : nSl a l h sl S = (a sl S).bind fun p => (l sl p.2).bind fun q => (h sl q.2).bind fun u => match view u.2 p.1 with
  | some (.list xs) => some (cutD xs q.1 u.1, u.2)
  | _ => none := rfl
theorem r_b {g : GC} {a : FA} : eB g a sl S = (a sl S).bind fun p => (g p.2 p.1).map fun d => (.d d, p.2) := rfl
theorem r_nb {g : List MO → List W3 → Option (List PyData)} {a : FA} : nB g a sl S = (a sl S).bind fun p => (g p.2 p.1).map fun d => (d, p.2) := rfl
theorem r_call {f : F3} {a : FA} : eCall f a sl S = (a sl S).bind fun p => f p.1 p.2 := rfl
theorem r_isq {f : FE} : iSq f sl S = (f sl S).bind fun p => match view p.2 p.1 with
  | some (.list xs) => some (⟨xs.map .d, seqOk p.1 (.list xs)⟩, p.2)
  | some (.tuple xs) => some (⟨xs.map .d, seqOk p.1 (.tuple xs)⟩, p.2)
  | _ => none := rfl
theorem r_ir1 {f : FA} : iR1 f sl S = (f sl S).bind fun p => match p.1 with
  | [.d (.int j)] => if -(2 ^ 62) ≤ j ∧ j < 2 ^ 62 then some (⟨intsW 0 j.toNat, yes⟩, p.2) else none
  | _ => none := rfl
theorem r_ir2 {f : FA} : iR2 f sl S = (f sl S).bind fun p => match p.1 with
  | [.d (.int i), .d (.int j)] => if -(2 ^ 62) ≤ i ∧ i < 2 ^ 62 ∧ -(2 ^ 62) ≤ j ∧ j < 2 ^ 62 then some (⟨intsW i (j - i).toNat, yes⟩, p.2) else none
  | _ => none := rfl
theorem r_irv {f : FE} : iRv f sl S = (f sl S).bind fun p => match p.1 with
  | .d (.list xs) => some (⟨xs.reverse.map .d, yes⟩, p.2)
  | .d (.tuple xs) => some (⟨xs.reverse.map .d, yes⟩, p.2)
  | _ => none := rfl
theorem r_m {g : GM} {o : FE} {a : FA} : eM g o a sl S = (o sl S).bind fun p => if (listAt p.2 p.1).isSome = true then (a sl p.2).bind fun q => (listAt q.2 p.1).bind fun xs => (g xs q.1).map fun z => (.d z.1, setAt q.2 p.1 (.lst z.2)) else none := rfl
theorem r_gsub {o i : FE} {x : PyData} : gSubL o i (.d x) sl S = (o sl S).bind fun p => (i sl p.2).bind fun q => match q.1 with
    | .d (.int k) => (listAt q.2 p.1).bind fun xs => (ixN xs.length k).map fun j => (sl, setAt q.2 p.1 (.lst (xs.set j x)))
    | _ => none := rfl
theorem r_par {i j : Nat} {f : FA} : sPar i j f sl S = (f sl S).bind fun p => match p.1 with
  | [x, y] => some (.nx ((sl.set i (some x)).set j (some y)) p.2)
  | _ => none := rfl
theorem r_dp {o i v : FE} : sDP o i v sl S = (v sl S).bind fun p => match p.1 with
  | .d x => (o sl p.2).bind fun q => (i sl q.2).bind fun u => match u.1 with
    | .d y => (keyD y).bind fun k => (dicAt u.2 q.1).bind fun kvs => if kvs.length ≤ 100000 then some (.nx sl (setAt u.2 q.1 (.dic (putD kvs k x)))) else none
    | _ => none
  | _ => none := rfl
theorem r_join {o e : FE} : eJoin o e sl S = (o sl S).bind fun p => match p.1 with
  | .d (.str a) => (e sl p.2).bind fun q => (gSeq q.2 [q.1]).bind fun xs => (strsOf xs).bind fun ys => (joinD a ys).map fun d => (.d d, q.2)
  | _ => none := rfl
theorem r_fdef {own : Bool} {np nl : Nat} {body : FS} {ws : List W3} (h : ws.length = np) : fdef own np nl body ws S = (body (ws.map some ++ List.replicate nl none) S).bind (ret3 own S.length) := by unfold fdef; rw [if_pos h]
theorem r_viewd {x : PyData} : view S (.d x) = some x := rfl
theorem r_viewsc {xs : List Int} : view S (.sc xs) = some (.list (xs.map .int)) := rfl
theorem r_viewr {i : Nat} {xs : List PyData} (h : S[i]? = some (.lst xs)) : view S (.r i) = some (.list xs) := by unfold view; dsimp only; rw [h]
theorem r_listAt {i : Nat} {xs : List PyData} (h : S[i]? = some (.lst xs)) : listAt S (.r i) = some xs := by unfold listAt; dsimp only; rw [h]
theorem r_dicAt {i : Nat} {xs : List (Key × PyData)} (h : S[i]? = some (.dic xs)) : dicAt S (.r i) = some xs := by unfold dicAt; dsimp only; rw [h]
theorem r_setAt {i : Nat} {o : MO} : setAt S (.r i) o = S.set i o := rfl
theorem r_tyes : tYes3 sl S = some (true, S) := rfl
end
theorem gI_ok {C : Int → Int → Bool} {f : Int → Int → Int} {S : List MO} {i j : Int} (h : C i j = true) : gI C f S (.d (.int i)) (.d (.int j)) = some (.int (f i j)) := by
  unfold gI
  dsimp only
  rw [if_pos h]
theorem r_sub {S : List MO} {i j : Int} : gSub S (.d (.int i)) (.d (.int j)) = some (.int (i - j)) := gI_ok rfl
theorem r_addi {S : List MO} {i j : Int} : gAdd S (.d (.int i)) (.d (.int j)) = some (.int (i + j)) := rfl
theorem r_mod {S : List MO} {i j : Int} (h : 0 < j) : gMod S (.d (.int i)) (.d (.int j)) = some (.int (i % j)) := gI_ok (decide_eq_true h)
theorem r_fdiv {S : List MO} {i j : Int} (h : 0 < j) (h2 : j < 1073741824) : gFdiv S (.d (.int i)) (.d (.int j)) = some (.int (i / j)) := gI_ok (decide_eq_true ⟨h, h2⟩)
theorem r_mulr {S : List MO} {i j : Int} (h : -(2 ^ 64) < j) (h2 : j < 2 ^ 64) : gMul S (.d (.int i)) (.d (.int j)) = some (.int (i * j)) := gI_ok (by
  show (_ || _) = true
  rw [show decide (-(2 ^ 64) < j ∧ j < 2 ^ 64) = true from decide_eq_true ⟨h, h2⟩, Bool.or_true])
theorem r_mull {S : List MO} {i j : Int} (h : -(2 ^ 64) < i) (h2 : i < 2 ^ 64) : gMul S (.d (.int i)) (.d (.int j)) = some (.int (i * j)) := gI_ok (by
  show (_ || _) = true
  rw [show decide (-(2 ^ 64) < i ∧ i < 2 ^ 64) = true from decide_eq_true ⟨h, h2⟩, Bool.true_or])
theorem r_int {S : List MO} {i : Int} : g1 intD S [.d (.int i)] = some (.int i) := rfl
theorem r_absi {S : List MO} {i : Int} : g1 absD S [.d (.int i)] = some (.int (if i < 0 then -i else i)) := rfl

/-! ### the parts, by what they come to -/
section
variable {sl : Sl} {S : List MO} {Q : W3 → List MO → Prop} {QA : List W3 → List MO → Prop} {QT : Bool → List MO → Prop} {QS : Out → Prop} {QN : List PyData → List MO → Prop} {QO : Option Int → List MO → Prop} {QG : Sl → List MO → Prop} {QI : It3 → List MO → Prop}
theorem wp_var {i : Nat} {w : W3} (h : sl[i]?.join = some w) (q : Q w S) : Wp2 (eVar i sl S) Q := by unfold eVar; rw [h]; exact wp_some.mpr q
theorem wp_d {x : PyData} (q : Q (.d x) S) : Wp2 (eD x sl S) Q := wp_some.mpr q
theorem wp_ty {n : String} (q : Q (.ty n) S) : Wp2 (eTy n sl S) Q := wp_some.mpr q
theorem wp_frz {f : FE} (h : Wp2 (f sl S) fun p1 p2 => Wp2 (match p1 with
  | .r i => match p2[i]? with
    | some (.lst xs) => some (W3.d (.list xs), p2.set i .gone)
    | _ => none
  | w => some (w, p2)) Q) : Wp2 (eFrz f sl S) Q := wp_bind.mpr h
theorem wp_frzr {i : Nat} {xs : List PyData} (h : S[i]? = some (.lst xs)) (q : Q (.d (.list xs)) (S.set i .gone)) : Wp2 (match W3.r i with
  | .r i => match S[i]? with
    | some (.lst xs) => some (W3.d (.list xs), S.set i .gone)
    | _ => none
  | w => some (w, S)) Q := by dsimp only; rw [h]; exact wp_some.mpr q
theorem wp_nil (q : QA [] S) : Wp2 (aNil sl S) QA := wp_some.mpr q
theorem wp_cons {e : FE} {r : FA} (h : Wp2 (e sl S) fun p1 p2 => Wp2 (r sl p2) fun q1 q2 => QA (p1 :: q1) q2) : Wp2 (aCons e r sl S) QA := wp_bind.mpr (Wp.imp h fun _ h => wp_map.mpr h)
theorem wp_tup {a : FA} (h : Wp2 (a sl S) fun p1 p2 => Wp (dsOf p1) fun ds => Q (.d (.tuple ds)) p2) : Wp2 (eTup a sl S) Q := wp_bind.mpr (Wp.imp h fun _ h => wp_map.mpr h)
theorem wp_nlst {a : FA} (h : Wp2 (a sl S) fun p1 p2 => Wp (dsOf p1) fun ds => QN ds p2) : Wp2 (nLst a sl S) QN := wp_bind.mpr (Wp.imp h fun _ h => wp_map.mpr h)
theorem wp_ds0 {Q : List PyData → Prop} (q : Q []) : Wp (dsOf []) Q := wp_some.mpr q
theorem wp_ds1 {Q : List PyData → Prop} {x : PyData} {r : List W3} (h : Wp (dsOf r) fun ds => Q (x :: ds)) : Wp (dsOf (.d x :: r)) Q := wp_map.mpr h
theorem wp_nd {n : FN} (h : Wp2 (n sl S) fun p1 p2 => Q (.d (.list p1)) p2) : Wp2 (eNd n sl S) Q := wp_map.mpr h
theorem wp_no {n : FN} (h : Wp2 (n sl S) fun p1 p2 => Q (.r p2.length) (p2 ++ [.lst p1])) : Wp2 (eNo n sl S) Q := wp_map.mpr h
theorem wp_nx (q : QS (.nx sl S)) : Wp (sNx sl S) QS := wp_some.mpr q
theorem wp_bk (q : QS (.bk sl S)) : Wp (sBk sl S) QS := wp_some.mpr q
theorem wp_ct (q : QS (.ct sl S)) : Wp (sCt sl S) QS := wp_some.mpr q
/-- behind a statement -/
def then3 (g : FS) (Q : Out → Prop) : Out → Prop
  | .nx sl S => Wp (g sl S) Q
  | o => Q o
theorem wp_seq {f g : FS} (h : Wp (f sl S) (then3 g QS)) : Wp (sSeq f g sl S) QS := wp_bind.mpr (Wp.imp h fun o h => by
  cases o with
  | nx _ _ => exact h
  | rt _ _ => exact wp_some.mpr h
  | bk _ _ => exact wp_some.mpr h
  | ct _ _ => exact wp_some.mpr h)
theorem th_nx {g : FS} (h : Wp (g sl S) QS) : then3 g QS (.nx sl S) := h
theorem th_rt {g : FS} {w : W3} (h : QS (.rt w S)) : then3 g QS (.rt w S) := h
theorem th_bk {g : FS} (h : QS (.bk sl S)) : then3 g QS (.bk sl S) := h
theorem th_ct {g : FS} (h : QS (.ct sl S)) : then3 g QS (.ct sl S) := h
theorem wp_ex {f : FE} (h : Wp2 (f sl S) fun p1 p2 => QS (.nx sl p2)) : Wp (sEx f sl S) QS := wp_map.mpr h
theorem wp_rt {f : FE} (h : Wp2 (f sl S) fun p1 p2 => QS (.rt p1 p2)) : Wp (sRt f sl S) QS := wp_map.mpr h
theorem wp_rtn (h : QS (.rt (.d .none) S)) : Wp (sRtN sl S) QS := wp_some.mpr h
theorem wp_sif {t : FT} {a b : FS} (h : Wp2 (t sl S) fun p1 p2 => if p1 = true then Wp (a sl p2) QS else Wp (b sl p2) QS) : Wp (sIf t a b sl S) QS := wp_bind.mpr (Wp.imp h fun p h => by
  dsimp only at h
  by_cases c : p.1 = true
  · rw [if_pos c] at h ⊢; exact h
  · rw [if_neg c] at h ⊢; exact h)
theorem wp_set {i : Nat} {f : FE} (h : Wp2 (f sl S) fun p1 p2 => QS (.nx (sl.set i (some p1)) p2)) : Wp (sSet i f sl S) QS := wp_map.mpr h
theorem wp_asg {f : FE} {g : FG} (h : Wp2 (f sl S) fun p1 p2 => Wp2 (g p1 sl p2) fun q1 q2 => QS (.nx q1 q2)) : Wp (sAsg f g sl S) QS := wp_bind.mpr (Wp.imp h fun _ h => wp_map.mpr h)
theorem wp_gnm {i : Nat} {w : W3} (h : QG (sl.set i (some w)) S) : Wp2 (gNm i w sl S) QG := wp_some.mpr h
theorem wp_gtp {r : List PyData → Sl → List MO → Option (Sl × List MO)} {xs : List PyData} (h : Wp2 (r xs sl S) QG) : Wp2 (gTp r (.d (.tuple xs)) sl S) QG := h
theorem wp_gsn (h : QG sl S) : Wp2 (gsNil [] sl S) QG := wp_some.mpr h
theorem wp_gsc {g : FG} {r : List PyData → Sl → List MO → Option (Sl × List MO)} {x : PyData} {xs : List PyData} (h : Wp2 (g (.d x) sl S) fun p1 p2 => Wp2 (r xs p1 p2) QG) : Wp2 (gsCons g r (x :: xs) sl S) QG := wp_bind.mpr h
theorem wp_for {it : FI} {g : FG} {b : FS} (h : Wp2 (it sl S) fun p1 p2 => Wp (fLoop p1.ok g b p1.ws sl p2) QS) : Wp (sFor it g b sl S) QS := wp_bind.mpr h
theorem wp_lc {own : List Nat} {it : FI} {g : FG} {t : FT} {e : FE} (h : Wp2 (it sl S) fun p1 p2 => p1.ws.length ≤ 100000 ∧ Wp2 (cLoop p1.ok g t e (wipe3 sl own) p1.ws p2) QN) : Wp2 (nLc own it g t e sl S) QN := wp_bind.mpr (Wp.imp h fun _ ⟨h1, h2⟩ => by rw [if_pos h1]; exact h2)
theorem wp_ecmp {g : GB} {a b : FE} (h : Wp2 (a sl S) fun p1 p2 => Wp2 (b sl p2) fun q1 q2 => Wp (view q2 p1) fun x => Wp (view q2 q1) fun y => Wp (g x y) fun c => Q (.d (.bool c)) q2) : Wp2 (eCmp g a b sl S) Q :=
  wp_bind.mpr (Wp.imp h fun _ h => wp_bind.mpr (Wp.imp h fun _ h => wp_bind.mpr (Wp.imp h fun _ h => wp_bind.mpr (Wp.imp h fun _ h => wp_map.mpr h))))
theorem wp_tcmp {g : GB} {a b : FE} (h : Wp2 (a sl S) fun p1 p2 => Wp2 (b sl p2) fun q1 q2 => Wp (view q2 p1) fun x => Wp (view q2 q1) fun y => Wp (g x y) fun c => QT c q2) : Wp2 (tCmp g a b sl S) QT :=
  wp_bind.mpr (Wp.imp h fun _ h => wp_bind.mpr (Wp.imp h fun _ h => wp_bind.mpr (Wp.imp h fun _ h => wp_bind.mpr (Wp.imp h fun _ h => wp_map.mpr h))))
theorem wp_ttr {f : FE} (h : Wp2 (f sl S) fun p1 p2 => Wp (truW p2 p1) fun b => QT b p2) : Wp2 (tTr f sl S) QT := wp_bind.mpr (Wp.imp h fun _ h => wp_map.mpr h)
theorem wp_not {f : FE} (h : Wp2 (f sl S) fun p1 p2 => Wp (truW p2 p1) fun b => Q (.d (.bool (!b))) p2) : Wp2 (eNot f sl S) Q := wp_bind.mpr (Wp.imp h fun _ h => wp_map.mpr h)
theorem wp_tnt {f : FT} (h : Wp2 (f sl S) fun p1 p2 => QT (!p1) p2) : Wp2 (tNt f sl S) QT := wp_map.mpr h
theorem wp_tan {f g : FT} (h : Wp2 (f sl S) fun p1 p2 => if p1 = true then Wp2 (g sl p2) QT else QT false p2) : Wp2 (tAn f g sl S) QT := wp_bind.mpr (Wp.imp h fun p h => by
  dsimp only at h
  by_cases c : p.1 = true
  · rw [if_pos c] at h ⊢; exact h
  · rw [if_neg c] at h ⊢; exact wp_some.mpr h)
theorem wp_tor {f g : FT} (h : Wp2 (f sl S) fun p1 p2 => if p1 = true then QT true p2 else Wp2 (g sl p2) QT) : Wp2 (tOr3 f g sl S) QT := wp_bind.mpr (Wp.imp h fun p h => by
  dsimp only at h
  by_cases c : p.1 = true
  · rw [if_pos c] at h ⊢; exact wp_some.mpr h
  · rw [if_neg c] at h ⊢; exact h)
theorem wp_ean {f g : FE} (h : Wp2 (f sl S) fun p1 p2 => ∃ c, p1 = .d (.bool c) ∧ if c = true then Wp2 (g sl p2) Q else Q (.d (.bool false)) p2) : Wp2 (eAn f g sl S) Q := wp_bind.mpr (Wp.imp h fun p h => by
  obtain ⟨c, e, h⟩ := h
  rw [e]
  cases c with
  | true => exact h
  | false => exact wp_some.mpr h)
theorem wp_eor {f g : FE} (h : Wp2 (f sl S) fun p1 p2 => ∃ c, p1 = .d (.bool c) ∧ if c = true then Q (.d (.bool true)) p2 else Wp2 (g sl p2) Q) : Wp2 (eOr f g sl S) Q := wp_bind.mpr (Wp.imp h fun p h => by
  obtain ⟨c, e, h⟩ := h
  rw [e]
  cases c with
  | true => exact wp_some.mpr h
  | false => exact h)
theorem wp_eif {t : FT} {f g : FE} (h : Wp2 (t sl S) fun p1 p2 => if p1 = true then Wp2 (f sl p2) Q else Wp2 (g sl p2) Q) : Wp2 (eIf t f g sl S) Q := wp_bind.mpr (Wp.imp h fun p h => by
  dsimp only at h
  by_cases c : p.1 = true
  · rw [if_pos c] at h ⊢; exact h
  · rw [if_neg c] at h ⊢; exact h)
theorem wp_op {g : GO} {a b : FE} (h : Wp2 (a sl S) fun p1 p2 => Wp2 (b sl p2) fun q1 q2 => Wp (g q2 p1 q1) fun d => Q (.d d) q2) : Wp2 (eOp g a b sl S) Q := wp_bind.mpr (Wp.imp h fun _ h => wp_bind.mpr (Wp.imp h fun _ h => wp_map.mpr h))
theorem wp_nop {g : List MO → W3 → W3 → Option (List PyData)} {a b : FE} (h : Wp2 (a sl S) fun p1 p2 => Wp2 (b sl p2) fun q1 q2 => Wp (g q2 p1 q1) fun d => QN d q2) : Wp2 (nOp g a b sl S) QN := wp_bind.mpr (Wp.imp h fun _ h => wp_bind.mpr (Wp.imp h fun _ h => wp_map.mpr h))
theorem wp_onone (h : QO none S) : Wp2 (oNone sl S) QO := wp_some.mpr h
theorem wp_osome {f : FE} (h : Wp2 (f sl S) fun p1 p2 => ∃ i, p1 = .d (.int i) ∧ QO (some i) p2) : Wp2 (oSome f sl S) QO := wp_bind.mpr (Wp.imp h fun p h => by
  obtain ⟨i, e, h⟩ := h
  rw [e]; exact wp_some.mpr h)
/-- a part of a sequence -/
def gCut (l h : Option Int) : PyData → Option PyData
  | .list xs => some (.list (cutD xs l h))
  | .tuple xs => some (.tuple (cutD xs l h))
  | .str z => if z.length ≤ 100000 then some (.str (cutS z l h)) else none
  | _ => none
theorem wp_esl {a : FE} {l h : FO} (hh : Wp2 (a sl S) fun p1 p2 => Wp2 (l sl p2) fun q1 q2 => Wp2 (h sl q2) fun u1 u2 => Wp (view u2 p1) fun x => Wp (gCut q1 u1 x) fun d => Q (.d d) u2) : Wp2 (eSl a l h sl S) Q :=
  wp_bind.mpr (Wp.imp hh fun _ h => wp_bind.mpr (Wp.imp h fun _ h => wp_bind.mpr (Wp.imp h fun u h => by
    obtain ⟨x, e, d, e2, q⟩ := h
    rw [e]
    unfold gCut at e2
    split at e2
    · cases e2; exact wp_some.mpr q
    · cases e2; exact wp_some.mpr q
    · rename_i z
      by_cases c : z.length ≤ 100000
      · rw [if_pos c] at e2
        cases e2
        dsimp only
        rw [if_pos c]; exact wp_some.mpr q
      · rw [if_neg c] at e2; cases e2
    · cases e2)))
theorem wp_nsl {a : FE} {l h : FO} (hh : Wp2 (a sl S) fun p1 p2 => Wp2 (l sl p2) fun q1 q2 => Wp2 (h sl q2) fun u1 u2 => ∃ xs, view u2 p1 = some (.list xs) ∧ QN (cutD xs q1 u1) u2) : Wp2 (nSl a l h sl S) QN :=
  wp_bind.mpr (Wp.imp hh fun _ h => wp_bind.mpr (Wp.imp h fun _ h => wp_bind.mpr (Wp.imp h fun u h => by
    obtain ⟨x, e, q⟩ := h
    rw [e]; exact wp_some.mpr q)))
theorem wp_b {g : GC} {a : FA} (h : Wp2 (a sl S) fun p1 p2 => Wp (g p2 p1) fun d => Q (.d d) p2) : Wp2 (eB g a sl S) Q := wp_bind.mpr (Wp.imp h fun _ h => wp_map.mpr h)
theorem wp_nb {g : List MO → List W3 → Option (List PyData)} {a : FA} (h : Wp2 (a sl S) fun p1 p2 => Wp (g p2 p1) fun d => QN d p2) : Wp2 (nB g a sl S) QN := wp_bind.mpr (Wp.imp h fun _ h => wp_map.mpr h)
theorem wp_call {f : F3} {a : FA} (h : Wp2 (a sl S) fun p1 p2 => Wp2 (f p1 p2) Q) : Wp2 (eCall f a sl S) Q := wp_bind.mpr h
theorem wp_isq {f : FE} (h : Wp2 (f sl S) fun p1 p2 => ∃ x xs, view p2 p1 = some x ∧ (x = .list xs ∨ x = .tuple xs) ∧ QI (⟨xs.map .d, seqOk p1 x⟩) p2) : Wp2 (iSq f sl S) QI := wp_bind.mpr (Wp.imp h fun p h => by
  obtain ⟨x, xs, e, h1, q⟩ := h
  rw [e]
  rcases h1 with rfl | rfl
  · exact wp_some.mpr q
  · exact wp_some.mpr q)
theorem wp_ir1 {f : FA} (h : Wp2 (f sl S) fun p1 p2 => ∃ j : Int, p1 = [.d (.int j)] ∧ (-(2 ^ 62) ≤ j ∧ j < 2 ^ 62) ∧ QI (⟨intsW 0 j.toNat, yes⟩) p2) : Wp2 (iR1 f sl S) QI := wp_bind.mpr (Wp.imp h fun p h => by
  obtain ⟨j, e, c, q⟩ := h
  rw [e]
  dsimp only
  rw [if_pos c]; exact wp_some.mpr q)
theorem wp_ir2 {f : FA} (h : Wp2 (f sl S) fun p1 p2 => ∃ i j : Int, p1 = [.d (.int i), .d (.int j)] ∧ (-(2 ^ 62) ≤ i ∧ i < 2 ^ 62 ∧ -(2 ^ 62) ≤ j ∧ j < 2 ^ 62) ∧ QI (⟨intsW i (j - i).toNat, yes⟩) p2) : Wp2 (iR2 f sl S) QI := wp_bind.mpr (Wp.imp h fun p h => by
  obtain ⟨i, j, e, c, q⟩ := h
  rw [e]
  dsimp only
  rw [if_pos c]; exact wp_some.mpr q)
theorem wp_irv {f : FE} (h : Wp2 (f sl S) fun p1 p2 => ∃ xs, (p1 = .d (.list xs) ∨ p1 = .d (.tuple xs)) ∧ QI (⟨xs.reverse.map .d, yes⟩) p2) : Wp2 (iRv f sl S) QI := wp_bind.mpr (Wp.imp h fun p h => by
  obtain ⟨xs, e, q⟩ := h
  rcases e with e | e
  · rw [e]; exact wp_some.mpr q
  · rw [e]; exact wp_some.mpr q)
theorem wp_m {g : GM} {o : FE} {a : FA} (h : Wp2 (o sl S) fun p1 p2 => ∃ x0, listAt p2 p1 = some x0 ∧ Wp2 (a sl p2) fun q1 q2 => Wp (listAt q2 p1) fun xs => Wp2 (g xs q1) fun z1 z2 => Q (.d z1) (setAt q2 p1 (.lst z2))) : Wp2 (eM g o a sl S) Q := wp_bind.mpr (Wp.imp h fun p h => by
  obtain ⟨x0, e, h⟩ := h
  rw [e]
  exact wp_bind.mpr (Wp.imp h fun _ h => wp_bind.mpr (Wp.imp h fun _ h => wp_map.mpr h)))
theorem wp_gsub {o i : FE} {x : PyData} (h : Wp2 (o sl S) fun p1 p2 => Wp2 (i sl p2) fun q1 q2 => ∃ k, q1 = .d (.int k) ∧ Wp (listAt q2 p1) fun xs => Wp (ixN xs.length k) fun j => QG sl (setAt q2 p1 (.lst (xs.set j x)))) : Wp2 (gSubL o i (.d x) sl S) QG := wp_bind.mpr (Wp.imp h fun _ h => wp_bind.mpr (Wp.imp h fun q h => by
  obtain ⟨k, e, h⟩ := h
  rw [e]
  exact wp_bind.mpr (Wp.imp h fun _ h => wp_map.mpr h)))
theorem wp_par {i j : Nat} {f : FA} (h : Wp2 (f sl S) fun p1 p2 => ∃ x y, p1 = [x, y] ∧ QS (.nx ((sl.set i (some x)).set j (some y)) p2)) : Wp (sPar i j f sl S) QS := wp_bind.mpr (Wp.imp h fun p h => by
  obtain ⟨x, y, e, q⟩ := h
  rw [e]; exact wp_some.mpr q)
theorem wp_dn (h : Q (.r S.length) (S ++ [.dic []])) : Wp2 (eDN sl S) Q := wp_some.mpr h
theorem wp_dp {o i v : FE} (h : Wp2 (v sl S) fun p1 p2 => ∃ x, p1 = .d x ∧ Wp2 (o sl p2) fun q1 q2 => Wp2 (i sl q2) fun u1 u2 => ∃ y k, u1 = .d y ∧ keyD y = some k ∧ ∃ kvs, dicAt u2 q1 = some kvs ∧ kvs.length ≤ 100000 ∧ QS (.nx sl (setAt u2 q1 (.dic (putD kvs k x))))) : Wp (sDP o i v sl S) QS := wp_bind.mpr (Wp.imp h fun p h => by
  obtain ⟨x, e, h⟩ := h
  rw [e]
  refine wp_bind.mpr (Wp.imp h fun q h => wp_bind.mpr (Wp.imp h fun u h => ?_))
  obtain ⟨y, k, e1, e2, kvs, e3, e4, q⟩ := h
  rw [e1]
  refine wp_bind.mpr (wp_eq e2 (wp_bind.mpr (wp_eq e3 ?_)))
  rw [if_pos e4]; exact wp_some.mpr q)
theorem wp_join {o e : FE} (h : Wp2 (o sl S) fun p1 p2 => ∃ a, p1 = .d (.str a) ∧ Wp2 (e sl p2) fun q1 q2 => ∃ ys, gSeq q2 [q1] = some (ys.map .str) ∧ Wp (joinD a ys) fun d => Q (.d d) q2) : Wp2 (eJoin o e sl S) Q := wp_bind.mpr (Wp.imp h fun p h => by
  obtain ⟨a, e1, h⟩ := h
  rw [e1]
  refine wp_bind.mpr (Wp.imp h fun q h => ?_)
  obtain ⟨ys, e2, h⟩ := h
  exact wp_bind.mpr (wp_eq e2 (wp_bind.mpr (wp_eq (strsOf_map ys) (wp_map.mpr h)))))
theorem wp_aug {i : Nat} {h : Int → Int → Int} {f : FE} {x : Int} (e : sl[i]?.join = some (.d (.int x))) (q : Wp2 (f sl S) fun p1 p2 => ∃ y, p1 = .d (.int y) ∧ QS (.nx (sl.set i (some (.d (.int (h x y))))) p2)) : Wp (sAug i h f sl S) QS := by
  unfold sAug
  rw [e]
  exact wp_bind.mpr (Wp.imp q fun p ⟨y, e, q⟩ => by rw [e]; exact wp_some.mpr q)
theorem wp_viewd {QV : PyData → Prop} {x : PyData} (h : QV x) : Wp (view S (.d x)) QV := wp_some.mpr h
theorem wp_viewr {QV : PyData → Prop} {i : Nat} {xs : List PyData} (e : S[i]? = some (.lst xs)) (h : QV (.list xs)) : Wp (view S (.r i)) QV := wp_eq (r_viewr e) h
theorem wp_lat {QV : List PyData → Prop} {i : Nat} {xs : List PyData} (e : S[i]? = some (.lst xs)) (h : QV xs) : Wp (listAt S (.r i)) QV := wp_eq (r_listAt e) h
/-- a def -/
def retQ (own : Bool) (n0 : Nat) (Q : W3 → List MO → Prop) : Out → Prop := fun o => Wp2 (ret3 own n0 o) Q
theorem wp_fdef {own : Bool} {np nl : Nat} {body : FS} {ws : List W3} (hl : ws.length = np) (h : Wp (body (ws.map some ++ List.replicate nl none) S) (retQ own S.length Q)) : Wp2 (fdef own np nl body ws S) Q := by
  rw [r_fdef hl]
  exact wp_bind.mpr h
theorem rq_nx {own : Bool} {n0 : Nat} (h : Q (.d .none) (S.take n0)) : retQ own n0 Q (.nx sl S) := wp_some.mpr h
theorem rq_d {own : Bool} {n0 : Nat} {x : PyData} (h : Q (.d x) (S.take n0)) : retQ own n0 Q (.rt (.d x) S) := wp_some.mpr h
theorem rq_new {own : Bool} {n0 i : Nat} {xs : List PyData} (hi : ¬ i < n0) (e : S[i]? = some (.lst xs)) (h : if own = true then Q (.r n0) (S.take n0 ++ [.lst xs]) else Q (.d (.list xs)) (S.take n0)) : retQ own n0 Q (.rt (.r i) S) := by
  have e2 : ret3 own n0 (.rt (.r i) S) = if own = true then some (.r n0, S.take n0 ++ [.lst xs]) else some (.d (.list xs), S.take n0) := by
    show (if i < n0 then _ else _) = _
    rw [if_neg hi, e]
  unfold retQ
  rw [e2]
  cases own with
  | true => exact wp_some.mpr h
  | false => exact wp_some.mpr h
theorem rq_old {own : Bool} {n0 i : Nat} (hi : i < n0) (h : Q (.r i) (S.take n0)) : retQ own n0 Q (.rt (.r i) S) := by
  have e2 : ret3 own n0 (.rt (.r i) S) = some (.r i, S.take n0) := by
    show (if i < n0 then _ else _) = _
    rw [if_pos hi]
  unfold retQ
  rw [e2]
  exact wp_some.mpr h
/-! ### operations on known things -/
variable {P : PyData → Prop} {PB : Bool → Prop}
theorem wp_addi {i j : Int} (h : P (.int (i + j))) : Wp (gAdd S (.d (.int i)) (.d (.int j))) P := wp_some.mpr h
theorem wp_sub {i j : Int} (h : P (.int (i - j))) : Wp (gSub S (.d (.int i)) (.d (.int j))) P := wp_eq r_sub h
theorem wp_mod {i j : Int} (hj : 0 < j) (h : P (.int (i % j))) : Wp (gMod S (.d (.int i)) (.d (.int j))) P := wp_eq (r_mod hj) h
theorem wp_fdiv {i j : Int} (hj : 0 < j ∧ j < 1073741824) (h : P (.int (i / j))) : Wp (gFdiv S (.d (.int i)) (.d (.int j))) P := wp_eq (r_fdiv hj.1 hj.2) h
theorem wp_mulr {i j : Int} (hj : -(2 ^ 64) < j ∧ j < 2 ^ 64) (h : P (.int (i * j))) : Wp (gMul S (.d (.int i)) (.d (.int j))) P := wp_eq (r_mulr hj.1 hj.2) h
theorem wp_mull {i j : Int} (hj : -(2 ^ 64) < i ∧ i < 2 ^ 64) (h : P (.int (i * j))) : Wp (gMul S (.d (.int i)) (.d (.int j))) P := wp_eq (r_mull hj.1 hj.2) h
theorem wp_pow {i j : Int} (hj : 0 ≤ j ∧ j ≤ 1000000 ∧ i.natAbs < 2 ^ 64) (h : P (.int (i ^ j.toNat))) : Wp (gPow S (.d (.int i)) (.d (.int j))) P := wp_eq (gI_ok (decide_eq_true hj)) h
theorem wp_int {i : Int} (h : P (.int i)) : Wp (g1 intD S [.d (.int i)]) P := wp_some.mpr h
theorem wp_abs {i : Int} (h : P (.int (if i < 0 then -i else i))) : Wp (g1 absD S [.d (.int i)]) P := wp_some.mpr h
theorem wp_str {i : Int} (hi : i.natAbs.log2 < 1920) (h : P (.str (toString i))) : Wp (g1 strD S [.d (.int i)]) P := by
  show Wp (if i.natAbs.log2 < 1920 then some (PyData.str (toString i)) else none) P
  rw [if_pos hi]; exact wp_some.mpr h
theorem wp_adds {i j : Str} (hl : i.length + j.length ≤ 100000) (h : P (.str (i ++ j))) : Wp (gAdd S (.d (.str i)) (.d (.str j))) P := by
  refine wp_eq (a := .str (i ++ j)) ?_ h
  show ((if i.length + j.length ≤ 100000 then some (PyData.str (i ++ j)) else none).or _) = _
  rw [if_pos hl]; rfl
theorem wp_addt {i j : List PyData} (hl : i.length + j.length ≤ 100000) (h : P (.tuple (i ++ j))) : Wp (gAdd S (.d (.tuple i)) (.d (.tuple j))) P := by
  refine wp_eq (a := .tuple (i ++ j)) ?_ h
  show ((if i.length + j.length ≤ 100000 then some (PyData.tuple (i ++ j)) else none).or _) = _
  rw [if_pos hl]; rfl
theorem wp_cat {x y : W3} {xs ys : List PyData} {QL : List PyData → Prop} (hx : viewL S x = some xs) (hy : viewL S y = some ys) (hl : xs.length + ys.length ≤ 100000) (h : QL (xs ++ ys)) : Wp (gCatL S x y) QL := by
  refine wp_eq (a := xs ++ ys) ?_ h
  unfold gCatL
  rw [hx, hy]
  show (if _ then _ else _) = _
  rw [if_pos hl]
theorem wp_addl {i j : List PyData} (hl : i.length + j.length ≤ 100000) (h : P (.list (i ++ j))) : Wp (gAdd S (.d (.list i)) (.d (.list j))) P := by
  refine wp_eq (a := .list (i ++ j)) ?_ h
  show ((gCatL S (.d (.list i)) (.d (.list j))).map PyData.list) = _
  obtain ⟨a, e, q⟩ := wp_cat (S := S) (x := .d (.list i)) (y := .d (.list j)) (QL := fun l => l = i ++ j) rfl rfl hl rfl
  rw [e, q]; rfl
theorem wp_ixd {xs : List PyData} {k : Int} {d : PyData} (e : atI xs k = some d) (h : P d) : Wp (gIx S (.d (.list xs)) (.d (.int k))) P := wp_eq e h
theorem wp_ixt {xs : List PyData} {k : Int} {d : PyData} (e : atI xs k = some d) (h : P d) : Wp (gIx S (.d (.tuple xs)) (.d (.int k))) P := wp_eq e h
theorem wp_ixr {i : Nat} {xs : List PyData} {k : Int} {d : PyData} (e0 : S[i]? = some (.lst xs)) (e : atI xs k = some d) (h : P d) : Wp (gIx S (.r i) (.d (.int k))) P := by
  refine wp_eq (a := d) ?_ h
  unfold gIx
  dsimp only
  rw [r_viewr e0]; exact e
theorem wp_lenl {xs : List PyData} (h : P (.int (xs.length : Nat))) : Wp (gLen S [.d (.list xs)]) P := wp_some.mpr h
theorem wp_lent {xs : List PyData} (h : P (.int (xs.length : Nat))) : Wp (gLen S [.d (.tuple xs)]) P := wp_some.mpr h
theorem wp_lensc {xs : List Int} (h : P (.int (xs.length : Nat))) : Wp (gLen S [.sc xs]) P := by
  rw [show xs.length = (xs.map PyData.int).length by rw [List.length_map]] at h
  exact wp_some.mpr h
theorem wp_lenr {i : Nat} {xs : List PyData} (e0 : S[i]? = some (.lst xs)) (h : P (.int (xs.length : Nat))) : Wp (gLen S [.r i]) P := by
  refine wp_eq (a := .int (xs.length : Nat)) ?_ h
  unfold gLen
  dsimp only
  rw [r_viewr e0]
theorem wp_gle {a b : PyData} (c : cmpOk a b = true) (h : PB (!W.dataLt b a)) : Wp (gLe a b) PB := wp_eq (if_pos c) h
theorem wp_glti {i j : Int} (h : PB (decide (i < j))) : Wp (gLt (.int i) (.int j)) PB := wp_eq (if_pos rfl) (by rw [W.dataLt_int]; exact h)
theorem wp_ggti {i j : Int} (h : PB (decide (j < i))) : Wp (gGt (.int i) (.int j)) PB := wp_eq (if_pos rfl) (by rw [W.dataLt_int]; exact h)
theorem wp_glei {i j : Int} (h : PB (decide (i ≤ j))) : Wp (gLe (.int i) (.int j)) PB := wp_eq (if_pos rfl) (by
  rw [W.dataLt_int]
  have : decide (i ≤ j) = !decide (j < i) := by by_cases c : i ≤ j <;> simp [c] <;> omega
  rw [← this]; exact h)
theorem wp_ggei {i j : Int} (h : PB (decide (j ≤ i))) : Wp (gGe (.int i) (.int j)) PB := wp_eq (if_pos rfl) (by
  rw [W.dataLt_int]
  have : decide (j ≤ i) = !decide (i < j) := by by_cases c : j ≤ i <;> simp [c] <;> omega
  rw [← this]; exact h)
theorem wp_glts {i j : Str} (h : PB (decide (i.cps.toList < j.cps.toList))) : Wp (gLt (.str i) (.str j)) PB := wp_eq (if_pos rfl) (by rw [W.dataLt_str]; exact h)
theorem wp_ggts {i j : Str} (h : PB (decide (j.cps.toList < i.cps.toList))) : Wp (gGt (.str i) (.str j)) PB := wp_eq (if_pos rfl) (by rw [W.dataLt_str]; exact h)
theorem wp_geq {a b : PyData} (c : a.depth ≤ 40 ∨ b.depth ≤ 40) (h : PB (PyData.eqv a b)) : Wp (gEq a b) PB := wp_eq (if_pos c) h
theorem wp_gne {a b : PyData} (c : a.depth ≤ 40 ∨ b.depth ≤ 40) (h : PB (!PyData.eqv a b)) : Wp (gNe a b) PB := wp_eq (if_pos c) h
theorem wp_geqi {i j : Int} (h : PB (i == j)) : Wp (gEq (.int i) (.int j)) PB := wp_geq (.inl (by show PyData.depth (.int i) ≤ 40; rw [PyData.depth]; decide)) h
theorem wp_gnei {i j : Int} (h : PB (!(i == j))) : Wp (gNe (.int i) (.int j)) PB := wp_gne (.inl (by show PyData.depth (.int i) ≤ 40; rw [PyData.depth]; decide)) h
theorem wp_gis {a b : PyData} (c : plainB b = true) (h : PB (isB a b)) : Wp (gIs a b) PB := wp_eq (if_pos c) h
theorem wp_gisn {a b : PyData} (c : plainB b = true) (h : PB (!isB a b)) : Wp (gIsN a b) PB := wp_eq (if_pos c) h
theorem wp_app {xs : List PyData} {x : PyData} {QM : PyData → List PyData → Prop} (hl : xs.length ≤ 100000) (h : QM .none (xs ++ [x])) : Wp2 (mApp xs [.d x]) QM := wp_eq (if_pos hl) h
theorem wp_popAt {xs : List PyData} {k : Int} {x : PyData} {QM : PyData → List PyData → Prop} (h0 : 0 ≤ k) (h1 : k < xs.length) (hl : xs.length ≤ 100000) (e : xs[k.toNat]? = some x) (h : QM x (xs.eraseIdx k.toNat)) : Wp2 (mPopAt xs [.d (.int k)]) QM := by
  unfold mPopAt
  dsimp only
  rw [if_pos ⟨h0, h1, hl⟩, e]
  exact wp_some.mpr h
theorem wp_trub {b : Bool} (h : PB b) : Wp (truW S (.d (.bool b))) PB := wp_some.mpr h
theorem wp_isi {x : PyData} {c : String} {b : Bool} (e : kitB (tyN x) c = some b) (h : P (.bool b)) : Wp (gIsi S [.d x, .ty c]) P := by
  refine wp_eq (a := .bool b) ?_ h
  show ((kitB (tyN x) c).map PyData.bool) = _
  rw [e]; rfl
theorem wp_tupl {xs : List PyData} (h : P (.tuple xs)) : Wp (gTupOf S [.d (.list xs)]) P := wp_some.mpr h
theorem wp_tupt {xs : List PyData} (h : P (.tuple xs)) : Wp (gTupOf S [.d (.tuple xs)]) P := wp_some.mpr h
theorem wp_tupr {i : Nat} {xs : List PyData} (e0 : S[i]? = some (.lst xs)) (h : P (.tuple xs)) : Wp (gTupOf S [.r i]) P := by
  refine wp_eq (a := .tuple xs) ?_ h
  unfold gTupOf
  dsimp only
  rw [r_viewr e0]
end
/-! ### loops -/
theorem get_set0 {S : List MO} {h : Nat} {o o' : MO} (e : S[h]? = some o) : (S.set h o')[h]? = some o' := List.getElem?_set_self (List.getElem?_eq_some_iff.mp e).1
def loopQ (I : Sl → List MO → Prop) (QS : Out → Prop) : Out → Prop
  | .nx sl S => I sl S
  | .ct sl S => I sl S
  | .bk sl S => QS (.nx sl S)
  | .rt w S => QS (.rt w S)
section
variable {I : Sl → List MO → Prop} {QS : Out → Prop} {sl : Sl} {S : List MO}
theorem lq_nx (h : I sl S) : loopQ I QS (.nx sl S) := h
theorem lq_ct (h : I sl S) : loopQ I QS (.ct sl S) := h
theorem lq_bk (h : QS (.nx sl S)) : loopQ I QS (.bk sl S) := h
theorem lq_rt {w : W3} (h : QS (.rt w S)) : loopQ I QS (.rt w S) := h
end
/-- a for loop by an invariant over the turns -/
theorem wp_loop {ok : List MO → Bool} {g : FG} {b : FS} {QS : Out → Prop} (Inv : Nat → Sl → List MO → Prop) : ∀ {ws : List W3} {n : Nat} {sl : Sl} {S : List MO}, Inv n sl S → (∀ i sl S, Inv i sl S → ok S = true) →
    (∀ i w sl S, ws[i - n]? = some w → n ≤ i → Inv i sl S → Wp2 (g w sl S) fun p1 p2 => Wp (b p1 p2) (loopQ (Inv (i + 1)) QS)) → (∀ sl S, Inv (n + ws.length) sl S → QS (.nx sl S)) → Wp (fLoop ok g b ws sl S) QS
  | [], n, sl, S, h0, hok, hs, he => by
    unfold fLoop
    rw [if_pos (hok _ _ _ h0)]
    exact wp_some.mpr (he sl S h0)
  | w :: ws, n, sl, S, h0, hok, hs, he => by
    unfold fLoop
    rw [if_pos (hok _ _ _ h0)]
    refine wp_bind.mpr (Wp.imp (hs n w sl S (by rw [Nat.sub_self]; rfl) (Nat.le_refl _) h0) fun p h => wp_bind.mpr (Wp.imp h fun o h => ?_))
    have go : ∀ {sl S}, Inv (n + 1) sl S → Wp (fLoop ok g b ws sl S) QS := fun {sl S} h1 => wp_loop Inv h1 hok (fun i w sl S e hi => hs i w sl S (by
      have : i - n = (i - (n + 1)) + 1 := by omega
      rw [this]; exact e) (by omega)) fun sl S h2 => he sl S (by rw [List.length_cons, show n + (ws.length + 1) = n + 1 + ws.length by omega]; exact h2)
    cases o with
    | nx sl S => exact go h
    | ct sl S => exact go h
    | bk sl S => exact wp_some.mpr h
    | rt w S => exact wp_some.mpr h
def DatW (w : W3) (K : PyData → Prop) : Prop := ∃ x, w = .d x ∧ K x
theorem datW_i {x : PyData} {K : PyData → Prop} (h : K x) : DatW (.d x) K := ⟨x, rfl, h⟩
theorem wp_ty3 {sl : Sl} {S : List MO} {QT : Bool → List MO → Prop} (h : QT true S) : Wp2 (tYes3 sl S) QT := wp_some.mpr h
theorem set_same {S : List MO} {h : Nat} {o : MO} (e : S[h]? = some o) : S.set h o = S := by
  apply List.ext_getElem?
  intro j
  by_cases z : h = j
  · subst z; rw [get_set0 e, e]
  · rw [List.getElem?_set_ne z]
/-- a comprehension whose turns keep the store in a state and give each a value -/
theorem wp_comp {ok : List MO → Bool} {g : FG} {t : FT} {e : FE} {sl : Sl} {QN : List PyData → List MO → Prop} (Inv : Nat → List PyData → List MO → Prop) : ∀ {ws : List W3} {n : Nat} {acc : List PyData} {S : List MO}, Inv n acc S → (∀ i acc S, Inv i acc S → ok S = true) →
    (∀ i w acc S, ws[i - n]? = some w → n ≤ i → Inv i acc S → Wp2 (g w sl S) fun p1 p2 => Wp2 (t p1 p2) fun c1 c2 => if c1 = true then Wp2 (e p1 c2) fun y1 y2 => DatW y1 fun x => Inv (i + 1) (acc ++ [x]) y2 else Inv (i + 1) acc c2) →
    (∀ ys S, Inv (n + ws.length) (acc ++ ys) S → QN ys S) → Wp2 (cLoop ok g t e sl ws S) QN
  | [], n, acc, S, h0, hok, hs, he => by
    unfold cLoop
    rw [if_pos (hok _ _ _ h0)]
    exact wp_some.mpr (he [] S (by rw [List.append_nil]; exact h0))
  | w :: ws, n, acc, S, h0, hok, hs, he => by
    unfold cLoop
    rw [if_pos (hok _ _ _ h0)]
    refine wp_bind.mpr (Wp.imp (hs n w acc S (by rw [Nat.sub_self]; rfl) (Nat.le_refl _) h0) fun p h => wp_bind.mpr (Wp.imp h fun c h => ?_))
    have go : ∀ {acc' S} {QN' : List PyData → List MO → Prop}, Inv (n + 1) acc' S → (∀ ys S, Inv (n + 1 + ws.length) (acc' ++ ys) S → QN' ys S) → Wp2 (cLoop ok g t e sl ws S) QN' := fun {acc' S QN'} h1 h2 => wp_comp Inv h1 hok (fun i w acc S e hi => hs i w acc S (by
      have : i - n = (i - (n + 1)) + 1 := by omega
      rw [this]; exact e) (by omega)) h2
    have en : n + (w :: ws).length = n + 1 + ws.length := by rw [List.length_cons]; omega
    rw [en] at he
    by_cases hc : c.1 = true
    · rw [if_pos hc] at h ⊢
      refine wp_bind.mpr (Wp.imp h fun y h => ?_)
      obtain ⟨x, e1, h1⟩ := h
      rw [e1]
      exact wp_map.mpr (go h1 fun ys S h2 => he (x :: ys) S (by rw [List.append_assoc] at h2; exact h2))
    · rw [if_neg hc] at h ⊢
      exact go h he
/-- a comprehension that leaves the store as it is -/
theorem wp_pure {ok : List MO → Bool} {g : FG} {t : FT} {e : FE} {sl : Sl} {S : List MO} {QN : List PyData → List MO → Prop} {ws : List W3} {α : Type} (xs : List α) (w : α → W3) (c : α → Bool) (v : α → PyData) (hws : ws = xs.map w) (hok : ok S = true)
    (hs : ∀ x ∈ xs, Wp2 (g (w x) sl S) fun p1 p2 => Wp2 (t p1 p2) fun b1 b2 => b1 = c x ∧ b2 = S ∧ (c x = true → Wp2 (e p1 S) fun y1 y2 => y1 = .d (v x) ∧ y2 = S)) (h : QN ((xs.filter c).map v) S) : Wp2 (cLoop ok g t e sl ws S) QN := by
  subst hws
  have main : ∀ xs : List α, (∀ x ∈ xs, Wp2 (g (w x) sl S) fun p1 p2 => Wp2 (t p1 p2) fun b1 b2 => b1 = c x ∧ b2 = S ∧ (c x = true → Wp2 (e p1 S) fun y1 y2 => y1 = .d (v x) ∧ y2 = S)) → cLoop ok g t e sl (xs.map w) S = some ((xs.filter c).map v, S) := by
    intro xs
    induction xs with
    | nil => intro _; show (if ok S = true then _ else _) = _; rw [if_pos hok]; rfl
    | cons x xs ih =>
      intro hs
      obtain ⟨p, e1, ⟨b1, b2⟩, e2, e3, e3', h3⟩ := hs x List.mem_cons_self
      dsimp only at e3 e3'
      subst e3 e3'
      have ih := ih fun y hy => hs y (List.mem_cons_of_mem _ hy)
      rw [List.map_cons]
      unfold cLoop
      rw [if_pos hok, e1]
      show (t p.1 p.2).bind _ = _
      rw [e2]
      show (if c x = true then _ else _) = _
      by_cases hc : c x = true
      · rw [if_pos hc, List.filter_cons_of_pos hc, List.map_cons]
        obtain ⟨⟨y1, y2⟩, e4, e5, e6⟩ := h3 hc
        dsimp only at e5 e6
        subst e5 e6
        show (e p.1 _).bind _ = _
        rw [e4]
        show (cLoop ok g t e sl (xs.map w) _).map _ = _
        rw [ih]; rfl
      · rw [if_neg hc, List.filter_cons_of_neg hc]
        exact ih
  exact wp_eq (main xs hs) h
theorem get_set {S : List MO} {h : Nat} {o o' : MO} (e : S[h]? = some o) : (S.set h o')[h]? = some o' := List.getElem?_set_self (List.getElem?_eq_some_iff.mp e).1
theorem take_set {S : List MO} {h : Nat} {o : MO} : (S.set h o).take S.length = S.set h o := List.take_of_length_le (by rw [List.length_set]; exact Nat.le_refl _)
theorem take_app {S l : List MO} : (S ++ l).take S.length = S := by rw [List.take_append_of_le_length (Nat.le_refl _), List.take_length]
theorem rq_dt {own : Bool} {n0 : Nat} {x : PyData} {S S2 : List MO} {Q : W3 → List MO → Prop} (e : S.take n0 = S2) (h : Q (.d x) S2) : retQ own n0 Q (.rt (.d x) S) := rq_d (by rw [e]; exact h)
theorem rq_nxt {own : Bool} {n0 : Nat} {sl : Sl} {S S2 : List MO} {Q : W3 → List MO → Prop} (e : S.take n0 = S2) (h : Q (.d .none) S2) : retQ own n0 Q (.nx sl S) := rq_nx (by rw [e]; exact h)
theorem set_app {S l : List MO} {h : Nat} {o u : MO} (e : S[h]? = some u) : (S ++ l).set h o = S.set h o ++ l := List.set_append_left _ _ (List.getElem?_eq_some_iff.mp e).1
theorem get_app {S l : List MO} {h : Nat} {u : MO} (e : S[h]? = some u) : (S ++ l)[h]? = some u := by rw [List.getElem?_append_left (List.getElem?_eq_some_iff.mp e).1]; exact e
theorem get_last {S : List MO} {u : MO} : (S ++ [u])[S.length]? = some u := by rw [List.getElem?_append_right (Nat.le_refl _), Nat.sub_self]; rfl
theorem set_last {S : List MO} {u o : MO} : (S ++ [u]).set S.length o = S ++ [o] := by rw [List.set_append_right _ _ (Nat.le_refl _), Nat.sub_self]; rfl
section
variable {sl : Sl} {S : List MO} {Q : W3 → List MO → Prop} {QG : Sl → List MO → Prop}
def AtSet (p q : W3) (S : List MO) (x : PyData) (K : List MO → Prop) : Prop := ∃ h k xs j, p = .r h ∧ q = .d (.int k) ∧ S[h]? = some (.lst xs) ∧ ixN xs.length k = some j ∧ K (S.set h (.lst (xs.set j x)))
theorem atSet_i {S : List MO} {x : PyData} {K : List MO → Prop} {h j : Nat} {k : Int} {xs : List PyData} (e1 : S[h]? = some (.lst xs)) (e2 : ixN xs.length k = some j) (q : K (S.set h (.lst (xs.set j x)))) : AtSet (.r h) (.d (.int k)) S x K := ⟨h, k, xs, j, rfl, rfl, e1, e2, q⟩
theorem wp_gs {o i : FE} {x : PyData} (h : Wp2 (o sl S) fun p1 p2 => Wp2 (i sl p2) fun q1 q2 => AtSet p1 q1 q2 x (QG sl)) : Wp2 (gSubL o i (.d x) sl S) QG :=
  wp_gsub (h.imp fun p1 p2 h => h.imp fun q1 q2 ⟨h, k, xs, j, e1, e2, e3, e4, q⟩ => ⟨k, e2, wp_eq (by rw [e1]; exact r_listAt e3) (wp_eq e4 (by rw [e1]; exact q))⟩)
def AtLst (p : W3) (S : List MO) (K : Nat → Prop) : Prop := ∃ h x0, p = .r h ∧ S[h]? = some (.lst x0) ∧ K h
def NowLst (h : Nat) (S : List MO) (K : List PyData → Prop) : Prop := ∃ xs, S[h]? = some (.lst xs) ∧ K xs
theorem atLst_i {h : Nat} {S : List MO} {K : Nat → Prop} {xs : List PyData} (e : S[h]? = some (.lst xs)) (q : K h) : AtLst (.r h) S K := ⟨h, xs, rfl, e, q⟩
theorem nowLst_i {h : Nat} {S : List MO} {K : List PyData → Prop} {xs : List PyData} (e : S[h]? = some (.lst xs)) (q : K xs) : NowLst h S K := ⟨xs, e, q⟩
theorem wp_me {g : GM} {o : FE} {a : FA} (h : Wp2 (o sl S) fun p1 p2 => AtLst p1 p2 fun h => Wp2 (a sl p2) fun q1 q2 => NowLst h q2 fun xs => Wp2 (g xs q1) fun z1 z2 => Q (.d z1) (q2.set h (.lst z2))) : Wp2 (eM g o a sl S) Q :=
  wp_m (h.imp fun p1 p2 ⟨h, x0, e1, e2, hh⟩ => ⟨x0, by rw [e1]; exact r_listAt e2, hh.imp fun q1 q2 ⟨xs, e3, q⟩ => wp_eq (by rw [e1]; exact r_listAt e3) (q.imp fun z1 z2 q => by rw [e1]; exact q)⟩)
end
theorem take_set2 {S : List MO} {h : Nat} {a b : MO} : ((S.set h a).set h b).take S.length = S.set h b := by rw [List.set_set, take_set]
theorem take_set3 {S : List MO} {h : Nat} {a b c : MO} : (((S.set h a).set h b).set h c).take S.length = S.set h c := by rw [List.set_set, List.set_set, take_set]
theorem take_aset {S l : List MO} {o : MO} : ((S ++ [o]).set S.length o).take S.length = S := by rw [set_last, take_app]
/-- what is walked: a list, a tuple -/
def SeqW (S : List MO) (w : W3) (K : It3 → Prop) : Prop := ∃ x xs, view S w = some x ∧ (x = .list xs ∨ x = .tuple xs) ∧ K ⟨xs.map .d, seqOk w x⟩
section
variable {S : List MO} {K : It3 → Prop} {xs : List PyData} {QL : List PyData → Prop}
theorem sq_l (h : K ⟨xs.map .d, yes⟩) : SeqW S (.d (.list xs)) K := ⟨_, xs, rfl, .inl rfl, h⟩
theorem sq_t (h : K ⟨xs.map .d, yes⟩) : SeqW S (.d (.tuple xs)) K := ⟨_, xs, rfl, .inr rfl, h⟩
theorem sq_sc {ns : List Int} (h : K ⟨(ns.map PyData.int).map .d, yes⟩) : SeqW S (.sc ns) K := ⟨_, _, rfl, .inl rfl, h⟩
theorem sq_r {i : Nat} (e : S[i]? = some (.lst xs)) (h : K ⟨xs.map .d, seqOk (.r i) (.list xs)⟩) : SeqW S (.r i) K := ⟨_, xs, r_viewr e, .inl rfl, h⟩
theorem seqOk_r {i : Nat} (e : S[i]? = some (.lst xs)) : seqOk (.r i) (.list xs) S = true := by simp [seqOk, r_viewr e]
theorem wp_sq {sl : Sl} {f : FE} {QI : It3 → List MO → Prop} (h : Wp2 (f sl S) fun p1 p2 => SeqW p2 p1 fun j => QI j p2) : Wp2 (iSq f sl S) QI := wp_isq h
theorem wp_l3l (h : QL xs) : Wp (gLst3 S [.d (.list xs)]) QL := wp_eq rfl h
theorem wp_l3t (h : QL xs) : Wp (gLst3 S [.d (.tuple xs)]) QL := wp_eq rfl h
theorem wp_l3r {i : Nat} (e : S[i]? = some (.lst xs)) (h : QL xs) : Wp (gLst3 S [.r i]) QL := by
  refine wp_eq (a := xs) ?_ h
  unfold gLst3 gSeq
  dsimp only
  rw [r_viewr e]; rfl
theorem wp_l3d {i : Nat} {ks : List (Key × PyData)} (e : S[i]? = some (.dic ks)) (h : QL (ks.map fun kv => keyP kv.1)) : Wp (gLst3 S [.r i]) QL := by
  refine wp_eq (a := _) ?_ h
  unfold gLst3 gSeq gKeys
  have e1 : view S (.r i) = none := by unfold view; dsimp only; rw [e]
  dsimp only
  rw [e1, r_dicAt e]; rfl
def Rng1 (p : List W3) (K : It3 → Prop) : Prop := ∃ j : Int, p = [.d (.int j)] ∧ (-(2 ^ 62) ≤ j ∧ j < 2 ^ 62) ∧ K ⟨intsW 0 j.toNat, yes⟩
def Rng2 (p : List W3) (K : It3 → Prop) : Prop := ∃ i j : Int, p = [.d (.int i), .d (.int j)] ∧ (-(2 ^ 62) ≤ i ∧ i < 2 ^ 62 ∧ -(2 ^ 62) ≤ j ∧ j < 2 ^ 62) ∧ K ⟨intsW i (j - i).toNat, yes⟩
theorem rng1_i {j : Int} (e : -(2 ^ 62) ≤ j ∧ j < 2 ^ 62) (h : K ⟨intsW 0 j.toNat, yes⟩) : Rng1 [.d (.int j)] K := ⟨j, rfl, e, h⟩
theorem rng2_i {i j : Int} (e : -(2 ^ 62) ≤ i ∧ i < 2 ^ 62 ∧ -(2 ^ 62) ≤ j ∧ j < 2 ^ 62) (h : K ⟨intsW i (j - i).toNat, yes⟩) : Rng2 [.d (.int i), .d (.int j)] K := ⟨i, j, rfl, e, h⟩
theorem wp_r1 {sl : Sl} {f : FA} {QI : It3 → List MO → Prop} (h : Wp2 (f sl S) fun p1 p2 => Rng1 p1 fun j => QI j p2) : Wp2 (iR1 f sl S) QI := wp_ir1 h
theorem wp_r2 {sl : Sl} {f : FA} {QI : It3 → List MO → Prop} (h : Wp2 (f sl S) fun p1 p2 => Rng2 p1 fun j => QI j p2) : Wp2 (iR2 f sl S) QI := wp_ir2 h
theorem intsW_len {lo : Int} {n : Nat} : (intsW lo n).length = n := by unfold intsW; rw [List.length_map, List.length_range]
theorem intsW_at {lo : Int} {n i : Nat} (h : i < n) : (intsW lo n)[i]? = some (.d (.int (lo + (i : Nat)))) := by
  unfold intsW
  rw [List.getElem?_map, List.getElem?_range h]; rfl
/-- an int, a truth as it is told -/
def IntW (w : W3) (K : Int → Prop) : Prop := ∃ i, w = .d (.int i) ∧ K i
theorem intW_i {i : Int} {K : Int → Prop} (h : K i) : IntW (.d (.int i)) K := ⟨i, rfl, h⟩
theorem wp_os {sl : Sl} {f : FE} {QO : Option Int → List MO → Prop} (h : Wp2 (f sl S) fun p1 p2 => IntW p1 fun i => QO (some i) p2) : Wp2 (oSome f sl S) QO := wp_osome h
def BoolW (w : W3) (K : Bool → Prop) : Prop := ∃ c, w = .d (.bool c) ∧ K c
theorem boolW_i {c : Bool} {K : Bool → Prop} (h : K c) : BoolW (.d (.bool c)) K := ⟨c, rfl, h⟩
theorem wp_an {sl : Sl} {f g : FE} {Q : W3 → List MO → Prop} (h : Wp2 (f sl S) fun p1 p2 => BoolW p1 fun c => if c = true then Wp2 (g sl p2) Q else Q (.d (.bool false)) p2) : Wp2 (eAn f g sl S) Q := wp_ean h
theorem wp_or {sl : Sl} {f g : FE} {Q : W3 → List MO → Prop} (h : Wp2 (f sl S) fun p1 p2 => BoolW p1 fun c => if c = true then Q (.d (.bool true)) p2 else Wp2 (g sl p2) Q) : Wp2 (eOr f g sl S) Q := wp_eor h
def PairW (p : List W3) (K : W3 → W3 → Prop) : Prop := ∃ x y, p = [x, y] ∧ K x y
theorem pairW_i {x y : W3} {K : W3 → W3 → Prop} (h : K x y) : PairW [x, y] K := ⟨x, y, rfl, h⟩
theorem wp_pr {sl : Sl} {i j : Nat} {f : FA} {QS : Out → Prop} (h : Wp2 (f sl S) fun p1 p2 => PairW p1 fun x y => QS (.nx ((sl.set i (some x)).set j (some y)) p2)) : Wp (sPar i j f sl S) QS := wp_par h
end
def frzO (S : List MO) : W3 → Option (W3 × List MO)
  | .r i => match S[i]? with
    | some (.lst xs) => some (W3.d (.list xs), S.set i .gone)
    | _ => none
  | w => some (w, S)
section
variable {sl : Sl} {S : List MO} {Q : W3 → List MO → Prop}
theorem wp_fz {f : FE} (h : Wp2 (f sl S) fun p1 p2 => Wp2 (frzO p2 p1) Q) : Wp2 (eFrz f sl S) Q := wp_frz h
theorem fz_r {i : Nat} {xs : List PyData} (e : S[i]? = some (.lst xs)) (q : Q (.d (.list xs)) (S.set i .gone)) : Wp2 (frzO S (.r i)) Q := wp_frzr e q
theorem fz_d {x : PyData} (q : Q (.d x) S) : Wp2 (frzO S (.d x)) Q := wp2_some q
/-- a list made here is handed back -/
theorem rq_own {S0 : List MO} {n0 : Nat} {ds : List PyData} (e : S.take n0 = S0) (hn : n0 ≤ S.length) (q : Q (.r n0) (S0 ++ [.lst ds])) : retQ true n0 Q (.rt (.r S.length) (S ++ [.lst ds])) := by
  refine rq_new (xs := ds) (by omega) get_last ?_
  rw [if_pos rfl, List.take_append_of_le_length hn, e]
  exact q
/-- a list at i is handed back as data -/
theorem rq_dat {S0 : List MO} {n0 i : Nat} {ds : List PyData} (hi : n0 ≤ i) (e1 : S[i]? = some (.lst ds)) (e : S.take n0 = S0) (q : Q (.d (.list ds)) S0) : retQ false n0 Q (.rt (.r i) S) := by
  refine rq_new (xs := ds) (by omega) e1 ?_
  rw [if_neg Bool.false_ne_true, e]
  exact q
end
theorem take_setapp {S l : List MO} {h : Nat} {o : MO} : (S.set h o ++ l).take S.length = S.set h o := by
  rw [List.take_append_of_le_length (by rw [List.length_set]; exact Nat.le_refl _), take_set]
theorem get_setapp {S l : List MO} {h : Nat} {o u : MO} (e : S[h]? = some u) : (S.set h o ++ l)[h]? = some o := get_app (get_set e)
theorem get_setlast {S : List MO} {h : Nat} {o u : MO} : (S.set h o ++ [u])[S.length]? = some u := by
  have := get_last (S := S.set h o) (u := u)
  rwa [List.length_set] at this
theorem set_setlast {S : List MO} {h : Nat} {o u u' : MO} : (S.set h o ++ [u]).set S.length u' = S.set h o ++ [u'] := by
  have := set_last (S := S.set h o) (u := u) (o := u')
  rwa [List.length_set] at this
theorem set_setapp {S l : List MO} {h : Nat} {o o' u : MO} (e : S[h]? = some u) : (S.set h o ++ l).set h o' = S.set h o' ++ l := by rw [set_app (get_set e), List.set_set]
section
variable {S : List MO} {P : PyData → Prop} {c : String} {r : Bool}
theorem isi_b {b : Bool} (e : kitB "bool" c = some r) (h : P (.bool r)) : Wp (gIsi S [.d (.bool b), .ty c]) P := wp_isi e h
theorem isi_i {b : Int} (e : kitB "int" c = some r) (h : P (.bool r)) : Wp (gIsi S [.d (.int b), .ty c]) P := wp_isi e h
theorem isi_s {b : Str} (e : kitB "str" c = some r) (h : P (.bool r)) : Wp (gIsi S [.d (.str b), .ty c]) P := wp_isi e h
theorem isi_n (e : kitB "NoneType" c = some r) (h : P (.bool r)) : Wp (gIsi S [.d .none, .ty c]) P := wp_isi e h
theorem isi_t {xs : List PyData} (e : kitB "tuple" c = some r) (h : P (.bool r)) : Wp (gIsi S [.d (.tuple xs), .ty c]) P := wp_isi e h
theorem isi_l {xs : List PyData} (e : kitB "list" c = some r) (h : P (.bool r)) : Wp (gIsi S [.d (.list xs), .ty c]) P := wp_isi e h
end
theorem atI_cons0 {α : Type} {x : α} {xs : List α} : atI (x :: xs) 0 = some x := by
  have : atI (x :: xs) ((0 : Nat) : Int) = some x := atI_nat rfl
  exact this
theorem atI_map0 {α β : Type} {f : α → β} {x : α} {xs : List α} : atI ((x :: xs).map f) 0 = some (f x) := atI_cons0
theorem atI_nat' {α : Type} {xs : List α} {k : Int} {x : α} (h0 : 0 ≤ k) (e : xs[k.toNat]? = some x) : atI xs k = some x := atI_of h0 e
section
variable {PB : Bool → Prop}
theorem is_bt_bt (h : PB true) : Wp (gIs (.bool true) (.bool true)) PB := wp_gis rfl h
theorem isn_bt_bt (h : PB false) : Wp (gIsN (.bool true) (.bool true)) PB := wp_gisn rfl h
theorem is_bt_bf (h : PB false) : Wp (gIs (.bool true) (.bool false)) PB := wp_gis rfl h
theorem isn_bt_bf (h : PB true) : Wp (gIsN (.bool true) (.bool false)) PB := wp_gisn rfl h
theorem is_bt_n (h : PB false) : Wp (gIs (.bool true) .none) PB := wp_gis rfl h
theorem isn_bt_n (h : PB true) : Wp (gIsN (.bool true) .none) PB := wp_gisn rfl h
theorem is_bf_bt (h : PB false) : Wp (gIs (.bool false) (.bool true)) PB := wp_gis rfl h
theorem isn_bf_bt (h : PB true) : Wp (gIsN (.bool false) (.bool true)) PB := wp_gisn rfl h
theorem is_bf_bf (h : PB true) : Wp (gIs (.bool false) (.bool false)) PB := wp_gis rfl h
theorem isn_bf_bf (h : PB false) : Wp (gIsN (.bool false) (.bool false)) PB := wp_gisn rfl h
theorem is_bf_n (h : PB false) : Wp (gIs (.bool false) .none) PB := wp_gis rfl h
theorem isn_bf_n (h : PB true) : Wp (gIsN (.bool false) .none) PB := wp_gisn rfl h
theorem is_n_bt (h : PB false) : Wp (gIs .none (.bool true)) PB := wp_gis rfl h
theorem isn_n_bt (h : PB true) : Wp (gIsN .none (.bool true)) PB := wp_gisn rfl h
theorem is_n_bf (h : PB false) : Wp (gIs .none (.bool false)) PB := wp_gis rfl h
theorem isn_n_bf (h : PB true) : Wp (gIsN .none (.bool false)) PB := wp_gisn rfl h
theorem is_n_n (h : PB true) : Wp (gIs .none .none) PB := wp_gis rfl h
theorem isn_n_n (h : PB false) : Wp (gIsN .none .none) PB := wp_gisn rfl h
theorem is_t_bt {xs : List PyData} (h : PB false) : Wp (gIs (.tuple xs) (.bool true)) PB := wp_gis rfl h
theorem isn_t_bt {xs : List PyData} (h : PB true) : Wp (gIsN (.tuple xs) (.bool true)) PB := wp_gisn rfl h
theorem is_t_bf {xs : List PyData} (h : PB false) : Wp (gIs (.tuple xs) (.bool false)) PB := wp_gis rfl h
theorem isn_t_bf {xs : List PyData} (h : PB true) : Wp (gIsN (.tuple xs) (.bool false)) PB := wp_gisn rfl h
theorem is_t_n {xs : List PyData} (h : PB false) : Wp (gIs (.tuple xs) .none) PB := wp_gis rfl h
theorem isn_t_n {xs : List PyData} (h : PB true) : Wp (gIsN (.tuple xs) .none) PB := wp_gisn rfl h
theorem is_l_bt {xs : List PyData} (h : PB false) : Wp (gIs (.list xs) (.bool true)) PB := wp_gis rfl h
theorem isn_l_bt {xs : List PyData} (h : PB true) : Wp (gIsN (.list xs) (.bool true)) PB := wp_gisn rfl h
theorem is_l_bf {xs : List PyData} (h : PB false) : Wp (gIs (.list xs) (.bool false)) PB := wp_gis rfl h
theorem isn_l_bf {xs : List PyData} (h : PB true) : Wp (gIsN (.list xs) (.bool false)) PB := wp_gisn rfl h
theorem is_l_n {xs : List PyData} (h : PB false) : Wp (gIs (.list xs) .none) PB := wp_gis rfl h
theorem isn_l_n {xs : List PyData} (h : PB true) : Wp (gIsN (.list xs) .none) PB := wp_gisn rfl h
theorem is_i_bt {i : Int} (h : PB false) : Wp (gIs (.int i) (.bool true)) PB := wp_gis rfl h
theorem isn_i_bt {i : Int} (h : PB true) : Wp (gIsN (.int i) (.bool true)) PB := wp_gisn rfl h
theorem is_i_bf {i : Int} (h : PB false) : Wp (gIs (.int i) (.bool false)) PB := wp_gis rfl h
theorem isn_i_bf {i : Int} (h : PB true) : Wp (gIsN (.int i) (.bool false)) PB := wp_gisn rfl h
theorem is_i_n {i : Int} (h : PB false) : Wp (gIs (.int i) .none) PB := wp_gis rfl h
theorem isn_i_n {i : Int} (h : PB true) : Wp (gIsN (.int i) .none) PB := wp_gisn rfl h
theorem is_s_bt {x : Str} (h : PB false) : Wp (gIs (.str x) (.bool true)) PB := wp_gis rfl h
theorem isn_s_bt {x : Str} (h : PB true) : Wp (gIsN (.str x) (.bool true)) PB := wp_gisn rfl h
theorem is_s_bf {x : Str} (h : PB false) : Wp (gIs (.str x) (.bool false)) PB := wp_gis rfl h
theorem isn_s_bf {x : Str} (h : PB true) : Wp (gIsN (.str x) (.bool false)) PB := wp_gisn rfl h
theorem is_s_n {x : Str} (h : PB false) : Wp (gIs (.str x) .none) PB := wp_gis rfl h
theorem isn_s_n {x : Str} (h : PB true) : Wp (gIsN (.str x) .none) PB := wp_gisn rfl h
end
end EA
namespace EA
open PySem PySem.Spec PyProof.Rows L2
noncomputable def f3_stirred : F3 := fdef false 2 2
  (sSeq (sSet 2 (eOp gMod (eB (g1 intD) (aCons (eOp gAdd (eOp gAdd (eOp gMul (eVar 0) (eD (.int (48017)))) (eOp gMul (eVar 1) (eD (.int (8821))))) (eD (.int (70001)))) aNil)) (eD (.int (2147483423)))))
  (sSeq (sSet 3 (eOp gMod (eB (g1 intD) (aCons (eOp gAdd (eOp gAdd (eOp gMul (eVar 2) (eVar 2)) (eOp gMul (eVar 1) (eD (.int (60017))))) (eOp gFdiv (eVar 2) (eD (.int (151))))) aNil)) (eD (.int (2147483477)))))
  (sRt (eOp gFdiv (eB (g1 intD) (aCons (eOp gMod (eB (g1 intD) (aCons (eOp gAdd (eOp gMul (eVar 3) (eD (.int (51199)))) (eOp gFdiv (eVar 2) (eD (.int (17))))) aNil)) (eD (.int (2147483549)))) aNil)) (eD (.int (128)))))))
noncomputable def f3_take : F3 := fdef false 2 2
  (sSeq (sIf (tAn (tCmp gEq (eOp gIx (eVar 0) (eD (.int (2)))) (eD (.int (0)))) (tCmp gLt (eOp gIx (eVar 0) (eD (.int (1)))) (eB gLen (aCons (eOp gIx (eVar 0) (eD (.int (0)))) aNil))))
  (sSeq (sSet 2 (eOp gIx (eOp gIx (eVar 0) (eD (.int (0)))) (eOp gIx (eVar 0) (eD (.int (1))))))
  (sSeq (sAsg (eOp gAdd (eOp gIx (eVar 0) (eD (.int (1)))) (eD (.int (1)))) (gSubL (eVar 0) (eD (.int (1)))))
  (sSeq (sIf (tCmp gLt (eVar 2) (eOp gPow (eD (.int (10))) (eD (.int (18)))))
  (sRt (eOp gMod (eB (g1 intD) (aCons (eCall f3_stirred (aCons (eOp gMod (eB (g1 intD) (aCons (eVar 2) aNil)) (eD (.int (2147483423)))) (aCons (eOp gIx (eVar 0) (eD (.int (1)))) aNil))) aNil)) (eVar 1)))
  sNx)
  (sAsg (eVar 2) (gSubL (eVar 0) (eD (.int (2))))))))
  sNx)
  (sSeq (sIf (tCmp gGt (eOp gIx (eVar 0) (eD (.int (2)))) (eD (.int (0))))
  (sSeq (sSet 3 (eOp gIx (eVar 0) (eD (.int (2)))))
  (sSeq (sAsg (eOp gFdiv (eB (g1 intD) (aCons (eVar 3) aNil)) (eVar 1)) (gSubL (eVar 0) (eD (.int (2)))))
  (sRt (eOp gMod (eB (g1 intD) (aCons (eVar 3) aNil)) (eVar 1)))))
  sNx)
  (sSeq (sAsg (eOp gMod (eB (g1 intD) (aCons (eOp gAdd (eOp gIx (eVar 0) (eD (.int (3)))) (eD (.int (1)))) aNil)) (eD (.int (2147483477)))) (gSubL (eVar 0) (eD (.int (3)))))
  (sRt (eOp gMod (eB (g1 intD) (aCons (eCall f3_stirred (aCons (eOp gIx (eVar 0) (eD (.int (3)))) (aCons (eOp gIx (eVar 0) (eD (.int (1)))) aNil))) aNil)) (eVar 1))))))
noncomputable def f3_hand : F3 := fdef true 1 3
  (sSeq (sSet 1 (eOp gAdd (eOp gMul (eB gLen (aCons (eVar 0) aNil)) (eD (.int (37)))) (eD (.int (101)))))
  (sSeq (sSet 2 (eNo (nLst aNil)))
  (sSeq (sFor (iSq (eVar 0)) (gNm 3)
  (sSeq (sSet 1 (eOp gMod (eB (g1 intD) (aCons (eOp gAdd (eOp gMul (eVar 1) (eD (.int (2011)))) (eB (g1 intD) (aCons (eVar 3) aNil))) aNil)) (eD (.int (2147483543)))))
  (sEx (eM mApp (eVar 2) (aCons (eB (g1 absD) (aCons (eB (g1 intD) (aCons (eVar 3) aNil)) aNil)) aNil)))))
  (sRt (eNo (nLst (aCons (eFrz (eVar 2)) (aCons (eD (.int (0))) (aCons (eD (.int (0))) (aCons (eVar 1) aNil))))))))))
noncomputable def f3_shuffled : F3 := fdef false 2 2
  (sSeq (sSet 2 (eNo (nB gLst3 (aCons (eVar 1) aNil))))
  (sRt (eNd (nLc [3] (iR1 (aCons (eB gLen (aCons (eVar 2) aNil)) aNil)) (gNm 3) tYes3 (eM mPopAt (eVar 2) (aCons (eCall f3_take (aCons (eVar 0) (aCons (eB gLen (aCons (eVar 2) aNil)) aNil))) aNil))))))
local macro_rules | `(tactic| walk_at "ix") => `(tactic| first | rfl | exact atI_cons0 | exact atI_map0)
local macro_rules | `(tactic| walk_at "st") => `(tactic| first | assumption | rfl | exact get_set (by assumption) | exact get_set (get_set (by assumption)) | exact get_last | exact get_setlast | exact get_setapp (by assumption) | exact get_app (by assumption) | exact get_app (get_set (by assumption)))
local macro_rules | `(tactic| walk_at "tk") => `(tactic| first | exact List.take_length | exact take_set | exact take_set2 | exact take_set3 | exact take_app | exact take_aset | exact take_setapp | rfl)
local macro_rules | `(tactic| walk_at "sd") => `(tactic| first | omega | assumption | decide)
local macro_rules | `(tactic| walk_at "wp1") => `(tactic| first
  | with_reducible refine wp_seq ?_ | with_reducible refine th_nx ?_ | with_reducible refine th_rt ?_ | with_reducible refine th_bk ?_ | with_reducible refine th_ct ?_
  | with_reducible refine wp_set ?_ | with_reducible refine wp_ex ?_ | with_reducible refine wp_rt ?_ | with_reducible refine wp_rtn ?_ | with_reducible refine wp_sif ?_ | with_reducible refine wp_asg ?_
  | with_reducible refine wp_for ?_ | with_reducible refine wp_pr ?_ | with_reducible refine pairW_i ?_ | with_reducible refine lq_nx ?_ | with_reducible refine lq_ct ?_ | with_reducible refine lq_bk ?_ | with_reducible refine lq_rt ?_ | with_reducible refine wp_dp ?_ | with_reducible refine wp_nx ?_ | with_reducible refine wp_bk ?_ | with_reducible refine wp_ct ?_
  | ((with_reducible apply wp_var); rfl) | with_reducible refine wp_d ?_ | with_reducible refine wp_ty ?_ | with_reducible refine wp_fz ?_ | with_reducible refine fz_d ?_ | ((with_reducible apply fz_r); (walk_at "st")) | with_reducible refine wp_nil ?_ | with_reducible refine wp_cons ?_
  | with_reducible refine wp_tup ?_ | with_reducible refine wp_nlst ?_ | with_reducible refine wp_ds0 ?_ | with_reducible refine wp_ds1 ?_ | with_reducible refine wp_nd ?_ | with_reducible refine wp_no ?_
  | with_reducible refine wp_gnm ?_ | with_reducible refine wp_gtp ?_ | with_reducible refine wp_gsn ?_ | with_reducible refine wp_gsc ?_ | with_reducible refine wp_gs ?_
  | with_reducible refine wp_ty3 ?_ | with_reducible refine datW_i ?_ | with_reducible refine wp_lc ?_ | with_reducible refine wp_ecmp ?_ | with_reducible refine wp_tcmp ?_ | with_reducible refine wp_ttr ?_ | with_reducible refine wp_not ?_ | with_reducible refine wp_tnt ?_ | with_reducible refine wp_tan ?_ | with_reducible refine wp_tor ?_
  | with_reducible refine wp_an ?_ | with_reducible refine boolW_i ?_ | with_reducible refine wp_or ?_ | with_reducible refine wp_eif ?_ | with_reducible refine wp_op ?_ | with_reducible refine wp_nop ?_ | with_reducible refine wp_onone ?_ | with_reducible refine wp_os ?_ | with_reducible refine intW_i ?_
  | with_reducible refine wp_esl ?_ | with_reducible refine wp_nsl ?_ | with_reducible refine wp_b ?_ | with_reducible refine wp_nb ?_ | with_reducible refine wp_call ?_ | with_reducible refine wp_sq ?_ | with_reducible refine sq_l ?_ | with_reducible refine sq_t ?_ | with_reducible refine sq_sc ?_ | ((with_reducible apply sq_r); (walk_at "st")) | with_reducible refine wp_r1 ?_ | with_reducible refine wp_r2 ?_ | with_reducible refine wp_irv ?_
  | with_reducible refine wp_me ?_ | with_reducible refine wp_join ?_ | with_reducible refine wp_dn ?_
  | with_reducible refine wp_viewd ?_ | ((with_reducible apply wp_viewr); (walk_at "st")) | ((with_reducible apply wp_lat); (walk_at "st")))
local macro_rules | `(tactic| walk_at "wp") => `(tactic| first
  | walk_at "wp1"
  | ((with_reducible apply atSet_i); (walk_at "st"); rfl) | ((with_reducible apply atLst_i); (walk_at "st")) | ((with_reducible apply nowLst_i); (walk_at "st"))
  | with_reducible refine wp_l3l ?_ | with_reducible refine wp_l3t ?_ | ((with_reducible apply wp_l3r); (walk_at "st")) | ((with_reducible refine rng1_i ?_ ?_); (walk_at "sd")) | ((with_reducible refine rng2_i ?_ ?_); (walk_at "sd"))
  | with_reducible refine wp_addi ?_ | with_reducible refine wp_sub ?_ | ((with_reducible refine wp_mod ?_ ?_); (walk_at "sd")) | ((with_reducible refine wp_fdiv ?_ ?_); (walk_at "sd")) | ((with_reducible refine wp_mulr ?_ ?_); (walk_at "sd")) | ((with_reducible refine wp_mull ?_ ?_); (walk_at "sd")) | ((with_reducible refine wp_pow ?_ ?_); (walk_at "sd"))
  | with_reducible refine wp_int ?_ | with_reducible refine wp_abs ?_
  | ((with_reducible apply wp_ixd); (walk_at "ix")) | ((with_reducible apply wp_ixt); (walk_at "ix")) | ((with_reducible apply wp_ixr); (walk_at "st"); (walk_at "ix"))
  | with_reducible refine wp_lenl ?_ | with_reducible refine wp_lent ?_ | with_reducible refine wp_lensc ?_ | ((with_reducible apply wp_lenr); (walk_at "st"))
  | with_reducible refine wp_geqi ?_ | with_reducible refine wp_gnei ?_ | with_reducible refine wp_glti ?_ | with_reducible refine wp_ggti ?_ | with_reducible refine wp_glei ?_ | with_reducible refine wp_ggei ?_ | with_reducible refine wp_glts ?_ | with_reducible refine wp_ggts ?_
  | with_reducible refine is_bt_bt ?_ | with_reducible refine isn_bt_bt ?_ | with_reducible refine is_bt_bf ?_ | with_reducible refine isn_bt_bf ?_ | with_reducible refine is_bt_n ?_ | with_reducible refine isn_bt_n ?_ | with_reducible refine is_bf_bt ?_ | with_reducible refine isn_bf_bt ?_ | with_reducible refine is_bf_bf ?_ | with_reducible refine isn_bf_bf ?_ | with_reducible refine is_bf_n ?_ | with_reducible refine isn_bf_n ?_ | with_reducible refine is_n_bt ?_ | with_reducible refine isn_n_bt ?_ | with_reducible refine is_n_bf ?_ | with_reducible refine isn_n_bf ?_ | with_reducible refine is_n_n ?_ | with_reducible refine isn_n_n ?_ | with_reducible refine is_t_bt ?_ | with_reducible refine isn_t_bt ?_ | with_reducible refine is_t_bf ?_ | with_reducible refine isn_t_bf ?_ | with_reducible refine is_t_n ?_ | with_reducible refine isn_t_n ?_ | with_reducible refine is_l_bt ?_ | with_reducible refine isn_l_bt ?_ | with_reducible refine is_l_bf ?_ | with_reducible refine isn_l_bf ?_ | with_reducible refine is_l_n ?_ | with_reducible refine isn_l_n ?_ | with_reducible refine is_i_bt ?_ | with_reducible refine isn_i_bt ?_ | with_reducible refine is_i_bf ?_ | with_reducible refine isn_i_bf ?_ | with_reducible refine is_i_n ?_ | with_reducible refine isn_i_n ?_ | with_reducible refine is_s_bt ?_ | with_reducible refine isn_s_bt ?_ | with_reducible refine is_s_bf ?_ | with_reducible refine isn_s_bf ?_ | with_reducible refine is_s_n ?_ | with_reducible refine isn_s_n ?_
  | ((with_reducible refine wp_gis ?_ ?_); rfl) | ((with_reducible refine wp_gisn ?_ ?_); rfl) | with_reducible refine wp_trub ?_ | ((with_reducible refine isi_t (r := true) ?_ ?_); (decide +kernel)) | ((with_reducible refine isi_t (r := false) ?_ ?_); (decide +kernel)) | ((with_reducible refine isi_b (r := true) ?_ ?_); (decide +kernel)) | ((with_reducible refine isi_b (r := false) ?_ ?_); (decide +kernel)) | ((with_reducible refine isi_i (r := true) ?_ ?_); (decide +kernel)) | ((with_reducible refine isi_i (r := false) ?_ ?_); (decide +kernel)) | ((with_reducible refine isi_s (r := true) ?_ ?_); (decide +kernel)) | ((with_reducible refine isi_s (r := false) ?_ ?_); (decide +kernel)) | ((with_reducible refine isi_l (r := true) ?_ ?_); (decide +kernel)) | ((with_reducible refine isi_l (r := false) ?_ ?_); (decide +kernel)) | ((with_reducible refine isi_n (r := true) ?_ ?_); (decide +kernel)) | ((with_reducible refine isi_n (r := false) ?_ ?_); (decide +kernel))
  | with_reducible refine wp_tupl ?_ | with_reducible refine wp_tupt ?_ | ((with_reducible apply wp_tupr); (walk_at "st"))
  | with_reducible refine ite2 (fun _ => ?_) (fun z => absurd rfl z)
  | with_reducible refine ite2 (fun z => absurd z Bool.false_ne_true) (fun _ => ?_)
  | ((with_reducible apply rq_dt); (walk_at "tk")) | ((with_reducible apply rq_nxt); (walk_at "tk")))
local macro_rules | `(tactic| walk_at "fdef") => `(tactic| (refine wp_fdef rfl ?_; simp only [List.map_cons, List.map_nil, List.replicate_succ, List.replicate_zero, List.cons_append, List.nil_append]))
theorem stirred3 {S : List MO} {n t : Int} (n0 : 0 ≤ n) (n1 : n < 2147483543) (t0 : 0 ≤ t) (t1 : t ≤ 64) {Q : W3 → List MO → Prop} (q : ∀ v : Int, 0 ≤ v → Q (.d (.int v)) S) : Wp2 (f3_stirred [.d (.int n), .d (.int t)] S) Q := by
  have a0 := Int.emod_nonneg (n * 48017 + t * 8821 + 70001) (by decide : (2147483423 : Int) ≠ 0)
  have a1 := Int.emod_lt_of_pos (n * 48017 + t * 8821 + 70001) (by decide : (0 : Int) < 2147483423)
  unfold f3_stirred
  walk_at "fdef"
  repeat walk_at "wp"
  generalize (n * 48017 + t * 8821 + 70001) % 2147483423 = a at a0 a1
  exact q _ (Int.ediv_nonneg (Int.emod_nonneg _ (by decide)) (by decide))
def HandO (o : List PyData) : Prop := ∃ (cells : List Int) (at_ rest seed : Int), o = [.list (cells.map .int), .int at_, .int rest, .int seed] ∧ cells.length ≤ 63 ∧ (∀ x ∈ cells, 0 ≤ x) ∧ 0 ≤ at_ ∧ at_ ≤ 63 ∧ 0 ≤ rest ∧ 0 ≤ seed ∧ seed < 2147483543
theorem take3 {S : List MO} {h : Nat} {o : List PyData} {m : Int} (hh : S[h]? = some (.lst o)) (ho : HandO o) (m0 : 0 < m) (m1 : m < 1000000) {Q : W3 → List MO → Prop} (q : ∀ (v : Int) (o' : List PyData), 0 ≤ v → v < m → HandO o' → Q (.d (.int v)) (S.set h (.lst o'))) : Wp2 (f3_take [.r h, .d (.int m)] S) Q := by
  obtain ⟨cells, at_, rest, seed, rfl, cl, c0, a0, a1, r0, s0, s1⟩ := ho
  have fin : ∀ (at_' rest' seed' z : Int), 0 ≤ at_' → at_' ≤ 63 → 0 ≤ rest' → 0 ≤ seed' → seed' < 2147483543 → Q (.d (.int (z % m))) (S.set h (.lst [.list (cells.map .int), .int at_', .int rest', .int seed'])) := fun at_' rest' seed' z b0 b1 b2 b3 b4 =>
    q _ _ (Int.emod_nonneg _ (by omega)) (Int.emod_lt_of_pos _ m0) ⟨cells, at_', rest', seed', rfl, cl, c0, b0, b1, b2, b3, b4⟩
  unfold f3_take
  walk_at "fdef"
  repeat walk_at "wp"
  refine ite2 (fun c1 => ?_) (fun c1 => ?_)
  · repeat walk_at "wp"
    refine ite2 (fun c2 => ?_) (fun c2 => ?_)
    · have c2' : at_ < ((cells.map PyData.int).length : Int) := of_decide_eq_true c2
      rw [List.length_map] at c2'
      have hk : at_.toNat < cells.length := by omega
      have x0 := c0 _ (List.getElem_mem hk)
      have ei : atI (cells.map PyData.int) at_ = some (.int cells[at_.toNat]) := atI_of a0 (by rw [List.getElem?_map, List.getElem?_eq_getElem hk]; rfl)
      repeat walk_at "wp"
      refine wp_ixd ei ?_
      repeat walk_at "wp"
      refine ite2 (fun c3 => ?_) (fun c3 => ?_)
      · have y0 := Int.emod_nonneg cells[at_.toNat] (by decide : (2147483423 : Int) ≠ 0)
        have y1 := Int.emod_lt_of_pos cells[at_.toNat] (by decide : (0 : Int) < 2147483423)
        repeat walk_at "wp"
        refine stirred3 y0 (by omega) (by omega) (by omega) fun v v0 => ?_
        repeat walk_at "wp"
        exact fin (at_ + 1) rest seed v (by omega) (by omega) r0 s0 s1
      · have c3' : ¬ cells[at_.toNat] < (10 : Int) ^ (18 : Int).toNat := fun z => c3 (decide_eq_true z)
        have d3 : ¬ cells[at_.toNat] < 1000000000000000000 := c3'
        repeat walk_at "wp"
        refine ite2 (fun c4 => ?_) (fun c4 => ?_)
        · repeat walk_at "wp"
          exact fin (at_ + 1) (cells[at_.toNat] / m) seed _ (by omega) (by omega) (Int.ediv_nonneg x0 (by omega)) s0 s1
        · exact absurd (show decide ((0 : Int) < cells[at_.toNat]) = true from decide_eq_true (by omega)) c4
    · repeat walk_at "wp"
      refine ite2 (fun c4 => ?_) (fun c4 => ?_)
      · have c4' : 0 < rest := of_decide_eq_true c4
        repeat walk_at "wp"
        exact fin at_ (rest / m) seed _ a0 a1 (Int.ediv_nonneg r0 (by omega)) s0 s1
      · have y0 := Int.emod_nonneg (seed + 1) (by decide : (2147483477 : Int) ≠ 0)
        have y1 := Int.emod_lt_of_pos (seed + 1) (by decide : (0 : Int) < 2147483477)
        repeat walk_at "wp"
        refine stirred3 y0 (by omega) (by omega) (by omega) fun v v0 => ?_
        repeat walk_at "wp"
        exact fin at_ rest ((seed + 1) % 2147483477) _ a0 a1 r0 y0 (by omega)
  · repeat walk_at "wp"
    refine ite2 (fun c4 => ?_) (fun c4 => ?_)
    · have c4' : 0 < rest := of_decide_eq_true c4
      repeat walk_at "wp"
      exact fin at_ (rest / m) seed _ a0 a1 (Int.ediv_nonneg r0 (by omega)) s0 s1
    · have y0 := Int.emod_nonneg (seed + 1) (by decide : (2147483477 : Int) ≠ 0)
      have y1 := Int.emod_lt_of_pos (seed + 1) (by decide : (0 : Int) < 2147483477)
      repeat walk_at "wp"
      refine stirred3 y0 (by omega) (by omega) (by omega) fun v v0 => ?_
      repeat walk_at "wp"
      exact fin at_ rest ((seed + 1) % 2147483477) _ a0 a1 r0 y0 (by omega)
/-- the hand of a script -/
theorem hand3 {S : List MO} {ns : List Int} (hl : ns.length ≤ 63) {Q : W3 → List MO → Prop} (q : ∀ o : List PyData, HandO o → Q (.r S.length) (S ++ [.lst o])) : Wp2 (f3_hand [.sc ns] S) Q := by
  unfold f3_hand
  walk_at "fdef"
  repeat walk_at "wp"
  refine wp_loop (n := 0) (fun i sl S' => ∃ (t : Int) (cs : List Int) (x : Option W3), sl = [some (.sc ns), some (.d (.int t)), some (.r S.length), x] ∧ S' = S ++ [.lst (cs.map .int)] ∧ cs.length = i ∧ (∀ x ∈ cs, 0 ≤ x) ∧ 0 ≤ t ∧ t < 2147483543)
    ⟨_, [], none, rfl, rfl, rfl, (fun x h => nomatch h), by omega, by omega⟩ (fun _ _ _ _ => rfl) (fun i w sl S' hw hi hp => ?_) (fun sl S' hp => ?_)
  · obtain ⟨t, cs, x0, rfl, rfl, hc, hn, t0, t1⟩ := hp
    obtain ⟨d, hd, rfl⟩ := ws_get hw
    rw [List.getElem?_map] at hd
    obtain ⟨z, hz, rfl⟩ := Option.map_eq_some_iff.mp hd
    have hlt : i < ns.length := by have := (List.getElem?_eq_some_iff.mp hz).1; omega
    repeat walk_at "wp"
    refine wp_app (by rw [List.length_map]; omega) ?_
    repeat walk_at "wp"
    refine ⟨_, cs ++ [if z < 0 then -z else z], _, rfl, ?_, by rw [List.length_append, hc]; rfl, ?_, Int.emod_nonneg _ (by decide), Int.emod_lt_of_pos _ (by decide)⟩
    · rw [set_last, List.map_append]; rfl
    · intro y hy
      rcases List.mem_append.mp hy with hy | hy
      · exact hn y hy
      · have e : y = if z < 0 then -z else z := by simpa using hy
        rw [e]
        split <;> omega
  · obtain ⟨t, cs, x0, rfl, rfl, hc, hn, t0, t1⟩ := hp
    rw [List.length_map, List.length_map] at hc
    repeat walk_at "wp"
    rw [set_last]
    refine rq_own (S0 := S) (take_app) (by rw [List.length_append]; omega) (q _ ⟨cs, 0, 0, t, rfl, by omega, hn, by decide, by decide, by decide, t0, t1⟩)
/-- a list in a drawn order -/
theorem shuffled3 {S : List MO} {h : Nat} {o : List PyData} {ds : List PyData} (hh : S[h]? = some (.lst o)) (ho : HandO o) (hl : ds.length ≤ 1000) {Q : W3 → List MO → Prop} (q : ∀ (es : List PyData) (o' : List PyData), es.Perm ds → HandO o' → Q (.d (.list es)) (S.set h (.lst o'))) : Wp2 (f3_shuffled [.r h, .d (.list ds)] S) Q := by
  unfold f3_shuffled
  walk_at "fdef"
  repeat walk_at "wp"
  have hlt : h < S.length := (List.getElem?_eq_some_iff.mp hh).1
  refine ⟨by rw [intsW_len]; omega, ?_⟩
  refine wp_comp (n := 0) (acc := []) (fun i acc S' => ∃ (rem : List PyData) (o' : List PyData), S' = S.set h (.lst o') ++ [.lst rem] ∧ HandO o' ∧ rem.length + i = ds.length ∧ (acc ++ rem).Perm ds)
    ⟨ds, o, by rw [set_same hh], ho, by omega, by rw [List.nil_append]⟩ (fun _ _ _ _ => rfl) (fun i w acc S' hw hi hp => ?_) (fun ys S' hp => ?_)
  · obtain ⟨rem, o', rfl, ho', hr, pm⟩ := hp
    obtain ⟨hlt2, rfl⟩ := intsW_get hw
    repeat walk_at "wp"
    have hrp : 0 < rem.length := by omega
    refine take3 (get_setapp hh) ho' (by omega) (by omega) fun v o2 v0 v1 ho2 => ?_
    rw [set_setapp hh]
    repeat walk_at "wp"
    have hv : v.toNat < rem.length := by omega
    refine wp_popAt v0 v1 (by omega) (List.getElem?_eq_getElem hv) ?_
    repeat walk_at "wp"
    refine ⟨rem.eraseIdx v.toNat, o2, set_setlast, ho2, ?_, perm_turn (List.getElem?_eq_getElem hv) pm⟩
    rw [List.length_eraseIdx, if_pos hv]
    omega
  · obtain ⟨rem, o', rfl, ho', hr, pm⟩ := hp
    rw [intsW_len] at hr
    have er : rem = [] := List.length_eq_zero_iff.mp (by omega)
    subst er
    repeat walk_at "wp"
    rw [List.append_nil, List.nil_append] at pm
    exact q ys o' pm ho'
end EA
namespace EA
open PySem PySem.Spec PyProof.Rows L2
/-! ### least lots -/
/-- all the least lots of a row of marks at which F holds, each once -/
structure Lots (ms : List Int) (F : List Int → Bool) (ls : List (List Int)) : Prop where
  nd : ls.Nodup
  mem : ∀ S, S ∈ ls ↔ S.Sublist ms ∧ F S = true ∧ ∀ T, T.Sublist S → T ≠ S → F T = false
  few : ls.length ≤ 2 ^ ms.length
theorem sub_of_mem : ∀ {ms S T : List Int}, ms.Nodup → S.Sublist ms → T.Sublist ms → (∀ x ∈ T, x ∈ S) → T.Sublist S
  | [], S, T, _, hs, ht, _ => by
    rw [List.sublist_nil.mp ht]
    exact List.nil_sublist _
  | m :: ms, S, T, nd, hs, ht, h => by
    obtain ⟨nm, nd'⟩ := List.nodup_cons.mp nd
    cases ht with
    | cons _ ht =>
      cases hs with
      | cons _ hs => exact sub_of_mem nd' hs ht h
      | cons_cons _ hs =>
        refine List.Sublist.cons _ (sub_of_mem nd' hs ht fun x hx => ?_)
        rcases List.mem_cons.mp (h x hx) with e | e
        · exact absurd (ht.subset hx) (by rw [e]; exact nm)
        · exact e
    | cons_cons _ ht =>
      cases hs with
      | cons _ hs => exact absurd (hs.subset (h m List.mem_cons_self)) nm
      | cons_cons _ hs =>
        refine List.Sublist.cons_cons _ (sub_of_mem nd' hs ht fun x hx => ?_)
        rcases List.mem_cons.mp (h x (List.mem_cons_of_mem _ hx)) with e | e
        · exact absurd (ht.subset hx) (by rw [e]; exact nm)
        · exact e
theorem Lots.below {ms : List Int} {F : List Int → Bool} {ls : List (List Int)} (h : Lots ms F ls) : ∀ (n : Nat) {U : List Int}, U.length ≤ n → U.Sublist ms → F U = true → ∃ L ∈ ls, L.Sublist U
  | n, U, hn, hu, hf => by
    by_cases least : ∀ T, T.Sublist U → T ≠ U → F T = false
    · exact ⟨U, (h.mem U).mpr ⟨hu, hf, least⟩, List.Sublist.refl U⟩
    · have ex : ∃ T, T.Sublist U ∧ T ≠ U ∧ F T = true := Classical.byContradiction fun no => least fun T h1 h2 => by
        cases hT : F T with
        | false => rfl
        | true => exact absurd ⟨T, h1, h2, hT⟩ no
      obtain ⟨T, h1, h2, h3⟩ := ex
      have lt : T.length < U.length := by
        have le := h1.length_le
        rcases Nat.lt_or_eq_of_le le with l | l
        · exact l
        · exact absurd (h1.eq_of_length l) h2
      match n, hn with
      | 0, hn => omega
      | n + 1, hn =>
        obtain ⟨L, hL, sL⟩ := h.below n (U := T) (by omega) (h1.trans hu) h3
        exact ⟨L, hL, sL.trans h1⟩
theorem Lots.none {ms : List Int} {F : List Int → Bool} (h : ∀ S, S.Sublist ms → F S = false) : Lots ms F [] :=
  ⟨List.nodup_nil, fun S => ⟨fun z => (nomatch z), fun ⟨a, b, _⟩ => by rw [h S a] at b; cases b⟩, Nat.zero_le _⟩
theorem Lots.all {ms : List Int} {F : List Int → Bool} (h : F [] = true) : Lots ms F [[]] :=
  ⟨by simp, fun S => by
    rw [List.mem_singleton]
    constructor
    · rintro rfl
      exact ⟨List.nil_sublist _, h, fun T h1 h2 => absurd (List.sublist_nil.mp h1) h2⟩
    · rintro ⟨_, _, h3⟩
      refine Classical.byContradiction fun ne => ?_
      have := h3 [] (List.nil_sublist _) (fun e => ne e.symm)
      rw [h] at this
      exact absurd this (by decide), Nat.one_le_two_pow⟩
theorem Lots.step {m : Int} {ms : List Int} {F F0 F1 : List Int → Bool} {l0 l1 : List (List Int)} {p : List Int → Bool} (nd : (m :: ms).Nodup) (h0 : Lots ms F0 l0) (h1 : Lots ms F1 l1) (e0 : ∀ S, S.Sublist ms → F S = F0 S) (e1 : ∀ S, S.Sublist ms → F (m :: S) = F1 S)
    (hp : ∀ S ∈ l1, (p S = true ↔ ¬ ∃ L ∈ l0, ∀ x ∈ L, x ∈ S)) : Lots (m :: ms) F (l0 ++ (l1.filter p).map (m :: ·)) := by
  obtain ⟨nm, nd'⟩ := List.nodup_cons.mp nd
  have no : ∀ {S : List Int}, S.Sublist ms → m ∉ S := fun h z => nm (h.subset z)
  refine ⟨?_, fun S => ?_, ?_⟩
  · rw [List.nodup_append]
    refine ⟨h0.nd, List.pairwise_map.mpr ((h1.nd.sublist List.filter_sublist).imp fun n e => n (List.cons.inj e).2), fun a ha b hb e => ?_⟩
    obtain ⟨T, _, rfl⟩ := List.mem_map.mp hb
    subst e
    exact no ((h0.mem _).mp ha).1 List.mem_cons_self
  · rw [List.mem_append]
    constructor
    · rintro (h | h)
      · obtain ⟨a, b, c⟩ := (h0.mem S).mp h
        exact ⟨a.cons _, by rw [e0 S a]; exact b, fun T t1 t2 => by rw [e0 T (t1.trans a)]; exact c T t1 t2⟩
      · obtain ⟨T, hT, rfl⟩ := List.mem_map.mp h
        obtain ⟨hT, pT⟩ := List.mem_filter.mp hT
        obtain ⟨a, b, c⟩ := (h1.mem T).mp hT
        have nol := (hp T hT).mp pT
        refine ⟨a.cons_cons _, by rw [e1 T a]; exact b, fun U u1 u2 => ?_⟩
        cases u1 with
        | cons _ u1 =>
          have hu := u1.trans a
          rw [e0 U hu]
          cases hF : F0 U with
          | false => rfl
          | true =>
            obtain ⟨L, hL, sL⟩ := h0.below _ (Nat.le_refl _) hu hF
            exact absurd ⟨L, hL, fun x hx => (sL.trans u1).subset hx⟩ nol
        | cons_cons _ u1 =>
          rename_i U'
          rw [e1 U' (u1.trans a)]
          exact c U' u1 fun e => u2 (by rw [e])
    · rintro ⟨a, b, c⟩
      cases a with
      | cons _ a =>
        left
        exact (h0.mem S).mpr ⟨a, by rw [← e0 S a]; exact b, fun T t1 t2 => by rw [← e0 T (t1.trans a)]; exact c T t1 t2⟩
      | cons_cons _ a =>
        rename_i T
        right
        rw [e1 T a] at b
        have hT : T ∈ l1 := (h1.mem T).mpr ⟨a, b, fun U u1 u2 => by rw [← e1 U (u1.trans a)]; exact c _ (u1.cons_cons _) fun e => u2 (List.cons.inj e).2⟩
        refine List.mem_map.mpr ⟨T, List.mem_filter.mpr ⟨hT, (hp T hT).mpr ?_⟩, rfl⟩
        rintro ⟨L, hL, sL⟩
        obtain ⟨l1', l2', _⟩ := (h0.mem L).mp hL
        have sub := sub_of_mem nd' a l1' sL
        have := c L (sub.cons _) fun e => no l1' (by rw [e]; exact List.mem_cons_self)
        rw [e0 L l1', l2'] at this
        cases this
  · have f0 := h0.few
    have f1 := h1.few
    have g := List.length_filter_le p l1
    rw [List.length_append, List.length_map, List.length_cons, Nat.pow_succ]
    omega
end EA
namespace EA
open PySem PySem.Spec PyProof.Rows L2
theorem eq_of {α β : Type} {x : Option (α × β)} {u : α} {v : β} (h : Wp2 x fun a b => a = u ∧ b = v) : x = some (u, v) := by
  obtain ⟨⟨a, b⟩, e, e1, e2⟩ := h
  dsimp only at e1 e2
  rw [e, e1, e2]
/-! ### more on known things -/
theorem anyEq_ints (x : Int) : ∀ xs : List Int, ((xs.map PyData.int).any fun y => PyData.eqv y (.int x)) = decide (x ∈ xs)
  | [] => by simp
  | y :: r => by
    rw [List.map_cons, List.any_cons, anyEq_ints x r]
    show ((y == x) || decide (x ∈ r)) = _
    by_cases e : y = x
    · subst e; simp
    · rw [show (y == x) = false from beq_eq_false_iff_ne.mpr e]
      have e2 : x ≠ y := fun z => e z.symm
      simp [e2]
theorem anyEq_strs (x : Str) : ∀ xs : List Str, ((xs.map PyData.str).any fun y => PyData.eqv y (.str x)) = decide (x ∈ xs)
  | [] => by simp
  | y :: r => by
    rw [List.map_cons, List.any_cons, anyEq_strs x r]
    show ((y == x) || decide (x ∈ r)) = _
    by_cases e : y = x
    · subst e; simp
    · rw [show (y == x) = false from beq_eq_false_iff_ne.mpr e]
      have e2 : x ≠ y := fun z => e z.symm
      simp [e2]
theorem dep_int (i : Int) : (PyData.int i).depth ≤ 40 := by rw [PyData.depth]; decide
theorem dep_str (i : Str) : (PyData.str i).depth ≤ 40 := by rw [PyData.depth]; decide
theorem dep_bool (i : Bool) : (PyData.bool i).depth ≤ 40 := by rw [PyData.depth]; decide
section
variable {PB : Bool → Prop} {P : PyData → Prop} {S : List MO} {sl : Sl}
theorem wp_gin_il {x : Int} {xs : List Int} (h : PB (decide (x ∈ xs))) : Wp (gIn (.int x) (.list (xs.map .int))) PB := wp_eq (if_pos (.inr (dep_int x))) (by rw [anyEq_ints]; exact h)
theorem wp_gin_it {x : Int} {xs : List Int} (h : PB (decide (x ∈ xs))) : Wp (gIn (.int x) (.tuple (xs.map .int))) PB := wp_eq (if_pos (.inr (dep_int x))) (by rw [anyEq_ints]; exact h)
theorem wp_gin_sl {x : Str} {xs : List Str} (h : PB (decide (x ∈ xs))) : Wp (gIn (.str x) (.list (xs.map .str))) PB := wp_eq (if_pos (.inr (dep_str x))) (by rw [anyEq_strs]; exact h)
theorem wp_gin_st {x : Str} {xs : List Str} (h : PB (decide (x ∈ xs))) : Wp (gIn (.str x) (.tuple (xs.map .str))) PB := wp_eq (if_pos (.inr (dep_str x))) (by rw [anyEq_strs]; exact h)
theorem wp_nin {a b : PyData} {c : Bool} (h : Wp (gIn a b) fun d => d = c) (q : PB (!c)) : Wp (gNin a b) PB := wp_map.mpr (h.imp fun d e => by rw [e]; exact q)
theorem wp_gnin_il {x : Int} {xs : List Int} (h : PB (!decide (x ∈ xs))) : Wp (gNin (.int x) (.list (xs.map .int))) PB := wp_nin (wp_gin_il rfl) h
theorem wp_gnin_it {x : Int} {xs : List Int} (h : PB (!decide (x ∈ xs))) : Wp (gNin (.int x) (.tuple (xs.map .int))) PB := wp_nin (wp_gin_it rfl) h
theorem wp_gnin_sl {x : Str} {xs : List Str} (h : PB (!decide (x ∈ xs))) : Wp (gNin (.str x) (.list (xs.map .str))) PB := wp_nin (wp_gin_sl rfl) h
theorem wp_gnin_st {x : Str} {xs : List Str} (h : PB (!decide (x ∈ xs))) : Wp (gNin (.str x) (.tuple (xs.map .str))) PB := wp_nin (wp_gin_st rfl) h
theorem wp_geqs {i j : Str} (h : PB (i == j)) : Wp (gEq (.str i) (.str j)) PB := wp_geq (.inl (dep_str i)) h
theorem wp_gnes {i j : Str} (h : PB (!(i == j))) : Wp (gNe (.str i) (.str j)) PB := wp_gne (.inl (dep_str i)) h
theorem wp_geqb {i j : Bool} (h : PB (i == j)) : Wp (gEq (.bool i) (.bool j)) PB := wp_geq (.inl (dep_bool i)) h
theorem wp_gneb {i j : Bool} (h : PB (!(i == j))) : Wp (gNe (.bool i) (.bool j)) PB := wp_gne (.inl (dep_bool i)) h
theorem eqv_nil (xs : List PyData) : PyData.eqv (.list xs) (.list []) = xs.isEmpty := by
  cases xs with
  | nil => rfl
  | cons _ _ => rfl
theorem dep_nil : (PyData.list []).depth ≤ 40 := by decide
theorem wp_geq_nil {xs : List PyData} (h : PB xs.isEmpty) : Wp (gEq (.list xs) (.list [])) PB := wp_geq (.inr dep_nil) (by rw [eqv_nil]; exact h)
theorem wp_gne_nil {xs : List PyData} (h : PB (!xs.isEmpty)) : Wp (gNe (.list xs) (.list [])) PB := wp_gne (.inr dep_nil) (by rw [eqv_nil]; exact h)
theorem wp_anyb {f : List Bool → Bool} {ds : List PyData} {bs : List Bool} (e : ds = bs.map .bool) (h : P (.bool (f bs))) : Wp (g1 (anyD f) S [.d (.list ds)]) P := by
  refine wp_eq (a := .bool (f bs)) ?_ h
  show (boolsOf ds).map (fun bs => PyData.bool (f bs)) = _
  rw [e, boolsOf_map]; rfl
theorem wp_trul {xs : List PyData} (h : PB (!xs.isEmpty)) : Wp (truW S (.d (.list xs))) PB := wp_some.mpr h
theorem wp_trut {xs : List PyData} (h : PB (!xs.isEmpty)) : Wp (truW S (.d (.tuple xs))) PB := wp_some.mpr h
theorem wp_trur {i : Nat} {xs : List PyData} (e : S[i]? = some (.lst xs)) (h : PB (!xs.isEmpty)) : Wp (truW S (.r i)) PB := by
  refine wp_eq (a := !xs.isEmpty) ?_ h
  unfold truW
  dsimp only
  rw [e]
theorem wp_trui {i : Int} (h : PB (i != 0)) : Wp (truW S (.d (.int i))) PB := wp_some.mpr h
/-- a slice from k on, one up to k -/
theorem cutD_from {α : Type} (xs : List α) (k : Nat) : cutD xs (some (k : Int)) none = xs.drop k := by
  unfold cutD
  rw [HT.sIx_nat, HT.sIx_none]
  by_cases h : k ≤ xs.length
  · rw [Nat.min_eq_left h]
    exact List.take_of_length_le (by rw [List.length_drop]; exact Nat.le_refl _)
  · rw [Nat.min_eq_right (by omega), List.drop_length, List.drop_eq_nil_of_le (by omega), List.take_nil]
theorem cutD_to {α : Type} (xs : List α) (k : Nat) : cutD xs none (some (k : Int)) = xs.take k := by
  unfold cutD
  rw [HT.sIx_nat, HT.sIx_none]
  by_cases h : k ≤ xs.length
  · rw [Nat.min_eq_left h]; rfl
  · rw [Nat.min_eq_right (by omega)]
    show (xs.drop 0).take (xs.length - 0) = _
    rw [List.drop_zero, Nat.sub_zero, List.take_length, List.take_of_length_le (by omega)]
theorem wp_cutl {l h : Option Int} {xs : List PyData} (q : P (.list (cutD xs l h))) : Wp (gCut l h (.list xs)) P := wp_some.mpr q
theorem wp_cutt {l h : Option Int} {xs : List PyData} (q : P (.tuple (cutD xs l h))) : Wp (gCut l h (.tuple xs)) P := wp_some.mpr q
theorem cutD_map {α β : Type} (f : α → β) (xs : List α) (l h : Option Int) : cutD (xs.map f) l h = (cutD xs l h).map f := by
  unfold cutD
  rw [List.length_map, ← List.map_drop, ← List.map_take]
end
/-- a comprehension without a test that leaves the store as it is -/
theorem wp_all {ok : List MO → Bool} {g : FG} {e : FE} {sl : Sl} {S : List MO} {QN : List PyData → List MO → Prop} {ws : List W3} {α : Type} (xs : List α) (w : α → W3) (v : α → PyData) (hws : ws = xs.map w) (hok : ok S = true)
    (hs : ∀ x ∈ xs, Wp2 (g (w x) sl S) fun p1 p2 => Wp2 (e p1 p2) fun y1 y2 => y1 = .d (v x) ∧ y2 = S) (h : QN (xs.map v) S) (hg : ∀ w sl' S', g w sl S = some (sl', S') → S' = S) : Wp2 (cLoop ok g tYes3 e sl ws S) QN :=
  wp_pure xs w (fun _ => true) v hws hok (fun x hx => by
    obtain ⟨⟨a, b⟩, e1, h1⟩ := hs x hx
    have := hg _ _ _ e1
    subst this
    exact ⟨(a, b), e1, wp2_some ⟨rfl, rfl, fun _ => h1⟩⟩) (by rw [List.filter_eq_self.mpr fun _ _ => rfl]; exact h)
theorem gnm_st {i : Nat} {sl : Sl} {S : List MO} : ∀ w sl' S', gNm i w sl S = some (sl', S') → S' = S := fun _ _ _ e => by cases e; rfl
theorem isEmpty_filter {α : Type} (xs : List α) (c : α → Bool) (v : α → PyData) : ((xs.filter c).map v).isEmpty = !(xs.any c) := by
  rw [List.isEmpty_map]
  induction xs with
  | nil => rfl
  | cons x r ih =>
    by_cases h : c x = true
    · rw [List.filter_cons_of_pos h, List.any_cons, h]; rfl
    · rw [List.filter_cons_of_neg h, List.any_cons, ih, Bool.eq_false_iff.mpr h]; rfl
noncomputable def f3_side_of : F3 := fdef false 3 0
  (sSeq (sIf (tOr3 (tTr (eB gIsi (aCons (eVar 0) (aCons (eTy "bool") aNil)))) (tCmp gNe (eOp gIx (eVar 0) (eD (.int (0)))) (eVar 1)))
  (sRt (eVar 0))
  sNx)
  (sRt (eIf (tTr (eVar 2)) (eOp gIx (eVar 0) (eD (.int (1)))) (eOp gIx (eVar 0) (eD (.int (2)))))))
noncomputable def f3_gd_settings : F3 := fdef false 1 3
  (sSeq (sSet 1 (eNd (nLst (aCons (eTup aNil) aNil))))
  (sSeq (sFor (iSq (eVar 0)) (gNm 2)
  (sSet 1 (eNd (nLc [3] (iR1 (aCons (eOp gMul (eD (.int (2))) (eB gLen (aCons (eVar 1) aNil))) aNil)) (gNm 3) tYes3 (eOp gAdd (eOp gIx (eVar 1) (eOp gFdiv (eVar 3) (eD (.int (2))))) (eOp gIx (eNd (nLst (aCons (eTup aNil) (aCons (eTup (aCons (eVar 2) aNil)) aNil)))) (eOp gMod (eVar 3) (eD (.int (2))))))))))
  (sRt (eVar 1))))
noncomputable def f3_gd_grown : Nat → F3
  | 0 => fun _ _ => none
  | n + 1 => fdef false 2 3
      (sSeq (sIf (tCmp gEq (eB gLen (aCons (eVar 0) aNil)) (eD (.int (1))))
        (sRt (eOp gIx (eVar 0) (eD (.int (0)))))
        sNx)
        (sSeq (sSet 2 (eOp gFdiv (eB gLen (aCons (eVar 0) aNil)) (eD (.int (2)))))
        (sSeq (sPar 3 4 (aCons (eCall (f3_gd_grown n) (aCons (eSl (eVar 0) oNone (oSome (eVar 2))) (aCons (eSl (eVar 1) (oSome (eD (.int (1)))) oNone) aNil))) (aCons (eCall (f3_gd_grown n) (aCons (eSl (eVar 0) (oSome (eVar 2)) oNone) (aCons (eSl (eVar 1) (oSome (eD (.int (1)))) oNone) aNil))) aNil)))
        (sSeq (sIf (tCmp gEq (eVar 4) (eVar 3))
        (sRt (eVar 4))
        sNx)
        (sRt (eTup (aCons (eOp gIx (eVar 1) (eD (.int (0)))) (aCons (eVar 4) (aCons (eVar 3) aNil)))))))))
local macro_rules | `(tactic| walk_at "ix") => `(tactic| first | rfl | exact atI_cons0 | exact atI_map0)
local macro_rules | `(tactic| walk_at "st") => `(tactic| first | assumption | rfl | exact get_set (by assumption) | exact get_set (get_set (by assumption)) | exact get_last | exact get_setlast | exact get_setapp (by assumption) | exact get_app (by assumption) | exact get_app (get_set (by assumption)))
local macro_rules | `(tactic| walk_at "tk") => `(tactic| first | exact List.take_length | exact take_set | exact take_set2 | exact take_set3 | exact take_app | exact take_aset | exact take_setapp | rfl)
local macro_rules | `(tactic| walk_at "sd") => `(tactic| first | omega | assumption | decide)
local macro_rules | `(tactic| walk_at "wp1") => `(tactic| first
  | with_reducible refine wp_seq ?_ | with_reducible refine th_nx ?_ | with_reducible refine th_rt ?_ | with_reducible refine th_bk ?_ | with_reducible refine th_ct ?_
  | with_reducible refine wp_set ?_ | with_reducible refine wp_ex ?_ | with_reducible refine wp_rt ?_ | with_reducible refine wp_rtn ?_ | with_reducible refine wp_sif ?_ | with_reducible refine wp_asg ?_
  | with_reducible refine wp_for ?_ | with_reducible refine wp_pr ?_ | with_reducible refine pairW_i ?_ | with_reducible refine lq_nx ?_ | with_reducible refine lq_ct ?_ | with_reducible refine lq_bk ?_ | with_reducible refine lq_rt ?_ | with_reducible refine wp_dp ?_ | with_reducible refine wp_nx ?_ | with_reducible refine wp_bk ?_ | with_reducible refine wp_ct ?_
  | ((with_reducible apply wp_var); rfl) | with_reducible refine wp_d ?_ | with_reducible refine wp_ty ?_ | with_reducible refine wp_fz ?_ | with_reducible refine fz_d ?_ | ((with_reducible apply fz_r); (walk_at "st")) | with_reducible refine wp_nil ?_ | with_reducible refine wp_cons ?_
  | with_reducible refine wp_tup ?_ | with_reducible refine wp_nlst ?_ | with_reducible refine wp_ds0 ?_ | with_reducible refine wp_ds1 ?_ | with_reducible refine wp_nd ?_ | with_reducible refine wp_no ?_
  | with_reducible refine wp_gnm ?_ | with_reducible refine wp_gtp ?_ | with_reducible refine wp_gsn ?_ | with_reducible refine wp_gsc ?_ | with_reducible refine wp_gs ?_
  | with_reducible refine wp_ty3 ?_ | with_reducible refine datW_i ?_ | with_reducible refine wp_lc ?_ | with_reducible refine wp_ecmp ?_ | with_reducible refine wp_tcmp ?_ | with_reducible refine wp_ttr ?_ | with_reducible refine wp_not ?_ | with_reducible refine wp_tnt ?_ | with_reducible refine wp_tan ?_ | with_reducible refine wp_tor ?_
  | with_reducible refine wp_an ?_ | with_reducible refine boolW_i ?_ | with_reducible refine wp_or ?_ | with_reducible refine wp_eif ?_ | with_reducible refine wp_op ?_ | with_reducible refine wp_nop ?_ | with_reducible refine wp_onone ?_ | with_reducible refine wp_os ?_ | with_reducible refine intW_i ?_
  | with_reducible refine wp_esl ?_ | with_reducible refine wp_nsl ?_ | with_reducible refine wp_b ?_ | with_reducible refine wp_nb ?_ | with_reducible refine wp_call ?_ | with_reducible refine wp_sq ?_ | with_reducible refine sq_l ?_ | with_reducible refine sq_t ?_ | with_reducible refine sq_sc ?_ | ((with_reducible apply sq_r); (walk_at "st")) | with_reducible refine wp_r1 ?_ | with_reducible refine wp_r2 ?_ | with_reducible refine wp_irv ?_
  | with_reducible refine wp_me ?_ | with_reducible refine wp_join ?_ | with_reducible refine wp_dn ?_
  | with_reducible refine wp_viewd ?_ | ((with_reducible apply wp_viewr); (walk_at "st")) | ((with_reducible apply wp_lat); (walk_at "st")))
local macro_rules | `(tactic| walk_at "wp") => `(tactic| first
  | walk_at "wp1"
  | ((with_reducible apply atSet_i); (walk_at "st"); rfl) | ((with_reducible apply atLst_i); (walk_at "st")) | ((with_reducible apply nowLst_i); (walk_at "st"))
  | with_reducible refine wp_geqs ?_ | with_reducible refine wp_gnes ?_ | with_reducible refine wp_geqb ?_ | with_reducible refine wp_gneb ?_ | with_reducible refine wp_geq_nil ?_ | with_reducible refine wp_gne_nil ?_ | with_reducible refine wp_trul ?_ | with_reducible refine wp_trut ?_ | ((with_reducible apply wp_trur); (walk_at "st")) | with_reducible refine wp_trui ?_ | with_reducible refine wp_cutl ?_ | with_reducible refine wp_cutt ?_
  | with_reducible refine wp_l3l ?_ | with_reducible refine wp_l3t ?_ | ((with_reducible apply wp_l3r); (walk_at "st")) | ((with_reducible refine rng1_i ?_ ?_); (walk_at "sd")) | ((with_reducible refine rng2_i ?_ ?_); (walk_at "sd"))
  | with_reducible refine wp_addi ?_ | with_reducible refine wp_sub ?_ | ((with_reducible refine wp_mod ?_ ?_); (walk_at "sd")) | ((with_reducible refine wp_fdiv ?_ ?_); (walk_at "sd")) | ((with_reducible refine wp_mulr ?_ ?_); (walk_at "sd")) | ((with_reducible refine wp_mull ?_ ?_); (walk_at "sd")) | ((with_reducible refine wp_pow ?_ ?_); (walk_at "sd"))
  | with_reducible refine wp_int ?_ | with_reducible refine wp_abs ?_
  | ((with_reducible apply wp_ixd); (walk_at "ix")) | ((with_reducible apply wp_ixt); (walk_at "ix")) | ((with_reducible apply wp_ixr); (walk_at "st"); (walk_at "ix"))
  | with_reducible refine wp_lenl ?_ | with_reducible refine wp_lent ?_ | with_reducible refine wp_lensc ?_ | ((with_reducible apply wp_lenr); (walk_at "st"))
  | with_reducible refine wp_geqi ?_ | with_reducible refine wp_gnei ?_ | with_reducible refine wp_glti ?_ | with_reducible refine wp_ggti ?_ | with_reducible refine wp_glei ?_ | with_reducible refine wp_ggei ?_ | with_reducible refine wp_glts ?_ | with_reducible refine wp_ggts ?_
  | with_reducible refine is_bt_bt ?_ | with_reducible refine isn_bt_bt ?_ | with_reducible refine is_bt_bf ?_ | with_reducible refine isn_bt_bf ?_ | with_reducible refine is_bt_n ?_ | with_reducible refine isn_bt_n ?_ | with_reducible refine is_bf_bt ?_ | with_reducible refine isn_bf_bt ?_ | with_reducible refine is_bf_bf ?_ | with_reducible refine isn_bf_bf ?_ | with_reducible refine is_bf_n ?_ | with_reducible refine isn_bf_n ?_ | with_reducible refine is_n_bt ?_ | with_reducible refine isn_n_bt ?_ | with_reducible refine is_n_bf ?_ | with_reducible refine isn_n_bf ?_ | with_reducible refine is_n_n ?_ | with_reducible refine isn_n_n ?_ | with_reducible refine is_t_bt ?_ | with_reducible refine isn_t_bt ?_ | with_reducible refine is_t_bf ?_ | with_reducible refine isn_t_bf ?_ | with_reducible refine is_t_n ?_ | with_reducible refine isn_t_n ?_ | with_reducible refine is_l_bt ?_ | with_reducible refine isn_l_bt ?_ | with_reducible refine is_l_bf ?_ | with_reducible refine isn_l_bf ?_ | with_reducible refine is_l_n ?_ | with_reducible refine isn_l_n ?_ | with_reducible refine is_i_bt ?_ | with_reducible refine isn_i_bt ?_ | with_reducible refine is_i_bf ?_ | with_reducible refine isn_i_bf ?_ | with_reducible refine is_i_n ?_ | with_reducible refine isn_i_n ?_ | with_reducible refine is_s_bt ?_ | with_reducible refine isn_s_bt ?_ | with_reducible refine is_s_bf ?_ | with_reducible refine isn_s_bf ?_ | with_reducible refine is_s_n ?_ | with_reducible refine isn_s_n ?_
  | ((with_reducible refine wp_gis ?_ ?_); rfl) | ((with_reducible refine wp_gisn ?_ ?_); rfl) | with_reducible refine wp_trub ?_ | ((with_reducible refine isi_t (r := true) ?_ ?_); (decide +kernel)) | ((with_reducible refine isi_t (r := false) ?_ ?_); (decide +kernel)) | ((with_reducible refine isi_b (r := true) ?_ ?_); (decide +kernel)) | ((with_reducible refine isi_b (r := false) ?_ ?_); (decide +kernel)) | ((with_reducible refine isi_i (r := true) ?_ ?_); (decide +kernel)) | ((with_reducible refine isi_i (r := false) ?_ ?_); (decide +kernel)) | ((with_reducible refine isi_s (r := true) ?_ ?_); (decide +kernel)) | ((with_reducible refine isi_s (r := false) ?_ ?_); (decide +kernel)) | ((with_reducible refine isi_l (r := true) ?_ ?_); (decide +kernel)) | ((with_reducible refine isi_l (r := false) ?_ ?_); (decide +kernel)) | ((with_reducible refine isi_n (r := true) ?_ ?_); (decide +kernel)) | ((with_reducible refine isi_n (r := false) ?_ ?_); (decide +kernel))
  | with_reducible refine wp_tupl ?_ | with_reducible refine wp_tupt ?_ | ((with_reducible apply wp_tupr); (walk_at "st"))
  | with_reducible refine ite2 (fun _ => ?_) (fun z => absurd rfl z)
  | with_reducible refine ite2 (fun z => absurd z Bool.false_ne_true) (fun _ => ?_)
  | ((with_reducible apply rq_dt); (walk_at "tk")) | ((with_reducible apply rq_nxt); (walk_at "tk")))
local macro_rules | `(tactic| walk_at "fdef") => `(tactic| (refine wp_fdef rfl ?_; simp only [List.map_cons, List.map_nil, List.replicate_succ, List.replicate_zero, List.cons_append, List.nil_append]))
theorem side3 {S : List MO} {c : C} {s : Str} {o : Bool} : f3_side_of [.d c.enc, .d (.str s), .d (.bool o)] S = some (.d (c.side s o).enc, S) := by
  refine eq_of ?_
  unfold f3_side_of
  cases c with
  | b v =>
    simp only [C.enc]
    walk_at "fdef"
    repeat walk_at "wp"
    exact ⟨rfl, rfl⟩
  | nd t x y =>
    simp only [C.enc]
    walk_at "fdef"
    repeat walk_at "wp"
    have es : (C.nd t x y).side s o = if t = s then (if o then x else y) else .nd t x y := rfl
    refine ite2 (fun h => ?_) (fun h => ?_)
    · have n : t ≠ s := by simpa using h
      rw [es, if_neg n]
      repeat walk_at "wp"
      exact ⟨rfl, rfl⟩
    · have n : t = s := by simpa using h
      rw [es, if_pos n]
      repeat walk_at "wp"
      cases o with
      | true =>
        repeat walk_at "wp"
        exact ⟨rfl, rfl⟩
      | false =>
        repeat walk_at "wp"
        exact ⟨rfl, rfl⟩
theorem wp_ceq {c d : C} {ns : List Str} {PB : Bool → Prop} (hc : OC ns c) (hn : ns.length ≤ 40) (h : PB (decide (c = d))) : Wp (gEq c.enc d.enc) PB := wp_geq (.inl (Nat.le_trans (C.depth_le hc) hn)) (by rw [C.eqv_iff]; exact h)
theorem wp_cne {c d : C} {ns : List Str} {PB : Bool → Prop} (hc : OC ns c) (hn : ns.length ≤ 40) (h : PB (!decide (c = d))) : Wp (gNe c.enc d.enc) PB := wp_gne (.inl (Nat.le_trans (C.depth_le hc) hn)) (by rw [C.eqv_iff]; exact h)
theorem rep_one {b : Bool} : Rep [] (.b b) [b] := ⟨.leaf b, rfl, fun k hk => by
  have e : k = 0 := by have : k < 1 := hk; omega
  subst e; rfl⟩
theorem formed_enc (s : Str) (x y : C) : (C.formed s x y).enc = if x = y then x.enc else .tuple [.str s, x.enc, y.enc] := by
  unfold C.formed
  by_cases h : x = y
  · rw [if_pos h, if_pos h]
  · rw [if_neg h, if_neg h]; rfl
theorem grown3 : ∀ (n : Nat) {ns : List Str} {row : List Bool} {S : List MO}, ns.length < n → NS ns → row.length = 2 ^ ns.length → ∃ c, Rep ns c row ∧ f3_gd_grown n [.d (rowD row), .d (strsD ns)] S = some (.d c.enc, S)
  | 0, _, _, _, h, _, _ => absurd h (by omega)
  | n + 1, [], row, S, _, _, hr => by
    obtain ⟨b, rfl⟩ := List.length_eq_one_iff.mp hr
    refine ⟨.b b, rep_one, eq_of ?_⟩
    unfold f3_gd_grown
    walk_at "fdef"
    repeat walk_at "wp"
    exact ⟨rfl, rfl⟩
  | n + 1, s :: ns, row, S, hn, hs, hr => by
    rw [List.length_cons] at hn hr
    have hs' : NS ns := NS.suf (pre := [s]) hs
    have hp : 0 < 2 ^ ns.length := Nat.two_pow_pos _
    have hfew := hs.few
    rw [List.length_cons] at hfew
    have hle : 2 ^ ns.length ≤ 2 ^ 12 := Nat.pow_le_pow_right (by decide) (by omega)
    rw [Nat.pow_succ] at hr
    obtain ⟨c0, r0, e0⟩ := grown3 n (ns := ns) (row := row.take (2 ^ ns.length)) (S := S) (by omega) hs' (by rw [List.length_take]; omega)
    obtain ⟨c1, r1, e1⟩ := grown3 n (ns := ns) (row := row.drop (2 ^ ns.length)) (S := S) (by omega) hs' (by rw [List.length_drop]; omega)
    have rf := Rep.form r0 r1 (List.nodup_cons.mp hs.nd).1
    rw [List.take_append_drop] at rf
    refine ⟨C.formed s c1 c0, rf, eq_of ?_⟩
    have hh : ((row.map PyData.bool).length : Int) / 2 = ((2 ^ ns.length : Nat) : Int) := by rw [List.length_map, hr]; omega
    have t0 : cutD (row.map PyData.bool) none (some (((row.map PyData.bool).length : Int) / 2)) = (row.take (2 ^ ns.length)).map PyData.bool := by rw [hh, cutD_to, List.map_take]
    have t1 : cutD (row.map PyData.bool) (some (((row.map PyData.bool).length : Int) / 2)) none = (row.drop (2 ^ ns.length)).map PyData.bool := by rw [hh, cutD_from, List.map_drop]
    have t2 : cutD ((s :: ns).map PyData.str) (some 1) none = ns.map PyData.str := cutD_from _ 1
    unfold f3_gd_grown
    walk_at "fdef"
    repeat walk_at "wp"
    have n1 : ((((row.map PyData.bool).length : Nat) : Int) == 1) = false := by rw [List.length_map, hr]; exact beq_eq_false_iff_ne.mpr (by omega)
    rw [n1]
    repeat walk_at "wp"
    rw [t0, t2]
    refine wp2_eq e0 ?_
    repeat walk_at "wp"
    rw [t1, t2]
    refine wp2_eq e1 ?_
    repeat walk_at "wp"
    refine wp_ceq r1.oc (by omega) ?_
    repeat walk_at "wp"
    rw [formed_enc]
    refine ite2 (fun h => ?_) (fun h => ?_)
    · repeat walk_at "wp"
      rw [if_pos (of_decide_eq_true h)]
      exact ⟨rfl, rfl⟩
    · repeat walk_at "wp"
      rw [if_neg (fun z => h (decide_eq_true z))]
      exact ⟨rfl, rfl⟩
/-! ### the settings of switches, from all off to all on -/
def sets (ns : List Str) : List (List Str) := (List.range (2 ^ ns.length)).map fun k => ns.filter (asg ns k)
abbrev tupS (l : List Str) : PyData := .tuple (l.map PyData.str)
theorem asg_snoc {a : Str} : ∀ {pre : List Str} {k : Nat} {s : Str}, a ∉ pre → asg (pre ++ [a]) k s = if s = a then decide (k % 2 = 1) else asg pre (k / 2) s
  | [], k, s, _ => by
    show (if s = a then decide (k / 2 ^ 0 % 2 = 1) else false) = _
    rw [Nat.pow_zero, Nat.div_one]; rfl
  | x :: xs, k, s, h => by
    have h1 : a ≠ x := fun e => h (by rw [e]; exact List.mem_cons_self)
    have h2 : a ∉ xs := fun m => h (List.mem_cons_of_mem _ m)
    show (if s = x then decide (k / 2 ^ (xs ++ [a]).length % 2 = 1) else asg (xs ++ [a]) k s) = if s = a then decide (k % 2 = 1) else if s = x then decide (k / 2 / 2 ^ xs.length % 2 = 1) else asg xs (k / 2) s
    rw [asg_snoc (pre := xs) h2, List.length_append, List.length_singleton, Nat.pow_succ', Nat.div_div_eq_div_mul]
    by_cases e : s = x
    · rw [if_pos e, if_pos e, if_neg (by rw [e]; exact fun z => h1 z.symm)]
    · rw [if_neg e, if_neg e]
theorem filter_snoc_asg {pre : List Str} {a : Str} (h : a ∉ pre) (k : Nat) : (pre ++ [a]).filter (asg (pre ++ [a]) k) = pre.filter (asg pre (k / 2)) ++ (if k % 2 = 1 then [a] else []) := by
  rw [List.filter_append]
  congr 1
  · apply List.filter_congr
    intro s hs
    rw [asg_snoc h, if_neg (fun e => h (by rw [← e]; exact hs))]
  · by_cases e : k % 2 = 1
    · rw [if_pos e, List.filter_cons_of_pos (by rw [asg_snoc h, if_pos rfl]; exact decide_eq_true e)]; rfl
    · rw [if_neg e, List.filter_cons_of_neg (by rw [asg_snoc h, if_pos rfl]; exact fun z => e (of_decide_eq_true z))]; rfl
theorem sets_len (ns : List Str) : (sets ns).length = 2 ^ ns.length := by unfold sets; rw [List.length_map, List.length_range]
theorem sets_at {ns : List Str} {k : Nat} (h : k < 2 ^ ns.length) : (sets ns)[k]? = some (ns.filter (asg ns k)) := by
  unfold sets
  rw [List.getElem?_map, List.getElem?_range h]; rfl
theorem sets_snoc {pre : List Str} {a : Str} (h : a ∉ pre) : sets (pre ++ [a]) = (List.range (2 * (sets pre).length)).map fun k => pre.filter (asg pre (k / 2)) ++ (if k % 2 = 1 then [a] else []) := by
  rw [sets_len]
  unfold sets
  rw [List.length_append, List.length_singleton, Nat.pow_succ']
  exact List.map_congr_left fun k _ => filter_snoc_asg h k
theorem settings3 {ns : List Str} {S : List MO} (hs : NS ns) : f3_gd_settings [.d (strsD ns)] S = some (.d (.list ((sets ns).map tupS)), S) := by
  have few := hs.few
  refine eq_of ?_
  unfold f3_gd_settings
  walk_at "fdef"
  repeat walk_at "wp"
  refine wp_loop (n := 0) (fun i sl S' => ∃ (x y : Option W3), sl = [some (.d (strsD ns)), some (.d (.list ((sets (ns.take i)).map tupS))), x, y] ∧ S' = S) ⟨_, _, rfl, rfl⟩ (fun _ _ _ _ => rfl) (fun i w sl S' hw hi hp => ?_) (fun sl S' hp => ?_)
  · obtain ⟨x, y, rfl, rfl⟩ := hp
    obtain ⟨d, hd, rfl⟩ := ws_get hw
    rw [List.getElem?_map, Nat.sub_zero] at hd
    obtain ⟨a, ha, rfl⟩ := Option.map_eq_some_iff.mp hd
    have hlt : i < ns.length := (List.getElem?_eq_some_iff.mp ha).1
    have et : ns.take (i + 1) = ns.take i ++ [a] := by rw [List.take_succ, ha]; rfl
    have na : a ∉ ns.take i := fun m => by
      have nd := hs.nd
      rw [← List.take_append_drop (i + 1) ns, et] at nd
      exact (List.nodup_append.mp (List.nodup_append.mp nd).1).2.2 _ m _ (by simp) rfl
    have hsz : ((sets (ns.take i)).map tupS).length ≤ 4096 := by
      rw [List.length_map, sets_len, List.length_take]
      exact Nat.le_trans (Nat.pow_le_pow_right (by decide) (show min i ns.length ≤ 12 by omega)) (by decide)
    repeat walk_at "wp"
    refine ⟨by rw [intsW_len]; omega, ?_⟩
    refine wp_all (List.range (2 * (sets (ns.take i)).length)) (fun k => .d (.int (k : Nat))) (fun k => tupS ((ns.take i).filter (asg (ns.take i) (k / 2)) ++ (if k % 2 = 1 then [a] else []))) ?_ rfl (fun k hk => ?_) ?_ gnm_st
    · show intsW 0 _ = _
      unfold intsW
      rw [List.length_map]
      have : (2 * ((sets (ns.take i)).length : Int)).toNat = 2 * (sets (ns.take i)).length := by omega
      rw [this]
      exact List.map_congr_left fun k _ => by rw [Int.zero_add]
    · have hk := List.mem_range.mp hk
      have hk2 : k / 2 < 2 ^ (ns.take i).length := by rw [← sets_len]; omega
      repeat walk_at "wp"
      refine wp_ixd (d := tupS ((ns.take i).filter (asg (ns.take i) (k / 2)))) (atI_nat' (by omega) ?_) ?_
      · rw [show ((k : Int) / 2).toNat = k / 2 by omega, List.getElem?_map, sets_at hk2]; rfl
      repeat walk_at "wp"
      have hl : ((ns.take i).filter (asg (ns.take i) (k / 2))).length ≤ 12 := Nat.le_trans (List.length_filter_le _ _) (by rw [List.length_take]; omega)
      have ee : ((k : Int) % 2).toNat = k % 2 := by omega
      by_cases e : k % 2 = 1
      · refine wp_ixd (d := tupS [a]) (atI_nat' (by omega) (by rw [ee, e]; rfl)) ?_
        repeat walk_at "wp"
        refine wp_addt (by rw [List.length_map]; show _ + 1 ≤ _; omega) ?_
        repeat walk_at "wp"
        rw [if_pos e, ← List.map_append]
        exact ⟨rfl, rfl⟩
      · refine wp_ixd (d := tupS []) (atI_nat' (by omega) (by rw [ee, show k % 2 = 0 by omega]; rfl)) ?_
        repeat walk_at "wp"
        refine wp_addt (by rw [List.length_map]; show _ + 0 ≤ _; omega) ?_
        repeat walk_at "wp"
        rw [if_neg e, ← List.map_append]
        exact ⟨rfl, rfl⟩
    · repeat walk_at "wp"
      have es : ((List.range (2 * (sets (ns.take i)).length)).map fun k => tupS ((ns.take i).filter (asg (ns.take i) (k / 2)) ++ (if k % 2 = 1 then [a] else []))) = (sets (ns.take (i + 1))).map tupS := by
        rw [et, sets_snoc na, List.map_map]; rfl
      rw [es]
      exact ⟨_, _, rfl, rfl⟩
  · obtain ⟨x, y, rfl, rfl⟩ := hp
    rw [List.length_map, List.length_map, Nat.zero_add, List.take_length]
    repeat walk_at "wp"
    exact ⟨rfl, rfl⟩
theorem intsW_of {α : Type} {L : List α} {n : Nat} (h : L.length = n) : intsW 0 ((L.length : Nat) : Int).toNat = (List.range n).map fun j => W3.d (.int (j : Nat)) := by
  unfold intsW
  rw [Int.toNat_natCast, h]
  exact List.map_congr_left fun k _ => by rw [Int.zero_add]
theorem atI_bool {bs : List Bool} {j : Nat} (h : j < bs.length) : atI (bs.map PyData.bool) (j : Int) = some (.bool (bs.getD j false)) := atI_nat' (by omega) (by
  rw [Int.toNat_natCast, List.getElem?_map, List.getElem?_eq_getElem h, List.getD_eq_getElem?_getD, List.getElem?_eq_getElem h]; rfl)
theorem atI_at {α : Type} {xs : List α} {j : Nat} {x : α} (h : xs[j]? = some x) : atI xs (j : Int) = some x := atI_nat' (by omega) (by rw [Int.toNat_natCast]; exact h)
theorem all_of_any {α : Type} (xs : List α) (p : α → Bool) : (!(xs.any fun a => !p a)) = xs.all p := by
  rw [← List.not_all_eq_any_not, Bool.not_not]
end EA
namespace EA
open PySem PySem.Spec PyProof.Rows L2

/-! ### part settings -/
abbrev Pt : Type := List (Str × Bool)
/-- a setting keeps a part -/
def Kp (f : Str → Bool) (l : Pt) : Prop := ∀ r ∈ l, f r.1 = r.2
def drp (l : Pt) (s : Str) : Pt := l.filter fun r => decide (r.1 ≠ s)
/-- the condition always holds under the part -/
def Alw (c : C) (l : Pt) : Prop := ∀ f, Kp f l → c.ev f = true
def Lst (c : C) (l : Pt) : Prop := Alw c l ∧ ∀ s ∈ l.map (·.1), ¬ Alw c (drp l s)
def Sub (ns : List Str) (l : Pt) : Prop := (l.map (·.1)).Sublist ns
theorem kp_cons {f : Str → Bool} {s : Str} {b : Bool} {l : Pt} : Kp f ((s, b) :: l) ↔ f s = b ∧ Kp f l := by
  unfold Kp
  rw [List.forall_mem_cons]
theorem kp_fset {f : Str → Bool} {s : Str} {o : Bool} {l : Pt} (h : s ∉ l.map (·.1)) : Kp (fset f s o) l ↔ Kp f l := by
  have e : ∀ r ∈ l, fset f s o r.1 = f r.1 := fun r hr => by
    show (if r.1 = s then o else f r.1) = f r.1
    rw [if_neg fun e => h (List.mem_map.mpr ⟨r, hr, e⟩)]
  exact ⟨fun k r hr => (e r hr).symm.trans (k r hr), fun k r hr => (e r hr).trans (k r hr)⟩
theorem fset_at (f : Str → Bool) (s : Str) (o : Bool) : fset f s o s = o := if_pos rfl
/-- under a head -/
theorem alw_cons {ys : List Str} {s : Str} {x y : C} {b : Bool} {l : Pt} (hx : OC ys x) (hy : OC ys y) (ns : s ∉ ys) (nl : s ∉ l.map (·.1)) : Alw (.nd s x y) ((s, b) :: l) ↔ Alw (if b then x else y) l := by
  have hz : OC ys (if b then x else y) := by cases b; exact hy; exact hx
  refine ⟨fun h f k => ?_, fun h f k => ?_⟩
  · have t := h (fset f s b) (kp_cons.mpr ⟨fset_at f s b, (kp_fset nl).mpr k⟩)
    rw [← hz.ev_fset (f := f) (o := b) ns]
    have t : (if fset f s b s then x.ev (fset f s b) else y.ev (fset f s b)) = true := t
    rw [fset_at] at t
    cases b <;> exact t
  · obtain ⟨k1, k2⟩ := kp_cons.mp k
    show (if f s then x.ev f else y.ev f) = true
    have t := h f k2
    rw [k1]
    cases b <;> exact t
theorem alw_both {ys : List Str} {s : Str} {x y : C} {l : Pt} (hx : OC ys x) (hy : OC ys y) (ns : s ∉ ys) (nl : s ∉ l.map (·.1)) : Alw (.nd s x y) l ↔ Alw x l ∧ Alw y l := by
  have one : ∀ (b : Bool), Alw (.nd s x y) l → Alw (if b then x else y) l := fun b h => (alw_cons hx hy ns nl).mp fun f k => h f (kp_cons.mp k).2
  refine ⟨fun h => ⟨one true h, one false h⟩, fun ⟨h1, h2⟩ f k => ?_⟩
  show (if f s then x.ev f else y.ev f) = true
  cases f s
  · exact h2 f k
  · exact h1 f k
theorem drp_names {l : Pt} {s t : Str} (h : t ∉ l.map (·.1)) : t ∉ (drp l s).map (·.1) := fun m => by
  obtain ⟨r, hr, e⟩ := List.mem_map.mp m
  exact h (List.mem_map.mpr ⟨r, (List.mem_filter.mp hr).1, e⟩)
theorem drp_cons_ne {l : Pt} {s t : Str} {b : Bool} (h : t ≠ s) : drp ((t, b) :: l) s = (t, b) :: drp l s := List.filter_cons_of_pos (by simpa using h)
theorem drp_no {l : Pt} {s : Str} (h : s ∉ l.map (·.1)) : drp l s = l := List.filter_eq_self.mpr fun r hr => by
  have : r.1 ≠ s := fun e => h (List.mem_map.mpr ⟨r, hr, e⟩)
  simpa using this
theorem drp_head {l : Pt} {s : Str} {b : Bool} (h : s ∉ l.map (·.1)) : drp ((s, b) :: l) s = l := by
  have e : drp ((s, b) :: l) s = drp l s := List.filter_cons_of_neg (by simp)
  rw [e, drp_no h]
theorem lst_both {ys : List Str} {s : Str} {x y d : C} {l : Pt} (hx : OC ys x) (hy : OC ys y) (ns : s ∉ ys) (nl : s ∉ l.map (·.1)) (hd : ∀ f, d.ev f = (x.ev f && y.ev f)) : Lst (.nd s x y) l ↔ Lst d l := by
  have a : ∀ m : Pt, s ∉ m.map (·.1) → (Alw (.nd s x y) m ↔ Alw d m) := fun m hm => by
    rw [alw_both hx hy ns hm]
    refine ⟨fun ⟨h1, h2⟩ f k => by rw [hd, h1 f k, h2 f k]; rfl, fun h => ⟨fun f k => ?_, fun f k => ?_⟩⟩
    · have t := h f k
      rw [hd, Bool.and_eq_true] at t
      exact t.1
    · have t := h f k
      rw [hd, Bool.and_eq_true] at t
      exact t.2
  unfold Lst
  rw [a l nl]
  refine and_congr Iff.rfl ⟨fun h t ht k => h t ht ((a _ (drp_names nl)).mpr k), fun h t ht k => h t ht ((a _ (drp_names nl)).mp k)⟩
theorem lst_cons {ys : List Str} {s : Str} {x y : C} {b : Bool} {l : Pt} (hx : OC ys x) (hy : OC ys y) (ns : s ∉ ys) (nl : s ∉ l.map (·.1)) :
    Lst (.nd s x y) ((s, b) :: l) ↔ Lst (if b then x else y) l ∧ ¬ Alw (if b then y else x) l := by
  unfold Lst
  rw [alw_cons hx hy ns nl, List.map_cons, List.forall_mem_cons, drp_head nl, alw_both hx hy ns nl]
  constructor
  · rintro ⟨h1, h2, h3⟩
    refine ⟨⟨h1, fun t ht k => h3 t ht ?_⟩, fun k => h2 ?_⟩
    · rw [drp_cons_ne fun e => nl (by rw [e]; exact ht)]
      exact (alw_cons hx hy ns (drp_names nl)).mpr k
    · cases b
      · exact ⟨k, h1⟩
      · exact ⟨h1, k⟩
  · rintro ⟨⟨h1, h3⟩, h2⟩
    refine ⟨h1, fun k => h2 ?_, fun t ht k => h3 t ht ?_⟩
    · cases b
      · exact k.1
      · exact k.2
    · rw [drp_cons_ne fun e => nl (by rw [e]; exact ht)] at k
      exact (alw_cons hx hy ns (drp_names nl)).mp k
/-- the causes, all of them, once -/
structure CL (ns : List Str) (c : C) (ls : List Pt) : Prop where
  nd : ls.Nodup
  mem : ∀ l, l ∈ ls ↔ Sub ns l ∧ Lst c l
  few : ls.length ≤ 3 ^ ns.length
theorem sub_cons {n : Str} {ns : List Str} {l : Pt} : Sub (n :: ns) l ↔ Sub ns l ∨ ∃ b m, l = (n, b) :: m ∧ Sub ns m := by
  unfold Sub
  constructor
  · intro h
    match l, h with
    | [], _ => exact .inl (List.nil_sublist _)
    | (s, b) :: m, h =>
      rw [List.map_cons] at h ⊢
      cases h with
      | cons _ h => exact .inl h
      | cons_cons _ h => exact .inr ⟨b, m, rfl, h⟩
  · rintro (h | ⟨b, m, rfl, h⟩)
    · exact h.cons _
    · exact h.cons_cons _
theorem Sub.names {ns : List Str} {l : Pt} (h : Sub ns l) {s : Str} (n : s ∉ ns) : s ∉ l.map (·.1) := fun m => n (h.subset m)
theorem CL.up {n : Str} {ns : List Str} {c : C} {ls : List Pt} (h : CL ns c ls) (hc : OC ns c) (nn : n ∉ ns) : CL (n :: ns) c ls := by
  refine ⟨h.nd, fun l => ?_, Nat.le_trans h.few (Nat.pow_le_pow_right (by decide) (by simp))⟩
  rw [h.mem, sub_cons]
  refine ⟨fun ⟨a, b⟩ => ⟨.inl a, b⟩, ?_⟩
  rintro ⟨a | ⟨b, m, rfl, hm⟩, L⟩
  · exact ⟨a, L⟩
  · refine absurd (fun f k => ?_) (L.2 n (by simp))
    have nm := hm.names nn
    rw [drp_head nm] at k
    have t := L.1 (fset f n b) (kp_cons.mpr ⟨fset_at f n b, (kp_fset nm).mpr k⟩)
    rw [hc.ev_fset nn] at t
    exact t
theorem CL.ups {ns : List Str} {c : C} {ls : List Pt} (h : CL ns c ls) (hc : OC ns c) : ∀ {pre : List Str}, (pre ++ ns).Nodup → CL (pre ++ ns) c ls
  | [], _ => h
  | n :: pre, nd => (h.ups hc (List.nodup_cons.mp nd).2).up (hc.app pre) (List.nodup_cons.mp nd).1
theorem kp_ex : ∀ {l : Pt}, (l.map (·.1)).Nodup → ∃ f, Kp f l
  | [], _ => ⟨fun _ => false, fun _ h => nomatch h⟩
  | (s, b) :: l, h => by
    rw [List.map_cons] at h
    obtain ⟨h1, h2⟩ := List.nodup_cons.mp h
    obtain ⟨f, k⟩ := kp_ex h2
    exact ⟨fset f s b, kp_cons.mpr ⟨fset_at f s b, (kp_fset h1).mpr k⟩⟩
theorem Sub.nd {ns : List Str} {l : Pt} (h : Sub ns l) (nd : ns.Nodup) : (l.map (·.1)).Nodup := List.Nodup.sublist h nd
theorem cl_no {ns : List Str} (nd : ns.Nodup) : CL ns (.b false) [] := ⟨List.nodup_nil, fun l => ⟨fun h => (nomatch h), fun ⟨h, L⟩ => by
  obtain ⟨f, k⟩ := kp_ex (h.nd nd)
  exact absurd (L.1 f k) Bool.false_ne_true⟩, Nat.zero_le _⟩
theorem cl_yes (ns : List Str) : CL ns (.b true) [[]] := ⟨by simp, fun l => by
  rw [List.mem_singleton]
  constructor
  · rintro rfl
    exact ⟨List.nil_sublist _, fun _ _ => rfl, fun s h => nomatch h⟩
  · rintro ⟨_, L⟩
    match l, L with
    | [], _ => rfl
    | (s, b) :: m, L => exact absurd (fun _ _ => rfl) (L.2 s (by simp)), Nat.one_le_iff_ne_zero.mpr (Nat.pos_iff_ne_zero.mp (Nat.pow_pos (by decide)))⟩
theorem nodup_map_cons {α : Type} (a : α) : ∀ {l : List (List α)}, l.Nodup → (l.map (a :: ·)).Nodup := fun h => List.pairwise_map.mpr (h.imp fun n e => n (List.cons.inj e).2)
theorem CL.step {s : Str} {ys : List Str} {x y d : C} {l0 l1 l2 : List Pt} {p1 p2 : Pt → Bool} (nd : (s :: ys).Nodup) (hx : OC ys x) (hy : OC ys y) (hd : ∀ f, d.ev f = (x.ev f && y.ev f)) (h0 : CL ys d l0) (h1 : CL ys y l1) (h2 : CL ys x l2)
    (e1 : ∀ l ∈ l1, (p1 l = true ↔ ¬ Alw x l)) (e2 : ∀ l ∈ l2, (p2 l = true ↔ ¬ Alw y l)) : CL (s :: ys) (.nd s x y) (l0 ++ (l1.filter p1).map ((s, false) :: ·) ++ (l2.filter p2).map ((s, true) :: ·)) := by
  obtain ⟨ns, ndy⟩ := List.nodup_cons.mp nd
  refine ⟨?_, fun l => ?_, ?_⟩
  · rw [List.nodup_append, List.nodup_append]
    refine ⟨⟨h0.nd, nodup_map_cons _ (h1.nd.sublist List.filter_sublist), fun a ha b hb e => ?_⟩, nodup_map_cons _ (h2.nd.sublist List.filter_sublist), fun a ha b hb e => ?_⟩
    · obtain ⟨m, hm, rfl⟩ := List.mem_map.mp hb
      subst e
      exact ((h0.mem _).mp ha).1.names ns (by simp)
    · obtain ⟨m, hm, rfl⟩ := List.mem_map.mp hb
      subst e
      rcases List.mem_append.mp ha with ha | ha
      · exact ((h0.mem _).mp ha).1.names ns (by simp)
      · obtain ⟨m', _, e⟩ := List.mem_map.mp ha
        have := (List.cons.inj e).1
        exact absurd (congrArg (·.2) this) (by simp)
  · rw [List.mem_append, List.mem_append, sub_cons]
    constructor
    · rintro ((h | h) | h)
      · obtain ⟨a, b⟩ := (h0.mem _).mp h
        exact ⟨.inl a, (lst_both hx hy ns (a.names ns) hd).mpr b⟩
      · obtain ⟨m, hm, rfl⟩ := List.mem_map.mp h
        obtain ⟨hm, pm⟩ := List.mem_filter.mp hm
        obtain ⟨a, b⟩ := (h1.mem _).mp hm
        exact ⟨.inr ⟨_, _, rfl, a⟩, (lst_cons (b := false) hx hy ns (a.names ns)).mpr ⟨b, (e1 _ hm).mp pm⟩⟩
      · obtain ⟨m, hm, rfl⟩ := List.mem_map.mp h
        obtain ⟨hm, pm⟩ := List.mem_filter.mp hm
        obtain ⟨a, b⟩ := (h2.mem _).mp hm
        exact ⟨.inr ⟨_, _, rfl, a⟩, (lst_cons (b := true) hx hy ns (a.names ns)).mpr ⟨b, (e2 _ hm).mp pm⟩⟩
    · rintro ⟨a | ⟨b, m, rfl, a⟩, L⟩
      · exact .inl (.inl ((h0.mem _).mpr ⟨a, (lst_both hx hy ns (a.names ns) hd).mp L⟩))
      · obtain ⟨L1, L2⟩ := (lst_cons hx hy ns (a.names ns)).mp L
        cases b with
        | false =>
          have hm := (h1.mem m).mpr ⟨a, L1⟩
          exact .inl (.inr (List.mem_map.mpr ⟨m, List.mem_filter.mpr ⟨hm, (e1 m hm).mpr L2⟩, rfl⟩))
        | true =>
          have hm := (h2.mem m).mpr ⟨a, L1⟩
          exact .inr (List.mem_map.mpr ⟨m, List.mem_filter.mpr ⟨hm, (e2 m hm).mpr L2⟩, rfl⟩)
  · have f0 := h0.few
    have f1 := h1.few
    have f2 := h2.few
    have g1 := List.length_filter_le p1 l1
    have g2 := List.length_filter_le p2 l2
    rw [List.length_append, List.length_append, List.length_map, List.length_map, List.length_cons, Nat.pow_succ]
    omega
/-- two or more causes are none of them empty -/
theorem CL.more {ns : List Str} {c : C} {ls : List Pt} (h : CL ns c ls) (k : 2 ≤ ls.length) : ∀ l ∈ ls, l ≠ [] := by
  intro l hl e
  subst e
  have A := ((h.mem _).mp hl).2.1
  have al : ∀ m, Alw c m := fun m f _ => A f (fun _ z => nomatch z)
  have all : ∀ m ∈ ls, m = [] := fun m hm => by
    have L := ((h.mem _).mp hm).2
    match m, L with
    | [], _ => rfl
    | (s, b) :: m, L => exact absurd (al _) (L.2 s (by simp))
  match ls, k, h.nd, all with
  | a :: b :: r, _, nd, all =>
    have e1 := all a (by simp)
    have e2 := all b (by simp)
    rw [e1, e2] at nd
    exact (List.nodup_cons.mp nd).1 (by simp)
/-- the condition of a part -/
def pc : Pt → C
  | [] => .b true
  | (s, b) :: l => if b then C.formed s (pc l) (.b false) else C.formed s (.b false) (pc l)
theorem pc_ev {f : Str → Bool} : ∀ {l : Pt}, (pc l).ev f = true ↔ Kp f l
  | [] => ⟨fun _ _ h => (nomatch h), fun _ => rfl⟩
  | (s, b) :: l => by
    rw [kp_cons, ← pc_ev (l := l)]
    show (if b then C.formed s (pc l) (.b false) else C.formed s (.b false) (pc l)).ev f = true ↔ _
    cases b
    · rw [if_neg Bool.false_ne_true, C.ev_formed]
      cases f s
      · rw [if_neg Bool.false_ne_true]
        exact ⟨fun h => ⟨rfl, h⟩, fun h => h.2⟩
      · rw [if_pos rfl]
        exact ⟨fun h => absurd h Bool.false_ne_true, fun h => absurd h.1 (by decide)⟩
    · rw [if_pos rfl, C.ev_formed]
      cases f s
      · rw [if_neg Bool.false_ne_true]
        exact ⟨fun h => absurd h Bool.false_ne_true, fun h => absurd h.1 (by decide)⟩
      · rw [if_pos rfl]
        exact ⟨fun h => ⟨rfl, h⟩, fun h => h.2⟩
theorem pc_oc : ∀ {ns : List Str} {l : Pt}, Sub ns l → OC ns (pc l)
  | [], l, h => by
    have e : l.map (·.1) = [] := List.sublist_nil.mp h
    have e : l = [] := List.map_eq_nil_iff.mp e
    subst e
    exact .leaf _
  | n :: ns, l, h => by
    rcases sub_cons.mp h with h | ⟨b, m, rfl, hm⟩
    · exact .skip (pc_oc h)
    · have k := pc_oc hm
      cases b
      · exact OC.formed (.leaf _) k
      · exact OC.formed k (.leaf _)
theorem implies_alw {c : C} {l : Pt} : (∀ f, (pc l).ev f = true → c.ev f = true) ↔ Alw c l := ⟨fun h f k => h f (pc_ev.mpr k), fun h f k => h f (pc_ev.mp k)⟩
/-! ### parts by their rows -/
def OP : Nat → List (List Nat)
  | 0 => [[]]
  | n + 1 => (OP n).map (· ++ [0]) ++ (OP n).map (· ++ [1]) ++ (OP n).map (· ++ [2])
theorem op_mem : ∀ {n : Nat} {p : List Nat}, p ∈ OP n ↔ p.length = n ∧ ∀ x ∈ p, x ≤ 2
  | 0, p => by
    show p ∈ [[]] ↔ _
    rw [List.mem_singleton]
    exact ⟨fun h => by subst h; exact ⟨rfl, fun _ h => nomatch h⟩, fun h => List.eq_nil_of_length_eq_zero h.1⟩
  | n + 1, p => by
    show p ∈ (OP n).map (· ++ [0]) ++ (OP n).map (· ++ [1]) ++ (OP n).map (· ++ [2]) ↔ _
    rw [List.mem_append, List.mem_append]
    have one : ∀ a, a ≤ 2 → p ∈ (OP n).map (· ++ [a]) → p.length = n + 1 ∧ ∀ x ∈ p, x ≤ 2 := fun a ha h => by
      obtain ⟨m, hm, rfl⟩ := List.mem_map.mp h
      obtain ⟨h1, h2⟩ := op_mem.mp hm
      refine ⟨by rw [List.length_append, h1]; rfl, fun x hx => ?_⟩
      rcases List.mem_append.mp hx with hx | hx
      · exact h2 x hx
      · rw [List.mem_singleton.mp hx]; exact ha
    constructor
    · rintro ((h | h) | h)
      · exact one 0 (by decide) h
      · exact one 1 (by decide) h
      · exact one 2 (by decide) h
    · rintro ⟨h1, h2⟩
      have ne : p ≠ [] := fun e => by rw [e] at h1; cases h1
      have e := List.dropLast_concat_getLast ne
      have m1 : p.dropLast ∈ OP n := op_mem.mpr ⟨by rw [List.length_dropLast, h1]; rfl, fun x hx => h2 x (List.dropLast_subset p hx)⟩
      have m2 := h2 _ (List.getLast_mem ne)
      generalize p.getLast ne = a at e m2
      rw [← e]
      match a, m2 with
      | 0, _ => exact .inl (.inl (List.mem_map.mpr ⟨_, m1, rfl⟩))
      | 1, _ => exact .inl (.inr (List.mem_map.mpr ⟨_, m1, rfl⟩))
      | 2, _ => exact .inr (List.mem_map.mpr ⟨_, m1, rfl⟩)
theorem op_len : ∀ n : Nat, (OP n).length = 3 ^ n
  | 0 => rfl
  | n + 1 => by
    show ((OP n).map (· ++ [0]) ++ (OP n).map (· ++ [1]) ++ (OP n).map (· ++ [2])).length = _
    rw [List.length_append, List.length_append, List.length_map, List.length_map, List.length_map, op_len n, Nat.pow_succ]
    omega
theorem op_nd : ∀ n : Nat, (OP n).Nodup
  | 0 => by show [([] : List Nat)].Nodup; simp
  | n + 1 => by
    have ih := op_nd n
    have one : ∀ a, ((OP n).map (· ++ [a])).Nodup := fun a => List.pairwise_map.mpr (ih.imp fun h e => h (List.append_cancel_right e))
    have two : ∀ a b, a ≠ b → ∀ p ∈ (OP n).map (· ++ [a]), ∀ q ∈ (OP n).map (· ++ [b]), p ≠ q := fun a b ne p hp q hq e => by
      obtain ⟨m, hm, rfl⟩ := List.mem_map.mp hp
      obtain ⟨m', hm', rfl⟩ := List.mem_map.mp hq
      have l1 := (op_mem.mp hm).1
      have l2 := (op_mem.mp hm').1
      have := (List.append_inj e (by rw [l1, l2])).2
      exact ne (List.cons.inj this).1
    show ((OP n).map (· ++ [0]) ++ (OP n).map (· ++ [1]) ++ (OP n).map (· ++ [2])).Nodup
    rw [List.nodup_append, List.nodup_append]
    refine ⟨⟨one 0, one 1, two 0 1 (by decide)⟩, one 2, fun a ha b hb => ?_⟩
    rcases List.mem_append.mp ha with ha | ha
    · exact two 0 2 (by decide) a ha b hb
    · exact two 1 2 (by decide) a ha b hb
def prs : List Str → List Nat → Pt
  | n :: ns, x :: p => if x = 2 then prs ns p else (n, x == 1) :: prs ns p
  | _, _ => []
theorem prs_sub : ∀ (ns : List Str) (p : List Nat), Sub ns (prs ns p)
  | [], p => by unfold prs; exact List.nil_sublist _
  | n :: ns, [] => List.nil_sublist _
  | n :: ns, x :: p => by
    show Sub _ (if x = 2 then prs ns p else (n, x == 1) :: prs ns p)
    refine sub_cons.mpr ?_
    split
    · exact .inl (prs_sub ns p)
    · exact .inr ⟨_, _, rfl, prs_sub ns p⟩
theorem prs_ex : ∀ {ns : List Str} {l : Pt}, Sub ns l → ∃ p, p.length = ns.length ∧ (∀ x ∈ p, x ≤ 2) ∧ prs ns p = l
  | [], l, h => ⟨[], rfl, fun _ h => (nomatch h), by
    have e : l.map (·.1) = [] := List.sublist_nil.mp h
    have e : l = [] := List.map_eq_nil_iff.mp e
    rw [e]; rfl⟩
  | n :: ns, l, h => by
    rcases sub_cons.mp h with h | ⟨b, m, rfl, hm⟩
    · obtain ⟨p, h1, h2, h3⟩ := prs_ex h
      exact ⟨2 :: p, by simp [h1], List.forall_mem_cons.mpr ⟨Nat.le_refl _, h2⟩, by show (if 2 = 2 then prs ns p else _) = l; rw [if_pos rfl, h3]⟩
    · obtain ⟨p, h1, h2, h3⟩ := prs_ex hm
      cases b
      · exact ⟨0 :: p, by simp [h1], List.forall_mem_cons.mpr ⟨by decide, h2⟩, by show (if 0 = 2 then prs ns p else _) = _; rw [if_neg (by decide), h3]; rfl⟩
      · exact ⟨1 :: p, by simp [h1], List.forall_mem_cons.mpr ⟨by decide, h2⟩, by show (if 1 = 2 then prs ns p else _) = _; rw [if_neg (by decide), h3]; rfl⟩
theorem prs_inj : ∀ {ns : List Str} {p q : List Nat}, ns.Nodup → p.length = ns.length → q.length = ns.length → (∀ x ∈ p, x ≤ 2) → (∀ x ∈ q, x ≤ 2) → prs ns p = prs ns q → p = q
  | [], [], [], _, _, _, _, _, _ => rfl
  | n :: ns, x :: p, y :: q, nd, h1, h2, a, b, e => by
    obtain ⟨nn, nd'⟩ := List.nodup_cons.mp nd
    obtain ⟨a1, a2⟩ := List.forall_mem_cons.mp a
    obtain ⟨b1, b2⟩ := List.forall_mem_cons.mp b
    have e : (if x = 2 then prs ns p else (n, x == 1) :: prs ns p) = (if y = 2 then prs ns q else (n, y == 1) :: prs ns q) := e
    have no : ∀ (m : List Nat) (z : Bool) (r : Pt), prs ns m ≠ (n, z) :: r := fun m z r e => by
      have t := (prs_sub ns m).names nn
      rw [e] at t
      exact t (by simp)
    have again : prs ns p = prs ns q → p = q := fun e => prs_inj nd' (by simpa using h1) (by simpa using h2) a2 b2 e
    by_cases hx : x = 2
    · rw [if_pos hx] at e
      by_cases hy : y = 2
      · rw [if_pos hy] at e
        rw [again e, hx, hy]
      · rw [if_neg hy] at e
        exact absurd e (no _ _ _)
    · rw [if_neg hx] at e
      by_cases hy : y = 2
      · rw [if_pos hy] at e
        exact absurd e.symm (no _ _ _)
      · rw [if_neg hy] at e
        obtain ⟨e1, e2⟩ := List.cons.inj e
        rw [again e2]
        have e3 : (x == 1) = (y == 1) := (Prod.mk.inj e1).2
        have e4 : x = y := by
          have hx' : x = 0 ∨ x = 1 := by omega
          have hy' : y = 0 ∨ y = 1 := by omega
          rcases hx' with rfl | rfl <;> rcases hy' with rfl | rfl
          · rfl
          · exact absurd e3 (by decide)
          · exact absurd e3 (by decide)
          · rfl
        rw [e4]
theorem prs_set : ∀ {ns : List Str} {p : List Nat} {i : Nat} {s : Str}, ns.Nodup → p.length = ns.length → ns[i]? = some s → prs ns (p.set i 2) = drp (prs ns p) s
  | [], _, _, _, _, _, h => by simp at h
  | n :: ns, x :: p, 0, s, nd, hl, h => by
    have e : n = s := Option.some.inj h
    subst e
    have nn := (prs_sub ns p).names (List.nodup_cons.mp nd).1
    show (if 2 = 2 then prs ns p else _) = drp (if x = 2 then prs ns p else (n, x == 1) :: prs ns p) n
    rw [if_pos rfl]
    split
    · exact (drp_no nn).symm
    · exact (drp_head nn).symm
  | n :: ns, x :: p, i + 1, s, nd, hl, h => by
    have h' : ns[i]? = some s := by simpa using h
    have ne : n ≠ s := fun e => (List.nodup_cons.mp nd).1 (by rw [e]; exact List.mem_of_getElem? h')
    have ih := prs_set (p := p) (List.nodup_cons.mp nd).2 (by simpa using hl) h'
    show (if x = 2 then prs ns (p.set i 2) else (n, x == 1) :: prs ns (p.set i 2)) = drp (if x = 2 then prs ns p else (n, x == 1) :: prs ns p) s
    rw [ih]
    split
    · rfl
    · exact (drp_cons_ne ne).symm
theorem prs_at : ∀ {ns : List Str} {p : List Nat} {i : Nat} {s : Str} {x : Nat}, ns.Nodup → p.length = ns.length → ns[i]? = some s → p[i]? = some x → (s ∈ (prs ns p).map (·.1) ↔ x ≠ 2)
  | [], _, _, _, _, _, _, h, _ => by simp at h
  | n :: ns, y :: p, 0, s, x, nd, hl, h, k => by
    have e : n = s := Option.some.inj h
    have e2 : y = x := Option.some.inj k
    subst e e2
    have nn := (prs_sub ns p).names (List.nodup_cons.mp nd).1
    show n ∈ (if y = 2 then prs ns p else (n, y == 1) :: prs ns p).map (·.1) ↔ _
    split
    · next e => exact ⟨fun h => absurd h nn, fun h => absurd e h⟩
    · next e => exact ⟨fun _ => e, fun _ => by simp⟩
  | n :: ns, y :: p, i + 1, s, x, nd, hl, h, k => by
    have h' : ns[i]? = some s := by simpa using h
    have ne : s ≠ n := fun e => (List.nodup_cons.mp nd).1 (by rw [← e]; exact List.mem_of_getElem? h')
    have ih := prs_at (p := p) (List.nodup_cons.mp nd).2 (by simpa using hl) h' (by simpa using k)
    show s ∈ (if y = 2 then prs ns p else (n, y == 1) :: prs ns p).map (·.1) ↔ _
    rw [← ih]
    split
    · exact Iff.rfl
    · rw [List.map_cons, List.mem_cons]
      exact ⟨fun h => h.resolve_left ne, .inr⟩
/-- the law's own test -/
theorem lst_prs {ns : List Str} {p : List Nat} {c : C} (nd : ns.Nodup) (hl : p.length = ns.length) : Lst c (prs ns p) ↔ Alw c (prs ns p) ∧ ∀ i x, p[i]? = some x → x ≠ 2 → ¬ Alw c (prs ns (p.set i 2)) := by
  refine and_congr Iff.rfl ⟨fun h i x hx n2 k => ?_, fun h s hs k => ?_⟩
  · have li : i < ns.length := by rw [← hl]; exact (List.getElem?_eq_some_iff.mp hx).1
    have hs := List.getElem?_eq_getElem li
    rw [prs_set nd hl hs] at k
    exact h _ ((prs_at nd hl hs hx).mpr n2) k
  · have m := (prs_sub ns p).subset hs
    obtain ⟨i, hi⟩ := List.mem_iff_getElem?.mp m
    have li : i < p.length := by rw [hl]; exact (List.getElem?_eq_some_iff.mp hi).1
    have hx := List.getElem?_eq_getElem li
    rw [← prs_set nd hl hi] at k
    exact h i _ hx ((prs_at nd hl hi hx).mp hs) k
def ins : List Nat → List Bool
  | [] => [true]
  | x :: p => (ins p).map (fun t => t && decide (x ≠ 1)) ++ (ins p).map (fun t => t && decide (x ≠ 0))
theorem ins_len : ∀ p : List Nat, (ins p).length = 2 ^ p.length
  | [] => rfl
  | x :: p => by
    show ((ins p).map _ ++ (ins p).map _).length = _
    rw [List.length_append, List.length_map, List.length_map, ins_len p, List.length_cons, Nat.pow_succ]
    omega
theorem rep_false {ns : List Str} {r : List Bool} (h : r.length = 2 ^ ns.length) : Rep ns (.b false) (r.map fun t => t && false) :=
  ⟨.leaf _, by rw [List.length_map, h], fun k hk => by
    rw [List.getElem?_map, List.getElem?_eq_getElem (by rw [h]; exact hk)]
    show some (_ && false) = some false
    rw [Bool.and_false]⟩
theorem rep_ins : ∀ {ns : List Str} {p : List Nat}, ns.Nodup → p.length = ns.length → (∀ x ∈ p, x ≤ 2) → Rep ns (pc (prs ns p)) (ins p)
  | [], [], _, _, _ => ⟨.leaf _, rfl, fun k hk => by
    have e : k = 0 := by simpa using hk
    subst e
    rfl⟩
  | n :: ns, x :: p, nd, hl, a => by
    obtain ⟨nn, nd'⟩ := List.nodup_cons.mp nd
    obtain ⟨a1, a2⟩ := List.forall_mem_cons.mp a
    have ih := rep_ins nd' (by simpa using hl) a2
    have lp : (ins p).length = 2 ^ ns.length := by rw [ins_len, show p.length = ns.length by simpa using hl]
    have yes : (ins p).map (fun t => t && true) = ins p := by simp
    show Rep (n :: ns) (pc (if x = 2 then prs ns p else (n, x == 1) :: prs ns p)) ((ins p).map (fun t => t && decide (x ≠ 1)) ++ (ins p).map (fun t => t && decide (x ≠ 0)))
    match x, a1 with
    | 0, _ =>
      have k := Rep.form ih (rep_false lp) nn
      show Rep (n :: ns) (C.formed n (.b false) (pc (prs ns p))) ((ins p).map (fun t => t && true) ++ (ins p).map (fun t => t && false))
      rw [yes]
      exact k
    | 1, _ =>
      have k := Rep.form (rep_false lp) ih nn
      show Rep (n :: ns) (C.formed n (pc (prs ns p)) (.b false)) ((ins p).map (fun t => t && false) ++ (ins p).map (fun t => t && true))
      rw [yes]
      exact k
    | 2, _ =>
      have k := Rep.form ih ih nn
      show Rep (n :: ns) (pc (prs ns p)) ((ins p).map (fun t => t && true) ++ (ins p).map (fun t => t && true))
      rw [yes]
      have e : C.formed n (pc (prs ns p)) (pc (prs ns p)) = pc (prs ns p) := if_pos rfl
      rw [e] at k
      exact k
theorem alw_rows {ns : List Str} {p : List Nat} {c : C} {row : List Bool} (nd : ns.Nodup) (hl : p.length = ns.length) (a : ∀ x ∈ p, x ≤ 2) (r : Rep ns c row) :
    (∀ k, k < 2 ^ ns.length → (pc (prs ns p)).ev (asg ns k) = true → c.ev (asg ns k) = true) ↔ Alw c (prs ns p) := by
  rw [← implies_alw]
  refine ⟨fun h f => ?_, fun h k _ => h _⟩
  rw [ev_idx (pc_oc (prs_sub ns p)) nd, ev_idx r.oc nd]
  exact h _ (idx_lt ns f)
theorem due_perm {ns : List Str} {c : C} {ls : List Pt} {g : List Nat → Bool} (nd : ns.Nodup) (h : CL ns c ls) (hg : ∀ p ∈ OP ns.length, (g p = true ↔ Lst c (prs ns p))) : (((OP ns.length).filter g).map (prs ns)).Perm ls := by
  refine (List.perm_ext_iff_of_nodup ?_ h.nd).mpr fun l => ?_
  · refine List.pairwise_map.mpr (List.Pairwise.imp_of_mem ?_ ((op_nd ns.length).sublist List.filter_sublist))
    intro p q hp hq ne e
    have hp := op_mem.mp (List.mem_filter.mp hp).1
    have hq := op_mem.mp (List.mem_filter.mp hq).1
    exact ne (prs_inj nd hp.1 hq.1 hp.2 hq.2 e)
  · rw [h.mem, List.mem_map]
    constructor
    · rintro ⟨p, hp, rfl⟩
      obtain ⟨hp, gp⟩ := List.mem_filter.mp hp
      exact ⟨prs_sub ns p, (hg p hp).mp gp⟩
    · rintro ⟨a, L⟩
      obtain ⟨p, h1, h2, rfl⟩ := prs_ex a
      have hp := op_mem.mpr ⟨h1, h2⟩
      exact ⟨p, List.mem_filter.mpr ⟨hp, (hg p hp).mpr L⟩, rfl⟩
/-! ### as data -/
def prD (l : Pt) : PyData := .tuple (l.map fun r => .tuple [.str r.1, .bool r.2])
end EA
namespace EA
open PySem PySem.Spec PyProof.Rows L2
theorem walk_revT {K : PySem.W.Frag} {a : Addr} {xs : List V} : WalkJ (RT.ItvT K a xs.length) xs.length (fun i => nth xs (xs.length - 1 - i)) (fun H => H a = some (.tup xs)) :=
  ⟨fun i H ok h => ⟨h, xs, nth xs (xs.length - 1 - i), SqT.of ok, nth_at (by omega)⟩, fun i H ok h => h, fun i H v H' ok h y => ⟨y.1, Option.some.inj ((y.2 xs (SqT.of ok)).symm.trans (nth_at (by omega)))⟩⟩
section
variable {X : Cx} {K : PySem.W.Frag}
theorem pi_revAK {tg e : Expr} {te : TE} {p pos : Pos} (hK : X.K = K) (hg : Gl X "reversed") (hm : X.mg "reversed" = none) (he : PE X e te) (hs : starEach [e] X.env = (false, eval e X.env) :: starEach [] X.env := by rfl) : PI X tg (.Call (.Name "reversed" p) [e] [] pos) (RT.iRevA K te) := by
  subst hK; exact RT.pi_revA hg hm he hs
theorem cr_sortedDK (hK : X.K = K) (hu : X.A.units + 64 < cLine) : CallR X (.builtin "sorted") (rSortedD K) := by subst hK; exact cr_sortedD hu
end
theorem comp_map {α : Type} {K : PySem.W.Frag} {b : Addr} {ws : List V} (xs : List α) (enc f : α → PyData) {G H : Hp} {σ : L2.St} {vs : List Nat} {g : TG} {tt : TT} {te : TE} {Qd : Addr → Hp → Prop} (s : Same G H) (eb : H b = some (.lst ws)) (db : DatA G ws (xs.map enc)) (hn : xs.length ≤ 100000)
    (stp : ∀ (x : α) (u : V) (G1 H1 : Hp), x ∈ xs → Ex [] G H G1 H1 → Dat G1 u (enc x) → ∀ (C : VK) (C' : Hp → Prop), (∀ y G2 H2, Ex [] G1 H1 G2 H2 → Dat G2 y (f x) → C y H2) →
      g u (wipe σ vs) H1 fun σ2 H2 => wipe σ2 vs = wipe σ vs ∧ tt σ2 H2 fun b H3 => if b = true then te σ2 H3 C else C' H3)
    (fin : ∀ G' H' D, Ex [] G H G' H' → Dat G' (.ref D) (.list (xs.map f)) → Qd D H') :
    ∀ D, H D = none → ∃ W : Nat → Nat → Hp → Prop, (∃ m, W 0 m (upd H D (.lst []))) ∧ ∀ i m H, W i m H →
      ((Itl K b).stop i H ∧ Qd D H) ∨ ((Itl K b).go i H ∧ ∃ Nx : Hp → Prop, (∀ H', Nx H' → ∃ m', m' < m ∧ W (i + 1) m' H') ∧ ∀ x H', (Itl K b).yld i H x H' → g x (wipe σ vs) H' fun σ2 H2 => wipe σ2 vs = wipe σ vs ∧ tt σ2 H2 fun b H3 =>
        if b = true then te σ2 H3 fun y H4 => ∃ acc, H4 D = some (.lst acc) ∧ acc.length < sizeLine ∧ Nx (upd H4 D (.lst (acc ++ [y]))) else Nx H3) := by
  have lw := db.len
  rw [List.length_map] at lw
  refine comp_goD (M := []) (fun i acc G' H' => acc = (xs.take i).map f) walk_list s (line_lt (by omega)) (fun m hm => nomatch hm) (fun G4 H4 E4 => E4.same _ _ eb) rfl (fun i acc G' H' D o hp n1 n2 => hp) (fun i acc G' H' D o hp n1 n2 => hp)
    (fun j acc G4 H4 hj2 E4 hp C C' hC hC' => ?_) (fun G4 H4 D acc E4 dr hacc hp => ?_)
  · have hj3 : j < xs.length := by omega
    have hg : (xs.map enc)[j]? = some (enc xs[j]) := by rw [List.getElem?_map, List.getElem?_eq_getElem hj3]; rfl
    obtain ⟨u, gu, du⟩ := db.get hg
    have nu : nth ws j = u := Option.some.inj ((nth_at hj2).symm.trans gu)
    rw [nu]
    refine stp xs[j] u G4 H4 (List.getElem_mem hj3) E4 (du.up E4.gg) C C' fun y G2 H2 E2 dy => hC y G2 H2 _ E2 dy ?_
    rw [hp, List.take_add_one, List.getElem?_eq_getElem hj3, List.map_append]
    rfl
  · have e : acc = xs.map f := by
      rw [hp, List.take_of_length_le (by omega)]
    subst e
    exact fin G4 H4 D E4 dr
abbrev natsD (p : List Nat) : PyData := .list (p.map fun x => PyData.int (x : Nat))
theorem DatA.nats {G : Hp} (p : List Nat) : DatA G (p.map fun x => V.int (x : Nat)) (p.map fun x => PyData.int (x : Nat)) := by
  induction p with
  | nil => exact .nil
  | cons x p ih => exact .cons (.int _) ih
theorem DatA.nats_inv {G : Hp} : ∀ {p : List Nat} {vs : List V}, DatA G vs (p.map fun x => PyData.int (x : Nat)) → vs = p.map fun x => V.int (x : Nat)
  | [], _, h => by cases h; rfl
  | x :: p, _, h => by
    cases h with
    | cons a b => rw [a.int_inv, b.nats_inv]; rfl
theorem gTup_i {K : PySem.W.Frag} {n : Nat} {xs : List V} {a : Addr} {g : TGs} {σ : L2.St} {H : Hp} {Q : L2.St → Hp → Prop} (h : H a = some (.tup xs)) (hn : xs.length = n) (q : g xs σ H Q) : gTup K n g (.ref a) σ H Q := ⟨a, xs, rfl, SqT.of h, hn, q⟩
theorem gCons_i {t : TG} {u : TGs} {v : V} {r : List V} {σ : L2.St} {H : Hp} {Q : L2.St → Hp → Prop} (h : t v σ H fun σ' H' => u r σ' H' Q) : gCons t u (v :: r) σ H Q := ⟨v, r, rfl, h⟩
theorem gNil_i {σ : L2.St} {H : Hp} {Q : L2.St → Hp → Prop} (h : Q σ H) : gNil [] σ H Q := ⟨rfl, h⟩
theorem catL {K : PySem.W.Frag} {H : Hp} {l b : Addr} {xs zs : List V} {Q : VK} (h1 : H l = some (.lst xs)) (h2 : H b = some (.lst zs)) (hn : xs.length + zs.length ≤ 100000) (q : ∀ p, H p = none → Q (.ref p) (upd H p (.lst (xs ++ zs)))) : rAddA K (.ref l) (.ref b) H Q :=
  .inr (.inr (.inl ⟨l, b, xs, zs, rfl, rfl, h1, h2, line_le hn, q⟩))
/-- the turns of the causes -/
def PL (ys : List Str) (s : Str) (x y : C) : Nat → List Pt → Prop
  | 0, ls => ∃ d, (∀ f, d.ev f = (x.ev f && y.ev f)) ∧ CL ys d ls
  | i + 1, ls => ∃ l0 lm pm, PL ys s x y i l0 ∧ CL ys (if i = 1 then x else y) lm ∧ (∀ l ∈ lm, (pm l = true ↔ ¬ Alw (if i = 1 then y else x) l)) ∧ ls = l0 ++ (lm.filter pm).map ((s, decide (i = 1)) :: ·)
theorem pl_done {ys : List Str} {s : Str} {x y : C} {ls : List Pt} (nd : (s :: ys).Nodup) (hx : OC ys x) (hy : OC ys y) (h : PL ys s x y 2 ls) : CL (s :: ys) (.nd s x y) ls := by
  obtain ⟨l0, lm, pm, ⟨l00, lm0, pm0, ⟨d, hd, c0⟩, c1, e1, rfl⟩, c2, e2, rfl⟩ := h
  exact CL.step nd hx hy hd c0 c1 c2 e1 e2
theorem pl_few {ys : List Str} {s : Str} {x y : C} : ∀ {i : Nat} {ls : List Pt}, PL ys s x y i ls → ls.length ≤ (i + 1) * 3 ^ ys.length
  | 0, ls, h => by
    obtain ⟨d, _, c⟩ := h
    have := c.few
    omega
  | i + 1, ls, h => by
    obtain ⟨l0, lm, pm, h0, c, _, rfl⟩ := h
    have ih := pl_few h0
    have := c.few
    have g := List.length_filter_le pm lm
    rw [List.length_append, List.length_map, Nat.succ_mul (i + 1)]
    omega
noncomputable def alwB (c : C) (l : Pt) : Bool := @decide (¬ Alw c l) (Classical.propDecidable _)
theorem alwB_iff {c : C} {l : Pt} : alwB c l = true ↔ ¬ Alw c l := by
  unfold alwB
  exact @decide_eq_true_iff _ (Classical.propDecidable _)
noncomputable def lstB (ns : List Str) (c : C) (p : List Nat) : Bool := @decide (Lst c (prs ns p)) (Classical.propDecidable _)
theorem lstB_iff {ns : List Str} {c : C} {p : List Nat} : lstB ns c p = true ↔ Lst c (prs ns p) := by
  unfold lstB
  exact @decide_eq_true_iff _ (Classical.propDecidable _)
theorem take_snoc {α : Type} {l : List α} {i : Nat} (h : i < l.length) : l.take (i + 1) = l.take i ++ [l[i]] := by
  rw [List.take_add_one, List.getElem?_eq_getElem h]
  rfl
theorem filter_snoc {α : Type} {l : List α} {i : Nat} {p : α → Bool} (h : i < l.length) : (l.take (i + 1)).filter p = (l.take i).filter p ++ if p l[i] = true then [l[i]] else [] := by
  rw [take_snoc h, List.filter_append]
  congr 1
  cases e : p l[i] <;> simp [e]
theorem snoc_prD (ls F : List Pt) (r : Str × Bool) (l : Pt) : (ls ++ (F ++ [l]).map (r :: ·)).map prD = (ls ++ F.map (r :: ·)).map prD ++ [prD (r :: l)] := by simp
/-! ### the sorted causes -/
theorem prD_alike (a b : Pt) : W.alike (prD a) (prD b) = true := by
  show W.alikeAll (a.map _) (b.map _) = true
  induction a generalizing b with
  | nil => cases b <;> rfl
  | cons r a ih => cases b with
    | nil => rfl
    | cons q b =>
      show (W.alike _ _ && W.alikeAll _ _) = true
      rw [ih b]
      rfl
theorem prD_inj {a b : Pt} (h : PyData.eqv (prD a) (prD b) = true) : a = b := by
  have h : PyData.eqvAll (a.map fun r => PyData.tuple [.str r.1, .bool r.2]) (b.map fun r => PyData.tuple [.str r.1, .bool r.2]) = true := h
  induction a generalizing b with
  | nil => cases b with
    | nil => rfl
    | cons q b => exact absurd h (by simp [PyData.eqvAll])
  | cons r a ih => cases b with
    | nil => exact absurd h (by simp [PyData.eqvAll])
    | cons q b =>
      rw [List.map_cons, List.map_cons, PyData.eqvAll, Bool.and_eq_true] at h
      have e := ih h.2 h.2
      have e1 : r = q := by
        have h1 := h.1
        simp [PyData.eqv, PyData.eqvAll] at h1
        exact Prod.ext (by simpa using h1.1) (by simpa using h1.2)
      rw [e, e1]
theorem prD_depth (l : Pt) : (prD l).depth ≤ 40 := by
  have k : PyData.depthAll (l.map fun r => PyData.tuple [.str r.1, .bool r.2]) ≤ 5 := by
    induction l with
    | nil => exact Nat.zero_le _
    | cons r l ih => exact Nat.max_le.mpr ⟨by simp [PyData.depth, PyData.depthAll], ih⟩
  show PyData.depthAll _ + 1 ≤ 40
  omega
theorem prD_all (ls : List Pt) : W.AllAlike (ls.map prD) := by
  intro d hd d' hd'
  obtain ⟨a, _, rfl⟩ := List.mem_map.mp hd
  obtain ⟨b, _, rfl⟩ := List.mem_map.mp hd'
  exact prD_alike a b
theorem prD_sortable {ls : List Pt} (h : ∀ l ∈ ls, l ≠ []) : W.Sortable (ls.map prD) := .inl fun d hd => by
  obtain ⟨l, hl, rfl⟩ := List.mem_map.mp hd
  match l, h l hl with
  | r :: l, _ => exact ⟨_, _, rfl⟩
theorem prD_sorted {l m : List Pt} (p : l.Perm m) : (l.map prD).mergeSort (W.dataLe false id) = (m.map prD).mergeSort (W.dataLe false id) :=
  sort_perm (p.map prD) fun a ha b hb => by
    obtain ⟨x, _, rfl⟩ := List.mem_map.mp ha
    obtain ⟨y, _, rfl⟩ := List.mem_map.mp hb
    exact ⟨prD_alike x y, fun e => by rw [prD_inj e]⟩
end EA
namespace EA
open PySem PySem.Spec PyProof.Rows L2
/-! ### sorted -/
theorem le_trans3 (a b c : PyData) (h : W.dataLe (β := PyData) false id a b = true) (k : W.dataLe (β := PyData) false id b c = true) : W.dataLe (β := PyData) false id a c = true :=
  (W.sortLe_total (PyProof.Rows.listOrd itemOrd) false (fun b : PyData => W.keyToks b)).trans a b c h k
theorem le_total3 (a b : PyData) : (W.dataLe (β := PyData) false id a b || W.dataLe (β := PyData) false id b a) = true := by
  rcases (W.sortLe_total (PyProof.Rows.listOrd itemOrd) false (fun b : PyData => W.keyToks b)).total a b with h | h
  · rw [show W.dataLe (β := PyData) false id a b = true from h]; rfl
  · rw [show W.dataLe (β := PyData) false id b a = true from h]; exact Bool.or_true _
theorem sorted3 (ds : List PyData) : (ds.mergeSort (W.dataLe false id)).Pairwise (fun a b => W.dataLe (β := PyData) false id a b = true) := List.pairwise_mergeSort le_trans3 le_total3 ds
section
variable {S : List MO} {QL : List PyData → Prop}
theorem wp_sortD {ds : List PyData} (h1 : W.AllAlike ds) (h2 : 2 ≤ ds.length → W.Sortable ds) (h3 : ∀ d ∈ ds, d.depth ≤ 40) (q : QL (ds.mergeSort (W.dataLe false id))) : Wp (gSorted S [.d (.list ds)]) QL := by
  refine wp_eq (a := ds.mergeSort (W.dataLe false id)) ?_ q
  show sortD ds = _
  unfold sortD
  rw [if_pos ⟨h1, h2, h3⟩]
theorem wp_sortR {i : Nat} {ds : List PyData} (e : S[i]? = some (.lst ds)) (h : Wp (gSorted S [.d (.list ds)]) QL) : Wp (gSorted S [.r i]) QL := by
  have : gSorted S [.r i] = gSorted S [.d (.list ds)] := by
    unfold gSorted
    dsimp only
    rw [r_viewr e]; rfl
  rw [this]; exact h
theorem wp_sort_ints {ks : List Int} (nd : ks.Nodup) (q : ∀ ms : List Int, ms.Perm ks → ms.Pairwise (· < ·) → QL (ms.map .int)) : Wp (gSorted S [.d (.list (ks.map .int))]) QL := by
  refine wp_sortD (fun a ha b hb => ?_) (fun _ => .inr fun d hd => ?_) (fun d hd => ?_) ?_
  · obtain ⟨x, _, rfl⟩ := List.mem_map.mp ha
    obtain ⟨y, _, rfl⟩ := List.mem_map.mp hb
    rfl
  · obtain ⟨x, _, rfl⟩ := List.mem_map.mp hd
    exact ⟨(fun z => nomatch z), fun _ z => nomatch z⟩
  · obtain ⟨x, _, rfl⟩ := List.mem_map.mp hd
    exact dep_int x
  · obtain ⟨ms, e, p⟩ := perm_map_inv (List.mergeSort_perm (ks.map PyData.int) (W.dataLe false id)) rfl
    have so := sorted3 (ks.map PyData.int)
    rw [e] at so ⊢
    refine q ms p ?_
    have nd2 : ms.Nodup := p.nodup_iff.mpr nd
    refine List.Pairwise.imp₂ (fun a b h ne => ?_) (List.pairwise_map.mp so) nd2
    have h' : (!W.dataLt (.int b) (.int a)) = true := h
    rw [W.dataLt_int] at h'
    have : ¬ b < a := by simpa using h'
    omega
theorem wp_sort_strs {ks : List Str} (nd : ks.Nodup) (q : ∀ ms : List Str, ms.Perm ks → ms.Pairwise slt → QL (ms.map .str)) : Wp (gSorted S [.d (.list (ks.map .str))]) QL := by
  refine wp_sortD (fun a ha b hb => ?_) (fun _ => .inr fun d hd => ?_) (fun d hd => ?_) ?_
  · obtain ⟨x, _, rfl⟩ := List.mem_map.mp ha
    obtain ⟨y, _, rfl⟩ := List.mem_map.mp hb
    rfl
  · obtain ⟨x, _, rfl⟩ := List.mem_map.mp hd
    exact ⟨(fun z => nomatch z), fun _ z => nomatch z⟩
  · obtain ⟨x, _, rfl⟩ := List.mem_map.mp hd
    exact dep_str x
  · obtain ⟨ms, e, p⟩ := perm_map_inv (List.mergeSort_perm (ks.map PyData.str) (W.dataLe false id)) rfl
    have so := sorted3 (ks.map PyData.str)
    rw [e] at so ⊢
    refine q ms p ?_
    have nd2 : ms.Nodup := p.nodup_iff.mpr nd
    refine List.Pairwise.imp₂ (fun a b h ne => ?_) (List.pairwise_map.mp so) nd2
    have h' : (!W.dataLt (.str b) (.str a)) = true := h
    rw [W.dataLt_str] at h'
    have nlt : ¬ slt b a := by simpa [slt] using h'
    exact Classical.byContradiction fun n => ne (slt_tri n nlt)
end
/-! ### the settings' numbers -/
theorem asg_inj {ns : List Str} (nd : ns.Nodup) {j k : Nat} (hj : j < 2 ^ ns.length) (hk : k < 2 ^ ns.length) (h : ∀ s ∈ ns, asg ns j s = asg ns k s) : j = k := by
  apply Nat.eq_of_testBit_eq
  intro i
  by_cases hi : i < ns.length
  · have hx : ns.length - 1 - i < ns.length := by omega
    have e := h _ (List.getElem_mem hx)
    rw [asg_at nd (List.getElem?_eq_getElem hx), asg_at nd (List.getElem?_eq_getElem hx), show ns.length - 1 - (ns.length - 1 - i) = i by omega] at e
    rw [Nat.testBit_eq_decide_div_mod_eq, Nat.testBit_eq_decide_div_mod_eq]
    exact e
  · have p : 2 ^ ns.length ≤ 2 ^ i := Nat.pow_le_pow_right (by decide) (by omega)
    rw [Nat.testBit_lt_two_pow (by omega), Nat.testBit_lt_two_pow (by omega)]
end EA
namespace EA
open PySem PySem.Spec PyProof.Rows L2
section
variable {X : Cx}
/-- one text put into a set of texts -/
theorem addS_ok {pins : List (Addr × Obj)} {σ : L2.St} {H : Hp} {s : Shared} {E : Value → Shared → Prop} {D : Addr} {S : Str → Bool} {n : Nat} {y : Str} {t : Nat} {Q : Value → Shared → Prop} (I : Inv X pins σ H s) (hD : H D = some (SetGO (PySem.strKind X.prog X.w) D S n)) (room : n + 1 < scanBound)
    (h : ∀ s' m', m' ≤ n + 1 → Inv X pins σ (upd H D (SetGO (PySem.strKind X.prog X.w) D (fun j => S j || decide (j = y)) m')) s' → Q .none s') : wpAny (model X.prog X.w) X.A (call (.builtin "set.add") [.ref D, .str y t]) Q E s := by
  have R := setGO_get I hD
  have hT : s.TypeIs (.ref D) "set" := by
    obtain ⟨o, es, ep, tt, ho, hex, _⟩ := R
    exact ⟨o, ho, hex.1⟩
  refine wpAny_call_entry F.slot_set_add hT F.entry_set_add ?_ (F.args_set_add_2 _ _)
  unfold Builtin.«set.add» Builtin.Frozenset.oneOther
  simp only [List.isEmpty_nil, bind_assoc]
  unfold Builtin.Frozenset.addrOf setAdd
  refine wpAny_bind (wpAny_pure ?_)
  try dsimp only
  refine wpAny_bind (wpAny_pure ?_)
  try dsimp only
  refine wpAny_bind ?_
  refine wpAny_holding ?_
  refine wpAny_bind ((PySem.strKind X.prog X.w).pyHash (strKind_is _ _ _ _) ?_)
  refine setG_add (s := { s with toks := s.toks + 1 }) (strKind_is _ _ _ _) rfl R room fun h' m' sb hm' new => ?_
  show wpAny _ _ (ret Value.none) _ _ _
  have he : ∃ u, h'.get? D = some u := by
    have ⟨o, _, _, _, ho, _⟩ := new
    exact ⟨o, ho⟩
  exact wpAny_pure ⟨_, rfl, h _ m' hm' (I.write (e := D) (t' := s.toks + 1) (by rw [hD]; trivial) (.inl rfl) (fun b u hb hu => (sb.2 b hb).trans hu) he (setGO_new new))⟩
end
theorem compTurnS2_out (elt t0 i0 t1 i1 : Expr) (ifs0 ifs1 : List Expr) (scope : Scope) (pos : Pos) (it acc : Value) (env : Env) :
    compTurn (.SetComp elt [⟨t0, i0, ifs0, 0⟩, ⟨t1, i1, ifs1, 0⟩] scope pos) 0 it acc env = (do
      standAt i0.pos
      match ← pyNext it with
      | none => pure (.done .next)
      | some v =>
        letOwnedTupleGo t0 it v
        assign t0 env v
        let mut ok := true
        for c in ifs0 do
          if ok then ok ← isTrue c env (eval c env)
        if ok then
          let x ← eval i1 env
          standAt i1.pos
          let x ← foldedSetIterable i1 env x
          let _ ← runOwn (.compStart (.SetComp elt [⟨t0, i0, ifs0, 0⟩, ⟨t1, i1, ifs1, 0⟩] scope pos) 1 (← holding [x] (pyIter x)) acc env) env
        again (.compLoop (.SetComp elt [⟨t0, i0, ifs0, 0⟩, ⟨t1, i1, ifs1, 0⟩] scope pos) 0 it acc env)) := by rfl
theorem compTurnS2_in (elt t0 i0 t1 i1 : Expr) (ifs0 ifs1 : List Expr) (scope : Scope) (pos : Pos) (it acc : Value) (env : Env) :
    compTurn (.SetComp elt [⟨t0, i0, ifs0, 0⟩, ⟨t1, i1, ifs1, 0⟩] scope pos) 1 it acc env = (do
      standAt i1.pos
      match ← pyNext it with
      | none => pure (.done .next)
      | some v =>
        letOwnedTupleGo t1 it v
        assign t1 env v
        let mut ok := true
        for c in ifs1 do
          if ok then ok ← isTrue c env (eval c env)
        if ok then
          (do let v ← eval elt env; standAt elt.pos; let _ ← call (.builtin "set.add") [acc, v])
        again (.compLoop (.SetComp elt [⟨t0, i0, ifs0, 0⟩, ⟨t1, i1, ifs1, 0⟩] scope pos) 1 it acc env)) := by rfl

section
variable {prog : Program} {w : World} {A : Around} {R : Result → Shared → Prop} {s : Shared} {elt t0 i0 t1 i1 : Expr} {ifs0 ifs1 : List Expr} {scope : Scope} {pos : Pos} {it acc : Value} {env : Env}
/-- the loop of the first clause -/
theorem compLoopS2_out (hs : ∀ x, foldedSetIterable i1 env x = pure x) (I : Nat → Shared → Prop)
    (turn : ∀ n s, I n s → wpAny (model prog w) A (pyNext it) (fun r s₁ => match r with
      | none => R (.ok .next) s₁
      | some v => wpAny (model prog w) A (letOwnedTupleGo t0 it v) (fun _ s₁' => wpAny (model prog w) A (assign t0 env v) (fun _ s₂ =>
          wpAny (model prog w) A (forIn ifs0 true fun c r => if r = true then do let ok ← isTrue c env (eval c env); pure (ForInStep.yield ok) else pure (ForInStep.yield r)) (fun ok s₃ =>
            if ok = true then wpAny (model prog w) A (eval i1 env) (fun x s₄ => wpAny (model prog w) A (pyIter x) (fun it1 s₅ =>
              codeAny (model prog w) A (.compStart (.SetComp elt [⟨t0, i0, ifs0, 0⟩, ⟨t1, i1, ifs1, 0⟩] scope pos) 1 it1 acc env) (fun r s' => match r with
                | .ok _ => ∃ m, m < n ∧ I m s'
                | .error _ => False) s₅) (notedBy (model prog w) A env fun e s' => R (.error e) s') s₄) (notedBy (model prog w) A env fun e s' => R (.error e) s') s₃
            else ∃ m, m < n ∧ I m s₃) (notedBy (model prog w) A env fun e s' => R (.error e) s') s₂) (notedBy (model prog w) A env fun e s' => R (.error e) s') s₁') (notedBy (model prog w) A env fun e s' => R (.error e) s') s₁) (notedBy (model prog w) A env fun e s' => R (.error e) s') s)
    (n : Nat) (h : I n s) :
    codeAny (model prog w) A (.compLoop (.SetComp elt [⟨t0, i0, ifs0, 0⟩, ⟨t1, i1, ifs1, 0⟩] scope pos) 0 it acc env) R s := by
  refine codeAny_loop rfl I (fun n s hI => ?_) n h
  show wpAny _ A ((compTurn (.SetComp elt [⟨t0, i0, ifs0, 0⟩, ⟨t1, i1, ifs1, 0⟩] scope pos) 0 it acc env).onRaise (fun x => do noteFrame x env; theTreesLotGoes x)) _ _ s
  refine wpAny_noted ?_
  rw [compTurnS2_out]
  refine wpAny_bind (wpAny_standAt (wpAny_bind (wpAny_mono (turn n s hI) (fun r s₁ h₁ => ?_) fun _ _ h' => h')))
  cases r with
  | none => exact wpAny_pure h₁
  | some v =>
    refine wpAny_bind (wpAny_mono h₁ (fun _ s₁' h₁' => ?_) fun _ _ h' => h')
    refine wpAny_bind (wpAny_mono h₁' (fun _ s₂ h₂ => wpAny_bind (wpAny_mono h₂ (fun ok s₃ h₃ => ?_) fun _ _ h' => h')) fun _ _ h' => h')
    cases ok with
    | false => exact wpAny_pure ⟨rfl, h₃⟩
    | true =>
      refine wpAny_bind (wpAny_mono h₃ (fun x s₄ h₄ => ?_) fun _ _ h' => h')
      refine wpAny_bind (wpAny_standAt (wpAny_bind (wpAny_of_eq (hs x) (wpAny_bind (wpAny_holding (wpAny_mono h₄ (fun it1 s₅ h₅ => ?_) fun _ _ h' => h'))))))
      refine wpAny_bind (wpAny_runOwn ?_)
      rw [Around.mark_none]
      refine codeAny_mono h₅ fun r s' hr => ?_
      cases r with
      | ok f =>
        first
          | exact wpAny_pure ⟨rfl, hr⟩
          | exact wpAny_bind (wpAny_pure (wpAny_pure ⟨rfl, hr⟩))
      | error e => exact hr.elim
/-- the loop of the second -/
theorem compLoopS2_in (I : Nat → Shared → Prop)
    (turn : ∀ n s, I n s → wpAny (model prog w) A (pyNext it) (fun r s₁ => match r with
      | none => R (.ok .next) s₁
      | some v => wpAny (model prog w) A (letOwnedTupleGo t1 it v) (fun _ s₁' => wpAny (model prog w) A (assign t1 env v) (fun _ s₂ =>
          wpAny (model prog w) A (forIn ifs1 true fun c r => if r = true then do let ok ← isTrue c env (eval c env); pure (ForInStep.yield ok) else pure (ForInStep.yield r)) (fun ok s₃ =>
            if ok = true then wpAny (model prog w) A (eval elt env) (fun x s₄ =>
              wpAny (model prog w) A (call (.builtin "set.add") [acc, x]) (fun _ s₅ => ∃ m, m < n ∧ I m s₅) (notedBy (model prog w) A env fun e s' => R (.error e) s') s₄) (notedBy (model prog w) A env fun e s' => R (.error e) s') s₃
            else ∃ m, m < n ∧ I m s₃) (notedBy (model prog w) A env fun e s' => R (.error e) s') s₂) (notedBy (model prog w) A env fun e s' => R (.error e) s') s₁') (notedBy (model prog w) A env fun e s' => R (.error e) s') s₁) (notedBy (model prog w) A env fun e s' => R (.error e) s') s)
    (n : Nat) (h : I n s) :
    codeAny (model prog w) A (.compLoop (.SetComp elt [⟨t0, i0, ifs0, 0⟩, ⟨t1, i1, ifs1, 0⟩] scope pos) 1 it acc env) R s := by
  refine codeAny_loop rfl I (fun n s hI => ?_) n h
  show wpAny _ A ((compTurn (.SetComp elt [⟨t0, i0, ifs0, 0⟩, ⟨t1, i1, ifs1, 0⟩] scope pos) 1 it acc env).onRaise (fun x => do noteFrame x env; theTreesLotGoes x)) _ _ s
  refine wpAny_noted ?_
  rw [compTurnS2_in]
  refine wpAny_bind (wpAny_standAt (wpAny_bind (wpAny_mono (turn n s hI) (fun r s₁ h₁ => ?_) fun _ _ h' => h')))
  cases r with
  | none => exact wpAny_pure h₁
  | some v =>
    refine wpAny_bind (wpAny_mono h₁ (fun _ s₁' h₁' => ?_) fun _ _ h' => h')
    refine wpAny_bind (wpAny_mono h₁' (fun _ s₂ h₂ => wpAny_bind (wpAny_mono h₂ (fun ok s₃ h₃ => ?_) fun _ _ h' => h')) fun _ _ h' => h')
    cases ok with
    | false => exact wpAny_pure ⟨rfl, h₃⟩
    | true =>
      exact wpAny_bind (wpAny_bind (wpAny_mono h₃ (fun x s₄ h₄ => wpAny_bind (wpAny_standAt (wpAny_bind (wpAny_mono h₄ (fun _ s₅ h₅ => wpAny_pure (wpAny_pure ⟨rfl, h₅⟩)) fun _ _ h' => h')))) fun _ _ h' => h'))
/-- the second clause's start -/
theorem compStartS1_ok (h0 : codeAny (model prog w) A (.compLoop (.SetComp elt [⟨t0, i0, ifs0, 0⟩, ⟨t1, i1, ifs1, 0⟩] scope pos) 1 it acc env) R s)
    (h : wpAny (model prog w) A (pyIter it) (fun it' s' => codeAny (model prog w) A (.compLoop (.SetComp elt [⟨t0, i0, ifs0, 0⟩, ⟨t1, i1, ifs1, 0⟩] scope pos) 1 it' acc env) R s')
      (notedBy (model prog w) A env fun x s' => R (.error x) s') s) :
    codeAny (model prog w) A (.compStart (.SetComp elt [⟨t0, i0, ifs0, 0⟩, ⟨t1, i1, ifs1, 0⟩] scope pos) 1 it acc env) R s := by
  refine codeAny_of_tree ?_
  show wpAny _ _ ((compStart (.SetComp elt [⟨t0, i0, ifs0, 0⟩, ⟨t1, i1, ifs1, 0⟩] scope pos) 1 it acc env).onRaise (fun x => do noteFrame x env; standAt theWindowsPlace)) _ _ s
  refine wpAny_notedAt ?_
  unfold compStart
  show wpAny _ _ (ask >>= _) _ _ s
  refine wpAny_bind (wpAny_askSetting (wpAny_ite ?_))
  split
  · first
      | exact wpAny_bind (wpAny_pure (wpAny_pure (And.intro rfl h0)))
      | exact wpAny_pure (And.intro rfl h0)
  · first
      | exact wpAny_bind (wpAny_rule (wpAny_bind (wpAny_standAt (wpAny_bind (wpAny_mono h (fun it' s' h' => wpAny_pure (And.intro rfl h')) fun _ _ x => x)))))
      | (refine wpAny_bind (wpAny_rule ?_); show wpAny _ _ (standAt i1.pos >>= _) _ _ s; exact wpAny_bind (wpAny_standAt (wpAny_bind (wpAny_mono h (fun it' s' h' => wpAny_pure (And.intro rfl h')) fun _ _ x => x))))
end

section
variable {X : Cx}
/-- a set of texts, one for -/
def tScS (P : Program) (w : World) (wi : TI) (g : TG) (tt : TT) (te : TE) (vs : List Nat) : TE := fun σ H Q => wi σ H fun J H1 => ∀ D, H1 D = none → ∃ W : Nat → Nat → Hp → Prop, (∃ m, W 0 m (upd H1 D (SetGO (PySem.strKind P w) D (fun _ => false) 0))) ∧ ∀ i m H, W i m H →
  (J.stop i H ∧ Q (.ref D) H) ∨ (J.go i H ∧ ∃ Nx : Hp → Prop, (∀ H', Nx H' → ∃ m', m' < m ∧ W (i + 1) m' H') ∧ ∀ x H', J.yld i H x H' → g x (wipe σ vs) H' fun σ2 H2 => wipe σ2 vs = wipe σ vs ∧ tt σ2 H2 fun b H3 =>
    if b = true then te σ2 H3 fun y H4 => ∃ (c : Str) (S : Str → Bool) (n : Nat), y = .str c ∧ H4 D = some (SetGO (PySem.strKind P w) D S n) ∧ n + 1 < scanBound ∧ ∀ m', m' ≤ n + 1 → Nx (upd H4 D (SetGO (PySem.strKind P w) D (fun j => S j || decide (j = c)) m')) else Nx H3)
theorem scS_core {pins : List (Addr × Obj)} {s : Shared} {σ : L2.St} {H : Hp} {Q : VK} {elt tg iter : Expr} {ifs : List Expr} {scope : Scope} {own : List (PySem.Str × Nat)} {pos pos' : Pos} {wi : TI} {g : TG} {tt : TT} {te : TE} {use : Option (Value → Sem Unit)} {Qf : Value → Shared → Prop}
    (hc : X.calm = true) (hN : X.N.Nodup) (I : Inv X pins σ H s) (hi : PI X tg iter wi) (ok : BlkOk X.N X.env.scope scope own)
    (hg : ∀ (s : Shared) (H : Hp) (C : Addr) (cl : List (PySem.Str × Addr)) (fp : List Addr), PG (X.blk s H scope (compEnvC scope cl C X.env) fp) tg g) (ht : ∀ (s : Shared) (H : Hp) (C : Addr) (cl : List (PySem.Str × Addr)) (fp : List Addr), PTs (X.blk s H scope (compEnvC scope cl C X.env) fp) ifs tt)
    (he : ∀ (s : Shared) (H : Hp) (C : Addr) (cl : List (PySem.Str × Addr)) (fp : List Addr), PE (X.blk s H scope (compEnvC scope cl C X.env) fp) elt te) (hs : ∀ x, foldedSetIterable iter X.env x = pure x)
    (h : tScS X.prog X.w wi g tt te (own.map (·.2)) σ H Q)
    (hRR : ∀ D C s' m H', Inv X pins σ H' s' → Q (.ref D) H' → s'.heap.Ns C m → FpOk X pins H' C → compPost (model X.prog X.w) X.A X.xe use Qf (.ref D) C (.ok .next) s') :
    wpAny (model X.prog X.w) X.A (comprehension (.SetComp elt [⟨tg, iter, ifs, 0⟩] scope pos) scope X.env pos' (newSet (.type "set")) false (eval iter X.env) use) Qf X.xe s := by
  have hfree : ∀ y ∈ scope.names, y.2 = .free → ∃ c, X.env.cells.lookup y.1 = some c := fun y hy e => by
    rcases ok.free y hy e with k | k
    · exact I.ok.has _ (.inl k)
    · exact I.ok.has _ (.inr k)
  refine wpAny_comprehension_free (use := use) rfl hs (closure_ok hfree) ok.kind (fun y hy e => by rw [ok.uniq y hy, e])
    (thn (hi.run pins s σ H _ I h) fun xv s1 hx => thn hx fun itv s2 h2 => ?_)
  obtain ⟨it, fp, tn, J, H2, e, I2, T, st2, f2, q⟩ := h2
  subst e
  refine PpSet.newSet_ok (newEnv_comp ?_)
  generalize hD : s2.heap.objs.size = D
  have hDn : H2 D = none := I2.hok.fresh (Nat.le_of_eq hD)
  obtain ⟨W, ⟨m0, w0⟩, turn⟩ := q D hDn
  -- the new list
  generalize hs3 : ({ s2 with heap := s2.heap.push { cls := .type "set", dict := none, data := .set #[] 0 (.fresh 0 0 (!X.w.params.followText "set-order")) } } : Shared) = s3
  have I3 : Inv X pins σ (upd H2 D (SetGO (PySem.strKind X.prog X.w) D (fun _ => false) 0)) s3 := by
    rw [← hs3]
    refine I2.laid (t' := s2.toks) (fun b o e => Heap.get?_push_of_some _ e) (Nat.le_of_eq hD) ?_
    rw [← hD]
    exact setGO_new (setG_new (Heap.get?_push_size _ rfl))
  have h3 : s3.heap = s2.heap.push { cls := .type "set", dict := none, data := .set #[] 0 (.fresh 0 0 (!X.w.params.followText "set-order")) } := by rw [← hs3]
  have sz : ∀ b ∈ fp, b < s2.heap.objs.size := fun b hb => by
    obtain ⟨o, e, _⟩ := T.obj _ _ st2 b hb
    exact Heap.lt_size e
  have f3 : ∀ b ∈ fp, FpOk X pins (upd H2 D (SetGO (PySem.strKind X.prog X.w) D (fun _ => false) 0)) b ∧ b < s3.heap.objs.size := fun b hb => by
    have hlt := sz b hb
    refine ⟨⟨?_, (f2 b hb).2⟩, by rw [h3, Heap.size_push]; exact Nat.lt_succ_of_lt hlt⟩
    rw [upd_ne (by rw [← hD]; exact Nat.ne_of_lt hlt)]
    exact (f2 b hb).1
  have st3 : tn 0 s3.heap := T.keep _ _ _ st2 fun b _ o e => by rw [h3]; exact Heap.get?_push_of_some _ e
  have I4 := block_start I3 ok hN f3
  have pg := hg s3 (upd H2 D (SetGO (PySem.strKind X.prog X.w) D (fun _ => false) 0)) s3.heap.objs.size (cellsFrom (s3.heap.objs.size + 1) scope.names (cloFrom X.env.cells scope.names [])) fp
  have pt := ht s3 (upd H2 D (SetGO (PySem.strKind X.prog X.w) D (fun _ => false) 0)) s3.heap.objs.size (cellsFrom (s3.heap.objs.size + 1) scope.names (cloFrom X.env.cells scope.names [])) fp
  have pe := he s3 (upd H2 D (SetGO (PySem.strKind X.prog X.w) D (fun _ => false) 0)) s3.heap.objs.size (cellsFrom (s3.heap.objs.size + 1) scope.names (cloFrom X.env.cells scope.names [])) fp
  show codeAny _ _ (.compStart (.SetComp elt [⟨tg, iter, ifs, 0⟩] scope pos) 0 (.ref it) (.ref D) (compEnvC scope (cellsFrom (s3.heap.objs.size + 1) scope.names (cloFrom X.env.cells scope.names [])) s3.heap.objs.size X.env)) (compPost (model X.prog X.w) X.A X.xe use Qf (.ref D) s3.heap.objs.size) { s3 with heap := pushCells (s3.heap.push { cls := .type "dict", data := .dict #[] }) scope.names }
  have nfp : ∀ b ∈ fp, (upd H2 D (SetGO (PySem.strKind X.prog X.w) D (fun _ => false) 0)) b = none := fun b hb => (f3 b hb).1.1
  generalize hce : compEnvC scope (cellsFrom (s3.heap.objs.size + 1) scope.names (cloFrom X.env.cells scope.names [])) s3.heap.objs.size X.env = ce at I4 pg pt pe ⊢
  have cL : ce.locals = s3.heap.objs.size := by subst hce; rfl
  generalize hH3 : upd H2 D (SetGO (PySem.strKind X.prog X.w) D (fun _ => false) 0) = H3 at I3 I4 pg pt pe w0 nfp f3
  generalize hs4 : ({ s3 with heap := pushCells (s3.heap.push { cls := .type "dict", data := .dict #[] }) scope.names } : Shared) = s4 at I4 ⊢
  have st4 : tn 0 s4.heap := T.keep _ _ _ st3 fun b _ o e => by rw [← hs4]; exact pushCells_keeps _ _ _ _ (Heap.get?_push_of_some _ e)
  have stat : ∀ {σ' : L2.St} {H' : Hp} {s' : Shared}, Inv (X.blk s3 H3 scope ce fp) [] σ' H' s' → (∀ b ∈ fp, H' b = none) → ∀ b ∈ fp, FpOk (X.blk s3 H3 scope ce fp) [] H' b := fun {σ' H' s'} I' hn b hb =>
    ⟨hn b hb, (I'.ok.exf b hb).1, I'.ok.exfs b hb, .inl hb, fun x c e => (I'.ok.exf b hb).2 x c e, fun p hp => absurd (show p ∈ ([] : List (Addr × Obj)) ++ [] from hp) (by simp)⟩
  have loop : codeAny (model X.prog X.w) X.A (.compLoop (.SetComp elt [⟨tg, iter, ifs, 0⟩] scope pos) 0 (.ref it) (.ref D) ce) (compPost (model X.prog X.w) X.A X.xe use Qf (.ref D) s3.heap.objs.size) s4 := by
    refine PpSet.compLoopS_any (fun n s' => ∃ i H', Inv (X.blk s3 H3 scope ce fp) [] (wipe σ (own.map (·.2))) H' s' ∧ tn i s'.heap ∧ (∀ b ∈ fp, H' b = none) ∧ W i n H') ?_ m0 ⟨0, H3, I4, st4, nfp, w0⟩
    rintro n s5 ⟨i, H5, I5, st5, n5, w5⟩
    rcases turn i n H5 w5 with ⟨stop, qq⟩ | ⟨go, Nx, hNx, step⟩
    · have td := T.done (X.blk s3 H3 scope ce fp) rfl rfl rfl hc i [] s5 _ H5 (fun _ _ => False) I5 (stat I5 n5) st5 stop
      refine thnF td fun r s6 ⟨hr, I6⟩ => ?_
      subst hr
      -- back in the def's context
      have I7 : Inv X pins σ H5 s6 := I3.call' (ch := fp) I6.os I6.base I6.hok I6.bare fun b hb => ⟨(f3 b hb).1.2.2.2.1, (f3 b hb).1.2.1, (f3 b hb).1.2.2.2.2.1, (f3 b hb).1.2.2.2.2.2⟩
      have nC : H5 s3.heap.objs.size = none := by
        have z : H5 ce.locals = none := I6.free
        rw [cL] at z
        exact z
      obtain ⟨m, hn, _⟩ := I6.loc
      have hn : s6.heap.Ns ce.locals m := hn
      rw [cL] at hn
      exact hRR D s3.heap.objs.size s6 m H5 I7 qq hn (I3.fpOk (Nat.le_refl _) nC)
    · have ti := T.item (X.blk s3 H3 scope ce fp) rfl rfl rfl hc i [] s5 _ H5 (fun _ _ => False) I5 (stat I5 n5) st5 go
      refine thnF ti fun r s6 ⟨u, hr, h6⟩ => ?_
      subst hr
      refine thnF h6 fun _ s7 ⟨x, H7, I7, r7, y7, st7, n7⟩ => ?_
      have I7' := I7.pinned (stat I7 n7) (T.obj _ _ st7)
      refine thnF (pg.run _ s7 _ H7 x u _ I7' r7 (step x H7 y7)) fun _ s8 ⟨σ8, H8, I8, hw8, q8⟩ => ?_
      refine thnF (pt.run _ s8 σ8 H8 _ I8 q8) fun b s9 ⟨H9, I9, q9⟩ => ?_
      -- the turn's end
      have fin : ∀ {s' : Shared} {H' : Hp}, Inv (X.blk s3 H3 scope ce fp) ([] ++ pinsAt fp s7.heap) σ8 H' s' → Nx H' → ∃ m, m < n ∧ ∃ i H', Inv (X.blk s3 H3 scope ce fp) [] (wipe σ (own.map (·.2))) H' s' ∧ tn i s'.heap ∧ (∀ b ∈ fp, H' b = none) ∧ W i m H' := fun {s' H'} I' nx => by
        obtain ⟨m', hm, w'⟩ := hNx H' nx
        have pin' : ∀ b ∈ fp, ∀ o, s7.heap.get? b = some o → s'.heap.get? b = some o ∧ H' b = none := fun b hb o e =>
          let z := I'.pin (b, o) (List.mem_append_right _ (List.mem_append_right _ (mem_pinsAt hb e)))
          ⟨z.1, z.2.1⟩
        have hl : (wipe σ (own.map (·.2))).length = σ8.length := by rw [← hw8, wipe_length]
        refine ⟨m', hm, i + 1, H', (I'.unpinned (pins := [])).weak hl (fun j v e => ?_), T.keep _ _ _ st7 fun b hb o e => (pin' b hb o e).1, fun b hb => ?_, w'⟩
        · rw [← hw8] at e
          exact (wipe_some e).1
        · obtain ⟨o, e, _⟩ := T.obj _ _ st7 b hb
          exact (pin' b hb o e).2
      cases b with
      | false =>
        simp only [Bool.false_eq_true, if_false] at q9 ⊢
        exact fin I9 q9
      | true =>
        simp only [if_true] at q9 ⊢
        refine thnF (pe.run _ s9 σ8 H9 _ I9 q9) fun z s10 ⟨yv, H10, I10, r10, cb, S0, n0, ey, hD10, hz10, nx⟩ => ?_
        subst ey
        obtain ⟨zt, rfl⟩ := r10
        exact addS_ok (X := X.blk s3 H3 scope ce fp) I10 hD10 hz10 fun s11 m' hm' I11 => fin I11 (nx m' hm')
  exact PpSet.codeAny_compStart_set loop (T.self X.A 0 _ _ _ st4 loop)
theorem pe_scS {elt tg iter : Expr} {ifs : List Expr} {scope : Scope} {own : List (PySem.Str × Nat)} {pos : Pos} {wi : TI} {g : TG} {tt : TT} {te : TE} (hc : X.calm = true) (hN : X.N.Nodup) (hi : PI X tg iter wi) (ok : BlkOk X.N X.env.scope scope own)
    (hg : ∀ (s : Shared) (H : Hp) (C : Addr) (cl : List (PySem.Str × Addr)) (fp : List Addr), PG (X.blk s H scope (compEnvC scope cl C X.env) fp) tg g) (ht : ∀ (s : Shared) (H : Hp) (C : Addr) (cl : List (PySem.Str × Addr)) (fp : List Addr), PTs (X.blk s H scope (compEnvC scope cl C X.env) fp) ifs tt)
    (he : ∀ (s : Shared) (H : Hp) (C : Addr) (cl : List (PySem.Str × Addr)) (fp : List Addr), PE (X.blk s H scope (compEnvC scope cl C X.env) fp) elt te) (hs : ∀ x, foldedSetIterable iter X.env x = pure x := by intro _; rfl) :
    PE X (.SetComp elt [⟨tg, iter, ifs, 0⟩] scope pos) (tScS X.prog X.w wi g tt te (own.map (·.2))) := by
  refine ⟨fun pins s σ H Q I h => ?_⟩
  rw [PpSet.eval_SetComp]
  refine scS_core hc hN I hi ok hg ht he hs h fun D C s' m H' I' q hn f => ⟨m, hn, fun h'' sb => ?_⟩
  obtain ⟨f0, f1, f2, f3, f4, f5⟩ := f
  exact ⟨.ref D, H', I'.turned (t' := s'.toks) (fun b o hb e => (sb.2 b hb).trans e) f0 f1 f3 f4 f5, rfl, q⟩
/-- a set of texts, two fors -/
def tScS2 (P : Program) (w : World) (wi : TI) (g : TG) (tt : TT) (wi1 : TI) (g1 : TG) (tt1 : TT) (te : TE) (vs vs1 : List Nat) : TE := fun σ H Q => wi σ H fun J H1 => ∀ D, H1 D = none → ∃ W : Nat → Nat → Hp → Prop, (∃ m, W 0 m (upd H1 D (SetGO (PySem.strKind P w) D (fun _ => false) 0))) ∧ ∀ i m H, W i m H →
  (J.stop i H ∧ Q (.ref D) H) ∨ (J.go i H ∧ ∃ Nx : Hp → Prop, (∀ H', Nx H' → ∃ m', m' < m ∧ W (i + 1) m' H') ∧ ∀ x H', J.yld i H x H' → g x (wipe σ vs) H' fun σ2 H2 => wipe σ2 vs = wipe σ vs ∧ tt σ2 H2 fun b H3 =>
    if b = true then wi1 σ2 H3 fun J1 H4 => ∃ W1 : Nat → Nat → Hp → Prop, (∃ m, W1 0 m H4) ∧ ∀ j k H, W1 j k H →
      (J1.stop j H ∧ Nx H) ∨ (J1.go j H ∧ ∃ Nx1 : Hp → Prop, (∀ H', Nx1 H' → ∃ k', k' < k ∧ W1 (j + 1) k' H') ∧ ∀ x H', J1.yld j H x H' → g1 x (wipe σ2 vs1) H' fun σ3 H5 => wipe σ3 vs1 = wipe σ2 vs1 ∧ tt1 σ3 H5 fun b H6 =>
        if b = true then te σ3 H6 fun y H7 => ∃ (c : Str) (S : Str → Bool) (n : Nat), y = .str c ∧ H7 D = some (SetGO (PySem.strKind P w) D S n) ∧ n + 1 < scanBound ∧ ∀ m', m' ≤ n + 1 → Nx1 (upd H7 D (SetGO (PySem.strKind P w) D (fun j => S j || decide (j = c)) m')) else Nx1 H6)
    else Nx H3)
theorem scS2_core {pins : List (Addr × Obj)} {s : Shared} {σ : L2.St} {H : Hp} {Q : VK} {elt tg iter tg1 iter1 : Expr} {ifs ifs1 : List Expr} {scope : Scope} {own : List (Str × Nat)} {vs1 : List Nat} {pos pos' : Pos} {wi wi1 : TI} {g g1 : TG} {tt tt1 : TT} {te : TE} {use : Option (Value → Sem Unit)} {Qf : Value → Shared → Prop}
    (hc : X.calm = true) (hN : X.N.Nodup) (I : Inv X pins σ H s) (hi : PI X tg iter wi) (ok : BlkOk X.N X.env.scope scope own) (hv : ∀ i ∈ vs1, i ∈ own.map (·.2))
    (hg : ∀ (s : Shared) (H : Hp) (C : Addr) (cl : List (Str × Addr)) (fp : List Addr), PG (X.blk s H scope (compEnvC scope cl C X.env) fp) tg g) (ht : ∀ (s : Shared) (H : Hp) (C : Addr) (cl : List (Str × Addr)) (fp : List Addr), PTs (X.blk s H scope (compEnvC scope cl C X.env) fp) ifs tt)
    (he : ∀ (s : Shared) (H : Hp) (C : Addr) (cl : List (Str × Addr)) (fp : List Addr), PE (X.blk s H scope (compEnvC scope cl C X.env) fp) elt te) (hs : ∀ x, foldedSetIterable iter X.env x = pure x)
    (hi1 : ∀ (s : Shared) (H : Hp) (C : Addr) (cl : List (Str × Addr)) (fp : List Addr), PI (X.blk s H scope (compEnvC scope cl C X.env) fp) tg1 iter1 wi1)
    (hg1 : ∀ (s : Shared) (H : Hp) (C : Addr) (cl : List (Str × Addr)) (fp : List Addr), PG (X.blk s H scope (compEnvC scope cl C X.env) fp) tg1 g1)
    (ht1 : ∀ (s : Shared) (H : Hp) (C : Addr) (cl : List (Str × Addr)) (fp : List Addr), PTs (X.blk s H scope (compEnvC scope cl C X.env) fp) ifs1 tt1)
    (hs1 : ∀ env x, foldedSetIterable iter1 env x = pure x)
    (h : tScS2 X.prog X.w wi g tt wi1 g1 tt1 te (own.map (·.2)) vs1 σ H Q)
    (hRR : ∀ D C s' m H', Inv X pins σ H' s' → Q (.ref D) H' → s'.heap.Ns C m → FpOk X pins H' C → compPost (model X.prog X.w) X.A X.xe use Qf (.ref D) C (.ok .next) s') :
    wpAny (model X.prog X.w) X.A (comprehension (.SetComp elt [⟨tg, iter, ifs, 0⟩, ⟨tg1, iter1, ifs1, 0⟩] scope pos) scope X.env pos' (newSet (.type "set")) false (eval iter X.env) use) Qf X.xe s := by
  have hfree : ∀ y ∈ scope.names, y.2 = .free → ∃ c, X.env.cells.lookup y.1 = some c := fun y hy e => by
    rcases ok.free y hy e with k | k
    · exact I.ok.has _ (.inl k)
    · exact I.ok.has _ (.inr k)
  refine wpAny_comprehension_free (use := use) rfl hs (closure_ok hfree) ok.kind (fun y hy e => by rw [ok.uniq y hy, e])
    (thn (hi.run pins s σ H _ I h) fun xv s1 hx => thn hx fun itv s2 h2 => ?_)
  obtain ⟨it, fp, tn, J, H2, e, I2, T, st2, f2, q⟩ := h2
  subst e
  refine PpSet.newSet_ok (newEnv_comp ?_)
  generalize hD : s2.heap.objs.size = D
  have hDn : H2 D = none := I2.hok.fresh (Nat.le_of_eq hD)
  obtain ⟨W, ⟨m0, w0⟩, turn⟩ := q D hDn
  -- the new list
  generalize hs3 : ({ s2 with heap := s2.heap.push { cls := .type "set", dict := none, data := .set #[] 0 (.fresh 0 0 (!X.w.params.followText "set-order")) } } : Shared) = s3
  have I3 : Inv X pins σ (upd H2 D (SetGO (PySem.strKind X.prog X.w) D (fun _ => false) 0)) s3 := by
    rw [← hs3]
    refine I2.laid (t' := s2.toks) (fun b o e => Heap.get?_push_of_some _ e) (Nat.le_of_eq hD) ?_
    rw [← hD]
    exact setGO_new (setG_new (Heap.get?_push_size _ rfl))
  have h3 : s3.heap = s2.heap.push { cls := .type "set", dict := none, data := .set #[] 0 (.fresh 0 0 (!X.w.params.followText "set-order")) } := by rw [← hs3]
  have sz : ∀ b ∈ fp, b < s2.heap.objs.size := fun b hb => by
    obtain ⟨o, e, _⟩ := T.obj _ _ st2 b hb
    exact Heap.lt_size e
  have f3 : ∀ b ∈ fp, FpOk X pins (upd H2 D (SetGO (PySem.strKind X.prog X.w) D (fun _ => false) 0)) b ∧ b < s3.heap.objs.size := fun b hb => by
    have hlt := sz b hb
    refine ⟨⟨?_, (f2 b hb).2⟩, by rw [h3, Heap.size_push]; exact Nat.lt_succ_of_lt hlt⟩
    rw [upd_ne (by rw [← hD]; exact Nat.ne_of_lt hlt)]
    exact (f2 b hb).1
  have st3 : tn 0 s3.heap := T.keep _ _ _ st2 fun b _ o e => by rw [h3]; exact Heap.get?_push_of_some _ e
  have I4 := block_start I3 ok hN f3
  have pg := hg s3 (upd H2 D (SetGO (PySem.strKind X.prog X.w) D (fun _ => false) 0)) s3.heap.objs.size (cellsFrom (s3.heap.objs.size + 1) scope.names (cloFrom X.env.cells scope.names [])) fp
  have pt := ht s3 (upd H2 D (SetGO (PySem.strKind X.prog X.w) D (fun _ => false) 0)) s3.heap.objs.size (cellsFrom (s3.heap.objs.size + 1) scope.names (cloFrom X.env.cells scope.names [])) fp
  have pe := he s3 (upd H2 D (SetGO (PySem.strKind X.prog X.w) D (fun _ => false) 0)) s3.heap.objs.size (cellsFrom (s3.heap.objs.size + 1) scope.names (cloFrom X.env.cells scope.names [])) fp
  have pi1 := hi1 s3 (upd H2 D (SetGO (PySem.strKind X.prog X.w) D (fun _ => false) 0)) s3.heap.objs.size (cellsFrom (s3.heap.objs.size + 1) scope.names (cloFrom X.env.cells scope.names [])) fp
  have pg1 := hg1 s3 (upd H2 D (SetGO (PySem.strKind X.prog X.w) D (fun _ => false) 0)) s3.heap.objs.size (cellsFrom (s3.heap.objs.size + 1) scope.names (cloFrom X.env.cells scope.names [])) fp
  have pt1 := ht1 s3 (upd H2 D (SetGO (PySem.strKind X.prog X.w) D (fun _ => false) 0)) s3.heap.objs.size (cellsFrom (s3.heap.objs.size + 1) scope.names (cloFrom X.env.cells scope.names [])) fp
  show codeAny _ _ (.compStart (.SetComp elt [⟨tg, iter, ifs, 0⟩, ⟨tg1, iter1, ifs1, 0⟩] scope pos) 0 (.ref it) (.ref D) (compEnvC scope (cellsFrom (s3.heap.objs.size + 1) scope.names (cloFrom X.env.cells scope.names [])) s3.heap.objs.size X.env)) (compPost (model X.prog X.w) X.A X.xe use Qf (.ref D) s3.heap.objs.size) { s3 with heap := pushCells (s3.heap.push { cls := .type "dict", data := .dict #[] }) scope.names }
  have nfp : ∀ b ∈ fp, (upd H2 D (SetGO (PySem.strKind X.prog X.w) D (fun _ => false) 0)) b = none := fun b hb => (f3 b hb).1.1
  generalize hce : compEnvC scope (cellsFrom (s3.heap.objs.size + 1) scope.names (cloFrom X.env.cells scope.names [])) s3.heap.objs.size X.env = ce at I4 pg pt pe pi1 pg1 pt1 ⊢
  have cL : ce.locals = s3.heap.objs.size := by subst hce; rfl
  generalize hH3 : upd H2 D (SetGO (PySem.strKind X.prog X.w) D (fun _ => false) 0) = H3 at I3 I4 pg pt pe pi1 pg1 pt1 w0 nfp f3
  generalize hs4 : ({ s3 with heap := pushCells (s3.heap.push { cls := .type "dict", data := .dict #[] }) scope.names } : Shared) = s4 at I4 ⊢
  have st4 : tn 0 s4.heap := T.keep _ _ _ st3 fun b _ o e => by rw [← hs4]; exact pushCells_keeps _ _ _ _ (Heap.get?_push_of_some _ e)
  have stat : ∀ {σ' : L2.St} {H' : Hp} {s' : Shared}, Inv (X.blk s3 H3 scope ce fp) [] σ' H' s' → (∀ b ∈ fp, H' b = none) → ∀ b ∈ fp, FpOk (X.blk s3 H3 scope ce fp) [] H' b := fun {σ' H' s'} I' hn b hb =>
    ⟨hn b hb, (I'.ok.exf b hb).1, I'.ok.exfs b hb, .inl hb, fun x c e => (I'.ok.exf b hb).2 x c e, fun p hp => absurd (show p ∈ ([] : List (Addr × Obj)) ++ [] from hp) (by simp)⟩
  have loop : codeAny (model X.prog X.w) X.A (.compLoop (.SetComp elt [⟨tg, iter, ifs, 0⟩, ⟨tg1, iter1, ifs1, 0⟩] scope pos) 0 (.ref it) (.ref D) ce) (compPost (model X.prog X.w) X.A X.xe use Qf (.ref D) s3.heap.objs.size) s4 := by
    refine compLoopS2_out (hs1 ce) (fun n s' => ∃ i H', Inv (X.blk s3 H3 scope ce fp) [] (wipe σ (own.map (·.2))) H' s' ∧ tn i s'.heap ∧ (∀ b ∈ fp, H' b = none) ∧ W i n H') ?_ m0 ⟨0, H3, I4, st4, nfp, w0⟩
    rintro n s5 ⟨i, H5, I5, st5, n5, w5⟩
    rcases turn i n H5 w5 with ⟨stop, qq⟩ | ⟨go, Nx, hNx, step⟩
    · have td := T.done (X.blk s3 H3 scope ce fp) rfl rfl rfl hc i [] s5 _ H5 (fun _ _ => False) I5 (stat I5 n5) st5 stop
      refine thnF td fun r s6 ⟨hr, I6⟩ => ?_
      subst hr
      -- back in the def's context
      have I7 : Inv X pins σ H5 s6 := I3.call' (ch := fp) I6.os I6.base I6.hok I6.bare fun b hb => ⟨(f3 b hb).1.2.2.2.1, (f3 b hb).1.2.1, (f3 b hb).1.2.2.2.2.1, (f3 b hb).1.2.2.2.2.2⟩
      have nC : H5 s3.heap.objs.size = none := by
        have z : H5 ce.locals = none := I6.free
        rw [cL] at z
        exact z
      obtain ⟨m, hn, _⟩ := I6.loc
      have hn : s6.heap.Ns ce.locals m := hn
      rw [cL] at hn
      exact hRR D s3.heap.objs.size s6 m H5 I7 qq hn (I3.fpOk (Nat.le_refl _) nC)
    · have ti := T.item (X.blk s3 H3 scope ce fp) rfl rfl rfl hc i [] s5 _ H5 (fun _ _ => False) I5 (stat I5 n5) st5 go
      refine thnF ti fun r s6 ⟨u, hr, h6⟩ => ?_
      subst hr
      refine thnF h6 fun _ s7 ⟨x, H7, I7, r7, y7, st7, n7⟩ => ?_
      have I7' := I7.pinned (stat I7 n7) (T.obj _ _ st7)
      refine thnF (pg.run _ s7 _ H7 x u _ I7' r7 (step x H7 y7)) fun _ s8 ⟨σ8, H8, I8, hw8, q8⟩ => ?_
      refine thnF (pt.run _ s8 σ8 H8 _ I8 q8) fun b s9 ⟨H9, I9, q9⟩ => ?_
      -- the turn's end, from any slots that know what the block knew at its start
      have fin : ∀ {σ9 : L2.St} {s' : Shared} {H' : Hp}, Inv (X.blk s3 H3 scope ce fp) ([] ++ pinsAt fp s7.heap) σ9 H' s' → (wipe σ (own.map (·.2))).length = σ9.length → (∀ (j : Nat) v, (wipe σ (own.map (·.2)))[j]? = some (some v) → σ9[j]? = some (some v)) → Nx H' →
          ∃ m, m < n ∧ ∃ i H', Inv (X.blk s3 H3 scope ce fp) [] (wipe σ (own.map (·.2))) H' s' ∧ tn i s'.heap ∧ (∀ b ∈ fp, H' b = none) ∧ W i m H' := fun {σ9 s' H'} I' hl hk nx => by
        obtain ⟨m', hm, w'⟩ := hNx H' nx
        have pin' : ∀ b ∈ fp, ∀ o, s7.heap.get? b = some o → s'.heap.get? b = some o ∧ H' b = none := fun b hb o e =>
          let z := I'.pin (b, o) (List.mem_append_right _ (List.mem_append_right _ (mem_pinsAt hb e)))
          ⟨z.1, z.2.1⟩
        refine ⟨m', hm, i + 1, H', (I'.unpinned (pins := [])).weak hl hk, T.keep _ _ _ st7 fun b hb o e => (pin' b hb o e).1, fun b hb => ?_, w'⟩
        obtain ⟨o, e, _⟩ := T.obj _ _ st7 b hb
        exact (pin' b hb o e).2
      have hl8 : (wipe σ (own.map (·.2))).length = σ8.length := by rw [← hw8, wipe_length]
      have hk8 : ∀ (j : Nat) v, (wipe σ (own.map (·.2)))[j]? = some (some v) → σ8[j]? = some (some v) := fun j v e => by
        rw [← hw8] at e
        exact (wipe_some e).1
      have hk9 : ∀ (j : Nat) v, (wipe σ (own.map (·.2)))[j]? = some (some v) → (wipe σ8 vs1)[j]? = some (some v) := fun j v e => by
        rw [← hw8] at e
        obtain ⟨e1, e2⟩ := wipe_some e
        rw [wipe_out fun z => e2 (hv j z)]
        exact e1
      cases b with
      | false =>
        simp only [Bool.false_eq_true, if_false] at q9 ⊢
        exact fin I9 hl8 hk8 q9
      | true =>
        simp only [if_true] at q9 ⊢
        refine thnF (pi1.run _ s9 σ8 H9 _ I9 q9) fun xv s10 hx => thnF hx fun itv s11 h11 => ?_
        obtain ⟨it1, fp1, tn1, J1, H11, e1, I11, T1, st11, f11, W1, ⟨m1, w1⟩, turn1⟩ := h11
        subst e1
        -- the inner loop
        have stat1 : ∀ {H' : Hp}, (∀ b ∈ fp1, H' b = none) → ∀ b ∈ fp1, FpOk (X.blk s3 H3 scope ce fp) ([] ++ pinsAt fp s7.heap) H' b := fun hn b hb => ⟨hn b hb, (f11 b hb).2⟩
        have loop1 : codeAny (model X.prog X.w) X.A (.compLoop (.SetComp elt [⟨tg, iter, ifs, 0⟩, ⟨tg1, iter1, ifs1, 0⟩] scope pos) 1 (.ref it1) (.ref D) ce)
            (fun r s' => match r with
              | .ok _ => ∃ m, m < n ∧ ∃ i H', Inv (X.blk s3 H3 scope ce fp) [] (wipe σ (own.map (·.2))) H' s' ∧ tn i s'.heap ∧ (∀ b ∈ fp, H' b = none) ∧ W i m H'
              | .error _ => False) s11 := by
          refine compLoopS2_in (fun k s' => ∃ j H', Inv (X.blk s3 H3 scope ce fp) ([] ++ pinsAt fp s7.heap) (wipe σ8 vs1) H' s' ∧ tn1 j s'.heap ∧ (∀ b ∈ fp1, H' b = none) ∧ W1 j k H') ?_ m1 ⟨0, H11, I11.weak (wipe_length _ _) (fun j v e => (wipe_some e).1), st11, fun b hb => (f11 b hb).1, w1⟩
          rintro k s12 ⟨j, H12, I12, st12, n12, w12⟩
          rcases turn1 j k H12 w12 with ⟨stop1, nx1⟩ | ⟨go1, Nx1, hNx1, step1⟩
          · refine thnF (T1.done (X.blk s3 H3 scope ce fp) rfl rfl rfl hc j _ s12 (wipe σ8 vs1) H12 (fun _ _ => False) I12 (stat1 n12) st12 stop1) fun r s13 ⟨hr, I13⟩ => ?_
            subst hr
            exact fin I13 (hl8.trans (wipe_length σ8 vs1).symm) hk9 nx1
          · refine thnF (T1.item (X.blk s3 H3 scope ce fp) rfl rfl rfl hc j _ s12 (wipe σ8 vs1) H12 (fun _ _ => False) I12 (stat1 n12) st12 go1) fun r s13 ⟨u1, hr, h13⟩ => ?_
            subst hr
            refine thnF h13 fun _ s14 ⟨x1, H14, I14, r14, y14, st14, n14⟩ => ?_
            have I14' := I14.pinned (stat1 n14) (T1.obj _ _ st14)
            refine thnF (pg1.run _ s14 (wipe σ8 vs1) H14 x1 u1 _ I14' r14 (step1 x1 H14 y14)) fun _ s15 ⟨σ15, H15, I15, hw15, q15⟩ => ?_
            refine thnF (pt1.run _ s15 σ15 H15 _ I15 q15) fun b1 s16 ⟨H16, I16, q16⟩ => ?_
            have fin1 : ∀ {s' : Shared} {H' : Hp}, Inv (X.blk s3 H3 scope ce fp) (([] ++ pinsAt fp s7.heap) ++ pinsAt fp1 s14.heap) σ15 H' s' → Nx1 H' → ∃ m, m < k ∧ ∃ j H', Inv (X.blk s3 H3 scope ce fp) ([] ++ pinsAt fp s7.heap) (wipe σ8 vs1) H' s' ∧ tn1 j s'.heap ∧ (∀ b ∈ fp1, H' b = none) ∧ W1 j m H' := fun {s' H'} I' nx => by
              obtain ⟨m', hm, w'⟩ := hNx1 H' nx
              have pin' : ∀ b ∈ fp1, ∀ o, s14.heap.get? b = some o → s'.heap.get? b = some o ∧ H' b = none := fun b hb o e =>
                let z := I'.pin (b, o) (List.mem_append_right _ (List.mem_append_right _ (mem_pinsAt hb e)))
                ⟨z.1, z.2.1⟩
              refine ⟨m', hm, j + 1, H', I'.unpinned.weak (by rw [← hw15, wipe_length]) (fun j v e => by rw [← hw15] at e; exact (wipe_some e).1), T1.keep _ _ _ st14 fun b hb o e => (pin' b hb o e).1, fun b hb => ?_, w'⟩
              obtain ⟨o, e, _⟩ := T1.obj _ _ st14 b hb
              exact (pin' b hb o e).2
            cases b1 with
            | false =>
              simp only [Bool.false_eq_true, if_false] at q16 ⊢
              exact fin1 I16 q16
            | true =>
              simp only [if_true] at q16 ⊢
              refine thnF (pe.run _ s16 σ15 H16 _ I16 q16) fun z s17 ⟨yv, H17, I17, r17, cb, S0, n0, ey, hD17, hz17, nx⟩ => ?_
              subst ey
              obtain ⟨zt, rfl⟩ := r17
              exact addS_ok (X := X.blk s3 H3 scope ce fp) I17 hD17 hz17 fun s18 m' hm' I18 => fin1 I18 (nx m' hm')
        exact compStartS1_ok loop1 (T1.self X.A 0 _ _ _ st11 loop1)
  exact PpSet.codeAny_compStart_set loop (T.self X.A 0 _ _ _ st4 loop)
theorem pe_scS2 {elt tg iter tg1 iter1 : Expr} {ifs ifs1 : List Expr} {scope : Scope} {own : List (Str × Nat)} {vs1 : List Nat} {pos : Pos} {wi wi1 : TI} {g g1 : TG} {tt tt1 : TT} {te : TE} (hc : X.calm = true) (hN : X.N.Nodup) (hi : PI X tg iter wi) (ok : BlkOk X.N X.env.scope scope own) (hv : ∀ i ∈ vs1, i ∈ own.map (·.2))
    (hg : ∀ (s : Shared) (H : Hp) (C : Addr) (cl : List (Str × Addr)) (fp : List Addr), PG (X.blk s H scope (compEnvC scope cl C X.env) fp) tg g) (ht : ∀ (s : Shared) (H : Hp) (C : Addr) (cl : List (Str × Addr)) (fp : List Addr), PTs (X.blk s H scope (compEnvC scope cl C X.env) fp) ifs tt)
    (hi1 : ∀ (s : Shared) (H : Hp) (C : Addr) (cl : List (Str × Addr)) (fp : List Addr), PI (X.blk s H scope (compEnvC scope cl C X.env) fp) tg1 iter1 wi1)
    (hg1 : ∀ (s : Shared) (H : Hp) (C : Addr) (cl : List (Str × Addr)) (fp : List Addr), PG (X.blk s H scope (compEnvC scope cl C X.env) fp) tg1 g1) (ht1 : ∀ (s : Shared) (H : Hp) (C : Addr) (cl : List (Str × Addr)) (fp : List Addr), PTs (X.blk s H scope (compEnvC scope cl C X.env) fp) ifs1 tt1)
    (he : ∀ (s : Shared) (H : Hp) (C : Addr) (cl : List (Str × Addr)) (fp : List Addr), PE (X.blk s H scope (compEnvC scope cl C X.env) fp) elt te) (hs : ∀ x, foldedSetIterable iter X.env x = pure x := by intro _; rfl) (hs1 : ∀ env x, foldedSetIterable iter1 env x = pure x := by intro _ _; rfl) :
    PE X (.SetComp elt [⟨tg, iter, ifs, 0⟩, ⟨tg1, iter1, ifs1, 0⟩] scope pos) (tScS2 X.prog X.w wi g tt wi1 g1 tt1 te (own.map (·.2)) vs1) := by
  refine ⟨fun pins s σ H Q I h => ?_⟩
  rw [PpSet.eval_SetComp]
  refine scS2_core hc hN I hi ok hv hg ht he hs hi1 hg1 ht1 hs1 h fun D C s' m H' I' q hn f => ⟨m, hn, fun h'' sb => ?_⟩
  obtain ⟨f0, f1, f2, f3, f4, f5⟩ := f
  exact ⟨.ref D, H', I'.turned (t' := s'.toks) (fun b o hb e => (sb.2 b hb).trans e) f0 f1 f3 f4 f5, rfl, q⟩
end
end EA
namespace EA
open PySem PySem.Spec PyProof.Rows L2
/-! ### comprehensions with two fors; sets of texts -/
def cLoop2 (ok : List MO → Bool) (g : FG) (t : FT) (it1 : FI) (g1 : FG) (t1 : FT) (e : FE) (vs1 : List Nat) (sl : Sl) : List W3 → List MO → Option (List PyData × List MO)
  | [], S => if ok S = true then some ([], S) else none
  | w :: ws, S => if ok S = true then (g w sl S).bind fun p => (t p.1 p.2).bind fun b => if b.1 = true then (it1 p.1 b.2).bind fun q => (cLoop q.1.ok g1 t1 e (wipe3 p.1 vs1) q.1.ws q.2).bind fun y => (cLoop2 ok g t it1 g1 t1 e vs1 sl ws y.2).map fun z => (y.1 ++ z.1, z.2)
      else cLoop2 ok g t it1 g1 t1 e vs1 sl ws b.2
    else none
theorem cLoop2_ok {ok : List MO → Bool} {g : FG} {t : FT} {it1 : FI} {g1 : FG} {t1 : FT} {e : FE} {vs1 : List Nat} {sl : Sl} {ws : List W3} {S : List MO} {o : List PyData × List MO} (h : cLoop2 ok g t it1 g1 t1 e vs1 sl ws S = some o) : ok S = true := by
  cases ws with
  | nil =>
    by_cases z : ok S = true
    · exact z
    · rw [cLoop2, if_neg z] at h; cases h
  | cons w ws =>
    by_cases z : ok S = true
    · exact z
    · rw [cLoop2, if_neg z] at h; cases h
/-- vs: the slots of all the block's names, vs1: of the second target -/
def nLc2 (vs vs1 : List Nat) (it : FI) (g : FG) (t : FT) (it1 : FI) (g1 : FG) (t1 : FT) (e : FE) : FN := fun sl S => (it sl S).bind fun p => (cLoop2 p.1.ok g t it1 g1 t1 e vs1 (wipe3 sl vs) p.1.ws p.2).bind fun r => if r.1.length ≤ 100000 then some r else none
/-- sorted(a set of texts) -/
def nSc (vs : List Nat) (it : FI) (g : FG) (t : FT) (e : FE) : FN := fun sl S => (it sl S).bind fun p => (cLoop p.1.ok g t e (wipe3 sl vs) p.1.ws p.2).bind fun r => if r.1.length ≤ 2000 then (strsOf r.1).map fun ks => ((sset ltS ks).map .str, r.2) else none
def nSc2 (vs vs1 : List Nat) (it : FI) (g : FG) (t : FT) (it1 : FI) (g1 : FG) (t1 : FT) (e : FE) : FN := fun sl S => (it sl S).bind fun p => (cLoop2 p.1.ok g t it1 g1 t1 e vs1 (wipe3 sl vs) p.1.ws p.2).bind fun r => if r.1.length ≤ 2000 then (strsOf r.1).map fun ks => ((sset ltS ks).map .str, r.2) else none
/-- what gathers the values: Acc where it stands, add one more -/
structure Gath (K : PySem.W.Frag) (D : Addr) (L : Nat) (okx : PyData → Prop) (add : V → Hp → (Hp → Prop) → Prop) (Acc : Wd → List PyData → Prop) : Prop where
  keep : ∀ {C E : Wd} {ds : List PyData}, Nx C E → D ∉ C.ι → C.G D = none → Acc C ds → Acc E ds
  has : ∀ {C : Wd} {ds : List PyData}, Acc C ds → C.H D ≠ none
  add : ∀ {C : Wd} {ds : List PyData} {u : V} {x : PyData} {N : Hp → Prop}, C.G D = none → Acc C ds → Da K C.G u x → ds.length < L → okx x → (∀ o', Acc ⟨C.G, upd C.H D o', C.ι⟩ (ds ++ [x]) → N (upd C.H D o')) → add u C.H N
section
variable {K : PySem.W.Frag} {D : Addr} {L : Nat} {okx : PyData → Prop} {add : V → Hp → (Hp → Prop) → Prop} {Acc : Wd → List PyData → Prop}
theorem SR3.monov {A B : Wd} {σ : L2.St} {sl : Sl} (n : Nv A B) (h : SR3 K A σ sl) : SR3 K B σ sl := ⟨h.len, fun i w e => by
  obtain ⟨v, h1, h2⟩ := h.at_ i w e
  exact ⟨v, h1, h2.monov n⟩⟩
theorem Nv.trans {A B C : Wd} (a : Nv A B) (b : Nv B C) : Nv A C := ⟨a.gg.trans b.gg, a.pre.trans b.pre⟩
theorem Nx.atD {B C : Wd} {o : HO} (n : Nx B C) (nB : B.H D = none) : Nx B ⟨C.G, upd C.H D o, C.ι⟩ :=
  ⟨n.gg, fun b o' hb hh => by
    show upd C.H D _ b = _
    rw [upd_ne (fun z => by rw [z, nB] at hh; cases hh)]; exact n.hh b o' hb hh, n.nw, fun b hb z => n.dm b hb (upd_none z), n.pre, n.fr⟩
theorem Rl.atD {C : Wd} {S : List MO} {o : HO} (R : Rl K C S) (g : C.G D = none) (ni : D ∉ C.ι) : Rl K ⟨C.G, upd C.H D o, C.ι⟩ S := by
  refine ⟨fun b o hb => ?_, R.nd, R.len, fun i o a e1 e2 => (R.ob i o a e1 e2).keep (Same.refl _) (fun g => g) fun u hu => ?_⟩
  · show upd C.H D _ b = _
    rw [upd_ne (ne_of_none hb g)]; exact R.gh b o hb
  · show upd C.H D _ a = _
    rw [upd_ne (fun z => ni (by rw [← z]; exact List.mem_of_getElem? e2))]; exact hu
/-- a loop that gathers -/
theorem loop1 {J : It} {j : It3} {B B0 C0 : Wd} {g : FG} {t : FT} {f : FE} {ws vs : List Nat} {σ : L2.St} {slw : Sl} {S1 S' : List MO} {ys ds0 : List PyData} {Qd : Hp → Prop} (GA : Gath K D L okx add Acc) (IR : ItR K B J j) (hw : ∀ k ∈ ws, k ∈ vs) (s : SR3 K B (wipe σ vs) slw) (nv : Nv B C0) (n0 : Nx B0 C0) (hB0 : B0.H D = none) (R0 : Rl K C0 S1) (g0 : C0.G D = none) (ni0 : D ∉ C0.ι) (a0 : Acc C0 ds0)
    (e : cLoop j.ok g t f slw j.ws S1 = some (ys, S')) (lim : ds0.length + ys.length ≤ L) (okys : ∀ x ∈ ys, okx x)
    (q : ∀ C, Nx B0 C → Rl K C S' → C.G D = none → D ∉ C.ι → Acc C (ds0 ++ ys) → Qd C.H) :
    ∃ W : Nat → Nat → Hp → Prop, (∃ m, W 0 m C0.H) ∧ ∀ i m H, W i m H → (J.stop i H ∧ Qd H) ∨ (J.go i H ∧ ∃ N : Hp → Prop, (∀ H', N H' → ∃ m', m' < m ∧ W (i + 1) m' H') ∧
      ∀ x H', J.yld i H x H' → tgO K ws g x (wipe σ vs) H' fun σ2 H2 => wipe σ2 vs = wipe σ vs ∧ ttO K t σ2 H2 fun b H3 => if b = true then teO K f σ2 H3 fun y H4 => add y H4 N else N H3) := by
  refine ⟨fun i m H => m = j.ws.length - i ∧ i ≤ j.ws.length ∧ ∃ (C : Wd) (S : List MO) (ds rest : List PyData), C.H = H ∧ Nx B0 C ∧ Nv B C ∧ Rl K C S ∧ C.G D = none ∧ D ∉ C.ι ∧ Acc C ds ∧
      cLoop j.ok g t f slw (j.ws.drop i) S = some (rest, S') ∧ ds ++ rest = ds0 ++ ys ∧ ∀ x ∈ rest, okx x,
    ⟨_, rfl, Nat.zero_le _, C0, S1, ds0, ys, rfl, n0, nv, R0, g0, ni0, a0, by rw [List.drop_zero]; exact e, rfl, okys⟩, ?_⟩
  rintro i m H1 ⟨rfl, hi, C, S2, ds, rest, rfl, n2, nv2, R2, gC, niC, hC, e3, ey, okr⟩
  have hok := cLoop_ok e3
  have ir := IR C S2 nv2 R2 hok i
  by_cases hlt : i < j.ws.length
  · have hwi : j.ws[i]? = some j.ws[i] := List.getElem?_eq_getElem hlt
    obtain ⟨go, step⟩ := ir.1 _ hwi
    have hdr : j.ws.drop i = j.ws[i] :: j.ws.drop (i + 1) := List.drop_eq_getElem_cons hlt
    rw [hdr, cLoop, if_pos hok] at e3
    obtain ⟨⟨sl3, S3⟩, e4, e5⟩ := Option.bind_eq_some_iff.mp e3
    obtain ⟨⟨b3, S4⟩, e6, e7⟩ := Option.bind_eq_some_iff.mp e5
    refine .inr ⟨go, fun H' => i + 1 ≤ j.ws.length ∧ ∃ (C : Wd) (S : List MO) (ds rest : List PyData), C.H = H' ∧ Nx B0 C ∧ Nv B C ∧ Rl K C S ∧ C.G D = none ∧ D ∉ C.ι ∧ Acc C ds ∧
      cLoop j.ok g t f slw (j.ws.drop (i + 1)) S = some (rest, S') ∧ ds ++ rest = ds0 ++ ys ∧ ∀ x ∈ rest, okx x, fun H' w => ⟨j.ws.length - (i + 1), by omega, rfl, w⟩, fun v H' y => ?_⟩
    obtain ⟨C', rfl, n3, R3, r3⟩ := step v H' y
    have keep : ∀ {E : Wd}, Nx C E → E.G D = none ∧ D ∉ E.ι ∧ Acc E ds := fun {E} nE =>
      ⟨nE.nw D niC gC (GA.has hC), fun z => (nE.fr D z).elim niC (fun k => GA.has hC k), GA.keep nE niC gC hC⟩
    refine ⟨C', S2, slw, j.ws[i], sl3, S3, rfl, R3, s.monov (nv2.trans n3.toV), r3, e4, fun E σ' n4 R4 s4 k4 => ⟨?_, ?_⟩⟩
    · exact wipe_same (by rw [k4.1, wipe_length]) k4.2 hw
    · refine ⟨E, S3, sl3, b3, S4, rfl, R4, s4, e6, fun F n5 R5 => ?_⟩
      have nF : Nx C F := (n3.trans n4).trans n5
      cases b3 with
      | false =>
        obtain ⟨g1, g2, g3⟩ := keep nF
        exact ⟨hlt, F, S4, ds, rest, rfl, n2.trans nF, nv2.trans nF.toV, R5, g1, g2, g3, e7, ey, okr⟩
      | true =>
        obtain ⟨⟨y1, S5⟩, e8, e9⟩ := Option.bind_eq_some_iff.mp e7
        refine ⟨F, S4, sl3, y1, S5, rfl, R5, s4.mono n5, e8, fun L' u n6 R6 r6 => ?_⟩
        cases y1 with
        | r _ => cases e9
        | sc _ => cases e9
        | ty _ => cases e9
        | d x =>
          obtain ⟨⟨r2, S6⟩, e10, e11⟩ := Option.map_eq_some_iff.mp e9
          cases e11
          obtain ⟨g1, g2, g3⟩ := keep (nF.trans n6)
          have nL : Nx B0 L' := n2.trans (nF.trans n6)
          have hlen : ds.length < L := by
            have := congrArg List.length ey
            rw [List.length_append, List.length_append, List.length_cons] at this
            omega
          refine GA.add g1 g3 r6 hlen (okr x List.mem_cons_self) fun o' a' => ⟨hlt, ⟨L'.G, upd L'.H D o', L'.ι⟩, S5, ds ++ [x], r2, rfl, nL.atD hB0, ?_, R6.atD g1 g2, g1, g2, a', e10, ?_, fun z hz => okr z (List.mem_cons_of_mem _ hz)⟩
          · exact nv2.trans ⟨(nF.trans n6).gg, (nF.trans n6).pre⟩
          · rw [List.append_assoc]; exact ey
  · have hz2 : i = j.ws.length := by omega
    subst hz2
    rw [List.drop_length, cLoop, if_pos hok] at e3
    cases e3
    rw [List.append_nil] at ey
    subst ey
    exact .inl ⟨ir.2 (Nat.le_refl _), q C n2 R2 gC niC hC⟩
/-- two loops that gather -/
theorem loop2 {J : It} {j : It3} {B C0 : Wd} {g g1 : FG} {t t1 : FT} {it1 : FI} {f : FE} {ws vs ws1 vs1 : List Nat} {σ : L2.St} {slw : Sl} {S1 S' : List MO} {ys ds0 : List PyData} {Qd : Hp → Prop} (GA : Gath K D L okx add Acc) (IR : ItR K B J j) (hw : ∀ k ∈ ws, k ∈ vs) (hw1 : ∀ k ∈ ws1, k ∈ vs1) (s : SR3 K B (wipe σ vs) slw) (n0 : Nx B C0) (hB0 : B.H D = none) (R0 : Rl K C0 S1) (g0 : C0.G D = none) (ni0 : D ∉ C0.ι) (a0 : Acc C0 ds0)
    (e : cLoop2 j.ok g t it1 g1 t1 f vs1 slw j.ws S1 = some (ys, S')) (lim : ds0.length + ys.length ≤ L) (okys : ∀ x ∈ ys, okx x)
    (q : ∀ C, Nx B C → Rl K C S' → C.G D = none → D ∉ C.ι → Acc C (ds0 ++ ys) → Qd C.H) :
    ∃ W : Nat → Nat → Hp → Prop, (∃ m, W 0 m C0.H) ∧ ∀ i m H, W i m H → (J.stop i H ∧ Qd H) ∨ (J.go i H ∧ ∃ N : Hp → Prop, (∀ H', N H' → ∃ m', m' < m ∧ W (i + 1) m' H') ∧
      ∀ x H', J.yld i H x H' → tgO K ws g x (wipe σ vs) H' fun σ2 H2 => wipe σ2 vs = wipe σ vs ∧ ttO K t σ2 H2 fun b H3 => if b = true then tiO K it1 σ2 H3 fun J1 H4 => ∃ W1 : Nat → Nat → Hp → Prop, (∃ m, W1 0 m H4) ∧ ∀ j k H, W1 j k H →
      (J1.stop j H ∧ N H) ∨ (J1.go j H ∧ ∃ N1 : Hp → Prop, (∀ H', N1 H' → ∃ k', k' < k ∧ W1 (j + 1) k' H') ∧ ∀ x H', J1.yld j H x H' → tgO K ws1 g1 x (wipe σ2 vs1) H' fun σ3 H5 => wipe σ3 vs1 = wipe σ2 vs1 ∧ ttO K t1 σ3 H5 fun b H6 =>
        if b = true then teO K f σ3 H6 fun y H7 => add y H7 N1 else N1 H6) else N H3) := by
  refine ⟨fun i m H => m = j.ws.length - i ∧ i ≤ j.ws.length ∧ ∃ (C : Wd) (S : List MO) (ds rest : List PyData), C.H = H ∧ Nx B C ∧ Rl K C S ∧ C.G D = none ∧ D ∉ C.ι ∧ Acc C ds ∧
      cLoop2 j.ok g t it1 g1 t1 f vs1 slw (j.ws.drop i) S = some (rest, S') ∧ ds ++ rest = ds0 ++ ys ∧ ∀ x ∈ rest, okx x,
    ⟨_, rfl, Nat.zero_le _, C0, S1, ds0, ys, rfl, n0, R0, g0, ni0, a0, by rw [List.drop_zero]; exact e, rfl, okys⟩, ?_⟩
  rintro i m H1 ⟨rfl, hi, C, S2, ds, rest, rfl, n2, R2, gC, niC, hC, e3, ey, okr⟩
  have hok := cLoop2_ok e3
  have ir := IR C S2 n2.toV R2 hok i
  by_cases hlt : i < j.ws.length
  · have hwi : j.ws[i]? = some j.ws[i] := List.getElem?_eq_getElem hlt
    obtain ⟨go, step⟩ := ir.1 _ hwi
    have hdr : j.ws.drop i = j.ws[i] :: j.ws.drop (i + 1) := List.drop_eq_getElem_cons hlt
    rw [hdr, cLoop2, if_pos hok] at e3
    obtain ⟨⟨sl3, S3⟩, e4, e5⟩ := Option.bind_eq_some_iff.mp e3
    obtain ⟨⟨b3, S4⟩, e6, e7⟩ := Option.bind_eq_some_iff.mp e5
    refine .inr ⟨go, fun H' => i + 1 ≤ j.ws.length ∧ ∃ (C : Wd) (S : List MO) (ds rest : List PyData), C.H = H' ∧ Nx B C ∧ Rl K C S ∧ C.G D = none ∧ D ∉ C.ι ∧ Acc C ds ∧
      cLoop2 j.ok g t it1 g1 t1 f vs1 slw (j.ws.drop (i + 1)) S = some (rest, S') ∧ ds ++ rest = ds0 ++ ys ∧ ∀ x ∈ rest, okx x, fun H' w => ⟨j.ws.length - (i + 1), by omega, rfl, w⟩, fun v H' y => ?_⟩
    obtain ⟨C', rfl, n3, R3, r3⟩ := step v H' y
    have keep : ∀ {E : Wd}, Nx C E → E.G D = none ∧ D ∉ E.ι ∧ Acc E ds := fun {E} nE =>
      ⟨nE.nw D niC gC (GA.has hC), fun z => (nE.fr D z).elim niC (fun k => GA.has hC k), GA.keep nE niC gC hC⟩
    refine ⟨C', S2, slw, j.ws[i], sl3, S3, rfl, R3, s.mono (n2.trans n3), r3, e4, fun E σ' n4 R4 s4 k4 => ⟨?_, ?_⟩⟩
    · exact wipe_same (by rw [k4.1, wipe_length]) k4.2 hw
    · refine ⟨E, S3, sl3, b3, S4, rfl, R4, s4, e6, fun F n5 R5 => ?_⟩
      have nF : Nx C F := (n3.trans n4).trans n5
      cases b3 with
      | false =>
        obtain ⟨g1, g2, g3⟩ := keep nF
        exact ⟨hlt, F, S4, ds, rest, rfl, n2.trans nF, R5, g1, g2, g3, e7, ey, okr⟩
      | true =>
        obtain ⟨⟨j1, S5⟩, e8, e9⟩ := Option.bind_eq_some_iff.mp e7
        obtain ⟨⟨y1, S6⟩, e10, e11⟩ := Option.bind_eq_some_iff.mp e9
        obtain ⟨⟨r2, S7⟩, e12, e13⟩ := Option.map_eq_some_iff.mp e11
        cases e13
        refine ⟨F, S4, sl3, j1, S5, rfl, R5, s4.mono n5, e8, fun B1 J1 n6 R6 IR1 => ?_⟩
        obtain ⟨g1, g2, g3⟩ := keep (nF.trans n6)
        have s6 : SR3 K B1 (wipe σ' vs1) (wipe3 sl3 vs1) := (s4.mono (n5.trans n6)).weak vs1
        refine loop1 GA IR1 hw1 s6 ⟨Same.refl _, List.prefix_rfl⟩ (n2.trans (nF.trans n6)) hB0 R6 g1 g2 g3 e10 ?_ (fun x hx => okr x (List.mem_append_left _ hx)) fun C7 n7 R7 g7 ni7 a7 => ⟨hlt, C7, S6, ds ++ y1, r2, rfl, n7, R7, g7, ni7, a7, e12, ?_, fun z hz => okr z (List.mem_append_right _ hz)⟩
        · have := congrArg List.length ey
          simp only [List.length_append] at this
          omega
        · rw [List.append_assoc]; exact ey
  · have hz2 : i = j.ws.length := by omega
    subst hz2
    rw [List.drop_length, cLoop2, if_pos hok] at e3
    cases e3
    rw [List.append_nil] at ey
    subst ey
    exact .inl ⟨ir.2 (Nat.le_refl _), q C n2 R2 gC niC hC⟩
end
end EA
namespace EA
open PySem PySem.Spec PyProof.Rows L2
/-! ### the rules: lists with two fors, sorted sets of texts -/
def addL (D : Addr) : V → Hp → (Hp → Prop) → Prop := fun y H N => ∃ acc, H D = some (.lst acc) ∧ acc.length < sizeLine ∧ N (upd H D (.lst (acc ++ [y])))
def addS (P : Program) (w : World) (D : Addr) : V → Hp → (Hp → Prop) → Prop := fun y H N => ∃ (c : Str) (S : Str → Bool) (n : Nat), y = .str c ∧ H D = some (SetGO (PySem.strKind P w) D S n) ∧ n + 1 < scanBound ∧ ∀ m', m' ≤ n + 1 → N (upd H D (SetGO (PySem.strKind P w) D (fun j => S j || decide (j = c)) m'))
theorem gathL {K : PySem.W.Frag} {D : Addr} : Gath K D 100000 (fun _ => True) (addL D) (fun C ds => ∃ acc, C.H D = some (.lst acc) ∧ DaA K C.G acc ds) where
  keep := fun n ni g ⟨acc, h1, h2⟩ => ⟨acc, n.hh D _ ni h1, h2.up n.gg⟩
  has := fun ⟨acc, h1, h2⟩ z => by rw [z] at h1; cases h1
  add := fun g ⟨acc, h1, h2⟩ hu hl _ q => ⟨acc, h1, Nat.lt_of_le_of_lt (Nat.le_of_lt (by rw [h2.len]; exact hl)) (by decide), q _ ⟨acc ++ [_], upd_same, h2.app (.cons hu .nil)⟩⟩
theorem gathS {K : PySem.W.Frag} {P : Program} {w : World} {D : Addr} : Gath K D 2000 (fun x => ∃ k : Str, x = .str k) (addS P w D) (fun C ds => ∃ (ks : List Str) (n : Nat), ds = ks.map .str ∧ n ≤ ks.length ∧ C.H D = some (SetGO (PySem.strKind P w) D (fun k => decide (k ∈ ks)) n)) where
  keep := fun n ni g ⟨ks, m, h1, h2, h3⟩ => ⟨ks, m, h1, h2, n.hh D _ ni h3⟩
  has := fun ⟨ks, m, h1, h2, h3⟩ z => by rw [z] at h3; cases h3
  add := fun g ⟨ks, m, h1, h2, h3⟩ hu hl ⟨k, ek⟩ q => by
    subst ek h1
    cases hu
    rw [List.length_map] at hl
    refine ⟨k, _, m, rfl, h3, scan_small (by omega), fun m' hm => q _ ⟨ks ++ [k], m', by rw [List.map_append]; rfl, by rw [List.length_append]; show m' ≤ ks.length + 1; omega, ?_⟩⟩
    have e : (fun j => decide (j ∈ ks) || decide (j = k)) = fun j => decide (j ∈ ks ++ [k]) := funext fun j => by simp
    rw [e]; exact upd_same
section
variable {K : PySem.W.Frag} {X : Cx} {pos : Pos} {P : Program} {w : World}
theorem strs_all {ys : List PyData} {ks : List Str} (h : strsOf ys = some ks) : ∀ x ∈ ys, ∃ k : Str, x = .str k := by
  rw [strsOf_eq h]
  intro x hx
  obtain ⟨k, _, rfl⟩ := List.mem_map.mp hx
  exact ⟨k, rfl⟩
theorem lc2_go {it it1 : FI} {g g1 : FG} {t t1 : FT} {f : FE} {vs ws vs1 ws1 : List Nat} (hw : ∀ j ∈ ws, j ∈ vs) (hw1 : ∀ j ∈ ws1, j ∈ vs1) {σ : L2.St} {H : Hp} {Q : VK} (h : tnO K (nLc2 vs vs1 it g t it1 g1 t1 f) σ H Q) : tLc2 (tiO K it) (tgO K ws g) (ttO K t) (tiO K it1) (tgO K ws1 g1) (ttO K t1) (teO K f) vs vs1 σ H Q := by
  obtain ⟨A, S, sl, ys, S', rfl, R, s, e, q⟩ := h
  obtain ⟨⟨j, S1⟩, e1, e2⟩ := Option.bind_eq_some_iff.mp e
  obtain ⟨⟨y0, S0⟩, e3, e4⟩ := Option.bind_eq_some_iff.mp e2
  have hl : y0.length ≤ 100000 := by
    by_cases hl : y0.length ≤ 100000
    · exact hl
    · rw [if_neg hl] at e4; cases e4
  rw [if_pos hl] at e4
  cases e4
  refine ⟨A, S, sl, j, S1, rfl, R, s, e1, fun B J n R' IR D hD => ?_⟩
  have gD : B.G D = none := R'.gh.free hD
  have niD : D ∉ B.ι := R'.new hD
  have aD : A.H D = none := by
    cases z : A.H D with
    | none => rfl
    | some u => exact absurd hD (n.dm D (by rw [z]; exact fun k => nomatch k))
  obtain ⟨nj, Rj⟩ := Nx.junk (o := .lst []) R' hD
  exact loop2 (ds0 := []) (gathL (K := K) (D := D)) IR hw hw1 ((s.mono n).weak vs) nj hD Rj gD niD ⟨[], upd_same, .nil⟩ e3 (by rw [List.length_nil, Nat.zero_add]; exact hl) (fun _ _ => trivial)
    fun C n7 R7 g7 ni7 ⟨acc, h7, d7⟩ => q C acc D (n.trans n7) R7 aD ni7 g7 h7 d7
theorem n_lc2 {elt tg iter tg1 iter1 : Expr} {ifs ifs1 : List Expr} {scope : Scope} {own : List (Str × Nat)} {vs ws vs1 ws1 : List Nat} {it it1 : FI} {g g1 : FG} {t t1 : FT} {f : FE} (hc : X.calm = true) (hN : X.N.Nodup) (hi : PI3 K X tg iter it) (ok : BlkOk X.N X.env.scope scope own) (hv : own.map (·.2) = vs) (hw : ∀ j ∈ ws, j ∈ vs) (hv1 : ∀ j ∈ vs1, j ∈ vs) (hw1 : ∀ j ∈ ws1, j ∈ vs1)
    (hg : ∀ (s : Shared) (H : Hp) (C : Addr) (cl : List (Str × Addr)) (fp : List Addr), PG3 K (X.blk s H scope (compEnvC scope cl C X.env) fp) tg ws g) (ht : ∀ (s : Shared) (H : Hp) (C : Addr) (cl : List (Str × Addr)) (fp : List Addr), PTs3 K (X.blk s H scope (compEnvC scope cl C X.env) fp) ifs t)
    (hi1 : ∀ (s : Shared) (H : Hp) (C : Addr) (cl : List (Str × Addr)) (fp : List Addr), PI3 K (X.blk s H scope (compEnvC scope cl C X.env) fp) tg1 iter1 it1)
    (hg1 : ∀ (s : Shared) (H : Hp) (C : Addr) (cl : List (Str × Addr)) (fp : List Addr), PG3 K (X.blk s H scope (compEnvC scope cl C X.env) fp) tg1 ws1 g1) (ht1 : ∀ (s : Shared) (H : Hp) (C : Addr) (cl : List (Str × Addr)) (fp : List Addr), PTs3 K (X.blk s H scope (compEnvC scope cl C X.env) fp) ifs1 t1)
    (he : ∀ (s : Shared) (H : Hp) (C : Addr) (cl : List (Str × Addr)) (fp : List Addr), PE3 K (X.blk s H scope (compEnvC scope cl C X.env) fp) elt f) (hs : ∀ x, foldedSetIterable iter X.env x = pure x := by intro _; rfl) (hs1 : ∀ env x, foldedSetIterable iter1 env x = pure x := by intro _ _; rfl) :
    PN3 K X (.ListComp elt [⟨tg, iter, ifs, 0⟩, ⟨tg1, iter1, ifs1, 0⟩] scope pos) (nLc2 vs vs1 it g t it1 g1 t1 f) :=
  ⟨pe_imp (pe_lc2 (vs1 := vs1) hc hN hi.p ok (by rw [hv]; exact hv1) (fun s H C cl fp => (hg s H C cl fp).p) (fun s H C cl fp => (ht s H C cl fp).p) (fun s H C cl fp => (hi1 s H C cl fp).p) (fun s H C cl fp => (hg1 s H C cl fp).p) (fun s H C cl fp => (ht1 s H C cl fp).p) (fun s H C cl fp => (he s H C cl fp).p) hs hs1) fun _ _ _ h => by rw [hv]; exact lc2_go hw hw1 h⟩
theorem s_setLc2 {i : Nat} {y : Str} {py spos : Pos} {elt tg iter tg1 iter1 : Expr} {ifs ifs1 : List Expr} {scope : Scope} {own : List (Str × Nat)} {vs ws vs1 ws1 : List Nat} {it it1 : FI} {g g1 : FG} {t t1 : FT} {f : FE} (w : FN → FE) (hwrap : w = eNd ∨ w = eNo) (hc : X.calm = true) (hN : X.N.Nodup) (hy : X.N[i]? = some y) (hyl : X.env.scope.names.lookup y = some .local)
    (hsw : swapsWith (.ListComp elt [⟨tg, iter, ifs, 0⟩, ⟨tg1, iter1, ifs1, 0⟩] scope pos) (some (.Name y py)) spos.line X.env = pure true) (hi : PI3 K X tg iter it) (ok : BlkOk X.N X.env.scope scope own) (hv : own.map (·.2) = vs) (hw : ∀ j ∈ ws, j ∈ vs) (hv1 : ∀ j ∈ vs1, j ∈ vs) (hw1 : ∀ j ∈ ws1, j ∈ vs1)
    (hg : ∀ (s : Shared) (H : Hp) (C : Addr) (cl : List (Str × Addr)) (fp : List Addr), PG3 K (X.blk s H scope (compEnvC scope cl C X.env) fp) tg ws g) (ht : ∀ (s : Shared) (H : Hp) (C : Addr) (cl : List (Str × Addr)) (fp : List Addr), PTs3 K (X.blk s H scope (compEnvC scope cl C X.env) fp) ifs t)
    (hi1 : ∀ (s : Shared) (H : Hp) (C : Addr) (cl : List (Str × Addr)) (fp : List Addr), PI3 K (X.blk s H scope (compEnvC scope cl C X.env) fp) tg1 iter1 it1)
    (hg1 : ∀ (s : Shared) (H : Hp) (C : Addr) (cl : List (Str × Addr)) (fp : List Addr), PG3 K (X.blk s H scope (compEnvC scope cl C X.env) fp) tg1 ws1 g1) (ht1 : ∀ (s : Shared) (H : Hp) (C : Addr) (cl : List (Str × Addr)) (fp : List Addr), PTs3 K (X.blk s H scope (compEnvC scope cl C X.env) fp) ifs1 t1)
    (he : ∀ (s : Shared) (H : Hp) (C : Addr) (cl : List (Str × Addr)) (fp : List Addr), PE3 K (X.blk s H scope (compEnvC scope cl C X.env) fp) elt f) (hs : ∀ x, foldedSetIterable iter X.env x = pure x := by intro _; rfl) (hs1 : ∀ env x, foldedSetIterable iter1 env x = pure x := by intro _ _; rfl) :
    PS3 K X (.Assign [.Name y py] (.ListComp elt [⟨tg, iter, ifs, 0⟩, ⟨tg1, iter1, ifs1, 0⟩] scope pos) spos) (sSet i (w (nLc2 vs vs1 it g t it1 g1 t1 f))) :=
  ⟨ps_imp (ps_setLc2 (vs1 := vs1) hc hN hy hyl hsw hi.p ok (by rw [hv]; exact hv1) (fun s H C cl fp => (hg s H C cl fp).p) (fun s H C cl fp => (ht s H C cl fp).p) (fun s H C cl fp => (hi1 s H C cl fp).p) (fun s H C cl fp => (hg1 s H C cl fp).p) (fun s H C cl fp => (ht1 s H C cl fp).p) (fun s H C cl fp => (he s H C cl fp).p) hs hs1) fun D σ H h => by
    rw [hv]
    have h1 := set_imp h
    have h2 : tnO K (nLc2 vs vs1 it g t it1 g1 t1 f) σ H fun x H1 => D.nx (σ.set i (some x)) H1 := by
      rcases hwrap with rfl | rfl
      · exact nd_imp h1
      · exact no_imp h1
    exact lc2_go hw hw1 h2⟩
/-- what is gathered, sorted -/
theorem ss_fin {A B : Wd} {S S' : List MO} {D : Addr} {ys : List PyData} {ks : List Str} {Q : VK} (hks : strsOf ys = some ks) (hl : ys.length ≤ 2000) (q : ∀ B vs p, Nx A B → Rl K B S' → A.H p = none → p ∉ B.ι → B.G p = none → B.H p = some (.lst vs) → DaA K B.G vs ((sset ltS ks).map .str) → Q (.ref p) B.H)
    (n : Nx A B) (R : Rl K B S') (a : ∃ (ks : List Str) (n : Nat), ys = ks.map .str ∧ n ≤ ks.length ∧ B.H D = some (SetGO (PySem.strKind P w) D (fun k => decide (k ∈ ks)) n)) : rSortedSetS P w [.ref D] B.H Q := by
  obtain ⟨ks', m, e1, hm, hD⟩ := a
  subst e1
  have : ks' = ks := by
    rw [strsOf_map] at hks
    exact Option.some.inj hks
  subst this
  rw [List.length_map] at hl
  refine ⟨D, _, m, rfl, hD, by omega, fun ss p2 st mem _ hp => ?_⟩
  have es : sset ltS ks' = ss := sset_of strictS (st.imp fun h => decide_eq_true h) fun x => (mem x).trans decide_eq_true_iff
  rw [es] at q
  exact new_of (A := B) R (DaA.strs ss) (fun C us p3 n3 R3 np ni g hh hd3 => q C us p3 (n.trans n3) R3 (fresh_back n np) ni g hh hd3) p2 hp
theorem sc_go {it : FI} {g : FG} {t : FT} {f : FE} {vs ws : List Nat} (hw : ∀ j ∈ ws, j ∈ vs) {σ : L2.St} {H : Hp} {Q : VK} (h : tnO K (nSc vs it g t f) σ H Q) : tScS P w (tiO K it) (tgO K ws g) (ttO K t) (teO K f) vs σ H fun x H1 => rSortedSetS P w [x] H1 Q := by
  obtain ⟨A, S, sl, zs, S', rfl, R, s, e, q⟩ := h
  obtain ⟨⟨j, S1⟩, e1, e2⟩ := Option.bind_eq_some_iff.mp e
  obtain ⟨⟨ys, S0⟩, e3, e4⟩ := Option.bind_eq_some_iff.mp e2
  have hl : ys.length ≤ 2000 := by
    by_cases hl : ys.length ≤ 2000
    · exact hl
    · rw [if_neg hl] at e4; cases e4
  rw [if_pos hl] at e4
  obtain ⟨ks, hks, e5⟩ := Option.map_eq_some_iff.mp e4
  cases e5
  refine ⟨A, S, sl, j, S1, rfl, R, s, e1, fun B J n R' IR D hD => ?_⟩
  have gD : B.G D = none := R'.gh.free hD
  have niD : D ∉ B.ι := R'.new hD
  obtain ⟨nj, Rj⟩ := Nx.junk (o := SetGO (PySem.strKind P w) D (fun _ => false) 0) R' hD
  refine loop1 (ds0 := []) (gathS (K := K) (P := P) (w := w) (D := D)) IR hw ((s.mono n).weak vs) nj.toV nj hD Rj gD niD ⟨[], 0, rfl, Nat.le_refl _, ?_⟩ e3 (by rw [List.length_nil, Nat.zero_add]; exact hl) (strs_all hks)
    fun C n7 R7 g7 ni7 a7 => ss_fin (S := S) hks hl q (n.trans n7) R7 a7
  have e : (fun k : Str => decide (k ∈ ([] : List Str))) = fun _ => false := funext fun k => by simp
  rw [e]; exact upd_same
theorem sc2_go {it it1 : FI} {g g1 : FG} {t t1 : FT} {f : FE} {vs ws vs1 ws1 : List Nat} (hw : ∀ j ∈ ws, j ∈ vs) (hw1 : ∀ j ∈ ws1, j ∈ vs1) {σ : L2.St} {H : Hp} {Q : VK} (h : tnO K (nSc2 vs vs1 it g t it1 g1 t1 f) σ H Q) : tScS2 P w (tiO K it) (tgO K ws g) (ttO K t) (tiO K it1) (tgO K ws1 g1) (ttO K t1) (teO K f) vs vs1 σ H fun x H1 => rSortedSetS P w [x] H1 Q := by
  obtain ⟨A, S, sl, zs, S', rfl, R, s, e, q⟩ := h
  obtain ⟨⟨j, S1⟩, e1, e2⟩ := Option.bind_eq_some_iff.mp e
  obtain ⟨⟨ys, S0⟩, e3, e4⟩ := Option.bind_eq_some_iff.mp e2
  have hl : ys.length ≤ 2000 := by
    by_cases hl : ys.length ≤ 2000
    · exact hl
    · rw [if_neg hl] at e4; cases e4
  rw [if_pos hl] at e4
  obtain ⟨ks, hks, e5⟩ := Option.map_eq_some_iff.mp e4
  cases e5
  refine ⟨A, S, sl, j, S1, rfl, R, s, e1, fun B J n R' IR D hD => ?_⟩
  have gD : B.G D = none := R'.gh.free hD
  have niD : D ∉ B.ι := R'.new hD
  obtain ⟨nj, Rj⟩ := Nx.junk (o := SetGO (PySem.strKind P w) D (fun _ => false) 0) R' hD
  refine loop2 (ds0 := []) (gathS (K := K) (P := P) (w := w) (D := D)) IR hw hw1 ((s.mono n).weak vs) nj hD Rj gD niD ⟨[], 0, rfl, Nat.le_refl _, ?_⟩ e3 (by rw [List.length_nil, Nat.zero_add]; exact hl) (strs_all hks)
    fun C n7 R7 g7 ni7 a7 => ss_fin (S := S) hks hl q (n.trans n7) R7 a7
  have e : (fun k : Str => decide (k ∈ ([] : List Str))) = fun _ => false := funext fun k => by simp
  rw [e]; exact upd_same
/-- sorted({e for ..}) -/
theorem n_sc {elt tg iter : Expr} {ifs : List Expr} {scope : Scope} {own : List (Str × Nat)} {vs ws : List Nat} {it : FI} {g : FG} {t : FT} {f : FE} {pp p2 : Pos} (hP : X.prog = P) (hw' : X.w = w) (hc : X.calm = true) (hu : X.A.units + 64 < cLine) (hgl : Gl X "sorted") (hm : X.mg "sorted" = none) (hN : X.N.Nodup) (hi : PI3 K X tg iter it) (ok : BlkOk X.N X.env.scope scope own) (hv : own.map (·.2) = vs) (hw : ∀ j ∈ ws, j ∈ vs)
    (hg : ∀ (s : Shared) (H : Hp) (C : Addr) (cl : List (Str × Addr)) (fp : List Addr), PG3 K (X.blk s H scope (compEnvC scope cl C X.env) fp) tg ws g) (ht : ∀ (s : Shared) (H : Hp) (C : Addr) (cl : List (Str × Addr)) (fp : List Addr), PTs3 K (X.blk s H scope (compEnvC scope cl C X.env) fp) ifs t)
    (he : ∀ (s : Shared) (H : Hp) (C : Addr) (cl : List (Str × Addr)) (fp : List Addr), PE3 K (X.blk s H scope (compEnvC scope cl C X.env) fp) elt f) (hs : ∀ x, foldedSetIterable iter X.env x = pure x := by intro _; rfl)
    (he2 : starEach [.SetComp elt [⟨tg, iter, ifs, 0⟩] scope p2] X.env = (false, eval (.SetComp elt [⟨tg, iter, ifs, 0⟩] scope p2) X.env) :: starEach [] X.env := by rfl) (hpl : (backTo pos (starEach [] X.env)).any (·.1) = false := by rfl) :
    PN3 K X (.Call (.Name "sorted" pp) [.SetComp elt [⟨tg, iter, ifs, 0⟩] scope p2] [] pos) (nSc vs it g t f) :=
  ⟨pe_imp (pe_callB (cr_sortedSetS hc hu) hgl hm (by decide +kernel) (pa_cons (pe_scS hc hN hi.p ok (fun s H C cl fp => (hg s H C cl fp).p) (fun s H C cl fp => (ht s H C cl fp).p) (fun s H C cl fp => (he s H C cl fp).p) hs) pa_nil he2) (he := he2) (hpl := hpl)) fun σ H Q h => by
    subst hP hw'
    rw [hv]
    exact sc_go hw h⟩
theorem n_sc2 {elt tg iter tg1 iter1 : Expr} {ifs ifs1 : List Expr} {scope : Scope} {own : List (Str × Nat)} {vs ws vs1 ws1 : List Nat} {it it1 : FI} {g g1 : FG} {t t1 : FT} {f : FE} {pp p2 : Pos} (hP : X.prog = P) (hw' : X.w = w) (hc : X.calm = true) (hu : X.A.units + 64 < cLine) (hgl : Gl X "sorted") (hm : X.mg "sorted" = none) (hN : X.N.Nodup) (hi : PI3 K X tg iter it) (ok : BlkOk X.N X.env.scope scope own) (hv : own.map (·.2) = vs) (hw : ∀ j ∈ ws, j ∈ vs) (hv1 : ∀ j ∈ vs1, j ∈ vs) (hw1 : ∀ j ∈ ws1, j ∈ vs1)
    (hg : ∀ (s : Shared) (H : Hp) (C : Addr) (cl : List (Str × Addr)) (fp : List Addr), PG3 K (X.blk s H scope (compEnvC scope cl C X.env) fp) tg ws g) (ht : ∀ (s : Shared) (H : Hp) (C : Addr) (cl : List (Str × Addr)) (fp : List Addr), PTs3 K (X.blk s H scope (compEnvC scope cl C X.env) fp) ifs t)
    (hi1 : ∀ (s : Shared) (H : Hp) (C : Addr) (cl : List (Str × Addr)) (fp : List Addr), PI3 K (X.blk s H scope (compEnvC scope cl C X.env) fp) tg1 iter1 it1)
    (hg1 : ∀ (s : Shared) (H : Hp) (C : Addr) (cl : List (Str × Addr)) (fp : List Addr), PG3 K (X.blk s H scope (compEnvC scope cl C X.env) fp) tg1 ws1 g1) (ht1 : ∀ (s : Shared) (H : Hp) (C : Addr) (cl : List (Str × Addr)) (fp : List Addr), PTs3 K (X.blk s H scope (compEnvC scope cl C X.env) fp) ifs1 t1)
    (he : ∀ (s : Shared) (H : Hp) (C : Addr) (cl : List (Str × Addr)) (fp : List Addr), PE3 K (X.blk s H scope (compEnvC scope cl C X.env) fp) elt f) (hs : ∀ x, foldedSetIterable iter X.env x = pure x := by intro _; rfl) (hs1 : ∀ env x, foldedSetIterable iter1 env x = pure x := by intro _ _; rfl)
    (he2 : starEach [.SetComp elt [⟨tg, iter, ifs, 0⟩, ⟨tg1, iter1, ifs1, 0⟩] scope p2] X.env = (false, eval (.SetComp elt [⟨tg, iter, ifs, 0⟩, ⟨tg1, iter1, ifs1, 0⟩] scope p2) X.env) :: starEach [] X.env := by rfl) (hpl : (backTo pos (starEach [] X.env)).any (·.1) = false := by rfl) :
    PN3 K X (.Call (.Name "sorted" pp) [.SetComp elt [⟨tg, iter, ifs, 0⟩, ⟨tg1, iter1, ifs1, 0⟩] scope p2] [] pos) (nSc2 vs vs1 it g t it1 g1 t1 f) :=
  ⟨pe_imp (pe_callB (cr_sortedSetS hc hu) hgl hm (by decide +kernel) (pa_cons (pe_scS2 (vs1 := vs1) hc hN hi.p ok (by rw [hv]; exact hv1) (fun s H C cl fp => (hg s H C cl fp).p) (fun s H C cl fp => (ht s H C cl fp).p) (fun s H C cl fp => (he s H C cl fp).p) (hi1 := fun s H C cl fp => (hi1 s H C cl fp).p) (hg1 := fun s H C cl fp => (hg1 s H C cl fp).p) (ht1 := fun s H C cl fp => (ht1 s H C cl fp).p) (hs := hs) (hs1 := hs1)) pa_nil he2) (he := he2) (hpl := hpl)) fun σ H Q h => by
    subst hP hw'
    rw [hv]
    exact sc2_go hw hw1 h⟩
end
end EA
namespace EA
open PySem PySem.Spec PyProof.Rows L2
theorem _root_.L2.Room.units65 {k : Nat} {A : Around} (r : Room k A) : A.units + 65 < cLine := by have := r.un; omega
/-! ### xs.index(x) -/
def gIdx (ds : List PyData) (d : PyData) : Option Int := if SeqAt.shaped (.list ds) = true ∧ SeqAt.shaped d = true then Option.map (fun j : Nat => (j : Int)) (ds.findIdx? fun z => PyData.eqv z d) else none
def eIdx (o : FE) (a : FA) : FE := fun sl S => (o sl S).bind fun p => match view p.2 p.1 with
  | some (.list _) => (a sl p.2).bind fun q => match view q.2 p.1, q.1 with
    | some (.list ds), [w] => (view q.2 w).bind fun d => (gIdx ds d).map fun j => (.d (.int j), q.2)
    | _, _ => none
  | _ => none
section
variable {K : PySem.W.Frag} {X : Cx} {o e : Expr} {fo : FE} {f : FA} {apos cpos : Pos}
theorem gIdx_of {ds : List PyData} {d : PyData} {k : Int} (h : gIdx ds d = some k) : SeqAt.shaped (.list ds) = true ∧ SeqAt.shaped d = true ∧ ∃ (j : Nat) (z : PyData), k = j ∧ ds[j]? = some z ∧ PyData.eqv z d = true ∧ ∀ (m : Nat) (z' : PyData), m < j → ds[m]? = some z' → PyData.eqv z' d = false := by
  unfold gIdx at h
  by_cases c : SeqAt.shaped (.list ds) = true ∧ SeqAt.shaped d = true
  · rw [if_pos c] at h
    obtain ⟨j, hj, rfl⟩ := Option.map_eq_some_iff.mp h
    obtain ⟨lt, pj, no⟩ := List.findIdx?_eq_some_iff_getElem.mp hj
    refine ⟨c.1, c.2, j, ds[j], rfl, List.getElem?_eq_getElem lt, pj, fun m z' hm hz => ?_⟩
    obtain ⟨hm2, rfl⟩ := List.getElem?_eq_some_iff.mp hz
    exact Bool.eq_false_iff.mpr (no m hm)
  · rw [if_neg c] at h; cases h
theorem e_index (hK : X.K = K) (hu : X.A.units + 65 < cLine) (ho : PE3 K X o fo) (ha : PA3 K X [e] f)
    (hbase : attributeBase o "index" X.env (eval o X.env) = eval o X.env := by rfl)
    (hfew : ((backTo cpos (starEach (e :: []) X.env)).all (fun x => !x.1) && (backToKw cpos (keywordEach [] X.env)).all (fun x => x.1.isSome)
      && decide ((e :: []).length + ([] : List Keyword).length + (if ([] : List Keyword).isEmpty then 0 else 1) < 30)) = true := by rfl)
    (hline : (apos.endLine == cpos.line) = true := by rfl) (hs : starEach (e :: []) X.env = (false, eval e X.env) :: starEach [] X.env := by rfl) (hplain : (backTo cpos (starEach [] X.env)).any (·.1) = false := by rfl) :
    PE3 K X (.Call (.Attribute o "index" apos) [e] [] cpos) (eIdx fo f) := ⟨pe_imp (pe_bm PySem.F.plainAttrs_list PySem.F.slot_list_index PySem.F.type_list_index (mt_indexD hu) ho.p ha.p hbase hfew hline hs hplain) fun σ H Q h => by
  subst hK
  obtain ⟨A, S, sl, w, S', rfl, R, s, e, q⟩ := h
  obtain ⟨⟨w1, S1⟩, e1, e⟩ := Option.bind_eq_some_iff.mp e
  dsimp only at e
  split at e
  · rename_i xs0 hx0
    obtain ⟨⟨w2, S2⟩, e2, e⟩ := Option.bind_eq_some_iff.mp e
    dsimp only at e
    refine ⟨A, S, sl, w1, S1, rfl, R, s, e1, fun B v n R1 r1 => ⟨?_, B, S1, sl, w2, S2, rfl, R1, s.mono n, e2, fun C us n2 R2 r2 => ?_⟩⟩
    · obtain ⟨a, vs, rfl, h1, _⟩ := view_list R1 r1 hx0
      exact .inl ⟨rfl, _, h1⟩
    · split at e
      · rename_i ds w hds
        obtain ⟨d, hd, e⟩ := Option.bind_eq_some_iff.mp e
        obtain ⟨k, hk, e⟩ := Option.map_eq_some_iff.mp e
        cases e
        obtain ⟨s1, s2, j, z, rfl, hz, ez, no⟩ := gIdx_of hk
        have r1' := r1.mono n2
        obtain ⟨a, vs, rfl, _⟩ := view_list R2 r1' hds
        cases r2 with
        | cons ru rr =>
          cases rr
          exact ⟨a, _, d, ds, j, z, rfl, rfl, view_dp R2 r1' hds, view_dp R2 ru hd, s1, s2, hz, ez, no, q C _ (n.trans n2) R2 (Da.int _)⟩
      · cases e
  · cases e⟩
end
end EA
namespace EA
open PySem PySem.Spec PyProof.Rows L2
/-! ### while; the lesser of two texts -/
theorem wp_pop {xs : List PyData} {x : PyData} {QM : PyData → List PyData → Prop} (h : QM x xs) : Wp2 (mPop (xs ++ [x]) []) QM := wp_eq (a := (x, xs)) (by unfold mPop; simp) h
def wNext (t : FT) (b : FS) (n : Nat) : Out → Option Out
  | .nx a c => wRun t b n a c
  | .ct a c => wRun t b n a c
  | .bk a c => some (.nx a c)
  | .rt w c => some (.rt w c)
theorem wRun_step {t : FT} {b : FS} {n : Nat} {sl : Sl} {S S1 : List MO} {o : Out} (e1 : t sl S = some (true, S1)) (e2 : b sl S1 = some o) : wRun t b (n + 1) sl S = wNext t b n o := by
  rw [wRun, e1]
  simp only [Option.bind_some, if_true]
  rw [e2]
  cases o <;> rfl
theorem wp_while {t : FT} {b : FS} {Q : Out → Prop} (P : Nat → Sl → List MO → Prop) (step : ∀ m sl S, P m sl S → Wp2 (t sl S) fun c S1 => if c = true then Wp (b sl S1) (loopQ (fun sl' S' => ∃ m', m' < m ∧ P m' sl' S') Q) else Q (.nx sl S1)) {m : Nat} {sl : Sl} {S : List MO} (h : P m sl S) : Wp (sWh t b sl S) Q := by
  suffices k : ∀ m sl S, P m sl S → ∃ n o, wRun t b n sl S = some o ∧ Q o by
    obtain ⟨n, o, e, q⟩ := k m sl S h
    exact ⟨o, sWh_of e, q⟩
  intro m
  induction m using Nat.strongRecOn with
  | _ m ih =>
    intro sl S h
    obtain ⟨⟨c, S1⟩, e1, h1⟩ := step m sl S h
    dsimp only at h1
    cases c with
    | false =>
      rw [if_neg Bool.false_ne_true] at h1
      exact ⟨1, .nx sl S1, by rw [wRun, e1]; rfl, h1⟩
    | true =>
      rw [if_pos rfl] at h1
      obtain ⟨o, e2, h2⟩ := h1
      cases o with
      | nx sl' S' =>
        obtain ⟨m', lt, p⟩ := h2
        obtain ⟨n, o, e3, q⟩ := ih m' lt sl' S' p
        exact ⟨n + 1, o, (wRun_step e1 e2).trans e3, q⟩
      | ct sl' S' =>
        obtain ⟨m', lt, p⟩ := h2
        obtain ⟨n, o, e3, q⟩ := ih m' lt sl' S' p
        exact ⟨n + 1, o, (wRun_step e1 e2).trans e3, q⟩
      | bk sl' S' =>
        exact ⟨1, _, wRun_step (n := 0) e1 e2, h2⟩
      | rt w S' =>
        exact ⟨1, _, wRun_step (n := 0) e1 e2, h2⟩
theorem wp_min2s {S : List MO} {i j : Str} {P : PyData → Prop} (h : P (.str (if j.cps.toList < i.cps.toList then j else i))) : Wp (gMin2 S [.d (.str i), .d (.str j)]) P := wp_some.mpr h
/-! ### conditions -/
noncomputable def f3_formed : F3 := fdef false 3 0
  (sSeq (sIf (tCmp gEq (eVar 1) (eVar 2))
  (sRt (eVar 1))
  sNx)
  (sRt (eTup (aCons (eVar 0) (aCons (eVar 1) (aCons (eVar 2) aNil))))))
noncomputable def f3_no : Nat → F3
  | 0 => fun _ _ => none
  | n + 1 => fdef false 1 0
      (sSeq (sIf (tTr (eB gIsi (aCons (eVar 0) (aCons (eTy "bool") aNil))))
        (sRt (eNot (eVar 0)))
        sNx)
        (sRt (eTup (aCons (eOp gIx (eVar 0) (eD (.int (0)))) (aCons (eCall (f3_no n) (aCons (eOp gIx (eVar 0) (eD (.int (1)))) aNil)) (aCons (eCall (f3_no n) (aCons (eOp gIx (eVar 0) (eD (.int (2)))) aNil)) aNil))))))
noncomputable def f3_both : Nat → F3
  | 0 => fun _ _ => none
  | n + 1 => fdef false 2 3
      (sSeq (sIf (tOr3 (tCmp gIs (eVar 0) (eD (.bool false))) (tCmp gIs (eVar 1) (eD (.bool false))))
        (sRt (eD (.bool false)))
        sNx)
        (sSeq (sIf (tCmp gIs (eVar 0) (eD (.bool true)))
        (sRt (eVar 1))
        sNx)
        (sSeq (sIf (tCmp gIs (eVar 1) (eD (.bool true)))
        (sRt (eVar 0))
        sNx)
        (sSeq (sSet 2 (eB gMin2 (aCons (eOp gIx (eVar 0) (eD (.int (0)))) (aCons (eOp gIx (eVar 1) (eD (.int (0)))) aNil))))
        (sSeq (sSet 3 (eCall (f3_both n) (aCons (eCall f3_side_of (aCons (eVar 0) (aCons (eVar 2) (aCons (eD (.bool true)) aNil)))) (aCons (eCall f3_side_of (aCons (eVar 1) (aCons (eVar 2) (aCons (eD (.bool true)) aNil)))) aNil))))
        (sSeq (sSet 4 (eCall (f3_both n) (aCons (eCall f3_side_of (aCons (eVar 0) (aCons (eVar 2) (aCons (eD (.bool false)) aNil)))) (aCons (eCall f3_side_of (aCons (eVar 1) (aCons (eVar 2) (aCons (eD (.bool false)) aNil)))) aNil))))
        (sRt (eCall f3_formed (aCons (eVar 2) (aCons (eVar 3) (aCons (eVar 4) aNil)))))))))))
noncomputable def f3_either : F3 := fdef false 2 0
  (sRt (eCall (f3_no 60) (aCons (eCall (f3_both 60) (aCons (eCall (f3_no 60) (aCons (eVar 0) aNil)) (aCons (eCall (f3_no 60) (aCons (eVar 1) aNil)) aNil))) aNil)))
noncomputable def f3_switches_of : F3 := fdef false 1 3
  (sSeq (sSet 1 eDN)
  (sSeq (sSet 2 (eNo (nLst (aCons (eVar 0) aNil))))
  (sSeq (sWh (tTr (eVar 2))
  (sSeq (sSet 3 (eM mPop (eVar 2) aNil))
  (sIf (tNt (tTr (eB gIsi (aCons (eVar 3) (aCons (eTy "bool") aNil)))))
  (sSeq (sDP (eVar 1) (eOp gIx (eVar 3) (eD (.int (0)))) (eD (.bool true)))
  (sSeq (sEx (eM mApp (eVar 2) (aCons (eOp gIx (eVar 3) (eD (.int (1)))) aNil)))
  (sEx (eM mApp (eVar 2) (aCons (eOp gIx (eVar 3) (eD (.int (2)))) aNil)))))
  sNx)))
  (sRt (eB gTupOf (aCons (eNd (nB gSorted (aCons (eNd (nB gLst3 (aCons (eVar 1) aNil))) aNil))) aNil))))))
local macro_rules | `(tactic| walk_at "ix") => `(tactic| first | rfl | exact atI_cons0 | exact atI_map0)
local macro_rules | `(tactic| walk_at "st") => `(tactic| first | assumption | rfl | exact get_set (by assumption) | exact get_set (get_set (by assumption)) | exact get_last | exact get_setlast | exact get_setapp (by assumption) | exact get_app (by assumption) | exact get_app (get_set (by assumption)))
local macro_rules | `(tactic| walk_at "tk") => `(tactic| first | exact List.take_length | exact take_set | exact take_set2 | exact take_set3 | exact take_app | exact take_aset | exact take_setapp | rfl)
local macro_rules | `(tactic| walk_at "sd") => `(tactic| first | omega | assumption | decide)
local macro_rules | `(tactic| walk_at "wp1") => `(tactic| first
  | with_reducible refine wp_seq ?_ | with_reducible refine th_nx ?_ | with_reducible refine th_rt ?_ | with_reducible refine th_bk ?_ | with_reducible refine th_ct ?_
  | with_reducible refine wp_set ?_ | with_reducible refine wp_ex ?_ | with_reducible refine wp_rt ?_ | with_reducible refine wp_rtn ?_ | with_reducible refine wp_sif ?_ | with_reducible refine wp_asg ?_
  | with_reducible refine wp_for ?_ | with_reducible refine wp_pr ?_ | with_reducible refine pairW_i ?_ | with_reducible refine lq_nx ?_ | with_reducible refine lq_ct ?_ | with_reducible refine lq_bk ?_ | with_reducible refine lq_rt ?_ | with_reducible refine wp_dp ?_ | with_reducible refine wp_nx ?_ | with_reducible refine wp_bk ?_ | with_reducible refine wp_ct ?_
  | ((with_reducible apply wp_var); rfl) | with_reducible refine wp_d ?_ | with_reducible refine wp_ty ?_ | with_reducible refine wp_fz ?_ | with_reducible refine fz_d ?_ | ((with_reducible apply fz_r); (walk_at "st")) | with_reducible refine wp_nil ?_ | with_reducible refine wp_cons ?_
  | with_reducible refine wp_tup ?_ | with_reducible refine wp_nlst ?_ | with_reducible refine wp_ds0 ?_ | with_reducible refine wp_ds1 ?_ | with_reducible refine wp_nd ?_ | with_reducible refine wp_no ?_
  | with_reducible refine wp_gnm ?_ | with_reducible refine wp_gtp ?_ | with_reducible refine wp_gsn ?_ | with_reducible refine wp_gsc ?_ | with_reducible refine wp_gs ?_
  | with_reducible refine wp_ty3 ?_ | with_reducible refine datW_i ?_ | with_reducible refine wp_lc ?_ | with_reducible refine wp_ecmp ?_ | with_reducible refine wp_tcmp ?_ | with_reducible refine wp_ttr ?_ | with_reducible refine wp_not ?_ | with_reducible refine wp_tnt ?_ | with_reducible refine wp_tan ?_ | with_reducible refine wp_tor ?_
  | with_reducible refine wp_an ?_ | with_reducible refine boolW_i ?_ | with_reducible refine wp_or ?_ | with_reducible refine wp_eif ?_ | with_reducible refine wp_op ?_ | with_reducible refine wp_nop ?_ | with_reducible refine wp_onone ?_ | with_reducible refine wp_os ?_ | with_reducible refine intW_i ?_
  | with_reducible refine wp_esl ?_ | with_reducible refine wp_nsl ?_ | with_reducible refine wp_b ?_ | with_reducible refine wp_nb ?_ | with_reducible refine wp_call ?_ | with_reducible refine wp_sq ?_ | with_reducible refine sq_l ?_ | with_reducible refine sq_t ?_ | with_reducible refine sq_sc ?_ | ((with_reducible apply sq_r); (walk_at "st")) | with_reducible refine wp_r1 ?_ | with_reducible refine wp_r2 ?_ | with_reducible refine wp_irv ?_
  | with_reducible refine wp_me ?_ | with_reducible refine wp_join ?_ | with_reducible refine wp_dn ?_
  | with_reducible refine wp_viewd ?_ | ((with_reducible apply wp_viewr); (walk_at "st")) | ((with_reducible apply wp_lat); (walk_at "st")))
local macro_rules | `(tactic| walk_at "wp") => `(tactic| first
  | walk_at "wp1"
  | ((with_reducible apply atSet_i); (walk_at "st"); rfl) | ((with_reducible apply atLst_i); (walk_at "st")) | ((with_reducible apply nowLst_i); (walk_at "st"))
  | with_reducible refine wp_geqs ?_ | with_reducible refine wp_gnes ?_ | with_reducible refine wp_geqb ?_ | with_reducible refine wp_gneb ?_ | with_reducible refine wp_geq_nil ?_ | with_reducible refine wp_gne_nil ?_ | with_reducible refine wp_trul ?_ | with_reducible refine wp_trut ?_ | ((with_reducible apply wp_trur); (walk_at "st")) | with_reducible refine wp_trui ?_ | with_reducible refine wp_cutl ?_ | with_reducible refine wp_cutt ?_
  | with_reducible refine wp_l3l ?_ | with_reducible refine wp_l3t ?_ | ((with_reducible apply wp_l3r); (walk_at "st")) | ((with_reducible refine rng1_i ?_ ?_); (walk_at "sd")) | ((with_reducible refine rng2_i ?_ ?_); (walk_at "sd"))
  | with_reducible refine wp_addi ?_ | with_reducible refine wp_sub ?_ | ((with_reducible refine wp_mod ?_ ?_); (walk_at "sd")) | ((with_reducible refine wp_fdiv ?_ ?_); (walk_at "sd")) | ((with_reducible refine wp_mulr ?_ ?_); (walk_at "sd")) | ((with_reducible refine wp_mull ?_ ?_); (walk_at "sd")) | ((with_reducible refine wp_pow ?_ ?_); (walk_at "sd"))
  | with_reducible refine wp_int ?_ | with_reducible refine wp_abs ?_
  | ((with_reducible apply wp_ixd); (walk_at "ix")) | ((with_reducible apply wp_ixt); (walk_at "ix")) | ((with_reducible apply wp_ixr); (walk_at "st"); (walk_at "ix"))
  | with_reducible refine wp_lenl ?_ | with_reducible refine wp_lent ?_ | with_reducible refine wp_lensc ?_ | ((with_reducible apply wp_lenr); (walk_at "st"))
  | with_reducible refine wp_geqi ?_ | with_reducible refine wp_gnei ?_ | with_reducible refine wp_glti ?_ | with_reducible refine wp_ggti ?_ | with_reducible refine wp_glei ?_ | with_reducible refine wp_ggei ?_ | with_reducible refine wp_glts ?_ | with_reducible refine wp_ggts ?_
  | with_reducible refine is_bt_bt ?_ | with_reducible refine isn_bt_bt ?_ | with_reducible refine is_bt_bf ?_ | with_reducible refine isn_bt_bf ?_ | with_reducible refine is_bt_n ?_ | with_reducible refine isn_bt_n ?_ | with_reducible refine is_bf_bt ?_ | with_reducible refine isn_bf_bt ?_ | with_reducible refine is_bf_bf ?_ | with_reducible refine isn_bf_bf ?_ | with_reducible refine is_bf_n ?_ | with_reducible refine isn_bf_n ?_ | with_reducible refine is_n_bt ?_ | with_reducible refine isn_n_bt ?_ | with_reducible refine is_n_bf ?_ | with_reducible refine isn_n_bf ?_ | with_reducible refine is_n_n ?_ | with_reducible refine isn_n_n ?_ | with_reducible refine is_t_bt ?_ | with_reducible refine isn_t_bt ?_ | with_reducible refine is_t_bf ?_ | with_reducible refine isn_t_bf ?_ | with_reducible refine is_t_n ?_ | with_reducible refine isn_t_n ?_ | with_reducible refine is_l_bt ?_ | with_reducible refine isn_l_bt ?_ | with_reducible refine is_l_bf ?_ | with_reducible refine isn_l_bf ?_ | with_reducible refine is_l_n ?_ | with_reducible refine isn_l_n ?_ | with_reducible refine is_i_bt ?_ | with_reducible refine isn_i_bt ?_ | with_reducible refine is_i_bf ?_ | with_reducible refine isn_i_bf ?_ | with_reducible refine is_i_n ?_ | with_reducible refine isn_i_n ?_ | with_reducible refine is_s_bt ?_ | with_reducible refine isn_s_bt ?_ | with_reducible refine is_s_bf ?_ | with_reducible refine isn_s_bf ?_ | with_reducible refine is_s_n ?_ | with_reducible refine isn_s_n ?_
  | ((with_reducible refine wp_gis ?_ ?_); rfl) | ((with_reducible refine wp_gisn ?_ ?_); rfl) | with_reducible refine wp_trub ?_ | ((with_reducible refine isi_t (r := true) ?_ ?_); (decide +kernel)) | ((with_reducible refine isi_t (r := false) ?_ ?_); (decide +kernel)) | ((with_reducible refine isi_b (r := true) ?_ ?_); (decide +kernel)) | ((with_reducible refine isi_b (r := false) ?_ ?_); (decide +kernel)) | ((with_reducible refine isi_i (r := true) ?_ ?_); (decide +kernel)) | ((with_reducible refine isi_i (r := false) ?_ ?_); (decide +kernel)) | ((with_reducible refine isi_s (r := true) ?_ ?_); (decide +kernel)) | ((with_reducible refine isi_s (r := false) ?_ ?_); (decide +kernel)) | ((with_reducible refine isi_l (r := true) ?_ ?_); (decide +kernel)) | ((with_reducible refine isi_l (r := false) ?_ ?_); (decide +kernel)) | ((with_reducible refine isi_n (r := true) ?_ ?_); (decide +kernel)) | ((with_reducible refine isi_n (r := false) ?_ ?_); (decide +kernel))
  | with_reducible refine wp_tupl ?_ | with_reducible refine wp_tupt ?_ | ((with_reducible apply wp_tupr); (walk_at "st"))
  | with_reducible refine ite2 (fun _ => ?_) (fun z => absurd rfl z)
  | with_reducible refine ite2 (fun z => absurd z Bool.false_ne_true) (fun _ => ?_)
  | ((with_reducible apply rq_dt); (walk_at "tk")) | ((with_reducible apply rq_nxt); (walk_at "tk")))
local macro_rules | `(tactic| walk_at "fdef") => `(tactic| (refine wp_fdef rfl ?_; simp only [List.map_cons, List.map_nil, List.replicate_succ, List.replicate_zero, List.cons_append, List.nil_append]))
theorem formed3 {S : List MO} {s : Str} {ns : List Str} {x y : C} (hx : OC ns x) (hn : ns.length ≤ 40) : f3_formed [.d (.str s), .d x.enc, .d y.enc] S = some (.d (C.formed s x y).enc, S) := by
  refine eq_of ?_
  unfold f3_formed
  walk_at "fdef"
  repeat walk_at "wp"
  refine wp_ceq hx hn ?_
  repeat walk_at "wp"
  rw [formed_enc]
  refine ite2 (fun h => ?_) (fun h => ?_)
  · repeat walk_at "wp"
    rw [if_pos (of_decide_eq_true h)]
    exact ⟨rfl, rfl⟩
  · repeat walk_at "wp"
    rw [if_neg (fun z => h (decide_eq_true z))]
    exact ⟨rfl, rfl⟩
theorem no3 : ∀ (n : Nat) {ns : List Str} {c : C} {S : List MO}, OC ns c → ns.length < n → f3_no n [.d c.enc] S = some (.d c.no.enc, S)
  | 0, _, _, _, _, h => absurd h (by omega)
  | n + 1, ns, c, S, hc, hn => by
    refine eq_of ?_
    unfold f3_no
    cases c with
    | b v =>
      simp only [C.enc]
      walk_at "fdef"
      repeat walk_at "wp"
      exact ⟨rfl, rfl⟩
    | nd t x y =>
      obtain ⟨pre, ys, rfl, hx, hy, ne⟩ := hc.split
      rw [List.length_append, List.length_cons] at hn
      have e1 := no3 n (S := S) hx (by omega)
      have e2 := no3 n (S := S) hy (by omega)
      simp only [C.enc]
      walk_at "fdef"
      repeat walk_at "wp"
      refine wp2_eq e1 ?_
      repeat walk_at "wp"
      refine wp2_eq e2 ?_
      repeat walk_at "wp"
      exact ⟨rfl, rfl⟩
theorem both3 : ∀ (n : Nat) {ns : List Str} {c d : C} {S : List MO}, NS ns → OC ns c → OC ns d → ns.length < n → ∃ e, OC ns e ∧ (∀ f, e.ev f = (c.ev f && d.ev f)) ∧ f3_both n [.d c.enc, .d d.enc] S = some (.d e.enc, S)
  | 0, _, _, _, _, _, _, _, h => absurd h (by omega)
  | n + 1, ns, c, d, S, hn, hc, hd, hl => by
    have few := hn.few
    cases c with
    | b v =>
      cases v with
      | false =>
        refine ⟨.b false, .leaf _, fun f => rfl, eq_of ?_⟩
        unfold f3_both
        simp only [C.enc]
        walk_at "fdef"
        repeat walk_at "wp"
        exact ⟨rfl, rfl⟩
      | true =>
        refine ⟨d, hd, fun f => rfl, eq_of ?_⟩
        unfold f3_both
        cases d with
        | b v2 =>
          simp only [C.enc]
          cases v2 with
          | false =>
            walk_at "fdef"
            repeat walk_at "wp"
            exact ⟨rfl, rfl⟩
          | true =>
            walk_at "fdef"
            repeat walk_at "wp"
            exact ⟨rfl, rfl⟩
        | nd t2 x2 y2 =>
          simp only [C.enc]
          walk_at "fdef"
          repeat walk_at "wp"
          exact ⟨rfl, rfl⟩
    | nd t x y =>
      cases d with
      | b v2 =>
        cases v2 with
        | false =>
          refine ⟨.b false, .leaf _, fun f => by simp [C.ev], eq_of ?_⟩
          unfold f3_both
          simp only [C.enc]
          walk_at "fdef"
          repeat walk_at "wp"
          exact ⟨rfl, rfl⟩
        | true =>
          refine ⟨.nd t x y, hc, fun f => by simp [C.ev], eq_of ?_⟩
          unfold f3_both
          simp only [C.enc]
          walk_at "fdef"
          repeat walk_at "wp"
          exact ⟨rfl, rfl⟩
      | nd t2 x2 y2 =>
        generalize em : (if t2.cps.toList < t.cps.toList then t2 else t) = m
        obtain ⟨pre, ys, rfl, oc, od⟩ := OC.mins hn hc hd m em.symm
        have nys : NS ys := by
          have z : NS ((pre ++ [m]) ++ ys) := by rw [List.append_assoc]; exact hn
          exact z.suf
        rw [List.length_append, List.length_cons] at hl
        obtain ⟨e1, o1, v1, r1⟩ := both3 n (S := S) nys (oc true) (od true) (by omega)
        obtain ⟨e2, o2, v2, r2⟩ := both3 n (S := S) nys (oc false) (od false) (by omega)
        refine ⟨C.formed m e1 e2, (OC.formed o1 o2).app pre, fun f => ?_, eq_of ?_⟩
        · rw [C.ev_formed, v1, v2, C.ev_side f m (.nd t x y), C.ev_side f m (.nd t2 x2 y2)]
          split <;> rfl
        · unfold f3_both
          simp only [C.enc]
          walk_at "fdef"
          repeat walk_at "wp"
          refine wp_min2s ?_
          rw [em]
          repeat walk_at "wp"
          refine wp2_eq (side3 (c := .nd t x y)) ?_
          repeat walk_at "wp"
          refine wp2_eq (side3 (c := .nd t2 x2 y2)) ?_
          repeat walk_at "wp"
          refine wp2_eq r1 ?_
          repeat walk_at "wp"
          refine wp2_eq (side3 (c := .nd t x y)) ?_
          repeat walk_at "wp"
          refine wp2_eq (side3 (c := .nd t2 x2 y2)) ?_
          repeat walk_at "wp"
          refine wp2_eq r2 ?_
          repeat walk_at "wp"
          refine wp2_eq (formed3 o1 (by have := nys.few; omega)) ?_
          repeat walk_at "wp"
          exact ⟨rfl, rfl⟩
theorem either3 {ns : List Str} {c d : C} {S : List MO} (hn : NS ns) (hc : OC ns c) (hd : OC ns d) : ∃ e, OC ns e ∧ (∀ f, e.ev f = (c.ev f || d.ev f)) ∧ f3_either [.d c.enc, .d d.enc] S = some (.d e.enc, S) := by
  have few : ns.length < 60 := by have := hn.few; omega
  obtain ⟨e, o, v, r⟩ := both3 60 (S := S) hn hc.no hd.no few
  refine ⟨e.no, o.no, fun f => ?_, eq_of ?_⟩
  · rw [C.ev_no, v, C.ev_no, C.ev_no, Bool.not_and, Bool.not_not, Bool.not_not]
  · unfold f3_either
    walk_at "fdef"
    repeat walk_at "wp"
    refine wp2_eq (no3 60 hc few) ?_
    repeat walk_at "wp"
    refine wp2_eq (no3 60 hd few) ?_
    repeat walk_at "wp"
    refine wp2_eq r ?_
    repeat walk_at "wp"
    refine wp2_eq (no3 60 o few) ?_
    repeat walk_at "wp"
    exact ⟨rfl, rfl⟩
def szs : List C → Nat
  | [] => 0
  | c :: r => c.size + szs r
theorem szs_app : ∀ a b : List C, szs (a ++ b) = szs a + szs b
  | [], b => by simp [szs]
  | c :: r, b => by simp [szs, szs_app r b]; omega
theorem len_szs : ∀ cs : List C, cs.length ≤ szs cs
  | [] => Nat.zero_le _
  | c :: r => by
    have a := len_szs r
    have b := c.size_pos
    simp only [szs, List.length_cons]
    omega
theorem keys_putD {s : Str} {v : PyData} {kvs : List (Key × PyData)} {ks : List Str} (h : kvs.map (·.1) = ks.map Sum.inr) : (putD kvs (.inr s) v).map (·.1) = (if s ∈ ks then ks else ks ++ [s]).map Sum.inr := by
  unfold putD
  have e : (kvs.any fun kv => decide (kv.1 = Sum.inr s)) = decide (s ∈ ks) := by
    rw [show (kvs.any fun kv => decide (kv.1 = Sum.inr s)) = (kvs.map (·.1)).any (fun k => decide (k = Sum.inr s)) by rw [List.any_map]; rfl, h, List.any_map]
    clear h
    induction ks with
    | nil => rfl
    | cons k r ih =>
      rw [List.any_cons, ih]
      by_cases e : k = s
      · subst e; simp
      · have e2 : s ≠ k := fun z => e z.symm
        simp [e, e2]
  rw [e]
  by_cases m : s ∈ ks
  · rw [if_pos (decide_eq_true m), if_pos m, ← h, List.map_map]
    refine List.map_congr_left fun kv _ => ?_
    show (if kv.1 = Sum.inr s then (kv.1, v) else kv).1 = kv.1
    split <;> rfl
  · rw [if_neg (by simpa using m), if_neg m, List.map_append, List.map_append, h]; rfl
theorem dicAt_r {S : List MO} {i : Nat} {kvs : List (Key × PyData)} (e : S[i]? = some (.dic kvs)) : dicAt S (.r i) = some kvs := by
  unfold dicAt
  dsimp only
  rw [e]
theorem get_setne {S : List MO} {i j : Nat} {o u : MO} (h : i ≠ j) (e : S[j]? = some u) : (S.set i o)[j]? = some u := by rw [List.getElem?_set_ne h]; exact e
theorem take_setge {S T : List MO} {n i : Nat} {o : MO} (h : n ≤ i) (e : S.take n = T) : (S.set i o).take n = T := by rw [List.take_set_of_le h]; exact e
theorem switches3 {ns : List Str} {c : C} {S : List MO} (hn : NS ns) (hc : OC ns c) : ∃ ss : List Str, ss.Pairwise slt ∧ (∀ s, s ∈ ss ↔ s ∈ c.vars) ∧ f3_switches_of [.d c.enc] S = some (.d (.tuple (ss.map .str)), S) := by
  suffices h : Wp2 (f3_switches_of [.d c.enc] S) fun a b => ∃ ss : List Str, ss.Pairwise slt ∧ (∀ s, s ∈ ss ↔ s ∈ c.vars) ∧ a = .d (.tuple (ss.map .str)) ∧ b = S by
    obtain ⟨⟨a, b⟩, e, ss, h1, h2, h3, h4⟩ := h
    dsimp only at h3 h4
    subst h3 h4
    exact ⟨ss, h1, h2, e⟩
  unfold f3_switches_of
  walk_at "fdef"
  repeat walk_at "wp"
  have l1 : (S ++ [MO.dic []]).length = S.length + 1 := by rw [List.length_append]; rfl
  rw [l1]
  refine wp_while (fun m sl S' => ∃ (ks : List Str) (kvs : List (Key × PyData)) (cs : List C) (pt : Option W3), sl = [some (.d c.enc), some (.r S.length), some (.r (S.length + 1)), pt] ∧ S'.take S.length = S ∧ S'[S.length]? = some (.dic kvs) ∧ S'[S.length + 1]? = some (.lst (cs.map C.enc)) ∧
      kvs.map (·.1) = ks.map Sum.inr ∧ ks.Nodup ∧ (∀ s, (s ∈ ks ∨ ∃ x ∈ cs, s ∈ x.vars) ↔ s ∈ c.vars) ∧ m = szs cs ∧ szs cs ≤ c.size) (fun m sl S' h => ?_) (m := szs [c])
    ⟨[], [], [c], none, rfl, ?_, ?_, ?_, rfl, .nil, fun s => by simp, rfl, by simp [szs]⟩
  · obtain ⟨ks, kvs, cs, pt, rfl, hT, hD, hL, hk, nk, hv, rfl, hz⟩ := h
    have szc := hc.size_few hn
    have lsz := len_szs cs
    have kl : ks.length ≤ ns.length := nodup_len nk fun s hs => hc.vars s ((hv s).mp (.inl hs))
    have kvl : kvs.length = ks.length := by have := congrArg List.length hk; rwa [List.length_map, List.length_map] at this
    have few := hn.few
    repeat walk_at "wp"
    rcases List.eq_nil_or_concat cs with rfl | ⟨cs', x, ecs⟩
    · refine ite2 (fun z => absurd z (by decide)) fun _ => ?_
      repeat walk_at "wp"
      refine wp_l3d hD ?_
      have e1 : (kvs.map fun kv => keyP kv.1) = ks.map PyData.str := by
        rw [show (kvs.map fun kv => keyP kv.1) = (kvs.map (·.1)).map keyP by rw [List.map_map]; rfl, hk, List.map_map]; rfl
      rw [e1]
      repeat walk_at "wp"
      refine wp_sort_strs nk fun ys pm ss => ?_
      repeat walk_at "wp"
      refine ⟨ys, ss, fun s => ?_, rfl, hT⟩
      rw [pm.mem_iff, ← hv]
      simp
    · rw [List.concat_eq_append] at ecs
      subst ecs
      rw [List.map_append] at hL ⊢
      rw [szs_app] at hz lsz
      rw [List.length_append] at lsz
      simp only [szs, List.length_singleton] at hz lsz
      have xp := x.size_pos
      have lv : (cs'.map C.enc ++ [x].map C.enc).isEmpty = false := by simp
      rw [lv]
      repeat walk_at "wp"
      refine wp_pop (x := x.enc) ?_
      have nL : (S'.set (S.length + 1) (MO.lst (cs'.map C.enc)))[S.length + 1]? = some (.lst (cs'.map C.enc)) := get_set hL
      have nD : (S'.set (S.length + 1) (MO.lst (cs'.map C.enc)))[S.length]? = some (.dic kvs) := get_setne (by omega) hD
      have nT : (S'.set (S.length + 1) (MO.lst (cs'.map C.enc))).take S.length = S := take_setge (by omega) hT
      generalize S'.set (S.length + 1) (MO.lst (cs'.map C.enc)) = S2 at *
      clear hL hD hT S'
      cases x with
      | b v =>
        simp only [C.enc]
        repeat walk_at "wp"
        refine ite2 (fun z => absurd z (by decide)) fun _ => ?_
        repeat walk_at "wp"
        refine ⟨szs cs', by rw [szs_app]; simp only [szs]; omega, ks, kvs, cs', _, rfl, nT, nD, nL, hk, nk, fun s => ?_, rfl, by omega⟩
        rw [← hv]
        simp [C.vars]
      | nd t x1 y1 =>
        simp only [C.enc]
        simp only [C.size] at hz lsz
        repeat walk_at "wp"
        refine ⟨_, rfl, ?_⟩
        repeat walk_at "wp"
        refine ⟨_, _, rfl, rfl, kvs, dicAt_r nD, by omega, ?_⟩
        show then3 _ _ (.nx _ (S2.set S.length (.dic (putD kvs (.inr t) (.bool true)))))
        have hk2 := keys_putD (v := .bool true) (s := t) hk
        generalize putD kvs (.inr t) (.bool true) = kvs2 at hk2 ⊢
        have mL : (S2.set S.length (MO.dic kvs2))[S.length + 1]? = some (.lst (cs'.map C.enc)) := get_setne (by omega) nL
        have mD : (S2.set S.length (MO.dic kvs2))[S.length]? = some (.dic kvs2) := get_set nD
        have mT : (S2.set S.length (MO.dic kvs2)).take S.length = S := take_setge (by omega) nT
        generalize S2.set S.length (MO.dic kvs2) = S3 at *
        clear nL nD nT S2
        repeat walk_at "wp"
        refine wp_app (by rw [List.length_map]; omega) ?_
        repeat walk_at "wp"
        refine wp_app (by rw [List.length_append, List.length_map]; show _ + 1 ≤ _; omega) ?_
        repeat walk_at "wp"
        refine ⟨szs (cs' ++ [x1, y1]), by rw [szs_app, szs_app]; simp only [szs, C.size]; omega, if t ∈ ks then ks else ks ++ [t], kvs2, cs' ++ [x1, y1], _, rfl, ?_, ?_, ?_, hk2, ?_, fun s => ?_, rfl, by rw [szs_app]; simp only [szs]; omega⟩
        · exact take_setge (by omega) (take_setge (by omega) mT)
        · exact get_setne (by omega) (get_setne (by omega) mD)
        · rw [get_set (get_set mL), List.map_append]
          simp
        · by_cases m : t ∈ ks
          · rw [if_pos m]; exact nk
          · rw [if_neg m]
            exact List.nodup_append.mpr ⟨nk, List.pairwise_singleton _ _, fun a ha b hb => by
              have e : b = t := by simpa using hb
              rw [e]; exact fun z => m (by rw [← z]; exact ha)⟩
        · rw [← hv]
          have mm : s ∈ (if t ∈ ks then ks else ks ++ [t]) ↔ s ∈ ks ∨ s = t := by
            by_cases m : t ∈ ks
            · rw [if_pos m]; exact ⟨.inl, fun h => h.elim id fun e => by rw [e]; exact m⟩
            · rw [if_neg m]; simp
          rw [mm]
          simp only [List.mem_append, List.mem_cons, List.not_mem_nil, or_false]
          constructor
          · rintro ((h | h) | ⟨x, hx | hx | hx, h⟩)
            · exact .inl h
            · exact .inr ⟨_, .inr rfl, by rw [h]; simp [C.vars]⟩
            · exact .inr ⟨x, .inl hx, h⟩
            · exact .inr ⟨_, .inr rfl, by rw [hx] at h; simp [C.vars, h]⟩
            · exact .inr ⟨_, .inr rfl, by rw [hx] at h; simp [C.vars, h]⟩
          · rintro (h | ⟨x, hx | hx, h⟩)
            · exact .inl (.inl h)
            · exact .inr ⟨x, .inl hx, h⟩
            · rw [hx] at h
              simp only [C.vars, List.mem_cons, List.mem_append] at h
              rcases h with h | h | h
              · exact .inl (.inr h)
              · exact .inr ⟨x1, .inr (.inl rfl), h⟩
              · exact .inr ⟨y1, .inr (.inr rfl), h⟩
  · rw [List.append_assoc, List.take_append_of_le_length (Nat.le_refl _), List.take_length]
  · rw [List.append_assoc, List.getElem?_append_right (Nat.le_refl _), Nat.sub_self]; rfl
  · rw [List.append_assoc, List.getElem?_append_right (by omega), show S.length + 1 - S.length = 1 by omega]; rfl
end EA
namespace EA
open PySem PySem.Spec PyProof.Rows L2
noncomputable def f3_outcome_condition : F3 := fdef false 2 3
  (sSeq (sSet 2 (eD (.bool false)))
  (sSeq (sFor (iSq (eVar 0)) (gTp (gsCons (gNm 3) (gsCons (gNm 4) gsNil)))
  (sIf (tCmp gEq (eOp gIx (eVar 4) (eD (.int (0)))) (eVar 1))
  (sSet 2 (eCall f3_either (aCons (eVar 2) (aCons (eVar 3) aNil))))
  sNx))
  (sRt (eVar 2))))
noncomputable def f3_deciding_switches : F3 := fdef false 1 2
  (sRt (eB gTupOf (aCons (eNd (nSc2 [1, 2] [2] (iSq (eVar 0)) (gNm 1) tYes3 (iSq (eCall f3_switches_of (aCons (eOp gIx (eVar 1) (eD (.int (0)))) aNil))) (gNm 2) tYes3 (eVar 2))) aNil)))
noncomputable def f3_gd_table : F3 := fdef false 2 4
  (sSeq (sPar 2 3 (aCons (eNo (nLst aNil)) (aCons (eNo (nLst aNil)) aNil)))
  (sSeq (sFor (iSq (eVar 0)) (gNm 4)
  (sIf (tAn (tCmp gIsN (eVar 4) (eD .none)) (tCmp gNin (eVar 4) (eVar 2)))
  (sSeq (sEx (eM mApp (eVar 2) (aCons (eVar 4) aNil)))
  (sEx (eM mApp (eVar 3) (aCons (eTup (aCons (eCall (f3_gd_grown 60) (aCons (eNd (nLc [5] (iSq (eVar 0)) (gNm 5) tYes3 (eCmp gEq (eVar 5) (eVar 4)))) (aCons (eVar 1) aNil))) (aCons (eVar 4) aNil))) aNil))))
  sNx))
  (sRt (eB gTupOf (aCons (eVar 3) aNil)))))
noncomputable def f3_gd_switches : F3 := fdef false 2 3
  (sSeq (sSet 2 (eCall f3_take (aCons (eVar 0) (aCons (eD (.int (26))) aNil))))
  (sSeq (sSet 3 (eSl (eD (.str "ABCDEFGHIJKLMNOPQRSTUVWXYZABCDEFGHIJKLMNOPQRSTUVWXYZ")) (oSome (eVar 2)) (oSome (eOp gAdd (eVar 2) (eVar 1)))))
  (sRt (eNd (nB gSorted (aCons (eNd (nLc [4] (iSt (eVar 3)) (gNm 4) tYes3 (eOp gAdd (eVar 4) (eOp gIx (eNd (nLst (aCons (eD (.str "")) (aCons (eD (.str "a")) (aCons (eD (.str "7")) aNil))))) (eCall f3_take (aCons (eVar 0) (aCons (eD (.int (3))) aNil))))))) aNil))))))
noncomputable def f3_pick : F3 := fdef false 2 0
  (sRt (eOp gIx (eVar 1) (eCall f3_take (aCons (eVar 0) (aCons (eB gLen (aCons (eVar 1) aNil)) aNil)))))
local macro_rules | `(tactic| walk_at "ix") => `(tactic| first | rfl | exact atI_cons0 | exact atI_map0)
local macro_rules | `(tactic| walk_at "st") => `(tactic| first | assumption | rfl | exact get_set (by assumption) | exact get_set (get_set (by assumption)) | exact get_last | exact get_setlast | exact get_setapp (by assumption) | exact get_app (by assumption) | exact get_app (get_set (by assumption)))
local macro_rules | `(tactic| walk_at "tk") => `(tactic| first | exact List.take_length | exact take_set | exact take_set2 | exact take_set3 | exact take_app | exact take_aset | exact take_setapp | rfl)
local macro_rules | `(tactic| walk_at "sd") => `(tactic| first | omega | assumption | decide)
local macro_rules | `(tactic| walk_at "wp1") => `(tactic| first
  | with_reducible refine wp_seq ?_ | with_reducible refine th_nx ?_ | with_reducible refine th_rt ?_ | with_reducible refine th_bk ?_ | with_reducible refine th_ct ?_
  | with_reducible refine wp_set ?_ | with_reducible refine wp_ex ?_ | with_reducible refine wp_rt ?_ | with_reducible refine wp_rtn ?_ | with_reducible refine wp_sif ?_ | with_reducible refine wp_asg ?_
  | with_reducible refine wp_for ?_ | with_reducible refine wp_pr ?_ | with_reducible refine pairW_i ?_ | with_reducible refine lq_nx ?_ | with_reducible refine lq_ct ?_ | with_reducible refine lq_bk ?_ | with_reducible refine lq_rt ?_ | with_reducible refine wp_dp ?_ | with_reducible refine wp_nx ?_ | with_reducible refine wp_bk ?_ | with_reducible refine wp_ct ?_
  | ((with_reducible apply wp_var); rfl) | with_reducible refine wp_d ?_ | with_reducible refine wp_ty ?_ | with_reducible refine wp_fz ?_ | with_reducible refine fz_d ?_ | ((with_reducible apply fz_r); (walk_at "st")) | with_reducible refine wp_nil ?_ | with_reducible refine wp_cons ?_
  | with_reducible refine wp_tup ?_ | with_reducible refine wp_nlst ?_ | with_reducible refine wp_ds0 ?_ | with_reducible refine wp_ds1 ?_ | with_reducible refine wp_nd ?_ | with_reducible refine wp_no ?_
  | with_reducible refine wp_gnm ?_ | with_reducible refine wp_gtp ?_ | with_reducible refine wp_gsn ?_ | with_reducible refine wp_gsc ?_ | with_reducible refine wp_gs ?_
  | with_reducible refine wp_ty3 ?_ | with_reducible refine datW_i ?_ | with_reducible refine wp_lc ?_ | with_reducible refine wp_ecmp ?_ | with_reducible refine wp_tcmp ?_ | with_reducible refine wp_ttr ?_ | with_reducible refine wp_not ?_ | with_reducible refine wp_tnt ?_ | with_reducible refine wp_tan ?_ | with_reducible refine wp_tor ?_
  | with_reducible refine wp_an ?_ | with_reducible refine boolW_i ?_ | with_reducible refine wp_or ?_ | with_reducible refine wp_eif ?_ | with_reducible refine wp_op ?_ | with_reducible refine wp_nop ?_ | with_reducible refine wp_onone ?_ | with_reducible refine wp_os ?_ | with_reducible refine intW_i ?_
  | with_reducible refine wp_esl ?_ | with_reducible refine wp_nsl ?_ | with_reducible refine wp_b ?_ | with_reducible refine wp_nb ?_ | with_reducible refine wp_call ?_ | with_reducible refine wp_sq ?_ | with_reducible refine sq_l ?_ | with_reducible refine sq_t ?_ | with_reducible refine sq_sc ?_ | ((with_reducible apply sq_r); (walk_at "st")) | with_reducible refine wp_r1 ?_ | with_reducible refine wp_r2 ?_ | with_reducible refine wp_irv ?_
  | with_reducible refine wp_me ?_ | with_reducible refine wp_join ?_ | with_reducible refine wp_dn ?_
  | with_reducible refine wp_viewd ?_ | ((with_reducible apply wp_viewr); (walk_at "st")) | ((with_reducible apply wp_lat); (walk_at "st")))
local macro_rules | `(tactic| walk_at "wp") => `(tactic| first
  | walk_at "wp1"
  | ((with_reducible apply atSet_i); (walk_at "st"); rfl) | ((with_reducible apply atLst_i); (walk_at "st")) | ((with_reducible apply nowLst_i); (walk_at "st"))
  | with_reducible refine wp_geqs ?_ | with_reducible refine wp_gnes ?_ | with_reducible refine wp_geqb ?_ | with_reducible refine wp_gneb ?_ | with_reducible refine wp_geq_nil ?_ | with_reducible refine wp_gne_nil ?_ | with_reducible refine wp_trul ?_ | with_reducible refine wp_trut ?_ | ((with_reducible apply wp_trur); (walk_at "st")) | with_reducible refine wp_trui ?_ | with_reducible refine wp_cutl ?_ | with_reducible refine wp_cutt ?_
  | with_reducible refine wp_l3l ?_ | with_reducible refine wp_l3t ?_ | ((with_reducible apply wp_l3r); (walk_at "st")) | ((with_reducible refine rng1_i ?_ ?_); (walk_at "sd")) | ((with_reducible refine rng2_i ?_ ?_); (walk_at "sd"))
  | with_reducible refine wp_addi ?_ | with_reducible refine wp_sub ?_ | ((with_reducible refine wp_mod ?_ ?_); (walk_at "sd")) | ((with_reducible refine wp_fdiv ?_ ?_); (walk_at "sd")) | ((with_reducible refine wp_mulr ?_ ?_); (walk_at "sd")) | ((with_reducible refine wp_mull ?_ ?_); (walk_at "sd")) | ((with_reducible refine wp_pow ?_ ?_); (walk_at "sd"))
  | with_reducible refine wp_int ?_ | with_reducible refine wp_abs ?_
  | ((with_reducible apply wp_ixd); (walk_at "ix")) | ((with_reducible apply wp_ixt); (walk_at "ix")) | ((with_reducible apply wp_ixr); (walk_at "st"); (walk_at "ix"))
  | with_reducible refine wp_lenl ?_ | with_reducible refine wp_lent ?_ | with_reducible refine wp_lensc ?_ | ((with_reducible apply wp_lenr); (walk_at "st"))
  | with_reducible refine wp_geqi ?_ | with_reducible refine wp_gnei ?_ | with_reducible refine wp_glti ?_ | with_reducible refine wp_ggti ?_ | with_reducible refine wp_glei ?_ | with_reducible refine wp_ggei ?_ | with_reducible refine wp_glts ?_ | with_reducible refine wp_ggts ?_
  | with_reducible refine is_bt_bt ?_ | with_reducible refine isn_bt_bt ?_ | with_reducible refine is_bt_bf ?_ | with_reducible refine isn_bt_bf ?_ | with_reducible refine is_bt_n ?_ | with_reducible refine isn_bt_n ?_ | with_reducible refine is_bf_bt ?_ | with_reducible refine isn_bf_bt ?_ | with_reducible refine is_bf_bf ?_ | with_reducible refine isn_bf_bf ?_ | with_reducible refine is_bf_n ?_ | with_reducible refine isn_bf_n ?_ | with_reducible refine is_n_bt ?_ | with_reducible refine isn_n_bt ?_ | with_reducible refine is_n_bf ?_ | with_reducible refine isn_n_bf ?_ | with_reducible refine is_n_n ?_ | with_reducible refine isn_n_n ?_ | with_reducible refine is_t_bt ?_ | with_reducible refine isn_t_bt ?_ | with_reducible refine is_t_bf ?_ | with_reducible refine isn_t_bf ?_ | with_reducible refine is_t_n ?_ | with_reducible refine isn_t_n ?_ | with_reducible refine is_l_bt ?_ | with_reducible refine isn_l_bt ?_ | with_reducible refine is_l_bf ?_ | with_reducible refine isn_l_bf ?_ | with_reducible refine is_l_n ?_ | with_reducible refine isn_l_n ?_ | with_reducible refine is_i_bt ?_ | with_reducible refine isn_i_bt ?_ | with_reducible refine is_i_bf ?_ | with_reducible refine isn_i_bf ?_ | with_reducible refine is_i_n ?_ | with_reducible refine isn_i_n ?_ | with_reducible refine is_s_bt ?_ | with_reducible refine isn_s_bt ?_ | with_reducible refine is_s_bf ?_ | with_reducible refine isn_s_bf ?_ | with_reducible refine is_s_n ?_ | with_reducible refine isn_s_n ?_
  | ((with_reducible refine wp_gis ?_ ?_); rfl) | ((with_reducible refine wp_gisn ?_ ?_); rfl) | with_reducible refine wp_trub ?_ | ((with_reducible refine isi_t (r := true) ?_ ?_); (decide +kernel)) | ((with_reducible refine isi_t (r := false) ?_ ?_); (decide +kernel)) | ((with_reducible refine isi_b (r := true) ?_ ?_); (decide +kernel)) | ((with_reducible refine isi_b (r := false) ?_ ?_); (decide +kernel)) | ((with_reducible refine isi_i (r := true) ?_ ?_); (decide +kernel)) | ((with_reducible refine isi_i (r := false) ?_ ?_); (decide +kernel)) | ((with_reducible refine isi_s (r := true) ?_ ?_); (decide +kernel)) | ((with_reducible refine isi_s (r := false) ?_ ?_); (decide +kernel)) | ((with_reducible refine isi_l (r := true) ?_ ?_); (decide +kernel)) | ((with_reducible refine isi_l (r := false) ?_ ?_); (decide +kernel)) | ((with_reducible refine isi_n (r := true) ?_ ?_); (decide +kernel)) | ((with_reducible refine isi_n (r := false) ?_ ?_); (decide +kernel))
  | with_reducible refine wp_tupl ?_ | with_reducible refine wp_tupt ?_ | ((with_reducible apply wp_tupr); (walk_at "st"))
  | with_reducible refine ite2 (fun _ => ?_) (fun z => absurd rfl z)
  | with_reducible refine ite2 (fun z => absurd z Bool.false_ne_true) (fun _ => ?_)
  | ((with_reducible apply rq_dt); (walk_at "tk")) | ((with_reducible apply rq_nxt); (walk_at "tk")))
local macro_rules | `(tactic| walk_at "fdef") => `(tactic| (refine wp_fdef rfl ?_; simp only [List.map_cons, List.map_nil, List.replicate_succ, List.replicate_zero, List.cons_append, List.nil_append]))
theorem take1 {o : List PyData} {m : Int} (ho : HandO o) (m0 : 0 < m) (m1 : m < 1000000) {Q : W3 → List MO → Prop} (q : ∀ (v : Int) (o' : List PyData), 0 ≤ v → v < m → HandO o' → Q (.d (.int v)) [.lst o']) : Wp2 (f3_take [.r 0, .d (.int m)] [.lst o]) Q := take3 rfl ho m0 m1 q
theorem shuffled1 {o : List PyData} {ds : List PyData} (ho : HandO o) (hl : ds.length ≤ 1000) {Q : W3 → List MO → Prop} (q : ∀ (es : List PyData) (o' : List PyData), es.Perm ds → HandO o' → Q (.d (.list es)) [.lst o']) : Wp2 (f3_shuffled [.r 0, .d (.list ds)] [.lst o]) Q := shuffled3 rfl ho hl q
theorem pick1 {o : List PyData} {ds : List PyData} (ho : HandO o) (h0 : 0 < ds.length) (hl : ds.length ≤ 1000) {Q : W3 → List MO → Prop} (q : ∀ (d : PyData) (o' : List PyData), d ∈ ds → HandO o' → Q (.d d) [.lst o']) : Wp2 (f3_pick [.r 0, .d (.list ds)] [.lst o]) Q := by
  unfold f3_pick
  walk_at "fdef"
  repeat walk_at "wp"
  refine take1 ho (by omega) (by omega) fun v o' v0 v1 h' => ?_
  repeat walk_at "wp"
  obtain ⟨k, rfl⟩ : ∃ k : Nat, v = (k : Int) := ⟨v.toNat, by omega⟩
  have hk : k < ds.length := by omega
  refine wp_ixd (atI_at (List.getElem?_eq_getElem hk)) ?_
  repeat walk_at "wp"
  exact q _ _ (List.getElem_mem hk) h'
def heads : Str := "ABCDEFGHIJKLMNOPQRSTUVWXYZABCDEFGHIJKLMNOPQRSTUVWXYZ"
theorem heads_cl : cl heads = (List.range 52).map fun j => 65 + j % 26 := by decide +kernel
theorem wp_ist {f : FE} {sl : Sl} {S : List MO} {QI : It3 → List MO → Prop} (h : Wp2 (f sl S) fun p1 p2 => ∃ x, p1 = .d (.str x) ∧ QI ⟨x.cps.toList.map fun c => .d (.str ⟨#[c]⟩), yes⟩ p2) : Wp2 (iSt f sl S) QI := wp_bind.mpr (Wp.imp h fun p hp => by
  obtain ⟨x, e, q⟩ := hp
  rw [e]
  exact wp_some.mpr q)
theorem wp_cuts {l h : Option Int} {z : Str} {P : PyData → Prop} (hl : z.length ≤ 100000) (q : P (.str (cutS z l h))) : Wp (gCut l h (.str z)) P := wp_eq (if_pos hl) q
theorem cutS_cl {z : Str} {k m : Nat} (h : k + m ≤ (cl z).length) : cl (cutS z (some (k : Int)) (some ((k : Int) + (m : Int)))) = ((cl z).drop k).take m := by
  have hl : z.length = (cl z).length := by show z.cps.size = z.cps.toList.length; rw [Array.length_toList]
  unfold cutS
  show (z.cps.toList.drop (HT.sIx z.length 0 (some (k : Int)))).take (HT.sIx z.length z.length (some ((k : Int) + (m : Int))) - HT.sIx z.length 0 (some (k : Int))) = _
  rw [← Int.natCast_add, HT.sIx_nat, HT.sIx_nat, hl, Nat.min_eq_left (show k ≤ (cl z).length by omega), Nat.min_eq_left h, Nat.add_sub_cancel_left]
theorem nm_ok {s : Str} (h : ∀ x ∈ cl s, x < 200) (hl : (cl s).length ≤ 100) : PyData.strOk s = true ∧ s.length ≤ 100 := by
  have len : s.length = (cl s).length := by
    show s.cps.size = s.cps.toList.length
    rw [Array.length_toList]
  have al : PyData.strOk s = (cl s).all fun x => decide (x < 0x110000) := by
    show s.cps.all (· < 0x110000) = _
    rw [Array.all_toList]
  rw [al, len, List.all_eq_true]
  exact ⟨fun x hx => decide_eq_true (by have := h x hx; omega), hl⟩
/-- a name by its first sign -/
def Hd (c : Nat) (s : Str) : Prop := ∃ suf : List Nat, cl s = c :: suf ∧ suf.length ≤ 1 ∧ ∀ x ∈ suf, x < 200
theorem Hd.inj {c d : Nat} {s : Str} (h : Hd c s) (k : Hd d s) : c = d := by
  obtain ⟨a, e1, _⟩ := h
  obtain ⟨b, e2, _⟩ := k
  rw [e1] at e2
  cases e2; rfl
theorem switches57 {o : List PyData} {m : Nat} (ho : HandO o) (h1 : 1 ≤ m) (h4 : m ≤ 4) {Q : W3 → List MO → Prop} (q : ∀ (ns : List Str) (o' : List PyData), NS ns → ns.length = m → HandO o' → Q (.d (strsD ns)) [.lst o']) : Wp2 (f3_gd_switches [.r 0, .d (.int m)] [.lst o]) Q := by
  unfold f3_gd_switches
  walk_at "fdef"
  repeat walk_at "wp"
  refine take1 ho (by decide) (by decide) fun v o1 v0 v1 ho1 => ?_
  obtain ⟨k, rfl⟩ : ∃ k : Nat, v = (k : Int) := ⟨v.toNat, by omega⟩
  repeat walk_at "wp"
  have hlen : (cl heads).length = 52 := by rw [heads_cl, List.length_map, List.length_range]
  refine wp_cuts (z := heads) (by decide +kernel) ?_
  have hcut := cutS_cl (z := heads) (k := k) (m := m) (by omega)
  rw [heads_cl, ← List.map_drop, ← List.map_take] at hcut
  generalize cutS heads (some (k : Int)) (some ((k : Int) + (m : Int))) = hd at hcut ⊢
  repeat walk_at "wp"
  refine wp_ist ?_
  repeat walk_at "wp"
  refine ⟨_, rfl, ?_⟩
  have hat : ∀ j, j < m → hd.cps.toList[j]? = some (65 + (k + j) % 26) := fun j hj => by
    show (cl hd)[j]? = _
    rw [hcut, List.getElem?_map, List.getElem?_take_of_lt hj, List.getElem?_drop, List.getElem?_range (by omega)]; rfl
  have hdl : hd.cps.toList.length = m := by
    show (cl hd).length = m
    rw [hcut, List.length_map, List.length_take, List.length_drop, List.length_range]; omega
  refine ⟨by rw [List.length_map, hdl]; omega, ?_⟩
  refine wp_comp (n := 0) (acc := []) (fun i acc S' => ∃ (ss : List Str) (o : List PyData), acc = ss.map .str ∧ ss.length = i ∧ (∀ j s, ss[j]? = some s → Hd (65 + (k + j) % 26) s) ∧ S' = [.lst o] ∧ HandO o) ⟨[], o1, rfl, rfl, fun j s e => by simp at e, rfl, ho1⟩ (fun _ _ _ _ => rfl) (fun i w acc S' hw hi hp => ?_) (fun ys S' hp => ?_)
  · obtain ⟨ss, o2, rfl, hsl, hss, rfl, ho2⟩ := hp
    rw [List.getElem?_map, Nat.sub_zero] at hw
    obtain ⟨c, hc, rfl⟩ := Option.map_eq_some_iff.mp hw
    have hi2 : i < m := by rw [← hdl]; exact (List.getElem?_eq_some_iff.mp hc).1
    rw [hat i hi2] at hc
    cases hc
    repeat walk_at "wp"
    refine take1 ho2 (by decide) (by decide) fun v o3 u0 u1 ho3 => ?_
    repeat walk_at "wp"
    obtain ⟨r, rfl⟩ : ∃ r : Nat, v = (r : Int) := ⟨v.toNat, by omega⟩
    have fin : ∀ (t : Str), (cl t).length ≤ 1 → (∀ x ∈ cl t, x < 200) → Hd (65 + (k + i) % 26) ((⟨#[65 + (k + i) % 26]⟩ : Str) ++ t) := fun t h1 h2 => ⟨cl t, by rw [cl_append]; rfl, h1, h2⟩
    have go : ∀ (t : Str), atI [PyData.str (Str.ofString ""), PyData.str (Str.ofString "a"), PyData.str (Str.ofString "7")] (r : Int) = some (.str t) → (cl t).length ≤ 1 → (∀ x ∈ cl t, x < 200) → t.length ≤ 100 → True := fun _ _ _ _ _ => trivial
    have ex : ∃ t : Str, atI [PyData.str (Str.ofString ""), PyData.str (Str.ofString "a"), PyData.str (Str.ofString "7")] (r : Int) = some (.str t) ∧ (cl t).length ≤ 1 ∧ (∀ x ∈ cl t, x < 200) ∧ t.length ≤ 100 := by
      have : r = 0 ∨ r = 1 ∨ r = 2 := by omega
      rcases this with rfl | rfl | rfl
      · exact ⟨_, rfl, by decide +kernel, by decide +kernel, by decide +kernel⟩
      · exact ⟨_, rfl, by decide +kernel, by decide +kernel, by decide +kernel⟩
      · exact ⟨_, rfl, by decide +kernel, by decide +kernel, by decide +kernel⟩
    obtain ⟨t, et, t1, t2, t3⟩ := ex
    refine wp_ixd et ?_
    repeat walk_at "wp"
    refine wp_adds (by show 1 + t.length ≤ _; omega) ?_
    repeat walk_at "wp"
    refine ⟨ss ++ [_], o3, by rw [List.map_append]; rfl, by rw [List.length_append, hsl]; rfl, fun j s e => ?_, rfl, ho3⟩
    rcases Nat.lt_or_ge j ss.length with lt | ge
    · rw [List.getElem?_append_left lt] at e
      exact hss j s e
    · rw [List.getElem?_append_right ge] at e
      have hj : j = ss.length := by
        have := (List.getElem?_eq_some_iff.mp e).1
        rw [List.length_singleton] at this
        omega
      subst hj
      rw [Nat.sub_self] at e
      cases e
      rw [hsl]
      exact fin t t1 t2
  · obtain ⟨ss, o2, e1, hsl, hss, rfl, ho2⟩ := hp
    rw [List.nil_append] at e1
    subst e1
    rw [Nat.zero_add, List.length_map, hdl] at hsl
    have nd : ss.Nodup := by
      refine List.pairwise_iff_getElem.mpr fun i j hi hj hij e => ?_
      have a := hss i _ (List.getElem?_eq_getElem hi)
      have b := hss j _ (List.getElem?_eq_getElem hj)
      rw [e] at a
      have := a.inj b
      omega
    repeat walk_at "wp"
    refine wp_sort_strs nd fun ms pm st => ?_
    repeat walk_at "wp"
    refine q ms o2 ⟨st, fun n hn => ?_, by rw [pm.length_eq]; omega⟩ (by rw [pm.length_eq]; exact hsl) ho2
    obtain ⟨j, hj⟩ := List.getElem?_of_mem (pm.mem_iff.mp hn)
    obtain ⟨suf, e1, e2, e3⟩ := hss j n hj
    refine nm_ok (fun x hx => ?_) (by rw [e1, List.length_cons]; omega)
    rw [e1] at hx
    rcases List.mem_cons.mp hx with rfl | hx
    · omega
    · exact e3 x hx
end EA
namespace EA
open PySem PySem.Spec PyProof.Rows L2
local macro_rules | `(tactic| walk_at "ix") => `(tactic| first | rfl | exact atI_cons0 | exact atI_map0)
local macro_rules | `(tactic| walk_at "st") => `(tactic| first | assumption | rfl | exact get_set (by assumption) | exact get_set (get_set (by assumption)) | exact get_last | exact get_setlast | exact get_setapp (by assumption) | exact get_app (by assumption) | exact get_app (get_set (by assumption)))
local macro_rules | `(tactic| walk_at "tk") => `(tactic| first | exact List.take_length | exact take_set | exact take_set2 | exact take_set3 | exact take_app | exact take_aset | exact take_setapp | rfl)
local macro_rules | `(tactic| walk_at "sd") => `(tactic| first | omega | assumption | decide)
local macro_rules | `(tactic| walk_at "wp1") => `(tactic| first
  | with_reducible refine wp_seq ?_ | with_reducible refine th_nx ?_ | with_reducible refine th_rt ?_ | with_reducible refine th_bk ?_ | with_reducible refine th_ct ?_
  | with_reducible refine wp_set ?_ | with_reducible refine wp_ex ?_ | with_reducible refine wp_rt ?_ | with_reducible refine wp_rtn ?_ | with_reducible refine wp_sif ?_ | with_reducible refine wp_asg ?_
  | with_reducible refine wp_for ?_ | with_reducible refine wp_pr ?_ | with_reducible refine pairW_i ?_ | with_reducible refine lq_nx ?_ | with_reducible refine lq_ct ?_ | with_reducible refine lq_bk ?_ | with_reducible refine lq_rt ?_ | with_reducible refine wp_dp ?_ | with_reducible refine wp_nx ?_ | with_reducible refine wp_bk ?_ | with_reducible refine wp_ct ?_
  | ((with_reducible apply wp_var); rfl) | with_reducible refine wp_d ?_ | with_reducible refine wp_ty ?_ | with_reducible refine wp_fz ?_ | with_reducible refine fz_d ?_ | ((with_reducible apply fz_r); (walk_at "st")) | with_reducible refine wp_nil ?_ | with_reducible refine wp_cons ?_
  | with_reducible refine wp_tup ?_ | with_reducible refine wp_nlst ?_ | with_reducible refine wp_ds0 ?_ | with_reducible refine wp_ds1 ?_ | with_reducible refine wp_nd ?_ | with_reducible refine wp_no ?_
  | with_reducible refine wp_gnm ?_ | with_reducible refine wp_gtp ?_ | with_reducible refine wp_gsn ?_ | with_reducible refine wp_gsc ?_ | with_reducible refine wp_gs ?_
  | with_reducible refine wp_ty3 ?_ | with_reducible refine datW_i ?_ | with_reducible refine wp_lc ?_ | with_reducible refine wp_ecmp ?_ | with_reducible refine wp_tcmp ?_ | with_reducible refine wp_ttr ?_ | with_reducible refine wp_not ?_ | with_reducible refine wp_tnt ?_ | with_reducible refine wp_tan ?_ | with_reducible refine wp_tor ?_
  | with_reducible refine wp_an ?_ | with_reducible refine boolW_i ?_ | with_reducible refine wp_or ?_ | with_reducible refine wp_eif ?_ | with_reducible refine wp_op ?_ | with_reducible refine wp_nop ?_ | with_reducible refine wp_onone ?_ | with_reducible refine wp_os ?_ | with_reducible refine intW_i ?_
  | with_reducible refine wp_esl ?_ | with_reducible refine wp_nsl ?_ | with_reducible refine wp_b ?_ | with_reducible refine wp_nb ?_ | with_reducible refine wp_call ?_ | with_reducible refine wp_sq ?_ | with_reducible refine sq_l ?_ | with_reducible refine sq_t ?_ | with_reducible refine sq_sc ?_ | ((with_reducible apply sq_r); (walk_at "st")) | with_reducible refine wp_r1 ?_ | with_reducible refine wp_r2 ?_ | with_reducible refine wp_irv ?_
  | with_reducible refine wp_me ?_ | with_reducible refine wp_join ?_ | with_reducible refine wp_dn ?_
  | with_reducible refine wp_viewd ?_ | ((with_reducible apply wp_viewr); (walk_at "st")) | ((with_reducible apply wp_lat); (walk_at "st")))
local macro_rules | `(tactic| walk_at "wp") => `(tactic| first
  | walk_at "wp1"
  | ((with_reducible apply atSet_i); (walk_at "st"); rfl) | ((with_reducible apply atLst_i); (walk_at "st")) | ((with_reducible apply nowLst_i); (walk_at "st"))
  | with_reducible refine wp_geqs ?_ | with_reducible refine wp_gnes ?_ | with_reducible refine wp_geqb ?_ | with_reducible refine wp_gneb ?_ | with_reducible refine wp_geq_nil ?_ | with_reducible refine wp_gne_nil ?_ | with_reducible refine wp_trul ?_ | with_reducible refine wp_trut ?_ | ((with_reducible apply wp_trur); (walk_at "st")) | with_reducible refine wp_trui ?_ | with_reducible refine wp_cutl ?_ | with_reducible refine wp_cutt ?_
  | with_reducible refine wp_l3l ?_ | with_reducible refine wp_l3t ?_ | ((with_reducible apply wp_l3r); (walk_at "st")) | ((with_reducible refine rng1_i ?_ ?_); (walk_at "sd")) | ((with_reducible refine rng2_i ?_ ?_); (walk_at "sd"))
  | with_reducible refine wp_addi ?_ | with_reducible refine wp_sub ?_ | ((with_reducible refine wp_mod ?_ ?_); (walk_at "sd")) | ((with_reducible refine wp_fdiv ?_ ?_); (walk_at "sd")) | ((with_reducible refine wp_mulr ?_ ?_); (walk_at "sd")) | ((with_reducible refine wp_mull ?_ ?_); (walk_at "sd")) | ((with_reducible refine wp_pow ?_ ?_); (walk_at "sd"))
  | with_reducible refine wp_int ?_ | with_reducible refine wp_abs ?_
  | ((with_reducible apply wp_ixd); (walk_at "ix")) | ((with_reducible apply wp_ixt); (walk_at "ix")) | ((with_reducible apply wp_ixr); (walk_at "st"); (walk_at "ix"))
  | with_reducible refine wp_lenl ?_ | with_reducible refine wp_lent ?_ | with_reducible refine wp_lensc ?_ | ((with_reducible apply wp_lenr); (walk_at "st"))
  | with_reducible refine wp_geqi ?_ | with_reducible refine wp_gnei ?_ | with_reducible refine wp_glti ?_ | with_reducible refine wp_ggti ?_ | with_reducible refine wp_glei ?_ | with_reducible refine wp_ggei ?_ | with_reducible refine wp_glts ?_ | with_reducible refine wp_ggts ?_
  | with_reducible refine is_bt_bt ?_ | with_reducible refine isn_bt_bt ?_ | with_reducible refine is_bt_bf ?_ | with_reducible refine isn_bt_bf ?_ | with_reducible refine is_bt_n ?_ | with_reducible refine isn_bt_n ?_ | with_reducible refine is_bf_bt ?_ | with_reducible refine isn_bf_bt ?_ | with_reducible refine is_bf_bf ?_ | with_reducible refine isn_bf_bf ?_ | with_reducible refine is_bf_n ?_ | with_reducible refine isn_bf_n ?_ | with_reducible refine is_n_bt ?_ | with_reducible refine isn_n_bt ?_ | with_reducible refine is_n_bf ?_ | with_reducible refine isn_n_bf ?_ | with_reducible refine is_n_n ?_ | with_reducible refine isn_n_n ?_ | with_reducible refine is_t_bt ?_ | with_reducible refine isn_t_bt ?_ | with_reducible refine is_t_bf ?_ | with_reducible refine isn_t_bf ?_ | with_reducible refine is_t_n ?_ | with_reducible refine isn_t_n ?_ | with_reducible refine is_l_bt ?_ | with_reducible refine isn_l_bt ?_ | with_reducible refine is_l_bf ?_ | with_reducible refine isn_l_bf ?_ | with_reducible refine is_l_n ?_ | with_reducible refine isn_l_n ?_ | with_reducible refine is_i_bt ?_ | with_reducible refine isn_i_bt ?_ | with_reducible refine is_i_bf ?_ | with_reducible refine isn_i_bf ?_ | with_reducible refine is_i_n ?_ | with_reducible refine isn_i_n ?_ | with_reducible refine is_s_bt ?_ | with_reducible refine isn_s_bt ?_ | with_reducible refine is_s_bf ?_ | with_reducible refine isn_s_bf ?_ | with_reducible refine is_s_n ?_ | with_reducible refine isn_s_n ?_
  | ((with_reducible refine wp_gis ?_ ?_); rfl) | ((with_reducible refine wp_gisn ?_ ?_); rfl) | with_reducible refine wp_trub ?_ | ((with_reducible refine isi_t (r := true) ?_ ?_); (decide +kernel)) | ((with_reducible refine isi_t (r := false) ?_ ?_); (decide +kernel)) | ((with_reducible refine isi_b (r := true) ?_ ?_); (decide +kernel)) | ((with_reducible refine isi_b (r := false) ?_ ?_); (decide +kernel)) | ((with_reducible refine isi_i (r := true) ?_ ?_); (decide +kernel)) | ((with_reducible refine isi_i (r := false) ?_ ?_); (decide +kernel)) | ((with_reducible refine isi_s (r := true) ?_ ?_); (decide +kernel)) | ((with_reducible refine isi_s (r := false) ?_ ?_); (decide +kernel)) | ((with_reducible refine isi_l (r := true) ?_ ?_); (decide +kernel)) | ((with_reducible refine isi_l (r := false) ?_ ?_); (decide +kernel)) | ((with_reducible refine isi_n (r := true) ?_ ?_); (decide +kernel)) | ((with_reducible refine isi_n (r := false) ?_ ?_); (decide +kernel))
  | with_reducible refine wp_tupl ?_ | with_reducible refine wp_tupt ?_ | ((with_reducible apply wp_tupr); (walk_at "st"))
  | with_reducible refine ite2 (fun _ => ?_) (fun z => absurd rfl z)
  | with_reducible refine ite2 (fun z => absurd z Bool.false_ne_true) (fun _ => ?_)
  | ((with_reducible apply rq_dt); (walk_at "tk")) | ((with_reducible apply rq_nxt); (walk_at "tk")))
local macro_rules | `(tactic| walk_at "fdef") => `(tactic| (refine wp_fdef rfl ?_; simp only [List.map_cons, List.map_nil, List.replicate_succ, List.replicate_zero, List.cons_append, List.nil_append]))
/-! ### the outcomes, by their numbers -/
def wd : Nat → Str
  | 2 => "stuck"
  | 3 => "hole"
  | 4 => "fuel"
  | _ => "value"
def ax : Nat → PyData
  | 0 => .tuple [.str "number", .int 1]
  | 1 => .tuple [.str "truth", .bool true]
  | 2 => .int 3
  | 3 => .int 3
  | 4 => .none
  | 5 => .tuple [.str "number", .int 0]
  | _ => .tuple [.str "number", .int 1]
def bx : Nat → PyData
  | 0 => .int 0
  | 1 => .int 0
  | 2 => .int 1
  | 3 => .int 1
  | 4 => .int 400
  | 5 => .int 0
  | _ => .int 1
def out (i : Nat) : PyData := .tuple [.str (wd i), ax i, bx i]
theorem out_eqv : ∀ i, i < 7 → ∀ j, j < 7 → PyData.eqv (out i) (out j) = decide (i = j) := by decide +kernel
theorem out_dep : ∀ i, i < 7 → (out i).depth ≤ 40 := by decide +kernel
theorem wp_geq_out {i j : Nat} {PB : Bool → Prop} (hi : i < 7) (hj : j < 7) (h : PB (decide (i = j))) : Wp (gEq (out i) (out j)) PB := wp_geq (.inl (out_dep i hi)) (by rw [out_eqv i hi j hj]; exact h)
theorem wp_gne_out {i j : Nat} {PB : Bool → Prop} (hi : i < 7) (hj : j < 7) (h : PB (!decide (i = j))) : Wp (gNe (out i) (out j)) PB := wp_gne (.inl (out_dep i hi)) (by rw [out_eqv i hi j hj]; exact h)
theorem any_out {i : Nat} (hi : i < 7) : ∀ {vs : List Nat}, (∀ v ∈ vs, v < 7) → ((vs.map out).any fun y => PyData.eqv y (out i)) = decide (i ∈ vs)
  | [], _ => by simp
  | v :: r, h => by
    rw [List.map_cons, List.any_cons, any_out hi fun x hx => h x (List.mem_cons_of_mem _ hx), out_eqv v (h v List.mem_cons_self) i hi]
    by_cases e : v = i
    · subst e; simp
    · have e2 : i ≠ v := fun z => e z.symm
      simp [e, e2]
theorem wp_gnin_out {i : Nat} {vs : List Nat} {PB : Bool → Prop} (hi : i < 7) (hv : ∀ v ∈ vs, v < 7) (h : PB (!decide (i ∈ vs))) : Wp (gNin (out i) (.list (vs.map out))) PB :=
  wp_nin (wp_eq (if_pos (.inr (out_dep i hi))) (any_out hi hv)) h
abbrev pieceD (p : C × Nat) : PyData := .tuple [p.1.enc, out p.2]
theorem table57 {ns : List Str} {vs : List Nat} {S : List MO} (hn : NS ns) (hv : vs.length = 2 ^ ns.length) (h7 : ∀ v ∈ vs, v < 7) :
    ∃ told : List (C × Nat), f3_gd_table [.d (.list (vs.map out)), .d (strsD ns)] S = some (.d (.tuple (told.map pieceD)), S) ∧ (∀ p ∈ told, Rep ns p.1 (vs.map fun v => decide (v = p.2))) ∧ (∀ i, i ∈ told.map (·.2) ↔ i ∈ vs) ∧ told.length ≤ vs.length := by
  suffices h : Wp2 (f3_gd_table [.d (.list (vs.map out)), .d (strsD ns)] S) fun a b => ∃ told : List (C × Nat), (a = .d (.tuple (told.map pieceD)) ∧ b = S) ∧ (∀ p ∈ told, Rep ns p.1 (vs.map fun v => decide (v = p.2))) ∧ (∀ i, i ∈ told.map (·.2) ↔ i ∈ vs) ∧ told.length ≤ vs.length by
    obtain ⟨⟨a, b⟩, e, told, ⟨h1, h2⟩, h3⟩ := h
    dsimp only at h1 h2
    subst h1 h2
    exact ⟨told, e, h3⟩
  have few := hn.few
  have vl : vs.length ≤ 4096 := by rw [hv]; exact Nat.le_trans (Nat.pow_le_pow_right (by decide) few) (by decide)
  unfold f3_gd_table
  walk_at "fdef"
  repeat walk_at "wp"
  have l1 : (S ++ [MO.lst []]).length = S.length + 1 := by rw [List.length_append]; rfl
  try rw [l1]
  refine wp_loop (n := 0) (fun i sl S' => ∃ (told : List (C × Nat)) (x y : Option W3), sl = [some (.d (.list (vs.map out))), some (.d (strsD ns)), some (.r S.length), some (.r (S.length + 1)), x, y] ∧ S'.take S.length = S ∧ S'[S.length]? = some (.lst ((told.map (·.2)).map out)) ∧ S'[S.length + 1]? = some (.lst (told.map pieceD)) ∧
      (∀ p ∈ told, Rep ns p.1 (vs.map fun v => decide (v = p.2))) ∧ (∀ i', i' ∈ told.map (·.2) ↔ i' ∈ vs.take i) ∧ told.length ≤ i)
    ⟨[], _, _, rfl, ?_, ?_, ?_, by simp, by simp, Nat.le_refl _⟩ (fun _ _ _ _ => rfl) (fun i w sl S' hw hi hp => ?_) (fun sl S' hp => ?_)
  · rw [List.append_assoc, List.take_append_of_le_length (Nat.le_refl _), List.take_length]
  · rw [List.append_assoc, List.getElem?_append_right (Nat.le_refl _), Nat.sub_self]; rfl
  · rw [List.append_assoc, List.getElem?_append_right (by omega), show S.length + 1 - S.length = 1 by omega]; rfl
  · obtain ⟨told, x, y, rfl, hT, hS, hL, hR, hm, htl⟩ := hp
    rw [List.map_map, List.getElem?_map, Nat.sub_zero] at hw
    obtain ⟨v, hvi, rfl⟩ := Option.map_eq_some_iff.mp hw
    have hv7 := h7 v (List.mem_of_getElem? hvi)
    have hlt := (List.getElem?_eq_some_iff.mp hvi).1
    have et : vs.take (i + 1) = vs.take i ++ [v] := by rw [List.take_succ, hvi]; rfl
    have t7 : ∀ u ∈ told.map (·.2), u < 7 := fun u hu => h7 u (List.mem_of_mem_take ((hm u).mp hu))
    show Wp2 (gNm 4 (.d (out v)) _ _) _
    repeat walk_at "wp"
    refine wp_gnin_out hv7 t7 ?_
    refine ite2 (fun c => ?_) (fun c => ?_)
    · have nv : v ∉ told.map (·.2) := by simpa using c
      repeat walk_at "wp"
      refine wp_app (by rw [List.length_map, List.length_map]; omega) ?_
      have mS : (S'.set S.length (MO.lst ((told.map (·.2)).map out ++ [out v])))[S.length]? = some (.lst ((told.map (·.2)).map out ++ [out v])) := get_set hS
      have mL : (S'.set S.length (MO.lst ((told.map (·.2)).map out ++ [out v])))[S.length + 1]? = some (.lst (told.map pieceD)) := get_setne (by omega) hL
      have mT : (S'.set S.length (MO.lst ((told.map (·.2)).map out ++ [out v]))).take S.length = S := take_setge (by omega) hT
      generalize S'.set S.length (MO.lst ((told.map (·.2)).map out ++ [out v])) = S2 at *
      clear hS hL hT S'
      repeat walk_at "wp"
      refine ⟨by rw [List.length_map, List.length_map]; omega, ?_⟩
      refine wp_all vs (fun u => .d (out u)) (fun u => .bool (decide (u = v))) (by rw [List.map_map]; rfl) rfl (fun u hu => ?_) ?_ gnm_st
      · repeat walk_at "wp"
        refine wp_geq_out (h7 u hu) hv7 ?_
        exact ⟨rfl, rfl⟩
      rw [show vs.map (fun u => PyData.bool (decide (u = v))) = (vs.map fun u => decide (u = v)).map PyData.bool by rw [List.map_map]; rfl]
      obtain ⟨cd, R, eg⟩ := grown3 60 (S := S2) (row := vs.map fun u => decide (u = v)) (show ns.length < 60 by omega) hn (by rw [List.length_map]; exact hv)
      repeat walk_at "wp"
      refine wp2_eq eg ?_
      repeat walk_at "wp"
      refine wp_app (by rw [List.length_map]; omega) ?_
      repeat walk_at "wp"
      refine ⟨told ++ [(cd, v)], _, _, rfl, take_setge (by omega) mT, ?_, ?_, fun p hp => ?_, fun i' => ?_, by rw [List.length_append]; exact Nat.succ_le_succ htl⟩
      · rw [get_setne (by omega) mS, List.map_append, List.map_append]; rfl
      · rw [get_set mL, List.map_append]; rfl
      · rcases List.mem_append.mp hp with hp | hp
        · exact hR p hp
        · have e : p = (cd, v) := by simpa using hp
          rw [e]; exact R
      · rw [et, List.map_append, List.mem_append, List.mem_append, hm]
        simp
    · have nv : v ∈ told.map (·.2) := by simpa using c
      repeat walk_at "wp"
      refine ⟨told, _, _, rfl, hT, hS, hL, hR, fun i' => ?_, by omega⟩
      rw [et, List.mem_append, hm]
      constructor
      · exact .inl
      · rintro (h | h)
        · exact h
        · have e : i' = v := by simpa using h
          rw [e]; exact (hm v).mp nv
  · obtain ⟨told, x, y, rfl, hT, hS, hL, hR, hm, htl⟩ := hp
    repeat walk_at "wp"
    rw [Nat.zero_add, List.length_map, List.length_map, List.take_length] at hm
    rw [Nat.zero_add, List.length_map, List.length_map] at htl
    exact ⟨told, ⟨rfl, hT⟩, hR, hm, htl⟩
theorem outcome57 {ns : List Str} {told : List (C × Nat)} {w : Str} {S : List MO} (hn : NS ns) (hc : ∀ p ∈ told, OC ns p.1) :
    ∃ e, OC ns e ∧ (∀ f, e.ev f = told.any fun p => (wd p.2 == w) && p.1.ev f) ∧ f3_outcome_condition [.d (.tuple (told.map pieceD)), .d (.str w)] S = some (.d e.enc, S) := by
  suffices h : Wp2 (f3_outcome_condition [.d (.tuple (told.map pieceD)), .d (.str w)] S) fun a b => ∃ e, OC ns e ∧ (∀ f, e.ev f = told.any fun p => (wd p.2 == w) && p.1.ev f) ∧ a = .d e.enc ∧ b = S by
    obtain ⟨⟨a, b⟩, r, e, h1, h2, h3, h4⟩ := h
    dsimp only at h3 h4
    subst h3 h4
    exact ⟨e, h1, h2, r⟩
  unfold f3_outcome_condition
  walk_at "fdef"
  repeat walk_at "wp"
  refine wp_loop (n := 0) (fun i sl S' => ∃ (e : C) (x y : Option W3), sl = [some (.d (.tuple (told.map pieceD))), some (.d (.str w)), some (.d e.enc), x, y] ∧ OC ns e ∧ (∀ f, e.ev f = (told.take i).any fun p => (wd p.2 == w) && p.1.ev f) ∧ S' = S)
    ⟨.b false, _, _, rfl, .leaf _, fun f => by simp [C.ev], rfl⟩ (fun _ _ _ _ => rfl) (fun i w' sl S' hw hi hp => ?_) (fun sl S' hp => ?_)
  · obtain ⟨e, x, y, rfl, oe, ve, rfl⟩ := hp
    rw [List.map_map, List.getElem?_map, Nat.sub_zero] at hw
    obtain ⟨p, hpi, rfl⟩ := Option.map_eq_some_iff.mp hw
    have et : told.take (i + 1) = told.take i ++ [p] := by rw [List.take_succ, hpi]; rfl
    have op := hc p (List.mem_of_getElem? hpi)
    show Wp2 (gTp _ (.d (.tuple [p.1.enc, .tuple [.str (wd p.2), ax p.2, bx p.2]])) _ _) _
    repeat walk_at "wp"
    refine ite2 (fun c => ?_) (fun c => ?_)
    · obtain ⟨e2, o2, v2, r2⟩ := either3 (S := S') hn oe op
      repeat walk_at "wp"
      refine wp2_eq r2 ?_
      repeat walk_at "wp"
      refine ⟨e2, _, _, rfl, o2, fun f => ?_, rfl⟩
      rw [v2, ve, et, List.any_append, List.any_cons, List.any_nil, Bool.or_false, c, Bool.true_and]
    · repeat walk_at "wp"
      refine ⟨e, _, _, rfl, oe, fun f => ?_, rfl⟩
      rw [ve, et, List.any_append, List.any_cons, List.any_nil, Bool.or_false, Bool.eq_false_iff.mpr c, Bool.false_and, Bool.or_false]
  · obtain ⟨e, x, y, rfl, oe, ve, rfl⟩ := hp
    repeat walk_at "wp"
    rw [Nat.zero_add, List.length_map, List.length_map, List.take_length] at ve
    exact ⟨e, oe, ve, rfl, rfl⟩
/-! ### sorted sets of texts, two fors -/
theorem wp_two {α : Type} {ok : List MO → Bool} {g g1 : FG} {t t1 : FT} {it1 : FI} {e : FE} {vs1 : List Nat} {sl : Sl} {S : List MO} {QN : List PyData → List MO → Prop} {ws : List W3} (xs : List α) (w : α → W3) (L : α → List PyData) (hws : ws = xs.map w) (hok : ok S = true) : (∀ x ∈ xs, Wp2 (g (w x) sl S) fun p1 p2 => Wp2 (t p1 p2) fun b S1 => b = true ∧ Wp2 (it1 p1 S1) fun j S2 => Wp2 (cLoop j.ok g1 t1 e (wipe3 p1 vs1) j.ws S2) fun ys S3 => ys = L x ∧ S3 = S) →
    QN (xs.flatMap L) S → Wp2 (cLoop2 ok g t it1 g1 t1 e vs1 sl ws S) QN := by
  subst hws
  suffices k : ∀ (xs : List α), (∀ x ∈ xs, Wp2 (g (w x) sl S) fun p1 p2 => Wp2 (t p1 p2) fun b S1 => b = true ∧ Wp2 (it1 p1 S1) fun j S2 => Wp2 (cLoop j.ok g1 t1 e (wipe3 p1 vs1) j.ws S2) fun ys S3 => ys = L x ∧ S3 = S) → cLoop2 ok g t it1 g1 t1 e vs1 sl (xs.map w) S = some (xs.flatMap L, S) from
    fun h q => wp2_eq (k xs h) q
  intro xs
  induction xs with
  | nil => intro _; rw [List.map_nil, cLoop2, if_pos hok]; rfl
  | cons x r ih =>
    intro h
    obtain ⟨⟨p1, p2⟩, e1, ⟨b, S1⟩, e2, hb, ⟨j, S2⟩, e3, ⟨ys, S3⟩, e4, h5, h6⟩ := h x List.mem_cons_self
    dsimp only at hb e2 e3 e4 h5 h6
    subst hb h5 h6
    rw [List.map_cons, cLoop2, if_pos hok, e1]
    simp only [Option.bind_some, e2, if_true, e3, e4]
    rw [ih fun y hy => h y (List.mem_cons_of_mem _ hy)]
    rfl
theorem wp_nsc2 {it it1 : FI} {g g1 : FG} {t t1 : FT} {e : FE} {vs vs1 : List Nat} {sl : Sl} {S : List MO} {QN : List PyData → List MO → Prop} (h : Wp2 (it sl S) fun j S1 => Wp2 (cLoop2 j.ok g t it1 g1 t1 e vs1 (wipe3 sl vs) j.ws S1) fun ys S2 => ys.length ≤ 2000 ∧ ∃ ks : List Str, ys = ks.map .str ∧ QN ((sset ltS ks).map .str) S2) : Wp2 (nSc2 vs vs1 it g t it1 g1 t1 e sl S) QN := by
  obtain ⟨⟨j, S1⟩, e1, ⟨ys, S2⟩, e2, h1, ks, h2, q⟩ := h
  dsimp only at e2 h1 h2 q
  subst h2
  refine wp_eq (a := ((sset ltS ks).map .str, S2)) ?_ q
  unfold nSc2
  rw [e1]
  simp only [Option.bind_some, e2]
  rw [if_pos h1, strsOf_map]; rfl
theorem deciding57 {ns : List Str} {told : List (C × Nat)} {dl : List Str} {S : List MO} (hn : NS ns) (hc : ∀ p ∈ told, OC ns p.1) (hl : told.length ≤ 100) (hd : dl.Pairwise slt) (hm : ∀ s, s ∈ dl ↔ ∃ p ∈ told, s ∈ p.1.vars) :
    f3_deciding_switches [.d (.tuple (told.map pieceD))] S = some (.d (.tuple (dl.map .str)), S) := by
  have few := hn.few
  refine eq_of ?_
  -- the switches of each piece
  have ex : ∀ p : C × Nat, ∃ ss : List Str, p ∈ told → ss.Pairwise slt ∧ (∀ s, s ∈ ss ↔ s ∈ p.1.vars) ∧ ∀ S : List MO, f3_switches_of [.d p.1.enc] S = some (.d (.tuple (ss.map .str)), S) := fun p => by
    by_cases h : p ∈ told
    · obtain ⟨ss, h1, h2, _⟩ := switches3 (S := S) hn (hc p h)
      refine ⟨ss, fun _ => ⟨h1, h2, fun S => ?_⟩⟩
      obtain ⟨ss', h1', h2', h3'⟩ := switches3 (S := S) hn (hc p h)
      rw [sorted_uniq h1 h1' fun s => (h2 s).trans (h2' s).symm]
      exact h3'
    · exact ⟨[], fun z => absurd z h⟩
  obtain ⟨sw, hsw⟩ := Classical.axiomOfChoice ex
  have swl : ∀ p ∈ told, (sw p).length ≤ 12 := fun p hp => by
    obtain ⟨h1, h2, _⟩ := hsw p hp
    exact Nat.le_trans (nodup_len (pw_nodup h1) fun s hs => (hc p hp).vars s ((h2 s).mp hs)) few
  unfold f3_deciding_switches
  walk_at "fdef"
  repeat walk_at "wp"
  refine wp_nsc2 ?_
  repeat walk_at "wp"
  refine wp_two told (fun p => .d (pieceD p)) (fun p => (sw p).map .str) (by rw [List.map_map]; rfl) rfl (fun p hp => ?_) ?_
  · have r := (hsw p hp).2.2 S
    repeat walk_at "wp"
    refine ⟨rfl, ?_⟩
    repeat walk_at "wp"
    refine wp2_eq r ?_
    repeat walk_at "wp"
    refine wp_all (sw p) (fun s => .d (.str s)) (fun s => .str s) (by rw [List.map_map]; rfl) rfl (fun s hs => ?_) ?_ gnm_st
    · repeat walk_at "wp"
      exact ⟨rfl, rfl⟩
    · exact ⟨rfl, rfl⟩
  · have fl : ∀ l : List (C × Nat), (l.flatMap fun p => (sw p).map PyData.str) = (l.flatMap sw).map PyData.str := fun l => by
      induction l with
      | nil => rfl
      | cons p r ih => rw [List.flatMap_cons, List.flatMap_cons, ih, List.map_append]
    have ll : ∀ l : List (C × Nat), (∀ p ∈ l, (sw p).length ≤ 12) → (l.flatMap sw).length ≤ 12 * l.length := fun l h => by
      induction l with
      | nil => exact Nat.le_refl _
      | cons p r ih =>
        rw [List.flatMap_cons, List.length_append, List.length_cons]
        have a := h p List.mem_cons_self
        have b := ih fun x hx => h x (List.mem_cons_of_mem _ hx)
        omega
    have hl2 := ll told swl
    rw [fl]
    refine ⟨by rw [List.length_map]; omega, told.flatMap sw, rfl, ?_⟩
    rw [sset_of strictS (hd.imp fun h => decide_eq_true h) fun x => by
      rw [hm, List.mem_flatMap]
      exact ⟨fun ⟨p, hp, h⟩ => ⟨p, hp, ((hsw p hp).2.1 x).mpr h⟩, fun ⟨p, hp, h⟩ => ⟨p, hp, ((hsw p hp).2.1 x).mp h⟩⟩]
    repeat walk_at "wp"
    exact ⟨rfl, rfl⟩
end EA
namespace EA
open PySem PySem.Spec PyProof.Rows L2
/-! ### settings as tuples of texts -/
theorem strs_eqv : ∀ (a b : List Str), PyData.eqvAll (a.map PyData.str) (b.map PyData.str) = decide (a = b)
  | [], [] => rfl
  | [], y :: b => rfl
  | x :: a, [] => rfl
  | x :: a, y :: b => by
    show ((x == y) && PyData.eqvAll (a.map PyData.str) (b.map PyData.str)) = _
    rw [strs_eqv a b]
    by_cases e : x = y
    · subst e
      by_cases e2 : a = b
      · subst e2; simp
      · rw [decide_eq_false e2, Bool.and_false, decide_eq_false fun z => e2 (List.cons.inj z).2]
    · rw [show (x == y) = false from beq_eq_false_iff_ne.mpr e, Bool.false_and, decide_eq_false fun z => e (List.cons.inj z).1]
theorem tup_eqv (a b : List Str) : PyData.eqv (tupS a) (tupS b) = decide (a = b) := strs_eqv a b
theorem strs_dep : ∀ a : List Str, PyData.depthAll (a.map PyData.str) = 0
  | [] => rfl
  | x :: a => by
    show max (PyData.depth (.str x)) (PyData.depthAll (a.map PyData.str)) = 0
    rw [strs_dep a]; rfl
theorem strs_lay : ∀ {a : List Str}, (∀ x ∈ a, PyData.strOk x = true) → PyData.canLayAll0 (a.map PyData.str) = true
  | [], _ => rfl
  | x :: a, h => by
    show (PyData.canLay0 (.str x) && PyData.canLayAll0 (a.map PyData.str)) = true
    rw [strs_lay fun y hy => h y (List.mem_cons_of_mem _ hy), show PyData.canLay0 (.str x) = PyData.strOk x from rfl, h x List.mem_cons_self]; rfl
theorem tup_shaped {a : List Str} (h : ∀ x ∈ a, PyData.strOk x = true) : SeqAt.shaped (tupS a) = true := by
  show (PyData.canLayAll0 (a.map PyData.str) && decide (PyData.depthAll (a.map PyData.str) + 1 ≤ 64)) = true
  rw [strs_lay h, strs_dep]; rfl
theorem tups_dep : ∀ L : List (List Str), PyData.depthAll (L.map tupS) ≤ 1
  | [] => Nat.zero_le _
  | a :: L => by
    show max (PyData.depthAll (a.map PyData.str) + 1) (PyData.depthAll (L.map tupS)) ≤ 1
    have := tups_dep L
    rw [strs_dep]; omega
theorem tups_lay : ∀ {L : List (List Str)}, (∀ a ∈ L, ∀ x ∈ a, PyData.strOk x = true) → PyData.canLayAll0 (L.map tupS) = true
  | [], _ => rfl
  | a :: L, h => by
    show (PyData.canLayAll0 (a.map PyData.str) && PyData.canLayAll0 (L.map tupS)) = true
    rw [tups_lay fun y hy => h y (List.mem_cons_of_mem _ hy), strs_lay (h a List.mem_cons_self)]; rfl
theorem tups_shaped {L : List (List Str)} (h : ∀ a ∈ L, ∀ x ∈ a, PyData.strOk x = true) : SeqAt.shaped (.list (L.map tupS)) = true := by
  show (PyData.canLayAll0 (L.map tupS) && decide (PyData.depthAll (L.map tupS) + 1 ≤ 64)) = true
  rw [tups_lay h, decide_eq_true (by have := tups_dep L; omega)]; rfl
/-- the place of a setting -/
theorem idx_sets {ns : List Str} (hn : NS ns) {k : Nat} (hk : k < 2 ^ ns.length) : gIdx ((sets ns).map tupS) (tupS (ns.filter (asg ns k))) = some (k : Int) := by
  unfold gIdx
  have ok : ∀ k, ∀ x ∈ ns.filter (asg ns k), PyData.strOk x = true := fun k x hx => (hn.ok x (List.mem_filter.mp hx).1).1
  have sl : ((sets ns).map tupS).length = 2 ^ ns.length := by rw [List.length_map, sets_len]
  have sat : ∀ {j : Nat}, j < 2 ^ ns.length → ((sets ns).map tupS)[j]? = some (tupS (ns.filter (asg ns j))) := fun {j} hj => by
    rw [List.getElem?_map, sets_at hj]; rfl
  rw [if_pos ⟨tups_shaped fun a ha x hx => by
    unfold sets at ha
    obtain ⟨j, _, rfl⟩ := List.mem_map.mp ha
    exact ok j x hx, tup_shaped (ok k)⟩]
  have : ((sets ns).map tupS).findIdx? (fun z => PyData.eqv z (tupS (ns.filter (asg ns k)))) = some k := by
    refine List.findIdx?_eq_some_iff_getElem.mpr ⟨by rw [sl]; exact hk, ?_, fun j hj => ?_⟩
    · have e := sat hk
      rw [List.getElem?_eq_getElem (by rw [sl]; exact hk)] at e
      rw [Option.some.inj e, tup_eqv]; exact decide_eq_true rfl
    · have hj2 : j < 2 ^ ns.length := by omega
      have e := sat hj2
      rw [List.getElem?_eq_getElem (by rw [sl]; exact hj2)] at e
      rw [Option.some.inj e, tup_eqv]
      intro z
      have z := of_decide_eq_true z
      have := asg_inj hn.nd hj2 hk fun s hs => by
        have m : s ∈ ns.filter (asg ns j) ↔ s ∈ ns.filter (asg ns k) := by rw [z]
        rw [List.mem_filter, List.mem_filter] at m
        exact Bool.eq_iff_iff.mpr ⟨fun h => (m.mp ⟨hs, h⟩).2, fun h => (m.mpr ⟨hs, h⟩).2⟩
      omega
  rw [this]; rfl
theorem wp_eidx {o : FE} {a : FA} {sl : Sl} {S : List MO} {Q : W3 → List MO → Prop} (h : Wp2 (o sl S) fun p1 p2 => ∃ ds, p1 = .d (.list ds) ∧ Wp2 (a sl p2) fun q1 q2 => ∃ d k, q1 = [.d d] ∧ gIdx ds d = some k ∧ Q (.d (.int k)) q2) : Wp2 (eIdx o a sl S) Q := by
  obtain ⟨⟨p1, p2⟩, e1, ds, hp, ⟨q1, q2⟩, e2, d, k, hq, hk, q⟩ := h
  dsimp only at hp e2 hq q
  subst hp hq
  refine wp_eq (a := (.d (.int k), q2)) ?_ q
  unfold eIdx
  rw [e1]
  show (a sl p2).bind _ = _
  rw [e2]
  show ((some d).bind fun d => (gIdx ds d).map fun j => ((W3.d (.int j) : W3), q2)) = _
  show (gIdx ds d).map _ = _
  rw [hk]; rfl
/-- a setting with one switch turned -/
def tog (ns : List Str) (a : Str) (k : Nat) : Nat := idx ns (fset (asg ns k) a (!asg ns k a))
theorem tog_lt {ns : List Str} {a : Str} {k : Nat} : tog ns a k < 2 ^ ns.length := idx_lt _ _
theorem tog_at {ns : List Str} (nd : ns.Nodup) {a : Str} {k : Nat} : ∀ s ∈ ns, asg ns (tog ns a k) s = fset (asg ns k) a (!asg ns k a) s := fun s hs => asg_idx nd s hs
theorem tog_filter {ns : List Str} (nd : ns.Nodup) {a : Str} {k : Nat} : (ns.filter fun b => !(decide (b ∈ ns.filter (asg ns k)) == (b == a))) = ns.filter (asg ns (tog ns a k)) := by
  refine List.filter_congr fun b hb => ?_
  rw [tog_at nd b hb]
  have e1 : decide (b ∈ ns.filter (asg ns k)) = asg ns k b := by
    cases h : asg ns k b with
    | true => exact decide_eq_true (List.mem_filter.mpr ⟨hb, h⟩)
    | false => exact decide_eq_false fun z => by rw [(List.mem_filter.mp z).2] at h; cases h
  rw [e1]
  unfold fset
  by_cases e : b = a
  · subst e
    rw [if_pos rfl, show (b == b) = true from beq_self_eq_true b]
    cases asg ns k b <;> rfl
  · rw [if_neg e, show (b == a) = false from beq_eq_false_iff_ne.mpr e]
    cases asg ns k b <;> rfl
/-- the deciding switches, by the values -/
theorem dec57 {ns : List Str} {vs : List Nat} {told : List (C × Nat)} (hn : NS ns) (hv : vs.length = 2 ^ ns.length) (hR : ∀ p ∈ told, Rep ns p.1 (vs.map fun v => decide (v = p.2))) (hm : ∀ i, i ∈ told.map (·.2) ↔ i ∈ vs) {a : Str} (ha : a ∈ ns) :
    ((List.range (2 ^ ns.length)).any fun k => !(decide (vs.getD k 0 = vs.getD (tog ns a k) 0))) = told.any fun p => decide (a ∈ p.1.vars) := by
  have at_ : ∀ p ∈ told, ∀ k, k < 2 ^ ns.length → p.1.ev (asg ns k) = decide (vs.getD k 0 = p.2) := fun p hp k hk => by
    have e := (hR p hp).at_ k hk
    have hk2 : k < vs.length := by omega
    rw [List.getElem?_map, List.getElem?_eq_getElem hk2] at e
    rw [List.getD_eq_getElem?_getD, List.getElem?_eq_getElem hk2]
    exact (Option.some.inj e).symm
  have tg : ∀ p ∈ told, ∀ k, p.1.ev (asg ns (tog ns a k)) = p.1.ev (fset (asg ns k) a (!asg ns k a)) := fun p hp k => C.ev_congr _ fun s hs => tog_at hn.nd s ((hR p hp).oc.vars s hs)
  refine Bool.eq_iff_iff.mpr ⟨fun h => ?_, fun h => ?_⟩
  · obtain ⟨k, hk, h1⟩ := List.any_eq_true.mp h
    have hk := List.mem_range.mp hk
    have ne : vs.getD k 0 ≠ vs.getD (tog ns a k) 0 := by simpa using h1
    have hk2 : k < vs.length := by omega
    have mem : vs.getD k 0 ∈ vs := by
      rw [List.getD_eq_getElem?_getD, List.getElem?_eq_getElem hk2]; exact List.getElem_mem hk2
    obtain ⟨p, hp, e⟩ := List.mem_map.mp ((hm _).mpr mem)
    refine List.any_eq_true.mpr ⟨p, hp, decide_eq_true (Classical.byContradiction fun no => ?_)⟩
    have e1 := at_ p hp k hk
    have e2 := at_ p hp (tog ns a k) tog_lt
    rw [tg p hp, C.ev_fset no, e1, decide_eq_true e.symm] at e2
    exact ne (e.symm.trans (of_decide_eq_true e2.symm).symm)
  · obtain ⟨p, hp, h1⟩ := List.any_eq_true.mp h
    have hv := of_decide_eq_true h1
    have ex : ∃ k, k < 2 ^ ns.length ∧ p.1.ev (fset (asg ns k) a true) ≠ p.1.ev (fset (asg ns k) a false) := Classical.byContradiction fun no => by
      refine (mat_iff hn.nd (hR p hp).oc (z := a)).mp (fun k hk => Classical.byContradiction fun z => no ⟨k, hk, z⟩) hv
    obtain ⟨k, hk, ne⟩ := ex
    refine List.any_eq_true.mpr ⟨k, List.mem_range.mpr hk, ?_⟩
    have same : p.1.ev (asg ns k) = p.1.ev (fset (asg ns k) a (asg ns k a)) := C.ev_congr _ fun s _ => by
      unfold fset
      by_cases e : s = a
      · rw [if_pos e, e]
      · rw [if_neg e]
    have e1 := at_ p hp k hk
    have e2 := at_ p hp (tog ns a k) tog_lt
    rw [same] at e1
    rw [tg p hp] at e2
    have ne2 : vs.getD k 0 ≠ vs.getD (tog ns a k) 0 := fun z => by
      rw [z, ← e2] at e1
      cases hb : asg ns k a with
      | true => rw [hb] at e1; exact ne e1
      | false => rw [hb] at e1; exact ne e1.symm
    simpa using ne2
end EA
namespace EA
open PySem PySem.Spec PyProof.Rows L2
noncomputable def f3_law : F3 := fdef false 1 14
  (sSeq (sSet 1 (eCall f3_hand (aCons (eVar 0) aNil)))
  (sSeq (sSet 2 (eCall f3_gd_switches (aCons (eVar 1) (aCons (eOp gAdd (eD (.int (1))) (eCall f3_take (aCons (eVar 1) (aCons (eD (.int (4))) aNil)))) aNil))))
  (sSeq (sSet 3 (eCall f3_gd_settings (aCons (eVar 2) aNil)))
  (sSeq (sSet 4 (eNd (nLst (aCons (eTup (aCons (eD (.str "value")) (aCons (eTup (aCons (eD (.str "number")) (aCons (eD (.int (1))) aNil))) (aCons (eD (.int (0))) aNil)))) (aCons (eTup (aCons (eD (.str "value")) (aCons (eTup (aCons (eD (.str "truth")) (aCons (eD (.bool true)) aNil))) (aCons (eD (.int (0))) aNil)))) (aCons (eTup (aCons (eD (.str "stuck")) (aCons (eD (.int (3))) (aCons (eD (.int (1))) aNil)))) (aCons (eTup (aCons (eD (.str "hole")) (aCons (eD (.int (3))) (aCons (eD (.int (1))) aNil)))) (aCons (eTup (aCons (eD (.str "fuel")) (aCons (eD .none) (aCons (eD (.int (400))) aNil)))) aNil))))))))
  (sSeq (sSet 4 (eSl (eCall f3_shuffled (aCons (eVar 1) (aCons (eOp gAdd (eVar 4) (eNd (nLst (aCons (eTup (aCons (eD (.str "value")) (aCons (eTup (aCons (eD (.str "number")) (aCons (eD (.int (0))) aNil))) (aCons (eD (.int (0))) aNil)))) (aCons (eTup (aCons (eD (.str "value")) (aCons (eTup (aCons (eD (.str "number")) (aCons (eD (.int (1))) aNil))) (aCons (eD (.int (1))) aNil)))) aNil))))) aNil))) oNone (oSome (eOp gAdd (eD (.int (1))) (eCall f3_take (aCons (eVar 1) (aCons (eD (.int (4))) aNil)))))))
  (sSeq (sSet 5 (eNd (nLc [6] (iSq (eVar 3)) (gNm 6) tYes3 (eCall f3_pick (aCons (eVar 1) (aCons (eVar 4) aNil))))))
  (sSeq (sSet 7 (eCall f3_gd_table (aCons (eVar 5) (aCons (eVar 2) aNil))))
  (sSeq (sFor (iSq (eNd (nLst (aCons (eD (.str "value")) (aCons (eD (.str "hole")) (aCons (eD (.str "stuck")) (aCons (eD (.str "fuel")) aNil))))))) (gNm 8)
  (sIf (tCmp gNe (eCall f3_outcome_condition (aCons (eVar 7) (aCons (eVar 8) aNil))) (eCall (f3_gd_grown 60) (aCons (eNd (nLc [6] (iSq (eVar 5)) (gNm 6) tYes3 (eCmp gEq (eOp gIx (eVar 6) (eD (.int (0)))) (eVar 8)))) (aCons (eVar 2) aNil))))
  (sRt (eD (.bool false)))
  sNx))
  (sSeq (sSet 9 (eNo (nLst aNil)))
  (sSeq (sFor (iSq (eVar 2)) (gNm 10)
  (sSeq (sSet 11 (eNd (nLc [6] (iSq (eVar 3)) (gNm 6) tYes3 (eIdx (eVar 3) (aCons (eB gTupOf (aCons (eNd (nLc [12] (iSq (eVar 2)) (gNm 12) (tCmp gNe (eCmp gIn (eVar 12) (eVar 6)) (eCmp gEq (eVar 12) (eVar 10))) (eVar 12))) aNil)) aNil)))))
  (sIf (tCmp gNe (eNd (nLc [13] (iR1 (aCons (eB gLen (aCons (eVar 3) aNil)) aNil)) (gNm 13) (tCmp gNe (eOp gIx (eVar 5) (eVar 13)) (eOp gIx (eVar 5) (eOp gIx (eVar 11) (eVar 13)))) (eVar 13))) (eNd (nLst aNil)))
  (sEx (eM mApp (eVar 9) (aCons (eVar 10) aNil)))
  sNx)))
  (sSeq (sSet 14 (eCall f3_deciding_switches (aCons (eVar 7) aNil)))
  (sRt (eAn (eB gIsi (aCons (eVar 14) (aCons (eTy "tuple") aNil))) (eCmp gEq (eVar 14) (eB gTupOf (aCons (eVar 9) aNil))))))))))))))))
local macro_rules | `(tactic| walk_at "ix") => `(tactic| first | rfl | exact atI_cons0 | exact atI_map0)
local macro_rules | `(tactic| walk_at "st") => `(tactic| first | assumption | rfl | exact get_set (by assumption) | exact get_set (get_set (by assumption)) | exact get_last | exact get_setlast | exact get_setapp (by assumption) | exact get_app (by assumption) | exact get_app (get_set (by assumption)))
local macro_rules | `(tactic| walk_at "tk") => `(tactic| first | exact List.take_length | exact take_set | exact take_set2 | exact take_set3 | exact take_app | exact take_aset | exact take_setapp | rfl)
local macro_rules | `(tactic| walk_at "sd") => `(tactic| first | omega | assumption | decide)
local macro_rules | `(tactic| walk_at "wp1") => `(tactic| first
  | with_reducible refine wp_seq ?_ | with_reducible refine th_nx ?_ | with_reducible refine th_rt ?_ | with_reducible refine th_bk ?_ | with_reducible refine th_ct ?_
  | with_reducible refine wp_set ?_ | with_reducible refine wp_ex ?_ | with_reducible refine wp_rt ?_ | with_reducible refine wp_rtn ?_ | with_reducible refine wp_sif ?_ | with_reducible refine wp_asg ?_
  | with_reducible refine wp_for ?_ | with_reducible refine wp_pr ?_ | with_reducible refine pairW_i ?_ | with_reducible refine lq_nx ?_ | with_reducible refine lq_ct ?_ | with_reducible refine lq_bk ?_ | with_reducible refine lq_rt ?_ | with_reducible refine wp_dp ?_ | with_reducible refine wp_nx ?_ | with_reducible refine wp_bk ?_ | with_reducible refine wp_ct ?_
  | ((with_reducible apply wp_var); rfl) | with_reducible refine wp_d ?_ | with_reducible refine wp_ty ?_ | with_reducible refine wp_fz ?_ | with_reducible refine fz_d ?_ | ((with_reducible apply fz_r); (walk_at "st")) | with_reducible refine wp_nil ?_ | with_reducible refine wp_cons ?_
  | with_reducible refine wp_tup ?_ | with_reducible refine wp_nlst ?_ | with_reducible refine wp_ds0 ?_ | with_reducible refine wp_ds1 ?_ | with_reducible refine wp_nd ?_ | with_reducible refine wp_no ?_
  | with_reducible refine wp_gnm ?_ | with_reducible refine wp_gtp ?_ | with_reducible refine wp_gsn ?_ | with_reducible refine wp_gsc ?_ | with_reducible refine wp_gs ?_
  | with_reducible refine wp_ty3 ?_ | with_reducible refine datW_i ?_ | with_reducible refine wp_lc ?_ | with_reducible refine wp_ecmp ?_ | with_reducible refine wp_tcmp ?_ | with_reducible refine wp_ttr ?_ | with_reducible refine wp_not ?_ | with_reducible refine wp_tnt ?_ | with_reducible refine wp_tan ?_ | with_reducible refine wp_tor ?_
  | with_reducible refine wp_an ?_ | with_reducible refine boolW_i ?_ | with_reducible refine wp_or ?_ | with_reducible refine wp_eif ?_ | with_reducible refine wp_op ?_ | with_reducible refine wp_nop ?_ | with_reducible refine wp_onone ?_ | with_reducible refine wp_os ?_ | with_reducible refine intW_i ?_
  | with_reducible refine wp_esl ?_ | with_reducible refine wp_nsl ?_ | with_reducible refine wp_b ?_ | with_reducible refine wp_nb ?_ | with_reducible refine wp_call ?_ | with_reducible refine wp_sq ?_ | with_reducible refine sq_l ?_ | with_reducible refine sq_t ?_ | with_reducible refine sq_sc ?_ | ((with_reducible apply sq_r); (walk_at "st")) | with_reducible refine wp_r1 ?_ | with_reducible refine wp_r2 ?_ | with_reducible refine wp_irv ?_
  | with_reducible refine wp_me ?_ | with_reducible refine wp_join ?_ | with_reducible refine wp_dn ?_
  | with_reducible refine wp_viewd ?_ | ((with_reducible apply wp_viewr); (walk_at "st")) | ((with_reducible apply wp_lat); (walk_at "st")))
local macro_rules | `(tactic| walk_at "wp") => `(tactic| first
  | walk_at "wp1"
  | ((with_reducible apply atSet_i); (walk_at "st"); rfl) | ((with_reducible apply atLst_i); (walk_at "st")) | ((with_reducible apply nowLst_i); (walk_at "st"))
  | with_reducible refine wp_geqs ?_ | with_reducible refine wp_gnes ?_ | with_reducible refine wp_geqb ?_ | with_reducible refine wp_gneb ?_ | with_reducible refine wp_geq_nil ?_ | with_reducible refine wp_gne_nil ?_ | with_reducible refine wp_trul ?_ | with_reducible refine wp_trut ?_ | ((with_reducible apply wp_trur); (walk_at "st")) | with_reducible refine wp_trui ?_ | with_reducible refine wp_cutl ?_ | with_reducible refine wp_cutt ?_
  | with_reducible refine wp_l3l ?_ | with_reducible refine wp_l3t ?_ | ((with_reducible apply wp_l3r); (walk_at "st")) | ((with_reducible refine rng1_i ?_ ?_); (walk_at "sd")) | ((with_reducible refine rng2_i ?_ ?_); (walk_at "sd"))
  | with_reducible refine wp_addi ?_ | with_reducible refine wp_sub ?_ | ((with_reducible refine wp_mod ?_ ?_); (walk_at "sd")) | ((with_reducible refine wp_fdiv ?_ ?_); (walk_at "sd")) | ((with_reducible refine wp_mulr ?_ ?_); (walk_at "sd")) | ((with_reducible refine wp_mull ?_ ?_); (walk_at "sd")) | ((with_reducible refine wp_pow ?_ ?_); (walk_at "sd"))
  | with_reducible refine wp_int ?_ | with_reducible refine wp_abs ?_
  | ((with_reducible apply wp_ixd); (walk_at "ix")) | ((with_reducible apply wp_ixt); (walk_at "ix")) | ((with_reducible apply wp_ixr); (walk_at "st"); (walk_at "ix"))
  | with_reducible refine wp_lenl ?_ | with_reducible refine wp_lent ?_ | with_reducible refine wp_lensc ?_ | ((with_reducible apply wp_lenr); (walk_at "st"))
  | with_reducible refine wp_geqi ?_ | with_reducible refine wp_gnei ?_ | with_reducible refine wp_glti ?_ | with_reducible refine wp_ggti ?_ | with_reducible refine wp_glei ?_ | with_reducible refine wp_ggei ?_ | with_reducible refine wp_glts ?_ | with_reducible refine wp_ggts ?_
  | with_reducible refine is_bt_bt ?_ | with_reducible refine isn_bt_bt ?_ | with_reducible refine is_bt_bf ?_ | with_reducible refine isn_bt_bf ?_ | with_reducible refine is_bt_n ?_ | with_reducible refine isn_bt_n ?_ | with_reducible refine is_bf_bt ?_ | with_reducible refine isn_bf_bt ?_ | with_reducible refine is_bf_bf ?_ | with_reducible refine isn_bf_bf ?_ | with_reducible refine is_bf_n ?_ | with_reducible refine isn_bf_n ?_ | with_reducible refine is_n_bt ?_ | with_reducible refine isn_n_bt ?_ | with_reducible refine is_n_bf ?_ | with_reducible refine isn_n_bf ?_ | with_reducible refine is_n_n ?_ | with_reducible refine isn_n_n ?_ | with_reducible refine is_t_bt ?_ | with_reducible refine isn_t_bt ?_ | with_reducible refine is_t_bf ?_ | with_reducible refine isn_t_bf ?_ | with_reducible refine is_t_n ?_ | with_reducible refine isn_t_n ?_ | with_reducible refine is_l_bt ?_ | with_reducible refine isn_l_bt ?_ | with_reducible refine is_l_bf ?_ | with_reducible refine isn_l_bf ?_ | with_reducible refine is_l_n ?_ | with_reducible refine isn_l_n ?_ | with_reducible refine is_i_bt ?_ | with_reducible refine isn_i_bt ?_ | with_reducible refine is_i_bf ?_ | with_reducible refine isn_i_bf ?_ | with_reducible refine is_i_n ?_ | with_reducible refine isn_i_n ?_ | with_reducible refine is_s_bt ?_ | with_reducible refine isn_s_bt ?_ | with_reducible refine is_s_bf ?_ | with_reducible refine isn_s_bf ?_ | with_reducible refine is_s_n ?_ | with_reducible refine isn_s_n ?_
  | ((with_reducible refine wp_gis ?_ ?_); rfl) | ((with_reducible refine wp_gisn ?_ ?_); rfl) | with_reducible refine wp_trub ?_ | ((with_reducible refine isi_t (r := true) ?_ ?_); (decide +kernel)) | ((with_reducible refine isi_t (r := false) ?_ ?_); (decide +kernel)) | ((with_reducible refine isi_b (r := true) ?_ ?_); (decide +kernel)) | ((with_reducible refine isi_b (r := false) ?_ ?_); (decide +kernel)) | ((with_reducible refine isi_i (r := true) ?_ ?_); (decide +kernel)) | ((with_reducible refine isi_i (r := false) ?_ ?_); (decide +kernel)) | ((with_reducible refine isi_s (r := true) ?_ ?_); (decide +kernel)) | ((with_reducible refine isi_s (r := false) ?_ ?_); (decide +kernel)) | ((with_reducible refine isi_l (r := true) ?_ ?_); (decide +kernel)) | ((with_reducible refine isi_l (r := false) ?_ ?_); (decide +kernel)) | ((with_reducible refine isi_n (r := true) ?_ ?_); (decide +kernel)) | ((with_reducible refine isi_n (r := false) ?_ ?_); (decide +kernel))
  | with_reducible refine wp_tupl ?_ | with_reducible refine wp_tupt ?_ | ((with_reducible apply wp_tupr); (walk_at "st"))
  | with_reducible refine ite2 (fun _ => ?_) (fun z => absurd rfl z)
  | with_reducible refine ite2 (fun z => absurd z Bool.false_ne_true) (fun _ => ?_)
  | ((with_reducible apply rq_dt); (walk_at "tk")) | ((with_reducible apply rq_nxt); (walk_at "tk")))
local macro_rules | `(tactic| walk_at "fdef") => `(tactic| (refine wp_fdef rfl ?_; simp only [List.map_cons, List.map_nil, List.replicate_succ, List.replicate_zero, List.cons_append, List.nil_append]))
theorem law57 (ns : List Int) (hl : ns.length ≤ 63) : ∃ S, f3_law [.sc ns] [] = some (.d (.bool true), S) := by
  suffices h : Wp2 (f3_law [.sc ns] []) fun w _ => w = .d (.bool true) by
    obtain ⟨⟨a, b⟩, e, e2⟩ := h
    exact ⟨b, by rw [e]; exact congrArg (fun x => some (x, b)) e2⟩
  unfold f3_law
  walk_at "fdef"
  repeat walk_at "wp"
  refine hand3 hl fun o ho => ?_
  repeat walk_at "wp"
  refine take1 ho (by decide) (by decide) fun v o1 v0 v1 h1 => ?_
  repeat walk_at "wp"
  obtain ⟨m, rfl⟩ : ∃ m : Nat, v = (m : Int) := ⟨v.toNat, by omega⟩
  rw [show (1 : Int) + (m : Int) = ((1 + m : Nat) : Int) by omega]
  refine switches57 h1 (by omega) (by omega) fun sw o2 nsw lsw h2 => ?_
  clear h1 ho o o1
  have few := nsw.few
  have pw : 2 ^ sw.length ≤ 16 := Nat.le_trans (Nat.pow_le_pow_right (by decide) (show sw.length ≤ 4 by omega)) (by decide)
  repeat walk_at "wp"
  refine wp2_eq (settings3 nsw) ?_
  repeat walk_at "wp"
  refine wp_addl (by decide) ?_
  repeat walk_at "wp"
  refine shuffled1 (ds := (List.range 7).map out) h2 (by decide) fun es o3 pe h3 => ?_
  obtain ⟨os, rfl, pos⟩ := perm_map_inv pe rfl
  have o7 : ∀ u ∈ os, u < 7 := fun u hu => List.mem_range.mp (pos.mem_iff.mp hu)
  have ol : os.length = 7 := by rw [pos.length_eq, List.length_range]
  clear h2 o2 pe
  repeat walk_at "wp"
  refine take1 h3 (by decide) (by decide) fun v o4 u0 u1 h4 => ?_
  repeat walk_at "wp"
  obtain ⟨k, rfl⟩ : ∃ k : Nat, v = (k : Int) := ⟨v.toNat, by omega⟩
  rw [show (1 : Int) + (k : Int) = ((1 + k : Nat) : Int) by omega, cutD_map, cutD_to]
  have hr7 : ∀ u ∈ os.take (1 + k), u < 7 := fun u hu => o7 u (List.mem_of_mem_take hu)
  have hrl : 0 < (os.take (1 + k)).length := by rw [List.length_take]; omega
  have hrl2 : (os.take (1 + k)).length ≤ 7 := by rw [List.length_take]; omega
  generalize os.take (1 + k) = row at *
  clear h3 o3
  repeat walk_at "wp"
  refine ⟨by rw [List.length_map, List.length_map, sets_len]; omega, ?_⟩
  refine wp_comp (n := 0) (acc := []) (fun i acc S' => ∃ (vs : List Nat) (o : List PyData), acc = vs.map out ∧ vs.length = i ∧ (∀ v ∈ vs, v < 7) ∧ S' = [.lst o] ∧ HandO o) ⟨[], o4, rfl, rfl, (fun _ h => by simp at h), rfl, h4⟩ (fun _ _ _ _ => rfl) (fun i w acc S' hw hi hp => ?_) (fun ys S' hp => ?_)
  · obtain ⟨vs, o, rfl, hb, hv7, rfl, ho⟩ := hp
    repeat walk_at "wp"
    refine pick1 ho (by rw [List.length_map]; exact hrl) (by rw [List.length_map]; omega) fun d o5 hd h5 => ?_
    obtain ⟨u, hu, rfl⟩ := List.mem_map.mp hd
    repeat walk_at "wp"
    refine ⟨vs ++ [u], o5, by rw [List.map_append]; rfl, by rw [List.length_append, hb]; rfl, fun x hx => ?_, rfl, h5⟩
    rcases List.mem_append.mp hx with hx | hx
    · exact hv7 x hx
    · have e : x = u := by simpa using hx
      rw [e]; exact hr7 u hu
  obtain ⟨vs, o5, e1, hb, hv7, rfl, h5⟩ := hp
  rw [List.nil_append] at e1
  subst e1
  rw [Nat.zero_add, List.length_map, List.length_map, sets_len] at hb
  obtain ⟨told, et, hR, hm, htl⟩ := table57 (S := [.lst o5]) nsw hb hv7
  repeat walk_at "wp"
  refine wp2_eq et ?_
  repeat walk_at "wp"
  have nd := nsw.nd
  have oc : ∀ p ∈ told, OC sw p.1 := fun p hp => (hR p hp).oc
  -- each word
  refine wp_loop (n := 0) (fun i sl S' => ∃ (x : Option W3), sl = [some (.sc ns), some (.r 0), some (.d (strsD sw)), some (.d (.list ((sets sw).map tupS))), some (.d (.list (row.map out))), some (.d (.list (vs.map out))), none, some (.d (.tuple (told.map pieceD))), x, none, none, none, none, none, none] ∧ S' = [.lst o5])
    ⟨_, rfl, rfl⟩ (fun _ _ _ _ => rfl) (fun i w sl S' hw hi hp => ?_) (fun sl S' hp => ?_)
  · obtain ⟨x, rfl, rfl⟩ := hp
    have exw : ∃ wo : Str, w = .d (.str wo) := by
      have hw : ((["value", "hole", "stuck", "fuel"] : List Str).map fun s => W3.d (.str s))[i - 0]? = some w := hw
      rw [List.getElem?_map] at hw
      obtain ⟨wo, _, e⟩ := Option.map_eq_some_iff.mp hw
      exact ⟨wo, e.symm⟩
    obtain ⟨wo, rfl⟩ := exw
    obtain ⟨e, oe, ve, re⟩ := outcome57 (S := [.lst o5]) (w := wo) nsw oc
    repeat walk_at "wp"
    refine wp2_eq re ?_
    repeat walk_at "wp"
    refine ⟨by rw [List.length_map, List.length_map]; omega, ?_⟩
    refine wp_all vs (fun u => .d (.tuple [.str (wd u), ax u, bx u])) (fun u => .bool (wd u == wo)) (by rw [List.map_map]; rfl) rfl (fun u hu => ?_) ?_ gnm_st
    · repeat walk_at "wp"
      exact ⟨rfl, rfl⟩
    rw [show vs.map (fun u => PyData.bool (wd u == wo)) = (vs.map fun u => wd u == wo).map PyData.bool by rw [List.map_map]; rfl]
    obtain ⟨c, Rc, rc⟩ := grown3 60 (S := [.lst o5]) (row := vs.map fun u => wd u == wo) (show sw.length < 60 by omega) nsw (by rw [List.length_map]; exact hb)
    repeat walk_at "wp"
    refine wp2_eq rc ?_
    repeat walk_at "wp"
    have ec : e = c := by
      refine (Rc.all nd oe fun k hk => ?_).symm
      have hk2 : k < vs.length := by omega
      have a1 := Rc.at_ k hk
      rw [List.getElem?_map, List.getElem?_eq_getElem hk2] at a1
      rw [← Option.some.inj a1, ve]
      have mem := (hm _).mpr (List.getElem_mem hk2)
      obtain ⟨p, hp, ep⟩ := List.mem_map.mp mem
      have pv : ∀ p ∈ told, p.1.ev (asg sw k) = decide (vs[k] = p.2) := fun p hp => by
        have a := (hR p hp).at_ k hk
        rw [List.getElem?_map, List.getElem?_eq_getElem hk2] at a
        exact (Option.some.inj a).symm
      refine Bool.eq_iff_iff.mpr ⟨fun h => List.any_eq_true.mpr ⟨p, hp, ?_⟩, fun h => ?_⟩
      · have h : (wd vs[k] == wo) = true := h
        rw [pv p hp, ep, h, decide_eq_true rfl]; rfl
      · obtain ⟨r, hr, h2⟩ := List.any_eq_true.mp h
        rw [pv r hr] at h2
        obtain ⟨h3, h4⟩ := Bool.and_eq_true_iff.mp h2
        rw [of_decide_eq_true h4]; exact h3
    subst ec
    refine wp_cne oe (by omega) ?_
    rw [decide_eq_true rfl]
    refine ite2 (fun z => absurd z (by decide)) fun _ => ?_
    repeat walk_at "wp"
    exact ⟨_, rfl, rfl⟩
  obtain ⟨x, rfl, rfl⟩ := hp
  repeat walk_at "wp"
  -- each switch
  let P : Str → Bool := fun a => told.any fun p => decide (a ∈ p.1.vars)
  refine wp_loop (n := 0) (fun i sl S' => ∃ (x10 x11 : Option W3), sl = [some (.sc ns), some (.r 0), some (.d (strsD sw)), some (.d (.list ((sets sw).map tupS))), some (.d (.list (row.map out))), some (.d (.list (vs.map out))), none, some (.d (.tuple (told.map pieceD))), x, some (.r 1), x10, x11, none, none, none] ∧ S' = [.lst o5, .lst (((sw.take i).filter P).map .str)])
    ⟨_, _, rfl, rfl⟩ (fun _ _ _ _ => rfl) (fun i w sl S' hw hi hp => ?_) (fun sl S' hp => ?_)
  · obtain ⟨x10, x11, rfl, rfl⟩ := hp
    obtain ⟨d, hd, rfl⟩ := ws_get hw
    rw [List.getElem?_map, Nat.sub_zero] at hd
    obtain ⟨a, ha, rfl⟩ := Option.map_eq_some_iff.mp hd
    have ham : a ∈ sw := List.mem_of_getElem? ha
    repeat walk_at "wp"
    refine ⟨by rw [List.length_map, List.length_map, sets_len]; omega, ?_⟩
    refine wp_all (List.range (2 ^ sw.length)) (fun k => .d (tupS (sw.filter (asg sw k)))) (fun k => .int (tog sw a k : Nat)) (by unfold sets; rw [List.map_map, List.map_map]; rfl) rfl (fun k hk => ?_) ?_ gnm_st
    · have hk := List.mem_range.mp hk
      repeat walk_at "wp"
      refine wp_eidx ?_
      repeat walk_at "wp"
      refine ⟨_, rfl, ?_⟩
      repeat walk_at "wp"
      refine ⟨by rw [List.length_map, List.length_map]; omega, ?_⟩
      refine wp_pure sw (fun b => .d (.str b)) (fun b => !(decide (b ∈ sw.filter (asg sw k)) == (b == a))) (fun b => .str b) (by rw [List.map_map]; rfl) rfl (fun b hb => ?_) ?_
      · repeat walk_at "wp"
        refine wp_gin_st ?_
        repeat walk_at "wp"
        refine ⟨rfl, rfl, fun _ => ?_⟩
        repeat walk_at "wp"
        exact ⟨rfl, rfl⟩
      · rw [tog_filter nd]
        repeat walk_at "wp"
        refine ⟨_, _, rfl, idx_sets nsw tog_lt, ?_⟩
        repeat walk_at "wp"
        exact ⟨rfl, rfl⟩
    · have sl2 : ((sets sw).map tupS).length = 2 ^ sw.length := by rw [List.length_map, sets_len]
      repeat walk_at "wp"
      refine ⟨by rw [intsW_len]; omega, ?_⟩
      have vat : ∀ {k : Nat}, k < 2 ^ sw.length → (vs.map out)[k]? = some (out (vs.getD k 0)) := fun {k} hk => by
        have hk2 : k < vs.length := by omega
        rw [List.getElem?_map, List.getD_eq_getElem?_getD, List.getElem?_eq_getElem hk2]; rfl
      have v7 : ∀ {k : Nat}, k < 2 ^ sw.length → vs.getD k 0 < 7 := fun {k} hk => by
        have hk2 : k < vs.length := by omega
        rw [List.getD_eq_getElem?_getD, List.getElem?_eq_getElem hk2]; exact hv7 _ (List.getElem_mem hk2)
      refine wp_pure (List.range (2 ^ sw.length)) (fun k => .d (.int (k : Nat))) (fun k => !(decide (vs.getD k 0 = vs.getD (tog sw a k) 0))) (fun k => .int (k : Nat)) (intsW_of sl2) rfl (fun k hk => ?_) ?_
      · have hk := List.mem_range.mp hk
        repeat walk_at "wp"
        refine wp_ixd (atI_at (vat hk)) ?_
        repeat walk_at "wp"
        refine wp_ixd (d := .int (tog sw a k : Nat)) (atI_at (by rw [List.getElem?_map, List.getElem?_range hk]; rfl)) ?_
        repeat walk_at "wp"
        refine wp_ixd (atI_at (vat tog_lt)) ?_
        repeat walk_at "wp"
        refine wp_gne_out (v7 hk) (v7 tog_lt) ?_
        refine ⟨rfl, rfl, fun _ => ?_⟩
        repeat walk_at "wp"
        exact ⟨rfl, rfl⟩
      · repeat walk_at "wp"
        rw [isEmpty_filter, dec57 nsw hb hR hm ham, Bool.not_not]
        have et : sw.take (i + 1) = sw.take i ++ [a] := by rw [List.take_succ, ha]; rfl
        have hlt : i < sw.length := (List.getElem?_eq_some_iff.mp ha).1
        refine ite2 (fun c => ?_) (fun c => ?_)
        · repeat walk_at "wp"
          refine wp_app (by rw [List.length_map]; exact Nat.le_trans (List.length_filter_le _ _) (by rw [List.length_take]; omega)) ?_
          repeat walk_at "wp"
          refine ⟨_, _, rfl, ?_⟩
          rw [et, List.filter_append, show [a].filter P = [a] from List.filter_cons_of_pos c, List.map_append]
          rfl
        · repeat walk_at "wp"
          refine ⟨_, _, rfl, ?_⟩
          rw [et, List.filter_append, show [a].filter P = [] from List.filter_cons_of_neg c, List.append_nil]
  · obtain ⟨x10, x11, rfl, rfl⟩ := hp
    rw [Nat.zero_add, List.length_map, List.length_map, List.take_length]
    have rd := deciding57 (S := [.lst o5, .lst ((sw.filter P).map .str)]) (dl := sw.filter P) nsw oc (by omega) (nsw.srt.sublist List.filter_sublist) fun s => by
      rw [List.mem_filter]
      constructor
      · rintro ⟨_, h⟩
        obtain ⟨p, hp, h2⟩ := List.any_eq_true.mp h
        exact ⟨p, hp, of_decide_eq_true h2⟩
      · rintro ⟨p, hp, h⟩
        exact ⟨(oc p hp).vars s h, List.any_eq_true.mpr ⟨p, hp, decide_eq_true h⟩⟩
    repeat walk_at "wp"
    refine wp2_eq rd ?_
    repeat walk_at "wp"
    refine wp_geq (.inl (by show PyData.depthAll _ + 1 ≤ _; rw [strs_dep]; decide)) ?_
    rw [show (PyData.tuple ((sw.filter P).map PyData.str)).eqv (PyData.tuple ((sw.filter P).map PyData.str)) = true from (tup_eqv _ _).trans (decide_eq_true rfl)]
    repeat walk_at "wp"
    rfl
end EA
namespace EA
open PySem PySem.Spec PyProof.Rows L2
def topS (i : Nat) : Stmt := PySem.Challenge.pw_eacharm_k57_outcomes_in_tables.main.body.getD i (.Pass ⟨0, 0, 0, 0⟩)
abbrev s_formed : Stmt := topS 1
theorem sc_formed : FnScope ["switch", "on", "off"] ["switch", "on", "off"] (defScope s_formed) := ⟨rfl, rfl, rfl, by decide +kernel, rfl, by decide +kernel, by decide +kernel⟩
abbrev s_side_of : Stmt := topS 2
theorem sc_side_of : FnScope ["condition", "switch", "on"] ["condition", "switch", "on"] (defScope s_side_of) := ⟨rfl, rfl, rfl, by decide +kernel, rfl, by decide +kernel, by decide +kernel⟩
abbrev s_no : Stmt := topS 3
theorem sc_no : FnScope ["condition"] ["condition"] (defScope s_no) := ⟨rfl, rfl, rfl, by decide +kernel, rfl, by decide +kernel, by decide +kernel⟩
abbrev s_both : Stmt := topS 4
theorem sc_both : FnScope ["condition", "other", "switch", "on", "off"] ["condition", "other"] (defScope s_both) := ⟨rfl, rfl, rfl, by decide +kernel, rfl, by decide +kernel, by decide +kernel⟩
abbrev s_either : Stmt := topS 5
theorem sc_either : FnScope ["condition", "other"] ["condition", "other"] (defScope s_either) := ⟨rfl, rfl, rfl, by decide +kernel, rfl, by decide +kernel, by decide +kernel⟩
abbrev s_switches_of : Stmt := topS 6
theorem sc_switches_of : FnScope ["condition", "found", "pile", "part"] ["condition"] (defScope s_switches_of) := ⟨rfl, rfl, rfl, by decide +kernel, rfl, by decide +kernel, by decide +kernel⟩
abbrev s_outcome_condition : Stmt := topS 8
theorem sc_outcome_condition : FnScope ["table", "word", "found", "condition", "outcome"] ["table", "word"] (defScope s_outcome_condition) := ⟨rfl, rfl, rfl, by decide +kernel, rfl, by decide +kernel, by decide +kernel⟩
abbrev s_deciding_switches : Stmt := topS 9
theorem sc_deciding_switches : FnScope ["table", "piece", "switch"] ["table"] (defScope s_deciding_switches) := ⟨rfl, rfl, rfl, by decide +kernel, rfl, by decide +kernel, by decide +kernel⟩
abbrev s_gd_settings : Stmt := topS 11
theorem sc_gd_settings : FnScope ["_law_switches", "_law_told", "_law_a", "_law_k"] ["_law_switches"] (defScope s_gd_settings) := ⟨rfl, rfl, rfl, by decide +kernel, rfl, by decide +kernel, by decide +kernel⟩
abbrev s_gd_grown : Stmt := topS 12
theorem sc_gd_grown : FnScope ["_law_bits", "_law_switches", "_law_half", "_law_off", "_law_on"] ["_law_bits", "_law_switches"] (defScope s_gd_grown) := ⟨rfl, rfl, rfl, by decide +kernel, rfl, by decide +kernel, by decide +kernel⟩
abbrev s_gd_table : Stmt := topS 13
theorem sc_gd_table : FnScope ["_law_values", "_law_switches", "_law_seen", "_law_told", "_law_one", "_law_two"] ["_law_values", "_law_switches"] (defScope s_gd_table) := ⟨rfl, rfl, rfl, by decide +kernel, rfl, by decide +kernel, by decide +kernel⟩
abbrev s_gd_switches : Stmt := topS 14
theorem sc_gd_switches : FnScope ["_law_hand_here", "_law_many", "_law_start", "_law_heads", "_law_one"] ["_law_hand_here", "_law_many"] (defScope s_gd_switches) := ⟨rfl, rfl, rfl, by decide +kernel, rfl, by decide +kernel, by decide +kernel⟩
abbrev s_hand : Stmt := topS 15
theorem sc_hand : FnScope ["_law_script", "_law_total", "_law_cells", "_law_cell"] ["_law_script"] (defScope s_hand) := ⟨rfl, rfl, rfl, by decide +kernel, rfl, by decide +kernel, by decide +kernel⟩
abbrev s_stirred : Stmt := topS 16
theorem sc_stirred : FnScope ["_law_number", "_law_turn", "_law_once", "_law_twice"] ["_law_number", "_law_turn"] (defScope s_stirred) := ⟨rfl, rfl, rfl, by decide +kernel, rfl, by decide +kernel, by decide +kernel⟩
abbrev s_take : Stmt := topS 17
theorem sc_take : FnScope ["_law_hand_here", "_law_many", "_law_cell", "_law_rest"] ["_law_hand_here", "_law_many"] (defScope s_take) := ⟨rfl, rfl, rfl, by decide +kernel, rfl, by decide +kernel, by decide +kernel⟩
abbrev s_pick : Stmt := topS 18
theorem sc_pick : FnScope ["_law_hand_here", "_law_things"] ["_law_hand_here", "_law_things"] (defScope s_pick) := ⟨rfl, rfl, rfl, by decide +kernel, rfl, by decide +kernel, by decide +kernel⟩
abbrev s_shuffled : Stmt := topS 19
theorem sc_shuffled : FnScope ["_law_hand_here", "_law_things", "_law_left", "_law_k"] ["_law_hand_here", "_law_things"] (defScope s_shuffled) := ⟨rfl, rfl, rfl, by decide +kernel, rfl, by decide +kernel, by decide +kernel⟩
abbrev s_law : Stmt := topS 20
theorem sc_law : FnScope ["_law_script", "_law_hand_here", "_law_switches", "_law_settings", "_law_row", "_law_values", "_law_one", "_law_table", "_law_word", "_law_due", "_law_a", "_law_turned", "_law_b", "_law_k", "_law_told"] ["_law_script"] (defScope s_law) := ⟨rfl, rfl, rfl, by decide +kernel, rfl, by decide +kernel, by decide +kernel⟩
structure Tp (K : PySem.W.Frag) (mg : Str → Option Value) where
  a_formed : Addr
  d_formed : FuncData
  F_formed : Fun K "formed" "formed" s_formed a_formed d_formed
  g_formed : mg "formed" = some (.ref a_formed)
  b_formed : Binds K d_formed ["switch", "on", "off"] []
  a_side_of : Addr
  d_side_of : FuncData
  F_side_of : Fun K "side_of" "side_of" s_side_of a_side_of d_side_of
  g_side_of : mg "side_of" = some (.ref a_side_of)
  b_side_of : Binds K d_side_of ["condition", "switch", "on"] []
  a_no : Addr
  d_no : FuncData
  F_no : Fun K "no" "no" s_no a_no d_no
  g_no : mg "no" = some (.ref a_no)
  b_no : Binds K d_no ["condition"] []
  a_both : Addr
  d_both : FuncData
  F_both : Fun K "both" "both" s_both a_both d_both
  g_both : mg "both" = some (.ref a_both)
  b_both : Binds K d_both ["condition", "other"] []
  a_either : Addr
  d_either : FuncData
  F_either : Fun K "either" "either" s_either a_either d_either
  g_either : mg "either" = some (.ref a_either)
  b_either : Binds K d_either ["condition", "other"] []
  a_switches_of : Addr
  d_switches_of : FuncData
  F_switches_of : Fun K "switches_of" "switches_of" s_switches_of a_switches_of d_switches_of
  g_switches_of : mg "switches_of" = some (.ref a_switches_of)
  b_switches_of : Binds K d_switches_of ["condition"] []
  a_outcome_condition : Addr
  d_outcome_condition : FuncData
  F_outcome_condition : Fun K "outcome_condition" "outcome_condition" s_outcome_condition a_outcome_condition d_outcome_condition
  g_outcome_condition : mg "outcome_condition" = some (.ref a_outcome_condition)
  b_outcome_condition : Binds K d_outcome_condition ["table", "word"] []
  a_deciding_switches : Addr
  d_deciding_switches : FuncData
  F_deciding_switches : Fun K "deciding_switches" "deciding_switches" s_deciding_switches a_deciding_switches d_deciding_switches
  g_deciding_switches : mg "deciding_switches" = some (.ref a_deciding_switches)
  b_deciding_switches : Binds K d_deciding_switches ["table"] []
  a_gd_settings : Addr
  d_gd_settings : FuncData
  F_gd_settings : Fun K "_law_gd_settings" "_law_gd_settings" s_gd_settings a_gd_settings d_gd_settings
  g_gd_settings : mg "_law_gd_settings" = some (.ref a_gd_settings)
  b_gd_settings : Binds K d_gd_settings ["_law_switches"] []
  a_gd_grown : Addr
  d_gd_grown : FuncData
  F_gd_grown : Fun K "_law_gd_grown" "_law_gd_grown" s_gd_grown a_gd_grown d_gd_grown
  g_gd_grown : mg "_law_gd_grown" = some (.ref a_gd_grown)
  b_gd_grown : Binds K d_gd_grown ["_law_bits", "_law_switches"] []
  a_gd_table : Addr
  d_gd_table : FuncData
  F_gd_table : Fun K "_law_gd_table" "_law_gd_table" s_gd_table a_gd_table d_gd_table
  g_gd_table : mg "_law_gd_table" = some (.ref a_gd_table)
  b_gd_table : Binds K d_gd_table ["_law_values", "_law_switches"] []
  a_gd_switches : Addr
  d_gd_switches : FuncData
  F_gd_switches : Fun K "_law_gd_switches" "_law_gd_switches" s_gd_switches a_gd_switches d_gd_switches
  g_gd_switches : mg "_law_gd_switches" = some (.ref a_gd_switches)
  b_gd_switches : Binds K d_gd_switches ["_law_hand_here", "_law_many"] []
  a_hand : Addr
  d_hand : FuncData
  F_hand : Fun K "_law_hand" "_law_hand" s_hand a_hand d_hand
  g_hand : mg "_law_hand" = some (.ref a_hand)
  b_hand : Binds K d_hand ["_law_script"] []
  a_stirred : Addr
  d_stirred : FuncData
  F_stirred : Fun K "_law_stirred" "_law_stirred" s_stirred a_stirred d_stirred
  g_stirred : mg "_law_stirred" = some (.ref a_stirred)
  b_stirred : Binds K d_stirred ["_law_number", "_law_turn"] []
  a_take : Addr
  d_take : FuncData
  F_take : Fun K "_law_take" "_law_take" s_take a_take d_take
  g_take : mg "_law_take" = some (.ref a_take)
  b_take : Binds K d_take ["_law_hand_here", "_law_many"] []
  a_pick : Addr
  d_pick : FuncData
  F_pick : Fun K "_law_pick" "_law_pick" s_pick a_pick d_pick
  g_pick : mg "_law_pick" = some (.ref a_pick)
  b_pick : Binds K d_pick ["_law_hand_here", "_law_things"] []
  a_shuffled : Addr
  d_shuffled : FuncData
  F_shuffled : Fun K "_law_shuffled" "_law_shuffled" s_shuffled a_shuffled d_shuffled
  g_shuffled : mg "_law_shuffled" = some (.ref a_shuffled)
  b_shuffled : Binds K d_shuffled ["_law_hand_here", "_law_things"] []
  a_law : Addr
  d_law : FuncData
  F_law : Fun K "law" "law" s_law a_law d_law
  g_law : mg "law" = some (.ref a_law)
  b_law : Binds K d_law ["_law_script"] []
  z_abs : mg "abs" = none
  z_bool : mg "bool" = none
  z_int : mg "int" = none
  z_isinstance : mg "isinstance" = none
  z_len : mg "len" = none
  z_list : mg "list" = none
  z_min : mg "min" = none
  z_range : mg "range" = none
  z_sorted : mg "sorted" = none
  z_tuple : mg "tuple" = none
section
variable {P : Program} {w : World} {K : PySem.W.Frag} {mg : Str → Option Value} {base : Heap}
theorem ok3_formed (T : Tp K mg) : FnOk P w K mg base CX0 1 T.a_formed T.d_formed ["switch", "on", "off"] (sp3 K f3_formed) := by
  refine fn3 T.F_formed sc_formed rfl rfl fun cdv A outer s H E hr => ?_
  have hu64 := hr.units
  have hu1 := hr.units1
  have hu65 := hr.units65
  exact (b_cons (s_if (t_cmp rfl (op_gEq hu64) (v3 1) (v3 2) (nomark _))
  (b_one (s_ret (v3 1)))
  b_nil)
  (b_one (s_ret (e_tup (a_cons (v3 0) (a_cons (v3 1) (a_cons (v3 2) a_nil)))))))
theorem ok3_side_of (T : Tp K mg) : FnOk P w K mg base CX0 1 T.a_side_of T.d_side_of ["condition", "switch", "on"] (sp3 K f3_side_of) := by
  refine fn3 T.F_side_of sc_side_of rfl rfl fun cdv A outer s H E hr => ?_
  have hu64 := hr.units
  have hu1 := hr.units1
  have hu65 := hr.units65
  exact (b_cons (s_if (t_w (w_or (t_tr rfl (e_cB (isiK3 rfl) ck_isi (by rfl) T.z_isinstance (by decide +kernel) (a_cons (v3 0) (a_cons (e_ty (by rfl) T.z_bool (by decide +kernel)) a_nil))) (by intro _; rfl)) (w_or1 (t_cmp rfl (op_gNe hu64) (e_ix (ix_sq rfl) ok_ix (v3 0) e_int (fun _ _ => rfl)) (v3 1) (nomark _)))))
  (b_one (s_ret (v3 0)))
  b_nil)
  (b_one (s_ret (e_if (t_tr rfl (v3 2) (by intro _; rfl)) (e_ix (ix_sq rfl) ok_ix (v3 0) e_int (fun _ _ => rfl)) (e_ix (ix_sq rfl) ok_ix (v3 0) e_int (fun _ _ => rfl))))))
theorem ok3_no (T : Tp K mg) : ∀ n, FnOk P w K mg base CX0 (n + 1) T.a_no T.d_no ["condition"] (sp3 K (f3_no n))
  | 0 => fn3_none
  | n + 1 => by
    have G_no := ok3_no T n
    show FnOk P w K mg base CX0 (n + 1 + 1) T.a_no T.d_no ["condition"] (sp3 K (fdef false 1 0 _))
    refine fn3 T.F_no sc_no rfl rfl fun cdv A outer s H E hr => ?_
    have hu64 := hr.units
    have hu1 := hr.units1
    have hu65 := hr.units65
    exact (b_cons (s_if (t_tr rfl (e_cB (isiK3 rfl) ck_isi (by rfl) T.z_isinstance (by decide +kernel) (a_cons (v3 0) (a_cons (e_ty (by rfl) T.z_bool (by decide +kernel)) a_nil))) (by intro _; rfl))
  (b_one (s_ret (e_not rfl (v3 0))))
  b_nil)
  (b_one (s_ret (e_tup (a_cons (e_ix (ix_sq rfl) ok_ix (v3 0) e_int (fun _ _ => rfl)) (a_cons (e_call rfl G_no (hr.mono (by omega)) (by rfl) T.g_no T.F_no.kp T.b_no (a_cons (e_ix (ix_sq rfl) ok_ix (v3 0) e_int (fun _ _ => rfl)) a_nil)) (a_cons (e_call rfl G_no (hr.mono (by omega)) (by rfl) T.g_no T.F_no.kp T.b_no (a_cons (e_ix (ix_sq rfl) ok_ix (v3 0) e_int (fun _ _ => rfl)) a_nil)) a_nil)))))))
theorem ok3_both (T : Tp K mg) : ∀ n, FnOk P w K mg base CX0 (n + 2) T.a_both T.d_both ["condition", "other"] (sp3 K (f3_both n))
  | 0 => fn3_none
  | n + 1 => by
    have G_formed := ok3_formed (P := P) (w := w) (base := base) T
    have G_side_of := ok3_side_of (P := P) (w := w) (base := base) T
    have G_both := ok3_both T n
    show FnOk P w K mg base CX0 (n + 2 + 1) T.a_both T.d_both ["condition", "other"] (sp3 K (fdef false 2 3 _))
    refine fn3 T.F_both sc_both rfl rfl fun cdv A outer s H E hr => ?_
    have hu64 := hr.units
    have hu1 := hr.units1
    have hu65 := hr.units65
    exact (b_cons (s_if (t_w (w_or (t_cmp rfl op_gIs (v3 0) e_bl (nomark _)) (w_or1 (t_cmp rfl op_gIs (v3 1) e_bl (nomark _)))))
  (b_one (s_ret e_bl))
  b_nil)
  (b_cons (s_if (t_cmp rfl op_gIs (v3 0) e_bl (nomark _))
  (b_one (s_ret (v3 1)))
  b_nil)
  (b_cons (s_if (t_cmp rfl op_gIs (v3 1) e_bl (nomark _))
  (b_one (s_ret (v3 0)))
  b_nil)
  (b_cons (s_set (i := 2) sc_both.nd rfl (Or.inl rfl) (e_cB (call_minS2 rfl) ck_min2 (by rfl) T.z_min (by decide +kernel) (a_cons (e_ix (ix_sq rfl) ok_ix (v3 0) e_int (fun _ _ => rfl)) (a_cons (e_ix (ix_sq rfl) ok_ix (v3 1) e_int (fun _ _ => rfl)) a_nil))))
  (b_cons (s_set (i := 3) sc_both.nd rfl (Or.inl rfl) (e_call rfl G_both (hr.mono (by omega)) (by rfl) T.g_both T.F_both.kp T.b_both (a_cons (e_call rfl G_side_of (hr.mono (by omega)) (by rfl) T.g_side_of T.F_side_of.kp T.b_side_of (a_cons (v3 0) (a_cons (v3 2) (a_cons e_bl a_nil)))) (a_cons (e_call rfl G_side_of (hr.mono (by omega)) (by rfl) T.g_side_of T.F_side_of.kp T.b_side_of (a_cons (v3 1) (a_cons (v3 2) (a_cons e_bl a_nil)))) a_nil))))
  (b_cons (s_set (i := 4) sc_both.nd rfl (Or.inl rfl) (e_call rfl G_both (hr.mono (by omega)) (by rfl) T.g_both T.F_both.kp T.b_both (a_cons (e_call rfl G_side_of (hr.mono (by omega)) (by rfl) T.g_side_of T.F_side_of.kp T.b_side_of (a_cons (v3 0) (a_cons (v3 2) (a_cons e_bl a_nil)))) (a_cons (e_call rfl G_side_of (hr.mono (by omega)) (by rfl) T.g_side_of T.F_side_of.kp T.b_side_of (a_cons (v3 1) (a_cons (v3 2) (a_cons e_bl a_nil)))) a_nil))))
  (b_one (s_ret (e_call rfl G_formed (hr.mono (by omega)) (by rfl) T.g_formed T.F_formed.kp T.b_formed (a_cons (v3 2) (a_cons (v3 3) (a_cons (v3 4) a_nil))))))))))))
theorem ok3_either (T : Tp K mg) : FnOk P w K mg base CX0 63 T.a_either T.d_either ["condition", "other"] (sp3 K f3_either) := by
  have G_both := ok3_both (P := P) (w := w) (base := base) T 60
  have G_no := ok3_no (P := P) (w := w) (base := base) T 60
  refine fn3 T.F_either sc_either rfl rfl fun cdv A outer s H E hr => ?_
  have hu64 := hr.units
  have hu1 := hr.units1
  have hu65 := hr.units65
  exact (b_one (s_ret (e_call rfl G_no (hr.mono (by omega)) (by rfl) T.g_no T.F_no.kp T.b_no (a_cons (e_call rfl G_both (hr.mono (by omega)) (by rfl) T.g_both T.F_both.kp T.b_both (a_cons (e_call rfl G_no (hr.mono (by omega)) (by rfl) T.g_no T.F_no.kp T.b_no (a_cons (v3 0) a_nil)) (a_cons (e_call rfl G_no (hr.mono (by omega)) (by rfl) T.g_no T.F_no.kp T.b_no (a_cons (v3 1) a_nil)) a_nil))) a_nil))))
theorem ok3_switches_of (T : Tp K mg) : FnOk P w K mg base CX0 1 T.a_switches_of T.d_switches_of ["condition"] (sp3 K f3_switches_of) := by
  refine fn3 T.F_switches_of sc_switches_of rfl rfl fun cdv A outer s H E hr => ?_
  have hu64 := hr.units
  have hu1 := hr.units1
  have hu65 := hr.units65
  exact (b_cons (s_set (i := 1) sc_switches_of.nd rfl (Or.inl rfl) e_dn)
  (b_cons (s_set (i := 2) sc_switches_of.nd rfl (Or.inl rfl) (e_no (n_lst (a_cons (v3 0) a_nil))))
  (b_cons (s_while PassesOwn.never (t_tr rfl (v3 2) (by intro _; rfl))
  (b_cons (s_set (i := 3) sc_switches_of.nd rfl (Or.inl rfl) (e_m0 rfl PySem.F.slot_list_pop PySem.F.type_list_pop mt_pop mk_pop (v3 2)))
  (b_one (s_if (t_not (t_tr rfl (e_cB (isiK3 rfl) ck_isi (by rfl) T.z_isinstance (by decide +kernel) (a_cons (v3 3) (a_cons (e_ty (by rfl) T.z_bool (by decide +kernel)) a_nil))) (by intro _; rfl)))
  (b_cons (s_dp hu1 (v3 1) (e_ix (ix_sq rfl) ok_ix (v3 3) e_int (fun _ _ => rfl)) e_bl rfl)
  (b_cons (s_expr (e_m rfl PySem.F.slot_list_append PySem.F.type_list_append mt_append mk_app (v3 2) (a_cons (e_ix (ix_sq rfl) ok_ix (v3 3) e_int (fun _ _ => rfl)) a_nil)))
  (b_one (s_expr (e_m rfl PySem.F.slot_list_append PySem.F.type_list_append mt_append mk_app (v3 2) (a_cons (e_ix (ix_sq rfl) ok_ix (v3 3) e_int (fun _ _ => rfl)) a_nil))))))
  b_nil))))
  (b_one (s_ret (e_cT (tupK3 rfl) ck_tupOf (by rfl) T.z_tuple (by decide +kernel) (a_cons (e_nd (n_cB (sortK3 rfl hu64) nk_sorted (by rfl) T.z_sorted (by decide +kernel) (a_cons (e_nd (n_cT (cr_lst3 rfl rfl) nk_lst3 (by rfl) T.z_list (by decide +kernel) (a_cons (v3 1) a_nil))) a_nil))) a_nil)))))))
theorem ok3_outcome_condition (T : Tp K mg) : FnOk P w K mg base CX0 64 T.a_outcome_condition T.d_outcome_condition ["table", "word"] (sp3 K f3_outcome_condition) := by
  have G_either := ok3_either (P := P) (w := w) (base := base) T
  refine fn3 T.F_outcome_condition sc_outcome_condition rfl rfl fun cdv A outer s H E hr => ?_
  have hu64 := hr.units
  have hu1 := hr.units1
  have hu65 := hr.units65
  exact (b_cons (s_set (i := 2) sc_outcome_condition.nd rfl (Or.inl rfl) e_bl)
  (b_cons (s_for PassesOwn.never rfl (i_sq rfl (v3 0)) (g_tup rfl rfl (gs_cons (g_name (i := 3) sc_outcome_condition.nd rfl (Or.inl rfl)) (gs_cons (g_name (i := 4) sc_outcome_condition.nd rfl (Or.inl rfl)) gs_nil)))
  (b_one (s_if (t_cmp rfl (op_gEq hu64) (e_ix (ix_sq rfl) ok_ix (v3 4) e_int (fun _ _ => rfl)) (v3 1) (nomark _))
  (b_one (s_set (i := 2) sc_outcome_condition.nd rfl (Or.inl rfl) (e_call rfl G_either (hr.mono (by omega)) (by rfl) T.g_either T.F_either.kp T.b_either (a_cons (v3 2) (a_cons (v3 3) a_nil)))))
  b_nil)))
  (b_one (s_ret (v3 2)))))
theorem ok3_deciding_switches (T : Tp K mg) : FnOk P w K mg base CX0 2 T.a_deciding_switches T.d_deciding_switches ["table"] (sp3 K f3_deciding_switches) := by
  have G_switches_of := ok3_switches_of (P := P) (w := w) (base := base) T
  refine fn3 T.F_deciding_switches sc_deciding_switches rfl rfl fun cdv A outer s H E hr => ?_
  have hu64 := hr.units
  have hu1 := hr.units1
  have hu65 := hr.units65
  exact (b_one (s_ret (e_cT (tupK3 rfl) ck_tupOf (by rfl) T.z_tuple (by decide +kernel) (a_cons (e_nd (n_sc2 (own := [("piece", 1), ("switch", 2)]) (vs := [1, 2]) (vs1 := [2]) rfl rfl rfl hu64 (by rfl) T.z_sorted sc_deciding_switches.nd (i_sq rfl (v3 0)) (blkOk_by (own := [("piece", 1), ("switch", 2)]) (N := ["table", "piece", "switch"]) (sc := defScope s_deciding_switches) (scope := { kind := PySem.ScopeKind.function, names := [ (PySem.Str.ofString ".0", PySem.NameKind.local), (PySem.Str.ofString "piece", PySem.NameKind.local), (PySem.Str.ofString "switch", PySem.NameKind.local), (PySem.Str.ofString "switches_of", PySem.NameKind.globalImplicit)], isGenerator := false, isCoroutine := false, more := [] : PySem.Scope }) (by decide +kernel)) rfl (by decide) (by decide) (by decide) (fun _ _ _ _ _ => (g_name (i := 1) sc_deciding_switches.nd rfl (Or.inl rfl) (Or.inr rfl))) (fun _ _ _ _ _ => t_nil) (fun _ _ _ _ _ => (i_sq rfl (e_call rfl G_switches_of (hr.mono (by omega)) (by rfl) T.g_switches_of T.F_switches_of.kp T.b_switches_of (a_cons (e_ix (ix_sq rfl) ok_ix (v3 1) e_int (fun _ _ => rfl)) a_nil)))) (fun _ _ _ _ _ => (g_name (i := 2) sc_deciding_switches.nd rfl (Or.inl rfl) (Or.inr rfl))) (fun _ _ _ _ _ => t_nil) (fun _ _ _ _ _ => (v3 2)))) a_nil))))
theorem ok3_gd_settings (T : Tp K mg) : FnOk P w K mg base CX0 1 T.a_gd_settings T.d_gd_settings ["_law_switches"] (sp3 K f3_gd_settings) := by
  refine fn3 T.F_gd_settings sc_gd_settings rfl rfl fun cdv A outer s H E hr => ?_
  have hu64 := hr.units
  have hu1 := hr.units1
  have hu65 := hr.units65
  exact (b_cons (s_set (i := 1) sc_gd_settings.nd rfl (Or.inr rfl) (e_nd (n_lst (a_cons (e_tup a_nil) a_nil))))
  (b_cons (s_for PassesOwn.never rfl (i_sq rfl (v3 0)) (g_name (i := 2) sc_gd_settings.nd rfl (Or.inr rfl))
  (b_one (s_set (i := 1) sc_gd_settings.nd rfl (Or.inr rfl) (e_nd (n_lc (own := [("_law_k", 3)]) (vs := [3]) rfl sc_gd_settings.nd (i_r1 (by rfl) T.z_range (a_cons (e_op op_mul ok_mul e_int (e_cB (lenK3 rfl) ck_len (by rfl) T.z_len (by decide +kernel) (a_cons (v3 1) a_nil))) a_nil)) (blkOk_by (own := [("_law_k", 3)]) (N := ["_law_switches", "_law_told", "_law_a", "_law_k"]) (sc := defScope s_gd_settings) (scope := { kind := PySem.ScopeKind.function, names := [ (PySem.Str.ofString ".0", PySem.NameKind.local), (PySem.Str.ofString "_law_k", PySem.NameKind.local), (PySem.Str.ofString "_law_a", PySem.NameKind.free), (PySem.Str.ofString "_law_told", PySem.NameKind.free)], isGenerator := false, isCoroutine := false, more := [] : PySem.Scope }) (by decide +kernel)) rfl (by decide) (fun _ _ _ _ _ => (g_name (i := 3) sc_gd_settings.nd rfl (Or.inl rfl) (Or.inr rfl))) (fun _ _ _ _ _ => t_nil) (fun _ _ _ _ _ => (e_op (op_ad rfl) ok_add (e_ix (ix_sq rfl) ok_ix (v3 1) (e_op op_fdiv ok_fdiv (v3 3) e_int) (fun _ _ => rfl)) (e_ix (ix_sq rfl) ok_ix (e_nd (n_lst (a_cons (e_tup a_nil) (a_cons (e_tup (a_cons (v3 2) a_nil)) a_nil)))) (e_op op_mod ok_mod (v3 3) e_int) (fun _ _ => rfl)))))))))
  (b_one (s_ret (v3 1)))))
theorem ok3_gd_grown (T : Tp K mg) : ∀ n, FnOk P w K mg base CX0 (n + 1) T.a_gd_grown T.d_gd_grown ["_law_bits", "_law_switches"] (sp3 K (f3_gd_grown n))
  | 0 => fn3_none
  | n + 1 => by
    have G_gd_grown := ok3_gd_grown T n
    show FnOk P w K mg base CX0 (n + 1 + 1) T.a_gd_grown T.d_gd_grown ["_law_bits", "_law_switches"] (sp3 K (fdef false 2 3 _))
    refine fn3 T.F_gd_grown sc_gd_grown rfl rfl fun cdv A outer s H E hr => ?_
    have hu64 := hr.units
    have hu1 := hr.units1
    have hu65 := hr.units65
    exact (b_cons (s_if (t_cmp rfl (op_gEq hu64) (e_cB (lenK3 rfl) ck_len (by rfl) T.z_len (by decide +kernel) (a_cons (v3 0) a_nil)) e_int (nomark _))
  (b_one (s_ret (e_ix (ix_sq rfl) ok_ix (v3 0) e_int (fun _ _ => rfl))))
  b_nil)
  (b_cons (s_set (i := 2) sc_gd_grown.nd rfl (Or.inl rfl) (e_op op_fdiv ok_fdiv (e_cB (lenK3 rfl) ck_len (by rfl) T.z_len (by decide +kernel) (a_cons (v3 0) a_nil)) e_int))
  (b_cons (s_par (i := 3) (j := 4) rfl sc_gd_grown.nd rfl rfl (by decide) rfl rfl (a_cons (e_call rfl G_gd_grown (hr.mono (by omega)) (by rfl) T.g_gd_grown T.F_gd_grown.kp T.b_gd_grown (a_cons (e_sl rfl (v3 0) o_none (o_some (v3 2))) (a_cons (e_sl rfl (v3 1) (o_some e_int) o_none) a_nil))) (a_cons (e_call rfl G_gd_grown (hr.mono (by omega)) (by rfl) T.g_gd_grown T.F_gd_grown.kp T.b_gd_grown (a_cons (e_sl rfl (v3 0) (o_some (v3 2)) o_none) (a_cons (e_sl rfl (v3 1) (o_some e_int) o_none) a_nil))) a_nil)) (by rfl))
  (b_cons (s_if (t_cmp rfl (op_gEq hu64) (v3 4) (v3 3) (nomark _))
  (b_one (s_ret (v3 4)))
  b_nil)
  (b_one (s_ret (e_tup (a_cons (e_ix (ix_sq rfl) ok_ix (v3 1) e_int (fun _ _ => rfl)) (a_cons (v3 4) (a_cons (v3 3) a_nil))))))))))
theorem ok3_gd_table (T : Tp K mg) : FnOk P w K mg base CX0 62 T.a_gd_table T.d_gd_table ["_law_values", "_law_switches"] (sp3 K f3_gd_table) := by
  have G_gd_grown := ok3_gd_grown (P := P) (w := w) (base := base) T 60
  refine fn3 T.F_gd_table sc_gd_table rfl rfl fun cdv A outer s H E hr => ?_
  have hu64 := hr.units
  have hu1 := hr.units1
  have hu65 := hr.units65
  exact (b_cons (s_par (i := 2) (j := 3) rfl sc_gd_table.nd rfl rfl (by decide) rfl rfl (a_cons (e_no (n_lst a_nil)) (a_cons (e_no (n_lst a_nil)) a_nil)) (by rfl))
  (b_cons (s_for PassesOwn.never rfl (i_sq rfl (v3 0)) (g_name (i := 4) sc_gd_table.nd rfl (Or.inr rfl))
  (b_one (s_if (t_w (w_and (t_cmp rfl op_gIsN (v3 4) e_non (nomark _)) (w_and1 (t_cmp rfl (op_gNin hu64) (v3 4) (v3 2) (by rfl)))))
  (b_cons (s_expr (e_m rfl PySem.F.slot_list_append PySem.F.type_list_append mt_append mk_app (v3 2) (a_cons (v3 4) a_nil)))
  (b_one (s_expr (e_m rfl PySem.F.slot_list_append PySem.F.type_list_append mt_append mk_app (v3 3) (a_cons (e_tup (a_cons (e_call rfl G_gd_grown (hr.mono (by omega)) (by rfl) T.g_gd_grown T.F_gd_grown.kp T.b_gd_grown (a_cons (e_nd (n_lc (own := [("_law_two", 5)]) (vs := [5]) rfl sc_gd_table.nd (i_sq rfl (v3 0)) (blkOk_by (own := [("_law_two", 5)]) (N := ["_law_values", "_law_switches", "_law_seen", "_law_told", "_law_one", "_law_two"]) (sc := defScope s_gd_table) (scope := { kind := PySem.ScopeKind.function, names := [ (PySem.Str.ofString ".0", PySem.NameKind.local), (PySem.Str.ofString "_law_two", PySem.NameKind.local), (PySem.Str.ofString "_law_one", PySem.NameKind.free)], isGenerator := false, isCoroutine := false, more := [] : PySem.Scope }) (by decide +kernel)) rfl (by decide) (fun _ _ _ _ _ => (g_name (i := 5) sc_gd_table.nd rfl (Or.inl rfl) (Or.inr rfl))) (fun _ _ _ _ _ => t_nil) (fun _ _ _ _ _ => (e_cmp rfl (op_gEq hu64) (v3 5) (v3 4) (nomark _))))) (a_cons (v3 1) a_nil))) (a_cons (v3 4) a_nil))) a_nil)))))
  b_nil)))
  (b_one (s_ret (e_cT (tupK3 rfl) ck_tupOf (by rfl) T.z_tuple (by decide +kernel) (a_cons (v3 3) a_nil))))))
theorem ok3_stirred (T : Tp K mg) : FnOk P w K mg base CX0 1 T.a_stirred T.d_stirred ["_law_number", "_law_turn"] (sp3 K f3_stirred) := by
  refine fn3 T.F_stirred sc_stirred rfl rfl fun cdv A outer s H E hr => ?_
  have hu64 := hr.units
  have hu1 := hr.units1
  have hu65 := hr.units65
  exact (b_cons (s_set (i := 2) sc_stirred.nd rfl (Or.inl rfl) (e_op op_mod ok_mod (e_cT int1_3 ck_int (by rfl) T.z_int (by decide +kernel) (a_cons (e_op (op_ad rfl) ok_add (e_op (op_ad rfl) ok_add (e_op op_mul ok_mul (v3 0) e_int) (e_op op_mul ok_mul (v3 1) e_int)) e_int) a_nil)) e_int))
  (b_cons (s_set (i := 3) sc_stirred.nd rfl (Or.inl rfl) (e_op op_mod ok_mod (e_cT int1_3 ck_int (by rfl) T.z_int (by decide +kernel) (a_cons (e_op (op_ad rfl) ok_add (e_op (op_ad rfl) ok_add (e_op op_mul ok_mul (v3 2) (v3 2)) (e_op op_mul ok_mul (v3 1) e_int)) (e_op op_fdiv ok_fdiv (v3 2) e_int)) a_nil)) e_int))
  (b_one (s_ret (e_op op_fdiv ok_fdiv (e_cT int1_3 ck_int (by rfl) T.z_int (by decide +kernel) (a_cons (e_op op_mod ok_mod (e_cT int1_3 ck_int (by rfl) T.z_int (by decide +kernel) (a_cons (e_op (op_ad rfl) ok_add (e_op op_mul ok_mul (v3 3) e_int) (e_op op_fdiv ok_fdiv (v3 2) e_int)) a_nil)) e_int) a_nil)) e_int)))))
theorem ok3_take (T : Tp K mg) : FnOk P w K mg base CX0 2 T.a_take T.d_take ["_law_hand_here", "_law_many"] (sp3 K f3_take) := by
  have G_stirred := ok3_stirred (P := P) (w := w) (base := base) T
  refine fn3 T.F_take sc_take rfl rfl fun cdv A outer s H E hr => ?_
  have hu64 := hr.units
  have hu1 := hr.units1
  have hu65 := hr.units65
  exact (b_cons (s_if (t_w (w_and (t_cmp rfl (op_gEq hu64) (e_ix (ix_sq rfl) ok_ix (v3 0) e_int (fun _ _ => rfl)) e_int (nomark _)) (w_and1 (t_cmp rfl (op_gLt hu64) (e_ix (ix_sq rfl) ok_ix (v3 0) e_int (fun _ _ => rfl)) (e_cB (lenK3 rfl) ck_len (by rfl) T.z_len (by decide +kernel) (a_cons (e_ix (ix_sq rfl) ok_ix (v3 0) e_int (fun _ _ => rfl)) a_nil)) (nomark _)))))
  (b_cons (s_set (i := 2) sc_take.nd rfl (Or.inl rfl) (e_ix (ix_sq rfl) ok_ix (e_ix (ix_sq rfl) ok_ix (v3 0) e_int (fun _ _ => rfl)) (e_ix (ix_sq rfl) ok_ix (v3 0) e_int (fun _ _ => rfl)) (fun _ _ => rfl)))
  (b_cons (s_asg (e_op (op_ad rfl) ok_add (e_ix (ix_sq rfl) ok_ix (v3 0) e_int (fun _ _ => rfl)) e_int) (g_sub (v3 0) e_int))
  (b_cons (s_if (t_cmp rfl (op_gLt hu64) (v3 2) (e_op op_pow ok_pow e_int e_int) (nomark _))
  (b_one (s_ret (e_op op_mod ok_mod (e_cT int1_3 ck_int (by rfl) T.z_int (by decide +kernel) (a_cons (e_call rfl G_stirred (hr.mono (by omega)) (by rfl) T.g_stirred T.F_stirred.kp T.b_stirred (a_cons (e_op op_mod ok_mod (e_cT int1_3 ck_int (by rfl) T.z_int (by decide +kernel) (a_cons (v3 2) a_nil)) e_int) (a_cons (e_ix (ix_sq rfl) ok_ix (v3 0) e_int (fun _ _ => rfl)) a_nil))) a_nil)) (v3 1))))
  b_nil)
  (b_one (s_asg (v3 2) (g_sub (v3 0) e_int))))))
  b_nil)
  (b_cons (s_if (t_cmp rfl (op_gGt hu64) (e_ix (ix_sq rfl) ok_ix (v3 0) e_int (fun _ _ => rfl)) e_int (nomark _))
  (b_cons (s_set (i := 3) sc_take.nd rfl (Or.inl rfl) (e_ix (ix_sq rfl) ok_ix (v3 0) e_int (fun _ _ => rfl)))
  (b_cons (s_asg (e_op op_fdiv ok_fdiv (e_cT int1_3 ck_int (by rfl) T.z_int (by decide +kernel) (a_cons (v3 3) a_nil)) (v3 1)) (g_sub (v3 0) e_int))
  (b_one (s_ret (e_op op_mod ok_mod (e_cT int1_3 ck_int (by rfl) T.z_int (by decide +kernel) (a_cons (v3 3) a_nil)) (v3 1))))))
  b_nil)
  (b_cons (s_asg (e_op op_mod ok_mod (e_cT int1_3 ck_int (by rfl) T.z_int (by decide +kernel) (a_cons (e_op (op_ad rfl) ok_add (e_ix (ix_sq rfl) ok_ix (v3 0) e_int (fun _ _ => rfl)) e_int) a_nil)) e_int) (g_sub (v3 0) e_int))
  (b_one (s_ret (e_op op_mod ok_mod (e_cT int1_3 ck_int (by rfl) T.z_int (by decide +kernel) (a_cons (e_call rfl G_stirred (hr.mono (by omega)) (by rfl) T.g_stirred T.F_stirred.kp T.b_stirred (a_cons (e_ix (ix_sq rfl) ok_ix (v3 0) e_int (fun _ _ => rfl)) (a_cons (e_ix (ix_sq rfl) ok_ix (v3 0) e_int (fun _ _ => rfl)) a_nil))) a_nil)) (v3 1)))))))
theorem ok3_gd_switches (T : Tp K mg) : FnOk P w K mg base CX0 3 T.a_gd_switches T.d_gd_switches ["_law_hand_here", "_law_many"] (sp3 K f3_gd_switches) := by
  have G_take := ok3_take (P := P) (w := w) (base := base) T
  refine fn3 T.F_gd_switches sc_gd_switches rfl rfl fun cdv A outer s H E hr => ?_
  have hu64 := hr.units
  have hu1 := hr.units1
  have hu65 := hr.units65
  exact (b_cons (s_set (i := 2) sc_gd_switches.nd rfl (Or.inl rfl) (e_call rfl G_take (hr.mono (by omega)) (by rfl) T.g_take T.F_take.kp T.b_take (a_cons (v3 0) (a_cons e_int a_nil))))
  (b_cons (s_set (i := 3) sc_gd_switches.nd rfl (Or.inl rfl) (e_sl rfl e_str (o_some (v3 2)) (o_some (e_op (op_ad rfl) ok_add (v3 2) (v3 1)))))
  (b_one (s_ret (e_nd (n_cB (sortK3 rfl hu64) nk_sorted (by rfl) T.z_sorted (by decide +kernel) (a_cons (e_nd (n_lc (own := [("_law_one", 4)]) (vs := [4]) rfl sc_gd_switches.nd (i_st (v3 3)) (blkOk_by (own := [("_law_one", 4)]) (N := ["_law_hand_here", "_law_many", "_law_start", "_law_heads", "_law_one"]) (sc := defScope s_gd_switches) (scope := { kind := PySem.ScopeKind.function, names := [ (PySem.Str.ofString ".0", PySem.NameKind.local), (PySem.Str.ofString "_law_one", PySem.NameKind.local), (PySem.Str.ofString "_law_take", PySem.NameKind.globalImplicit), (PySem.Str.ofString "_law_hand_here", PySem.NameKind.free)], isGenerator := false, isCoroutine := false, more := [] : PySem.Scope }) (by decide +kernel)) rfl (by decide) (fun _ _ _ _ _ => (g_name (i := 4) sc_gd_switches.nd rfl (Or.inl rfl) (Or.inr rfl))) (fun _ _ _ _ _ => t_nil) (fun _ _ _ _ _ => (e_op (op_ad rfl) ok_add (v3 4) (e_ix (ix_sq rfl) ok_ix (e_nd (n_lst (a_cons e_str (a_cons e_str (a_cons e_str a_nil))))) (e_call rfl G_take (hr.mono (by omega)) (by rfl) T.g_take T.F_take.kp T.b_take (a_cons (v3 0) (a_cons e_int a_nil))) (fun _ _ => rfl)))))) a_nil)))))))
theorem ok3_hand (T : Tp K mg) : FnOk P w K mg base CX0 1 T.a_hand T.d_hand ["_law_script"] (sp3 K f3_hand) := by
  refine fn3 T.F_hand sc_hand rfl rfl fun cdv A outer s H E hr => ?_
  have hu64 := hr.units
  have hu1 := hr.units1
  have hu65 := hr.units65
  exact (b_cons (s_set (i := 1) sc_hand.nd rfl (Or.inl rfl) (e_op (op_ad rfl) ok_add (e_op op_mul ok_mul (e_cB (lenK3 rfl) ck_len (by rfl) T.z_len (by decide +kernel) (a_cons (v3 0) a_nil)) e_int) e_int))
  (b_cons (s_set (i := 2) sc_hand.nd rfl (Or.inl rfl) (e_no (n_lst a_nil)))
  (b_cons (s_for PassesOwn.never rfl (i_sq rfl (v3 0)) (g_name (i := 3) sc_hand.nd rfl (Or.inl rfl))
  (b_cons (s_set (i := 1) sc_hand.nd rfl (Or.inl rfl) (e_op op_mod ok_mod (e_cT int1_3 ck_int (by rfl) T.z_int (by decide +kernel) (a_cons (e_op (op_ad rfl) ok_add (e_op op_mul ok_mul (v3 1) e_int) (e_cT int1_3 ck_int (by rfl) T.z_int (by decide +kernel) (a_cons (v3 3) a_nil))) a_nil)) e_int))
  (b_one (s_expr (e_m rfl PySem.F.slot_list_append PySem.F.type_list_append mt_append mk_app (v3 2) (a_cons (e_cB abs_3 ck_abs (by rfl) T.z_abs (by decide +kernel) (a_cons (e_cT int1_3 ck_int (by rfl) T.z_int (by decide +kernel) (a_cons (v3 3) a_nil)) a_nil)) a_nil))))))
  (b_one (s_ret (e_no (n_lst (a_cons (e_frz (v3 2)) (a_cons e_int (a_cons e_int (a_cons (v3 1) a_nil)))))))))))
theorem ok3_pick (T : Tp K mg) : FnOk P w K mg base CX0 3 T.a_pick T.d_pick ["_law_hand_here", "_law_things"] (sp3 K f3_pick) := by
  have G_take := ok3_take (P := P) (w := w) (base := base) T
  refine fn3 T.F_pick sc_pick rfl rfl fun cdv A outer s H E hr => ?_
  have hu64 := hr.units
  have hu1 := hr.units1
  have hu65 := hr.units65
  exact (b_one (s_ret (e_ix (ix_sq rfl) ok_ix (v3 1) (e_call rfl G_take (hr.mono (by omega)) (by rfl) T.g_take T.F_take.kp T.b_take (a_cons (v3 0) (a_cons (e_cB (lenK3 rfl) ck_len (by rfl) T.z_len (by decide +kernel) (a_cons (v3 1) a_nil)) a_nil))) (fun _ _ => rfl))))
theorem ok3_shuffled (T : Tp K mg) : FnOk P w K mg base CX0 3 T.a_shuffled T.d_shuffled ["_law_hand_here", "_law_things"] (sp3 K f3_shuffled) := by
  have G_take := ok3_take (P := P) (w := w) (base := base) T
  refine fn3 T.F_shuffled sc_shuffled rfl rfl fun cdv A outer s H E hr => ?_
  have hu64 := hr.units
  have hu1 := hr.units1
  have hu65 := hr.units65
  exact (b_cons (s_set (i := 2) sc_shuffled.nd rfl (Or.inr rfl) (e_no (n_cT (cr_lst3 rfl rfl) nk_lst3 (by rfl) T.z_list (by decide +kernel) (a_cons (v3 1) a_nil))))
  (b_one (s_ret (e_nd (n_lc (own := [("_law_k", 3)]) (vs := [3]) rfl sc_shuffled.nd (i_r1 (by rfl) T.z_range (a_cons (e_cB (lenK3 rfl) ck_len (by rfl) T.z_len (by decide +kernel) (a_cons (v3 2) a_nil)) a_nil)) (blkOk_by (own := [("_law_k", 3)]) (N := ["_law_hand_here", "_law_things", "_law_left", "_law_k"]) (sc := defScope s_shuffled) (scope := { kind := PySem.ScopeKind.function, names := [ (PySem.Str.ofString ".0", PySem.NameKind.local), (PySem.Str.ofString "_law_k", PySem.NameKind.local), (PySem.Str.ofString "_law_take", PySem.NameKind.globalImplicit), (PySem.Str.ofString "len", PySem.NameKind.globalImplicit), (PySem.Str.ofString "_law_hand_here", PySem.NameKind.free), (PySem.Str.ofString "_law_left", PySem.NameKind.free)], isGenerator := false, isCoroutine := false, more := [] : PySem.Scope }) (by decide +kernel)) rfl (by decide) (fun _ _ _ _ _ => (g_name (i := 3) sc_shuffled.nd rfl (Or.inl rfl) (Or.inr rfl))) (fun _ _ _ _ _ => t_nil) (fun _ _ _ _ _ => (e_m rfl PySem.F.slot_list_pop PySem.F.type_list_pop mt_popAt mk_popAt (v3 2) (a_cons (e_call rfl G_take (hr.mono (by omega)) (by rfl) T.g_take T.F_take.kp T.b_take (a_cons (v3 0) (a_cons (e_cB (lenK3 rfl) ck_len (by rfl) T.z_len (by decide +kernel) (a_cons (v3 2) a_nil)) a_nil))) a_nil))))))))
theorem ok3_law (T : Tp K mg) : FnOk P w K mg base CX0 65 T.a_law T.d_law ["_law_script"] (sp3 K f3_law) := by
  have G_gd_grown := ok3_gd_grown (P := P) (w := w) (base := base) T 60
  have G_gd_settings := ok3_gd_settings (P := P) (w := w) (base := base) T
  have G_gd_switches := ok3_gd_switches (P := P) (w := w) (base := base) T
  have G_gd_table := ok3_gd_table (P := P) (w := w) (base := base) T
  have G_hand := ok3_hand (P := P) (w := w) (base := base) T
  have G_pick := ok3_pick (P := P) (w := w) (base := base) T
  have G_shuffled := ok3_shuffled (P := P) (w := w) (base := base) T
  have G_take := ok3_take (P := P) (w := w) (base := base) T
  have G_deciding_switches := ok3_deciding_switches (P := P) (w := w) (base := base) T
  have G_outcome_condition := ok3_outcome_condition (P := P) (w := w) (base := base) T
  refine fn3 T.F_law sc_law rfl rfl fun cdv A outer s H E hr => ?_
  have hu64 := hr.units
  have hu1 := hr.units1
  have hu65 := hr.units65
  exact (b_cons (s_set (i := 1) sc_law.nd rfl (Or.inr rfl) (e_call rfl G_hand (hr.mono (by omega)) (by rfl) T.g_hand T.F_hand.kp T.b_hand (a_cons (v3 0) a_nil)))
  (b_cons (s_set (i := 2) sc_law.nd rfl (Or.inr rfl) (e_call rfl G_gd_switches (hr.mono (by omega)) (by rfl) T.g_gd_switches T.F_gd_switches.kp T.b_gd_switches (a_cons (v3 1) (a_cons (e_op (op_ad rfl) ok_add e_int (e_call rfl G_take (hr.mono (by omega)) (by rfl) T.g_take T.F_take.kp T.b_take (a_cons (v3 1) (a_cons e_int a_nil)))) a_nil))))
  (b_cons (s_set (i := 3) sc_law.nd rfl (Or.inr rfl) (e_call rfl G_gd_settings (hr.mono (by omega)) (by rfl) T.g_gd_settings T.F_gd_settings.kp T.b_gd_settings (a_cons (v3 2) a_nil)))
  (b_cons (s_set (i := 4) sc_law.nd rfl (Or.inr rfl) (e_nd (n_lst (a_cons (e_tup (a_cons e_str (a_cons (e_tup (a_cons e_str (a_cons e_int a_nil))) (a_cons e_int a_nil)))) (a_cons (e_tup (a_cons e_str (a_cons (e_tup (a_cons e_str (a_cons e_bl a_nil))) (a_cons e_int a_nil)))) (a_cons (e_tup (a_cons e_str (a_cons e_int (a_cons e_int a_nil)))) (a_cons (e_tup (a_cons e_str (a_cons e_int (a_cons e_int a_nil)))) (a_cons (e_tup (a_cons e_str (a_cons e_non (a_cons e_int a_nil)))) a_nil))))))))
  (b_cons (s_set (i := 4) sc_law.nd rfl (Or.inr rfl) (e_sl rfl (e_call rfl G_shuffled (hr.mono (by omega)) (by rfl) T.g_shuffled T.F_shuffled.kp T.b_shuffled (a_cons (v3 1) (a_cons (e_op (op_ad rfl) ok_add (v3 4) (e_nd (n_lst (a_cons (e_tup (a_cons e_str (a_cons (e_tup (a_cons e_str (a_cons e_int a_nil))) (a_cons e_int a_nil)))) (a_cons (e_tup (a_cons e_str (a_cons (e_tup (a_cons e_str (a_cons e_int a_nil))) (a_cons e_int a_nil)))) a_nil))))) a_nil))) o_none (o_some (e_op (op_ad rfl) ok_add e_int (e_call rfl G_take (hr.mono (by omega)) (by rfl) T.g_take T.F_take.kp T.b_take (a_cons (v3 1) (a_cons e_int a_nil)))))))
  (b_cons (s_set (i := 5) sc_law.nd rfl (Or.inr rfl) (e_nd (n_lc (own := [("_law_one", 6)]) (vs := [6]) rfl sc_law.nd (i_sq rfl (v3 3)) (blkOk_by (own := [("_law_one", 6)]) (N := ["_law_script", "_law_hand_here", "_law_switches", "_law_settings", "_law_row", "_law_values", "_law_one", "_law_table", "_law_word", "_law_due", "_law_a", "_law_turned", "_law_b", "_law_k", "_law_told"]) (sc := defScope s_law) (scope := { kind := PySem.ScopeKind.function, names := [ (PySem.Str.ofString ".0", PySem.NameKind.local), (PySem.Str.ofString "_law_one", PySem.NameKind.local), (PySem.Str.ofString "_law_pick", PySem.NameKind.globalImplicit), (PySem.Str.ofString "_law_hand_here", PySem.NameKind.free), (PySem.Str.ofString "_law_row", PySem.NameKind.free)], isGenerator := false, isCoroutine := false, more := [] : PySem.Scope }) (by decide +kernel)) rfl (by decide) (fun _ _ _ _ _ => (g_name (i := 6) sc_law.nd rfl (Or.inl rfl) (Or.inr rfl))) (fun _ _ _ _ _ => t_nil) (fun _ _ _ _ _ => (e_call rfl G_pick (hr.mono (by omega)) (by rfl) T.g_pick T.F_pick.kp T.b_pick (a_cons (v3 1) (a_cons (v3 4) a_nil)))))))
  (b_cons (s_set (i := 7) sc_law.nd rfl (Or.inl rfl) (e_call rfl G_gd_table (hr.mono (by omega)) (by rfl) T.g_gd_table T.F_gd_table.kp T.b_gd_table (a_cons (v3 5) (a_cons (v3 2) a_nil))))
  (b_cons (s_for PassesOwn.never rfl (i_sq rfl (e_nd (n_lst (a_cons e_str (a_cons e_str (a_cons e_str (a_cons e_str a_nil))))))) (g_name (i := 8) sc_law.nd rfl (Or.inr rfl))
  (b_one (s_if (t_cmp rfl (op_gNe hu64) (e_call rfl G_outcome_condition (hr.mono (by omega)) (by rfl) T.g_outcome_condition T.F_outcome_condition.kp T.b_outcome_condition (a_cons (v3 7) (a_cons (v3 8) a_nil))) (e_call rfl G_gd_grown (hr.mono (by omega)) (by rfl) T.g_gd_grown T.F_gd_grown.kp T.b_gd_grown (a_cons (e_nd (n_lc (own := [("_law_one", 6)]) (vs := [6]) rfl sc_law.nd (i_sq rfl (v3 5)) (blkOk_by (own := [("_law_one", 6)]) (N := ["_law_script", "_law_hand_here", "_law_switches", "_law_settings", "_law_row", "_law_values", "_law_one", "_law_table", "_law_word", "_law_due", "_law_a", "_law_turned", "_law_b", "_law_k", "_law_told"]) (sc := defScope s_law) (scope := { kind := PySem.ScopeKind.function, names := [ (PySem.Str.ofString ".0", PySem.NameKind.local), (PySem.Str.ofString "_law_one", PySem.NameKind.local), (PySem.Str.ofString "_law_word", PySem.NameKind.free)], isGenerator := false, isCoroutine := false, more := [] : PySem.Scope }) (by decide +kernel)) rfl (by decide) (fun _ _ _ _ _ => (g_name (i := 6) sc_law.nd rfl (Or.inl rfl) (Or.inr rfl))) (fun _ _ _ _ _ => t_nil) (fun _ _ _ _ _ => (e_cmp rfl (op_gEq hu64) (e_ix (ix_sq rfl) ok_ix (v3 6) e_int (fun _ _ => rfl)) (v3 8) (nomark _))))) (a_cons (v3 2) a_nil))) (nomark _))
  (b_one (s_ret e_bl))
  b_nil)))
  (b_cons (s_set (i := 9) sc_law.nd rfl (Or.inl rfl) (e_no (n_lst a_nil)))
  (b_cons (s_for PassesOwn.never rfl (i_sq rfl (v3 2)) (g_name (i := 10) sc_law.nd rfl (Or.inr rfl))
  (b_cons (s_set (i := 11) sc_law.nd rfl (Or.inr rfl) (e_nd (n_lc (own := [("_law_one", 6)]) (vs := [6]) rfl sc_law.nd (i_sq rfl (v3 3)) (blkOk_by (own := [("_law_one", 6)]) (N := ["_law_script", "_law_hand_here", "_law_switches", "_law_settings", "_law_row", "_law_values", "_law_one", "_law_table", "_law_word", "_law_due", "_law_a", "_law_turned", "_law_b", "_law_k", "_law_told"]) (sc := defScope s_law) (scope := { kind := PySem.ScopeKind.function, names := [ (PySem.Str.ofString ".0", PySem.NameKind.local), (PySem.Str.ofString "_law_one", PySem.NameKind.cell), (PySem.Str.ofString "tuple", PySem.NameKind.globalImplicit), (PySem.Str.ofString "_law_a", PySem.NameKind.free), (PySem.Str.ofString "_law_settings", PySem.NameKind.free), (PySem.Str.ofString "_law_switches", PySem.NameKind.free)], isGenerator := false, isCoroutine := false, more := [] : PySem.Scope }) (by decide +kernel)) rfl (by decide) (fun _ _ _ _ _ => (g_name (i := 6) sc_law.nd rfl (Or.inr rfl) (Or.inl rfl))) (fun _ _ _ _ _ => t_nil) (fun _ _ _ _ _ => (e_index rfl hu65 (v3 3) (a_cons (e_cT (tupK3 rfl) ck_tupOf (by rfl) T.z_tuple (by decide +kernel) (a_cons (e_nd (n_lc (own := [("_law_b", 12)]) (vs := [12]) rfl sc_law.nd (i_sq rfl (v3 2)) (blkOk_by (own := [("_law_b", 12)]) (N := ["_law_script", "_law_hand_here", "_law_switches", "_law_settings", "_law_row", "_law_values", "_law_one", "_law_table", "_law_word", "_law_due", "_law_a", "_law_turned", "_law_b", "_law_k", "_law_told"]) (sc := relS { kind := PySem.ScopeKind.function, names := [ (PySem.Str.ofString ".0", PySem.NameKind.local), (PySem.Str.ofString "_law_one", PySem.NameKind.cell), (PySem.Str.ofString "tuple", PySem.NameKind.globalImplicit), (PySem.Str.ofString "_law_a", PySem.NameKind.free), (PySem.Str.ofString "_law_settings", PySem.NameKind.free), (PySem.Str.ofString "_law_switches", PySem.NameKind.free)], isGenerator := false, isCoroutine := false, more := [] : PySem.Scope } (defScope s_law)) (scope := { kind := PySem.ScopeKind.function, names := [ (PySem.Str.ofString ".0", PySem.NameKind.local), (PySem.Str.ofString "_law_b", PySem.NameKind.local), (PySem.Str.ofString "_law_a", PySem.NameKind.free), (PySem.Str.ofString "_law_one", PySem.NameKind.free)], isGenerator := false, isCoroutine := false, more := [] : PySem.Scope }) (by decide +kernel)) rfl (by decide) (fun _ _ _ _ _ => (g_name (i := 12) sc_law.nd rfl (Or.inl rfl) (Or.inr rfl))) (fun _ _ _ _ _ => (t_one (t_cmp rfl (op_gNe hu64) (e_cmp rfl (op_gIn hu64) (v3 12) (v3 6) (by rfl)) (e_cmp rfl (op_gEq hu64) (v3 12) (v3 10) (nomark _)) (nomark _)))) (fun _ _ _ _ _ => (v3 12)))) a_nil)) a_nil))))))
  (b_one (s_if (t_cmp rfl (op_gNe hu64) (e_nd (n_lc (own := [("_law_k", 13)]) (vs := [13]) rfl sc_law.nd (i_r1 (by rfl) T.z_range (a_cons (e_cB (lenK3 rfl) ck_len (by rfl) T.z_len (by decide +kernel) (a_cons (v3 3) a_nil)) a_nil)) (blkOk_by (own := [("_law_k", 13)]) (N := ["_law_script", "_law_hand_here", "_law_switches", "_law_settings", "_law_row", "_law_values", "_law_one", "_law_table", "_law_word", "_law_due", "_law_a", "_law_turned", "_law_b", "_law_k", "_law_told"]) (sc := defScope s_law) (scope := { kind := PySem.ScopeKind.function, names := [ (PySem.Str.ofString ".0", PySem.NameKind.local), (PySem.Str.ofString "_law_k", PySem.NameKind.local), (PySem.Str.ofString "_law_turned", PySem.NameKind.free), (PySem.Str.ofString "_law_values", PySem.NameKind.free)], isGenerator := false, isCoroutine := false, more := [] : PySem.Scope }) (by decide +kernel)) rfl (by decide) (fun _ _ _ _ _ => (g_name (i := 13) sc_law.nd rfl (Or.inl rfl) (Or.inr rfl))) (fun _ _ _ _ _ => (t_one (t_cmp rfl (op_gNe hu64) (e_ix (ix_sq rfl) ok_ix (v3 5) (v3 13) (fun _ _ => rfl)) (e_ix (ix_sq rfl) ok_ix (v3 5) (e_ix (ix_sq rfl) ok_ix (v3 11) (v3 13) (fun _ _ => rfl)) (fun _ _ => rfl)) (nomark _)))) (fun _ _ _ _ _ => (v3 13)))) (e_nd (n_lst a_nil)) (nomark _))
  (b_one (s_expr (e_m rfl PySem.F.slot_list_append PySem.F.type_list_append mt_append mk_app (v3 9) (a_cons (v3 10) a_nil))))
  b_nil))))
  (b_cons (s_set (i := 14) sc_law.nd rfl (Or.inl rfl) (e_call rfl G_deciding_switches (hr.mono (by omega)) (by rfl) T.g_deciding_switches T.F_deciding_switches.kp T.b_deciding_switches (a_cons (v3 7) a_nil)))
  (b_one (s_ret (e_and (e_cB (isiK3 rfl) ck_isi (by rfl) T.z_isinstance (by decide +kernel) (a_cons (v3 14) (a_cons (e_ty (by rfl) T.z_tuple (by decide +kernel)) a_nil))) (e_one (e_cmp rfl (op_gEq hu64) (v3 14) (e_cT (tupK3 rfl) ck_tupOf (by rfl) T.z_tuple (by decide +kernel) (a_cons (v3 9) a_nil)) (nomark _)))))))))))))))))
theorem ok_law (T : Tp K mg) (h : ∀ ns : List Int, ns.length ≤ 63 → ∃ S, f3_law [.sc ns] [] = some (.d (.bool true), S)) : FnOk P w K mg base CX0 65 T.a_law T.d_law ["_law_script"] (spLaw3 K) := law3 (ok3_law T) h
end
section
theorem tp_mk {K : PySem.W.Frag} {h : Heap} {mg : Str → Option Value} {fa : Addr} (X : K.In h) (G : h.Ns mainGlobals mg) (hfa : mg "law" = some (.ref fa))
    {f0 : Addr} {od0 an0 : Option Addr} {sl0 : Array (Option Value)} {oc0 kV0 dc0 pm0 cd0 ct0 : Value}
    (a0 : PySem.W.nsIn K mainGlobals "formed" = some (some (.ref f0))) (l0 : K.lookup f0 = some ⟨oc0, od0, .func (PySem.W.fnOf "formed" "formed" (defArgs s_formed) (defBody s_formed) (defScope s_formed) .none kV0 dc0 pm0 an0 cd0 ct0), sl0⟩) (c0 : PySem.W.codeIn K cd0 "formed" = true) (k0 : PySem.W.keepIn K (.ref f0) = true)
    {f1 : Addr} {od1 an1 : Option Addr} {sl1 : Array (Option Value)} {oc1 kV1 dc1 pm1 cd1 ct1 : Value}
    (a1 : PySem.W.nsIn K mainGlobals "side_of" = some (some (.ref f1))) (l1 : K.lookup f1 = some ⟨oc1, od1, .func (PySem.W.fnOf "side_of" "side_of" (defArgs s_side_of) (defBody s_side_of) (defScope s_side_of) .none kV1 dc1 pm1 an1 cd1 ct1), sl1⟩) (c1 : PySem.W.codeIn K cd1 "side_of" = true) (k1 : PySem.W.keepIn K (.ref f1) = true)
    {f2 : Addr} {od2 an2 : Option Addr} {sl2 : Array (Option Value)} {oc2 kV2 dc2 pm2 cd2 ct2 : Value}
    (a2 : PySem.W.nsIn K mainGlobals "no" = some (some (.ref f2))) (l2 : K.lookup f2 = some ⟨oc2, od2, .func (PySem.W.fnOf "no" "no" (defArgs s_no) (defBody s_no) (defScope s_no) .none kV2 dc2 pm2 an2 cd2 ct2), sl2⟩) (c2 : PySem.W.codeIn K cd2 "no" = true) (k2 : PySem.W.keepIn K (.ref f2) = true)
    {f3 : Addr} {od3 an3 : Option Addr} {sl3 : Array (Option Value)} {oc3 kV3 dc3 pm3 cd3 ct3 : Value}
    (a3 : PySem.W.nsIn K mainGlobals "both" = some (some (.ref f3))) (l3 : K.lookup f3 = some ⟨oc3, od3, .func (PySem.W.fnOf "both" "both" (defArgs s_both) (defBody s_both) (defScope s_both) .none kV3 dc3 pm3 an3 cd3 ct3), sl3⟩) (c3 : PySem.W.codeIn K cd3 "both" = true) (k3 : PySem.W.keepIn K (.ref f3) = true)
    {f4 : Addr} {od4 an4 : Option Addr} {sl4 : Array (Option Value)} {oc4 kV4 dc4 pm4 cd4 ct4 : Value}
    (a4 : PySem.W.nsIn K mainGlobals "either" = some (some (.ref f4))) (l4 : K.lookup f4 = some ⟨oc4, od4, .func (PySem.W.fnOf "either" "either" (defArgs s_either) (defBody s_either) (defScope s_either) .none kV4 dc4 pm4 an4 cd4 ct4), sl4⟩) (c4 : PySem.W.codeIn K cd4 "either" = true) (k4 : PySem.W.keepIn K (.ref f4) = true)
    {f5 : Addr} {od5 an5 : Option Addr} {sl5 : Array (Option Value)} {oc5 kV5 dc5 pm5 cd5 ct5 : Value}
    (a5 : PySem.W.nsIn K mainGlobals "switches_of" = some (some (.ref f5))) (l5 : K.lookup f5 = some ⟨oc5, od5, .func (PySem.W.fnOf "switches_of" "switches_of" (defArgs s_switches_of) (defBody s_switches_of) (defScope s_switches_of) .none kV5 dc5 pm5 an5 cd5 ct5), sl5⟩) (c5 : PySem.W.codeIn K cd5 "switches_of" = true) (k5 : PySem.W.keepIn K (.ref f5) = true)
    {f6 : Addr} {od6 an6 : Option Addr} {sl6 : Array (Option Value)} {oc6 kV6 dc6 pm6 cd6 ct6 : Value}
    (a6 : PySem.W.nsIn K mainGlobals "outcome_condition" = some (some (.ref f6))) (l6 : K.lookup f6 = some ⟨oc6, od6, .func (PySem.W.fnOf "outcome_condition" "outcome_condition" (defArgs s_outcome_condition) (defBody s_outcome_condition) (defScope s_outcome_condition) .none kV6 dc6 pm6 an6 cd6 ct6), sl6⟩) (c6 : PySem.W.codeIn K cd6 "outcome_condition" = true) (k6 : PySem.W.keepIn K (.ref f6) = true)
    {f7 : Addr} {od7 an7 : Option Addr} {sl7 : Array (Option Value)} {oc7 kV7 dc7 pm7 cd7 ct7 : Value}
    (a7 : PySem.W.nsIn K mainGlobals "deciding_switches" = some (some (.ref f7))) (l7 : K.lookup f7 = some ⟨oc7, od7, .func (PySem.W.fnOf "deciding_switches" "deciding_switches" (defArgs s_deciding_switches) (defBody s_deciding_switches) (defScope s_deciding_switches) .none kV7 dc7 pm7 an7 cd7 ct7), sl7⟩) (c7 : PySem.W.codeIn K cd7 "deciding_switches" = true) (k7 : PySem.W.keepIn K (.ref f7) = true)
    {f8 : Addr} {od8 an8 : Option Addr} {sl8 : Array (Option Value)} {oc8 kV8 dc8 pm8 cd8 ct8 : Value}
    (a8 : PySem.W.nsIn K mainGlobals "_law_gd_settings" = some (some (.ref f8))) (l8 : K.lookup f8 = some ⟨oc8, od8, .func (PySem.W.fnOf "_law_gd_settings" "_law_gd_settings" (defArgs s_gd_settings) (defBody s_gd_settings) (defScope s_gd_settings) .none kV8 dc8 pm8 an8 cd8 ct8), sl8⟩) (c8 : PySem.W.codeIn K cd8 "_law_gd_settings" = true) (k8 : PySem.W.keepIn K (.ref f8) = true)
    {f9 : Addr} {od9 an9 : Option Addr} {sl9 : Array (Option Value)} {oc9 kV9 dc9 pm9 cd9 ct9 : Value}
    (a9 : PySem.W.nsIn K mainGlobals "_law_gd_grown" = some (some (.ref f9))) (l9 : K.lookup f9 = some ⟨oc9, od9, .func (PySem.W.fnOf "_law_gd_grown" "_law_gd_grown" (defArgs s_gd_grown) (defBody s_gd_grown) (defScope s_gd_grown) .none kV9 dc9 pm9 an9 cd9 ct9), sl9⟩) (c9 : PySem.W.codeIn K cd9 "_law_gd_grown" = true) (k9 : PySem.W.keepIn K (.ref f9) = true)
    {f10 : Addr} {od10 an10 : Option Addr} {sl10 : Array (Option Value)} {oc10 kV10 dc10 pm10 cd10 ct10 : Value}
    (a10 : PySem.W.nsIn K mainGlobals "_law_gd_table" = some (some (.ref f10))) (l10 : K.lookup f10 = some ⟨oc10, od10, .func (PySem.W.fnOf "_law_gd_table" "_law_gd_table" (defArgs s_gd_table) (defBody s_gd_table) (defScope s_gd_table) .none kV10 dc10 pm10 an10 cd10 ct10), sl10⟩) (c10 : PySem.W.codeIn K cd10 "_law_gd_table" = true) (k10 : PySem.W.keepIn K (.ref f10) = true)
    {f11 : Addr} {od11 an11 : Option Addr} {sl11 : Array (Option Value)} {oc11 kV11 dc11 pm11 cd11 ct11 : Value}
    (a11 : PySem.W.nsIn K mainGlobals "_law_gd_switches" = some (some (.ref f11))) (l11 : K.lookup f11 = some ⟨oc11, od11, .func (PySem.W.fnOf "_law_gd_switches" "_law_gd_switches" (defArgs s_gd_switches) (defBody s_gd_switches) (defScope s_gd_switches) .none kV11 dc11 pm11 an11 cd11 ct11), sl11⟩) (c11 : PySem.W.codeIn K cd11 "_law_gd_switches" = true) (k11 : PySem.W.keepIn K (.ref f11) = true)
    {f12 : Addr} {od12 an12 : Option Addr} {sl12 : Array (Option Value)} {oc12 kV12 dc12 pm12 cd12 ct12 : Value}
    (a12 : PySem.W.nsIn K mainGlobals "_law_hand" = some (some (.ref f12))) (l12 : K.lookup f12 = some ⟨oc12, od12, .func (PySem.W.fnOf "_law_hand" "_law_hand" (defArgs s_hand) (defBody s_hand) (defScope s_hand) .none kV12 dc12 pm12 an12 cd12 ct12), sl12⟩) (c12 : PySem.W.codeIn K cd12 "_law_hand" = true) (k12 : PySem.W.keepIn K (.ref f12) = true)
    {f13 : Addr} {od13 an13 : Option Addr} {sl13 : Array (Option Value)} {oc13 kV13 dc13 pm13 cd13 ct13 : Value}
    (a13 : PySem.W.nsIn K mainGlobals "_law_stirred" = some (some (.ref f13))) (l13 : K.lookup f13 = some ⟨oc13, od13, .func (PySem.W.fnOf "_law_stirred" "_law_stirred" (defArgs s_stirred) (defBody s_stirred) (defScope s_stirred) .none kV13 dc13 pm13 an13 cd13 ct13), sl13⟩) (c13 : PySem.W.codeIn K cd13 "_law_stirred" = true) (k13 : PySem.W.keepIn K (.ref f13) = true)
    {f14 : Addr} {od14 an14 : Option Addr} {sl14 : Array (Option Value)} {oc14 kV14 dc14 pm14 cd14 ct14 : Value}
    (a14 : PySem.W.nsIn K mainGlobals "_law_take" = some (some (.ref f14))) (l14 : K.lookup f14 = some ⟨oc14, od14, .func (PySem.W.fnOf "_law_take" "_law_take" (defArgs s_take) (defBody s_take) (defScope s_take) .none kV14 dc14 pm14 an14 cd14 ct14), sl14⟩) (c14 : PySem.W.codeIn K cd14 "_law_take" = true) (k14 : PySem.W.keepIn K (.ref f14) = true)
    {f15 : Addr} {od15 an15 : Option Addr} {sl15 : Array (Option Value)} {oc15 kV15 dc15 pm15 cd15 ct15 : Value}
    (a15 : PySem.W.nsIn K mainGlobals "_law_pick" = some (some (.ref f15))) (l15 : K.lookup f15 = some ⟨oc15, od15, .func (PySem.W.fnOf "_law_pick" "_law_pick" (defArgs s_pick) (defBody s_pick) (defScope s_pick) .none kV15 dc15 pm15 an15 cd15 ct15), sl15⟩) (c15 : PySem.W.codeIn K cd15 "_law_pick" = true) (k15 : PySem.W.keepIn K (.ref f15) = true)
    {f16 : Addr} {od16 an16 : Option Addr} {sl16 : Array (Option Value)} {oc16 kV16 dc16 pm16 cd16 ct16 : Value}
    (a16 : PySem.W.nsIn K mainGlobals "_law_shuffled" = some (some (.ref f16))) (l16 : K.lookup f16 = some ⟨oc16, od16, .func (PySem.W.fnOf "_law_shuffled" "_law_shuffled" (defArgs s_shuffled) (defBody s_shuffled) (defScope s_shuffled) .none kV16 dc16 pm16 an16 cd16 ct16), sl16⟩) (c16 : PySem.W.codeIn K cd16 "_law_shuffled" = true) (k16 : PySem.W.keepIn K (.ref f16) = true)
    {f17 : Addr} {od17 an17 : Option Addr} {sl17 : Array (Option Value)} {oc17 kV17 dc17 pm17 cd17 ct17 : Value}
    (a17 : PySem.W.nsIn K mainGlobals "law" = some (some (.ref f17))) (l17 : K.lookup f17 = some ⟨oc17, od17, .func (PySem.W.fnOf "law" "law" (defArgs s_law) (defBody s_law) (defScope s_law) .none kV17 dc17 pm17 an17 cd17 ct17), sl17⟩) (c17 : PySem.W.codeIn K cd17 "law" = true) (k17 : PySem.W.keepIn K (.ref f17) = true)
    (z_abs : PySem.W.nsIn K mainGlobals "abs" = some none)
    (z_bool : PySem.W.nsIn K mainGlobals "bool" = some none)
    (z_int : PySem.W.nsIn K mainGlobals "int" = some none)
    (z_isinstance : PySem.W.nsIn K mainGlobals "isinstance" = some none)
    (z_len : PySem.W.nsIn K mainGlobals "len" = some none)
    (z_list : PySem.W.nsIn K mainGlobals "list" = some none)
    (z_min : PySem.W.nsIn K mainGlobals "min" = some none)
    (z_range : PySem.W.nsIn K mainGlobals "range" = some none)
    (z_sorted : PySem.W.nsIn K mainGlobals "sorted" = some none)
    (z_tuple : PySem.W.nsIn K mainGlobals "tuple" = some none)
    : ∃ T : Tp K mg, T.a_law = fa ∧ ∀ (s : Shared) (v : Value), BindsTo s T.d_law ⟨[v], []⟩ [("_law_script", v)] := by
  have e := hfa.symm.trans (PySem.W.mg_of X G a17)
  cases e
  have F0 := fun_mk (st := s_formed) l0 c0 k0
  have b0 := F0.binds (ps := ["switch", "on", "off"]) fun _ _ _ _ _ _ us hl => match us, hl with | [_, _, _], _ => rfl
  have F1 := fun_mk (st := s_side_of) l1 c1 k1
  have b1 := F1.binds (ps := ["condition", "switch", "on"]) fun _ _ _ _ _ _ us hl => match us, hl with | [_, _, _], _ => rfl
  have F2 := fun_mk (st := s_no) l2 c2 k2
  have b2 := F2.binds (ps := ["condition"]) fun _ _ _ _ _ _ us hl => match us, hl with | [_], _ => rfl
  have F3 := fun_mk (st := s_both) l3 c3 k3
  have b3 := F3.binds (ps := ["condition", "other"]) fun _ _ _ _ _ _ us hl => match us, hl with | [_, _], _ => rfl
  have F4 := fun_mk (st := s_either) l4 c4 k4
  have b4 := F4.binds (ps := ["condition", "other"]) fun _ _ _ _ _ _ us hl => match us, hl with | [_, _], _ => rfl
  have F5 := fun_mk (st := s_switches_of) l5 c5 k5
  have b5 := F5.binds (ps := ["condition"]) fun _ _ _ _ _ _ us hl => match us, hl with | [_], _ => rfl
  have F6 := fun_mk (st := s_outcome_condition) l6 c6 k6
  have b6 := F6.binds (ps := ["table", "word"]) fun _ _ _ _ _ _ us hl => match us, hl with | [_, _], _ => rfl
  have F7 := fun_mk (st := s_deciding_switches) l7 c7 k7
  have b7 := F7.binds (ps := ["table"]) fun _ _ _ _ _ _ us hl => match us, hl with | [_], _ => rfl
  have F8 := fun_mk (st := s_gd_settings) l8 c8 k8
  have b8 := F8.binds (ps := ["_law_switches"]) fun _ _ _ _ _ _ us hl => match us, hl with | [_], _ => rfl
  have F9 := fun_mk (st := s_gd_grown) l9 c9 k9
  have b9 := F9.binds (ps := ["_law_bits", "_law_switches"]) fun _ _ _ _ _ _ us hl => match us, hl with | [_, _], _ => rfl
  have F10 := fun_mk (st := s_gd_table) l10 c10 k10
  have b10 := F10.binds (ps := ["_law_values", "_law_switches"]) fun _ _ _ _ _ _ us hl => match us, hl with | [_, _], _ => rfl
  have F11 := fun_mk (st := s_gd_switches) l11 c11 k11
  have b11 := F11.binds (ps := ["_law_hand_here", "_law_many"]) fun _ _ _ _ _ _ us hl => match us, hl with | [_, _], _ => rfl
  have F12 := fun_mk (st := s_hand) l12 c12 k12
  have b12 := F12.binds (ps := ["_law_script"]) fun _ _ _ _ _ _ us hl => match us, hl with | [_], _ => rfl
  have F13 := fun_mk (st := s_stirred) l13 c13 k13
  have b13 := F13.binds (ps := ["_law_number", "_law_turn"]) fun _ _ _ _ _ _ us hl => match us, hl with | [_, _], _ => rfl
  have F14 := fun_mk (st := s_take) l14 c14 k14
  have b14 := F14.binds (ps := ["_law_hand_here", "_law_many"]) fun _ _ _ _ _ _ us hl => match us, hl with | [_, _], _ => rfl
  have F15 := fun_mk (st := s_pick) l15 c15 k15
  have b15 := F15.binds (ps := ["_law_hand_here", "_law_things"]) fun _ _ _ _ _ _ us hl => match us, hl with | [_, _], _ => rfl
  have F16 := fun_mk (st := s_shuffled) l16 c16 k16
  have b16 := F16.binds (ps := ["_law_hand_here", "_law_things"]) fun _ _ _ _ _ _ us hl => match us, hl with | [_, _], _ => rfl
  have F17 := fun_mk (st := s_law) l17 c17 k17
  have b17 := F17.binds (ps := ["_law_script"]) fun _ _ _ _ _ _ us hl => match us, hl with | [_], _ => rfl
  exact ⟨⟨_, _, F0, PySem.W.mg_of X G a0, b0,
    _, _, F1, PySem.W.mg_of X G a1, b1,
    _, _, F2, PySem.W.mg_of X G a2, b2,
    _, _, F3, PySem.W.mg_of X G a3, b3,
    _, _, F4, PySem.W.mg_of X G a4, b4,
    _, _, F5, PySem.W.mg_of X G a5, b5,
    _, _, F6, PySem.W.mg_of X G a6, b6,
    _, _, F7, PySem.W.mg_of X G a7, b7,
    _, _, F8, PySem.W.mg_of X G a8, b8,
    _, _, F9, PySem.W.mg_of X G a9, b9,
    _, _, F10, PySem.W.mg_of X G a10, b10,
    _, _, F11, PySem.W.mg_of X G a11, b11,
    _, _, F12, PySem.W.mg_of X G a12, b12,
    _, _, F13, PySem.W.mg_of X G a13, b13,
    _, _, F14, PySem.W.mg_of X G a14, b14,
    _, _, F15, PySem.W.mg_of X G a15, b15,
    _, _, F16, PySem.W.mg_of X G a16, b16,
    _, _, F17, PySem.W.mg_of X G a17, b17,
    PySem.W.mg_none_of X G z_abs,
    PySem.W.mg_none_of X G z_bool,
    PySem.W.mg_none_of X G z_int,
    PySem.W.mg_none_of X G z_isinstance,
    PySem.W.mg_none_of X G z_len,
    PySem.W.mg_none_of X G z_list,
    PySem.W.mg_none_of X G z_min,
    PySem.W.mg_none_of X G z_range,
    PySem.W.mg_none_of X G z_sorted,
    PySem.W.mg_none_of X G z_tuple⟩, rfl, fun s v => .of_eq rfl⟩
theorem all_mk {P : Program} {w : World} {K : PySem.W.Frag} {h : Heap} {mg : Str → Option Value} {fa : Addr} (X : K.In h) (G : h.Ns mainGlobals mg) (hfa : mg "law" = some (.ref fa))
    {f0 : Addr} {od0 an0 : Option Addr} {sl0 : Array (Option Value)} {oc0 kV0 dc0 pm0 cd0 ct0 : Value}
    (a0 : PySem.W.nsIn K mainGlobals "formed" = some (some (.ref f0))) (l0 : K.lookup f0 = some ⟨oc0, od0, .func (PySem.W.fnOf "formed" "formed" (defArgs s_formed) (defBody s_formed) (defScope s_formed) .none kV0 dc0 pm0 an0 cd0 ct0), sl0⟩) (c0 : PySem.W.codeIn K cd0 "formed" = true) (k0 : PySem.W.keepIn K (.ref f0) = true)
    {f1 : Addr} {od1 an1 : Option Addr} {sl1 : Array (Option Value)} {oc1 kV1 dc1 pm1 cd1 ct1 : Value}
    (a1 : PySem.W.nsIn K mainGlobals "side_of" = some (some (.ref f1))) (l1 : K.lookup f1 = some ⟨oc1, od1, .func (PySem.W.fnOf "side_of" "side_of" (defArgs s_side_of) (defBody s_side_of) (defScope s_side_of) .none kV1 dc1 pm1 an1 cd1 ct1), sl1⟩) (c1 : PySem.W.codeIn K cd1 "side_of" = true) (k1 : PySem.W.keepIn K (.ref f1) = true)
    {f2 : Addr} {od2 an2 : Option Addr} {sl2 : Array (Option Value)} {oc2 kV2 dc2 pm2 cd2 ct2 : Value}
    (a2 : PySem.W.nsIn K mainGlobals "no" = some (some (.ref f2))) (l2 : K.lookup f2 = some ⟨oc2, od2, .func (PySem.W.fnOf "no" "no" (defArgs s_no) (defBody s_no) (defScope s_no) .none kV2 dc2 pm2 an2 cd2 ct2), sl2⟩) (c2 : PySem.W.codeIn K cd2 "no" = true) (k2 : PySem.W.keepIn K (.ref f2) = true)
    {f3 : Addr} {od3 an3 : Option Addr} {sl3 : Array (Option Value)} {oc3 kV3 dc3 pm3 cd3 ct3 : Value}
    (a3 : PySem.W.nsIn K mainGlobals "both" = some (some (.ref f3))) (l3 : K.lookup f3 = some ⟨oc3, od3, .func (PySem.W.fnOf "both" "both" (defArgs s_both) (defBody s_both) (defScope s_both) .none kV3 dc3 pm3 an3 cd3 ct3), sl3⟩) (c3 : PySem.W.codeIn K cd3 "both" = true) (k3 : PySem.W.keepIn K (.ref f3) = true)
    {f4 : Addr} {od4 an4 : Option Addr} {sl4 : Array (Option Value)} {oc4 kV4 dc4 pm4 cd4 ct4 : Value}
    (a4 : PySem.W.nsIn K mainGlobals "either" = some (some (.ref f4))) (l4 : K.lookup f4 = some ⟨oc4, od4, .func (PySem.W.fnOf "either" "either" (defArgs s_either) (defBody s_either) (defScope s_either) .none kV4 dc4 pm4 an4 cd4 ct4), sl4⟩) (c4 : PySem.W.codeIn K cd4 "either" = true) (k4 : PySem.W.keepIn K (.ref f4) = true)
    {f5 : Addr} {od5 an5 : Option Addr} {sl5 : Array (Option Value)} {oc5 kV5 dc5 pm5 cd5 ct5 : Value}
    (a5 : PySem.W.nsIn K mainGlobals "switches_of" = some (some (.ref f5))) (l5 : K.lookup f5 = some ⟨oc5, od5, .func (PySem.W.fnOf "switches_of" "switches_of" (defArgs s_switches_of) (defBody s_switches_of) (defScope s_switches_of) .none kV5 dc5 pm5 an5 cd5 ct5), sl5⟩) (c5 : PySem.W.codeIn K cd5 "switches_of" = true) (k5 : PySem.W.keepIn K (.ref f5) = true)
    {f6 : Addr} {od6 an6 : Option Addr} {sl6 : Array (Option Value)} {oc6 kV6 dc6 pm6 cd6 ct6 : Value}
    (a6 : PySem.W.nsIn K mainGlobals "outcome_condition" = some (some (.ref f6))) (l6 : K.lookup f6 = some ⟨oc6, od6, .func (PySem.W.fnOf "outcome_condition" "outcome_condition" (defArgs s_outcome_condition) (defBody s_outcome_condition) (defScope s_outcome_condition) .none kV6 dc6 pm6 an6 cd6 ct6), sl6⟩) (c6 : PySem.W.codeIn K cd6 "outcome_condition" = true) (k6 : PySem.W.keepIn K (.ref f6) = true)
    {f7 : Addr} {od7 an7 : Option Addr} {sl7 : Array (Option Value)} {oc7 kV7 dc7 pm7 cd7 ct7 : Value}
    (a7 : PySem.W.nsIn K mainGlobals "deciding_switches" = some (some (.ref f7))) (l7 : K.lookup f7 = some ⟨oc7, od7, .func (PySem.W.fnOf "deciding_switches" "deciding_switches" (defArgs s_deciding_switches) (defBody s_deciding_switches) (defScope s_deciding_switches) .none kV7 dc7 pm7 an7 cd7 ct7), sl7⟩) (c7 : PySem.W.codeIn K cd7 "deciding_switches" = true) (k7 : PySem.W.keepIn K (.ref f7) = true)
    {f8 : Addr} {od8 an8 : Option Addr} {sl8 : Array (Option Value)} {oc8 kV8 dc8 pm8 cd8 ct8 : Value}
    (a8 : PySem.W.nsIn K mainGlobals "_law_gd_settings" = some (some (.ref f8))) (l8 : K.lookup f8 = some ⟨oc8, od8, .func (PySem.W.fnOf "_law_gd_settings" "_law_gd_settings" (defArgs s_gd_settings) (defBody s_gd_settings) (defScope s_gd_settings) .none kV8 dc8 pm8 an8 cd8 ct8), sl8⟩) (c8 : PySem.W.codeIn K cd8 "_law_gd_settings" = true) (k8 : PySem.W.keepIn K (.ref f8) = true)
    {f9 : Addr} {od9 an9 : Option Addr} {sl9 : Array (Option Value)} {oc9 kV9 dc9 pm9 cd9 ct9 : Value}
    (a9 : PySem.W.nsIn K mainGlobals "_law_gd_grown" = some (some (.ref f9))) (l9 : K.lookup f9 = some ⟨oc9, od9, .func (PySem.W.fnOf "_law_gd_grown" "_law_gd_grown" (defArgs s_gd_grown) (defBody s_gd_grown) (defScope s_gd_grown) .none kV9 dc9 pm9 an9 cd9 ct9), sl9⟩) (c9 : PySem.W.codeIn K cd9 "_law_gd_grown" = true) (k9 : PySem.W.keepIn K (.ref f9) = true)
    {f10 : Addr} {od10 an10 : Option Addr} {sl10 : Array (Option Value)} {oc10 kV10 dc10 pm10 cd10 ct10 : Value}
    (a10 : PySem.W.nsIn K mainGlobals "_law_gd_table" = some (some (.ref f10))) (l10 : K.lookup f10 = some ⟨oc10, od10, .func (PySem.W.fnOf "_law_gd_table" "_law_gd_table" (defArgs s_gd_table) (defBody s_gd_table) (defScope s_gd_table) .none kV10 dc10 pm10 an10 cd10 ct10), sl10⟩) (c10 : PySem.W.codeIn K cd10 "_law_gd_table" = true) (k10 : PySem.W.keepIn K (.ref f10) = true)
    {f11 : Addr} {od11 an11 : Option Addr} {sl11 : Array (Option Value)} {oc11 kV11 dc11 pm11 cd11 ct11 : Value}
    (a11 : PySem.W.nsIn K mainGlobals "_law_gd_switches" = some (some (.ref f11))) (l11 : K.lookup f11 = some ⟨oc11, od11, .func (PySem.W.fnOf "_law_gd_switches" "_law_gd_switches" (defArgs s_gd_switches) (defBody s_gd_switches) (defScope s_gd_switches) .none kV11 dc11 pm11 an11 cd11 ct11), sl11⟩) (c11 : PySem.W.codeIn K cd11 "_law_gd_switches" = true) (k11 : PySem.W.keepIn K (.ref f11) = true)
    {f12 : Addr} {od12 an12 : Option Addr} {sl12 : Array (Option Value)} {oc12 kV12 dc12 pm12 cd12 ct12 : Value}
    (a12 : PySem.W.nsIn K mainGlobals "_law_hand" = some (some (.ref f12))) (l12 : K.lookup f12 = some ⟨oc12, od12, .func (PySem.W.fnOf "_law_hand" "_law_hand" (defArgs s_hand) (defBody s_hand) (defScope s_hand) .none kV12 dc12 pm12 an12 cd12 ct12), sl12⟩) (c12 : PySem.W.codeIn K cd12 "_law_hand" = true) (k12 : PySem.W.keepIn K (.ref f12) = true)
    {f13 : Addr} {od13 an13 : Option Addr} {sl13 : Array (Option Value)} {oc13 kV13 dc13 pm13 cd13 ct13 : Value}
    (a13 : PySem.W.nsIn K mainGlobals "_law_stirred" = some (some (.ref f13))) (l13 : K.lookup f13 = some ⟨oc13, od13, .func (PySem.W.fnOf "_law_stirred" "_law_stirred" (defArgs s_stirred) (defBody s_stirred) (defScope s_stirred) .none kV13 dc13 pm13 an13 cd13 ct13), sl13⟩) (c13 : PySem.W.codeIn K cd13 "_law_stirred" = true) (k13 : PySem.W.keepIn K (.ref f13) = true)
    {f14 : Addr} {od14 an14 : Option Addr} {sl14 : Array (Option Value)} {oc14 kV14 dc14 pm14 cd14 ct14 : Value}
    (a14 : PySem.W.nsIn K mainGlobals "_law_take" = some (some (.ref f14))) (l14 : K.lookup f14 = some ⟨oc14, od14, .func (PySem.W.fnOf "_law_take" "_law_take" (defArgs s_take) (defBody s_take) (defScope s_take) .none kV14 dc14 pm14 an14 cd14 ct14), sl14⟩) (c14 : PySem.W.codeIn K cd14 "_law_take" = true) (k14 : PySem.W.keepIn K (.ref f14) = true)
    {f15 : Addr} {od15 an15 : Option Addr} {sl15 : Array (Option Value)} {oc15 kV15 dc15 pm15 cd15 ct15 : Value}
    (a15 : PySem.W.nsIn K mainGlobals "_law_pick" = some (some (.ref f15))) (l15 : K.lookup f15 = some ⟨oc15, od15, .func (PySem.W.fnOf "_law_pick" "_law_pick" (defArgs s_pick) (defBody s_pick) (defScope s_pick) .none kV15 dc15 pm15 an15 cd15 ct15), sl15⟩) (c15 : PySem.W.codeIn K cd15 "_law_pick" = true) (k15 : PySem.W.keepIn K (.ref f15) = true)
    {f16 : Addr} {od16 an16 : Option Addr} {sl16 : Array (Option Value)} {oc16 kV16 dc16 pm16 cd16 ct16 : Value}
    (a16 : PySem.W.nsIn K mainGlobals "_law_shuffled" = some (some (.ref f16))) (l16 : K.lookup f16 = some ⟨oc16, od16, .func (PySem.W.fnOf "_law_shuffled" "_law_shuffled" (defArgs s_shuffled) (defBody s_shuffled) (defScope s_shuffled) .none kV16 dc16 pm16 an16 cd16 ct16), sl16⟩) (c16 : PySem.W.codeIn K cd16 "_law_shuffled" = true) (k16 : PySem.W.keepIn K (.ref f16) = true)
    {f17 : Addr} {od17 an17 : Option Addr} {sl17 : Array (Option Value)} {oc17 kV17 dc17 pm17 cd17 ct17 : Value}
    (a17 : PySem.W.nsIn K mainGlobals "law" = some (some (.ref f17))) (l17 : K.lookup f17 = some ⟨oc17, od17, .func (PySem.W.fnOf "law" "law" (defArgs s_law) (defBody s_law) (defScope s_law) .none kV17 dc17 pm17 an17 cd17 ct17), sl17⟩) (c17 : PySem.W.codeIn K cd17 "law" = true) (k17 : PySem.W.keepIn K (.ref f17) = true)
    (z_abs : PySem.W.nsIn K mainGlobals "abs" = some none)
    (z_bool : PySem.W.nsIn K mainGlobals "bool" = some none)
    (z_int : PySem.W.nsIn K mainGlobals "int" = some none)
    (z_isinstance : PySem.W.nsIn K mainGlobals "isinstance" = some none)
    (z_len : PySem.W.nsIn K mainGlobals "len" = some none)
    (z_list : PySem.W.nsIn K mainGlobals "list" = some none)
    (z_min : PySem.W.nsIn K mainGlobals "min" = some none)
    (z_range : PySem.W.nsIn K mainGlobals "range" = some none)
    (z_sorted : PySem.W.nsIn K mainGlobals "sorted" = some none)
    (z_tuple : PySem.W.nsIn K mainGlobals "tuple" = some none)
    : ∃ fd : FuncData, (∀ (s : Shared) (v : Value), BindsTo s fd ⟨[v], []⟩ [("_law_script", v)]) ∧ ∀ base : Heap, K.In base → base.Ns mainGlobals mg → FnOk P w K mg base CX0 65 fa fd ["_law_script"] (spLaw3 K) := by
  obtain ⟨T, e, hb⟩ := tp_mk X G hfa a0 l0 c0 k0 a1 l1 c1 k1 a2 l2 c2 k2 a3 l3 c3 k3 a4 l4 c4 k4 a5 l5 c5 k5 a6 l6 c6 k6 a7 l7 c7 k7 a8 l8 c8 k8 a9 l9 c9 k9 a10 l10 c10 k10 a11 l11 c11 k11 a12 l12 c12 k12 a13 l13 c13 k13 a14 l14 c14 k14 a15 l15 c15 k15 a16 l16 c16 k16 a17 l17 c17 k17 z_abs z_bool z_int z_isinstance z_len z_list z_min z_range z_sorted z_tuple
  subst e
  exact ⟨T.d_law, hb, fun base _ _ => ok_law T law57⟩
end
end EA
open PySem PySem.W PyProof.Rows
set_option maxRecDepth 100000 in
set_option maxHeartbeats 0 in
theorem PySem.Challenge.cw_eacharm_k57_outcomes_in_tables_holds : PySem.Challenge.rw_eacharm_k57_outcomes_in_tables.Holds := by
  w_on; o_law; k_head; (case hw => w_witness2)
  k_fill
  refine L2.walk_of (l := PySem.Challenge.rw_eacharm_k57_outcomes_in_tables) (n := 63) (k := 65) (x := "_law_script") (CX := fun _ => L2.CX0) (sp := fun w => EA.spLaw3 _) rfl (by decide) rfl ⟨rfl, by decide, by decide⟩ (fun w h Y => PySem.W.kIn_of Y) ?F (fun _ _ a ns hl _ hS => ⟨a, ns, rfl, hS, hl, fun _ => rfl⟩) (fun _ _ _ _ _ h => h)
  case F =>
    intro w mg fa h KX G hmg
    refine' EA.all_mk KX G hmg ?a0 ?l0 ?c0 ?k0 ?a1 ?l1 ?c1 ?k1 ?a2 ?l2 ?c2 ?k2 ?a3 ?l3 ?c3 ?k3 ?a4 ?l4 ?c4 ?k4 ?a5 ?l5 ?c5 ?k5 ?a6 ?l6 ?c6 ?k6 ?a7 ?l7 ?c7 ?k7 ?a8 ?l8 ?c8 ?k8 ?a9 ?l9 ?c9 ?k9 ?a10 ?l10 ?c10 ?k10 ?a11 ?l11 ?c11 ?k11 ?a12 ?l12 ?c12 ?k12 ?a13 ?l13 ?c13 ?k13 ?a14 ?l14 ?c14 ?k14 ?a15 ?l15 ?c15 ?k15 ?a16 ?l16 ?c16 ?k16 ?a17 ?l17 ?c17 ?k17 ?z_abs ?z_bool ?z_int ?z_isinstance ?z_len ?z_list ?z_min ?z_range ?z_sorted ?z_tuple
    (case a0 => k_is)
    (case l0 => k_is)
    (case c0 => k_is)
    (case k0 => k_is)
    (case a1 => k_is)
    (case l1 => k_is)
    (case c1 => k_is)
    (case k1 => k_is)
    (case a2 => k_is)
    (case l2 => k_is)
    (case c2 => k_is)
    (case k2 => k_is)
    (case a3 => k_is)
    (case l3 => k_is)
    (case c3 => k_is)
    (case k3 => k_is)
    (case a4 => k_is)
    (case l4 => k_is)
    (case c4 => k_is)
    (case k4 => k_is)
    (case a5 => k_is)
    (case l5 => k_is)
    (case c5 => k_is)
    (case k5 => k_is)
    (case a6 => k_is)
    (case l6 => k_is)
    (case c6 => k_is)
    (case k6 => k_is)
    (case a7 => k_is)
    (case l7 => k_is)
    (case c7 => k_is)
    (case k7 => k_is)
    (case a8 => k_is)
    (case l8 => k_is)
    (case c8 => k_is)
    (case k8 => k_is)
    (case a9 => k_is)
    (case l9 => k_is)
    (case c9 => k_is)
    (case k9 => k_is)
    (case a10 => k_is)
    (case l10 => k_is)
    (case c10 => k_is)
    (case k10 => k_is)
    (case a11 => k_is)
    (case l11 => k_is)
    (case c11 => k_is)
    (case k11 => k_is)
    (case a12 => k_is)
    (case l12 => k_is)
    (case c12 => k_is)
    (case k12 => k_is)
    (case a13 => k_is)
    (case l13 => k_is)
    (case c13 => k_is)
    (case k13 => k_is)
    (case a14 => k_is)
    (case l14 => k_is)
    (case c14 => k_is)
    (case k14 => k_is)
    (case a15 => k_is)
    (case l15 => k_is)
    (case c15 => k_is)
    (case k15 => k_is)
    (case a16 => k_is)
    (case l16 => k_is)
    (case c16 => k_is)
    (case k16 => k_is)
    (case a17 => k_is)
    (case l17 => k_is)
    (case c17 => k_is)
    (case k17 => k_is)
    (case z_abs => k_is)
    (case z_bool => k_is)
    (case z_int => k_is)
    (case z_isinstance => k_is)
    (case z_len => k_is)
    (case z_list => k_is)
    (case z_min => k_is)
    (case z_range => k_is)
    (case z_sorted => k_is)
    (case z_tuple => k_is)
