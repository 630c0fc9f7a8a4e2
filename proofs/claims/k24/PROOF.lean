import PyProof.Rows.All
import Wide.All
import OpenK.AllK
import Wide.FinOn
import HandS.ForMost
import HandS.Deep
import HandS.TupAny
import HandS.Dict
import KE.KDictPairs
import HandS.TupMul
import HandS.Wide
import HandS.Style
import HandS.Zip
import HandS.IsInst
import HandS.TupLe
import HandS.SortInts
import HandS.Defaults
import HandS.Replace
import KE.SortData
import KE.DataMinMax
import KE.GoesEnum
import KE.KTupSum
import HandS.NoneIn
import HandS.SetFor
import HandS.Strs
import HandS.Exc
import HandS.TryOnly
import HandS.ExcOwn
import HandS.ExcIs
import HandS.SetKeys
import HandS.More
import HandS.Lambda
import HandS.DictTup
import HandS.ListItems
import HandS.Head0
import HandS.Head1
import HandS.Head2
import HandS.HeadEnd
import HandS.HeadHook1
import HandS.HeadHook2
import PySem.Challenge.RW_padrows_k24_whole_together_by_rounds
set_option Elab.async false
set_option linter.all false
set_option maxRecDepth 100000
set_option autoImplicit false
set_option maxHeartbeats 0
/-! tuples that are known as objects without a dict of their own: the makers of tuples, told so -/
namespace PV
open PySem PySem.Spec PyProof.Rows L2
/-- a tuple of these things, whose object has no dict -/
def FT (H : Hp) (p : Addr) (ys : List V) : Prop := ∃ ob : Obj, ob.dict = none ∧ H p = some (.frz ob (.tup ys))
theorem FT.sq {K : PySem.W.Frag} {H : Hp} {p : Addr} {ys : List V} (f : FT H p ys) : SqT K H p ys := let ⟨ob, _, e⟩ := f; .inl (.inr ⟨ob, e⟩)
theorem FT.mono {H H' : Hp} {p : Addr} {ys : List V} (f : FT H p ys) (s : L2.Same H H') : FT H' p ys := let ⟨ob, e0, e⟩ := f; ⟨ob, e0, s _ _ e⟩
abbrev plainTup (its : List Value) : Obj := { cls := .type "tuple", data := .seq its.toArray }
section
variable {X : Cx} {es : List Expr} {t : TA} {pos : Pos}
theorem ft_ok {H : Hp} {hp : Heap} {ys : List V} {its : List Value} (n : ys.length ≤ sizeLine) (rv : Vals ys its) :
    ObjOk X.prog X.w H (hp.push (plainTup its)) hp.objs.size (.frz (plainTup its) (.tup ys)) :=
  ⟨Heap.get?_push_size _ rfl, n, its, rv, ⟨plainTup its, Heap.get?_push_size _ rfl, rfl, 0, rfl⟩⟩
/-- what a maker of a tuple grants -/
def mkT (ys : List V) (H : Hp) (Q : VK) : Prop := ∀ (p : Addr) (ob : Obj), ob.dict = none → H p = none → Q (.ref p) (upd H p (.frz ob (.tup ys)))
theorem ft_laid {pins : List (Addr × Obj)} {σ : L2.St} {H : Hp} {s : Shared} {ys : List V} {its : List Value} {tk : Nat} {hp : Heap} (I : Inv X pins σ H { s with heap := hp, toks := tk }) (n : ys.length ≤ sizeLine) (rv : Vals ys its) :
    Inv X pins σ (upd H hp.objs.size (.frz (plainTup its) (.tup ys))) { s with heap := hp.push (plainTup its), toks := tk } :=
  I.laid (t' := tk) (o := .frz (plainTup its) (.tup ys)) (fun _ _ g => Heap.get?_push_of_some _ g) (Nat.le_refl _) (ft_ok n rv)
def tTupF (t : TA) : TE := fun σ H Q => t σ H fun ys H1 => ys.length ≤ sizeLine ∧ mkT ys H1 Q
theorem pe_tupF {k1 : Nat} (h : PA X es t) : PE X (.Tuple es k1 pos) (tTupF t) := by
  constructor
  intro pins s σ H Q I hq
  refine wpAny_Tuple_spliced (thn (h.run pos pins s σ H _ I hq) ?_)
  rintro us s1 ⟨ys, H1, I1, rv, n, q⟩
  refine ⟨by rw [← rv.length]; exact n, ?_⟩
  exact ⟨.ref _, _, ft_laid (s := s1) (tk := s1.toks) (hp := s1.heap) I1 n rv, rfl, q _ _ rfl (I1.hok.fresh (Nat.le_refl _))⟩
/-- two tuples put together -/
def rCatF (K : PySem.W.Frag) : R2 := fun x y H Q => ∃ a b ys zs, x = .ref a ∧ y = .ref b ∧ SqT K H a ys ∧ SqT K H b zs ∧ ys.length + zs.length ≤ sizeLine ∧
  (ys = [] → Q (.ref b) H) ∧ (ys ≠ [] → zs = [] → Q (.ref a) H) ∧ (ys ≠ [] → zs ≠ [] → mkT (ys ++ zs) H Q)
theorem op_catF : OpR X (binaryOp .Add) (rCatF X.K) := by
  rintro pins s σ H x y v u Q I rx ry ⟨a, b, ys, zs, rfl, rfl, ha, hb, n, q0, q1, q2⟩
  cases rx
  cases ry
  obtain ⟨us, r1, p1, _⟩ := I.tuple ha
  obtain ⟨ws, r2, p2, _⟩ := I.tuple hb
  by_cases e : ys = []
  · subst e
    cases r1
    exact cat_tup0 p1 p2 ⟨.ref _, _, I, rfl, q0 rfl⟩
  · have e' : us ≠ [] := fun g => e (r1.nil_iff.mp g)
    have n' : us.length + ws.length ≤ sizeLine := by rw [← r1.length, ← r2.length]; exact n
    have n2 : (ys ++ zs).length ≤ sizeLine := by rw [List.length_append]; exact n
    refine HT.cat_tup p1 p2 e' (fun g => ⟨.ref _, _, I, rfl, q1 e (r2.nil_iff.mp g)⟩) (fun g => ?_) n'
    exact ⟨.ref _, _, ft_laid (s := s) (tk := s.toks) (hp := s.heap) I n2 (r1.append r2), rfl, q2 e (fun w => g (r2.nil_iff.mpr w)) _ _ rfl (I.hok.fresh (Nat.le_refl _))⟩
/-- a cut of a tuple -/
def rSlF (K : PySem.W.Frag) : V → Option Int → Option Int → Hp → VK → Prop := fun x lo hi H Q => ∃ a ys, x = .ref a ∧ SqT K H a ys ∧
  (HT.sIx ys.length 0 lo = 0 ∧ HT.sIx ys.length ys.length hi = ys.length → Q (.ref a) H) ∧ (¬ (HT.sIx ys.length 0 lo = 0 ∧ HT.sIx ys.length ys.length hi = ys.length) → mkT (cutV ys lo hi) H Q)
theorem sl_tupF : SlR X (rSlF X.K) := by
  rintro pins s σ H x v vl vu lo hi sl Q I rx hs pl pu ⟨a, ys, rfl, hx, q1, q2⟩
  cases rx
  obtain ⟨us, rv, ht, n⟩ := I.tuple hx
  have e : us.toArray.size = ys.length := by rw [List.size_toArray, rv.length]
  refine ⟨"tuple", _, PyProof.Rows.slot_tuple_getitem.lookup, ht.typeIs, ?_⟩
  by_cases hw : HT.sIx ys.length 0 lo = 0 ∧ HT.sIx ys.length ys.length hi = ys.length
  · exact getItem_tuple_whole ht hs pl pu (by rw [e]; exact hw) ⟨.ref _, _, I, rfl, q1 hw⟩
  · refine HT.getItem_tuple_cut ht hs pl pu (by rw [e]; exact hw) ?_ (by rw [e]; exact n)
    rw [e]
    have rc := (rv.drop (HT.sIx ys.length 0 lo)).take (HT.sIx ys.length ys.length hi - HT.sIx ys.length 0 lo)
    exact ⟨.ref _, _, ft_laid (s := s) (tk := s.toks) (hp := s.heap) I (Nat.le_trans (cutV_length ys lo hi) n) rc, rfl, q2 hw _ _ rfl (I.hok.fresh (Nat.le_refl _))⟩
/-- tuple(a list or tuple) -/
theorem call_tupF : CallR X (.type "tuple") (fun xs H Q => ∃ p ys, xs = [.ref p] ∧ ((SqL X.K H p ys ∧ mkT ys H Q) ∨ (SqT X.K H p ys ∧ Q (.ref p) H))) := by
  rintro pins s σ H xs us Q I r ⟨p, ys, rfl, h⟩
  obtain ⟨u, rfl, rx⟩ := vals1 r
  cases rx
  rcases h with ⟨hq, q⟩ | ⟨hq, q⟩
  · obtain ⟨us, rv, pl, n⟩ := I.list hq
    have e := rv.length
    refine call_tuple_list pl.isList (fun h' kp => ?_) (by simp only [List.size_toArray] <;> omega)
    have I1 : Inv X pins σ H { s with heap := h' } := I.kept (t' := s.toks) kp
    exact ⟨.ref _, _, ft_laid (s := s) (tk := s.toks) (hp := h') I1 n rv, rfl, q _ _ rfl (I1.hok.fresh (Nat.le_refl _))⟩
  · obtain ⟨us, rv, pl, n⟩ := I.tuple hq
    exact call_tuple_same pl ⟨.ref _, _, I, rfl, q⟩
end
end PV
namespace PV
open PySem PySem.Spec PyProof.Rows L2
section
variable {X : Cx}
theorem pairs_ofF {pins : List (Addr × Obj)} {σ : L2.St} {H : Hp} {s : Shared} (I : Inv X pins σ H s) : ∀ {ps : List Addr} {kvs : List (Key × V)}, Paired (fun p kv => SqT X.K H p [kV kv.1, kv.2]) ps kvs →
    ∃ (prs : List (Key × Value)) (pv : List (Value × Value)), KV kvs prs ∧ prs.length = ps.length ∧ pv.length = ps.length ∧
      ∀ (j : Nat) (b : Addr), ps[j]? = some b → ∃ (k : Key) (u y : Value), prs[j]? = some (k, y) ∧ pv[j]? = some (u, y) ∧ IsTup s.heap b #[u, y] ∧ keyIs k u = true := by
  intro ps kvs hp
  induction hp with
  | nil => exact ⟨[], [], .nil, rfl, rfl, fun j b e => by simp at e⟩
  | @cons p kv ps kvs h t ih =>
    obtain ⟨prs, pv, r, l1, l2, hh⟩ := ih
    obtain ⟨its, rv, ht, _⟩ := I.tuple h
    obtain ⟨u, y, ei, ru, ry⟩ := vals2 rv
    subst ei
    refine ⟨(kv.1, y) :: prs, (u, y) :: pv, .cons ⟨rfl, ry⟩ r, by simp [l1], by simp [l2], fun j b e => ?_⟩
    cases j with
    | zero =>
      cases e
      exact ⟨kv.1, u, y, rfl, rfl, ht, kV_is (P := X.prog) (w := X.w) ru⟩
    | succ j => exact hh j b (by simpa using e)
theorem call_dictF (hcalm : X.calm = true) : CallR X (.type "dict") (fun xs H Q => ∃ (a : Addr) (ps : List Addr) (kvs : List (Key × V)), xs = [.ref a] ∧ FT H a (ps.map V.ref) ∧ Paired (fun p kv => SqT X.K H p [kV kv.1, kv.2]) ps kvs ∧
    ∀ p, H p = none → Q (.ref p) (upd H p (.dK (mergeK [] kvs)))) := by
  rintro pins s σ H xs us Q I r ⟨a, ps, kvs, rfl, ⟨ob, hob, hfz⟩, hp, q⟩
  obtain ⟨u, rfl, rx⟩ := vals1 r
  cases rx
  obtain ⟨hg, hlen, its, rv, hT⟩ := I.hok a _ hfz
  have ei := refs_at rv
  subst ei
  rw [List.length_map] at hlen
  obtain ⟨o2, h2, hc, n, hdat⟩ := hT
  rw [hg] at h2
  cases h2
  obtain ⟨prs, pv, rel, l1, l2, hh⟩ := pairs_ofF I hp
  have hit : PairItems s.heap (ps.map Value.ref).toArray (fun j => ps.getD j 0) pv := by
    refine ⟨by simp [l2], fun j k v e => ?_⟩
    have hj : j < ps.length := by
      have := (List.getElem?_eq_some_iff.mp e).1
      omega
    obtain ⟨k', u, y, e1, e2, e3, _⟩ := hh j ps[j] (List.getElem?_eq_getElem hj)
    rw [e2] at e
    cases e
    refine ⟨?_, .inl ?_⟩
    · simp [List.getElem?_eq_getElem hj, hj]
    · have : ps.getD j 0 = ps[j] := by rw [List.getD_eq_getElem?_getD, List.getElem?_eq_getElem hj]; rfl
      show s.heap.IsTuple (ps.getD j 0) #[k, v]
      rw [this]
      exact e3
  have P := PairArg.tuple (prog := X.prog) (w := X.w) a (ps.map Value.ref).toArray (fun j => ps.getD j 0) pv
  refine PySem.call_dict_pairs (knd := mixKind X.prog X.w) (kvs := prs) P (I.ok.hd hcalm) ⟨⟨ob, n, hg, hc, hob, hdat⟩, hit⟩ ⟨by rw [l1, l2], fun j key v e => ?_⟩ (by rw [l2]; exact hlen) fun h' tk hd' k => ?_
  · have hj : j < ps.length := by
      have := (List.getElem?_eq_some_iff.mp e).1
      omega
    obtain ⟨k', u, y, e1, e2, _, e4⟩ := hh j ps[j] (List.getElem?_eq_getElem hj)
    change pv[j]? = some (key, v) at e
    rw [e2] at e
    cases e
    exact ⟨k', e1, e4⟩
  · have hm : (s.heap.objs.size == sysModules) = false := beq_eq_false_iff_ne.mpr (Nat.ne_of_gt I.big)
    have hl : (mergeK [] kvs).length ≤ sizeLine := by
      have h1 := length_mergeK kvs []
      have h2 := rel.length
      rw [List.length_nil] at h1
      omega
    exact ⟨.ref s.heap.objs.size, upd H s.heap.objs.size (.dK (mergeK [] kvs)), I.laid (t' := tk) (fun b o e => k b o (by simp) e) (Nat.le_refl _) (show ObjOk X.prog X.w _ _ _ (.dK (mergeK [] kvs)) from ⟨hl, hm, merged [] prs, KV.merge rel .nil, hd'⟩), rfl, q _ (I.hok.fresh (Nat.le_refl _))⟩
end
end PV
namespace PV
open PySem PySem.Spec PyProof.Rows L2

abbrev D := PyData

def keyD : Key → D
  | .inl i => .int i
  | .inr x => .str x

mutual
inductive Dn (K : PySem.W.Frag) (H : Hp) : V → D → Prop
  | non : Dn K H .non .none
  | bl (b : Bool) : Dn K H (.bl b) (.bool b)
  | int (i : Int) : Dn K H (.int i) (.int i)
  | str (x : Str) : Dn K H (.str x) (.str x)
  | lst {a : Addr} {xs : List V} {ds : List D} : SqL K H a xs → DnA K H xs ds → Dn K H (.ref a) (.list ds)
  | tup {a : Addr} {xs : List V} {ds : List D} : FT H a xs → DnA K H xs ds → Dn K H (.ref a) (.tuple ds)
  | dct {a : Addr} {kvs : List (Key × V)} {ds : List (D × D)} : H a = some (.dK kvs) → DnK K H kvs ds → Dn K H (.ref a) (.dict ds)
inductive DnA (K : PySem.W.Frag) (H : Hp) : List V → List D → Prop
  | nil : DnA K H [] []
  | cons {v : V} {vs : List V} {d : D} {ds : List D} : Dn K H v d → DnA K H vs ds → DnA K H (v :: vs) (d :: ds)
inductive DnK (K : PySem.W.Frag) (H : Hp) : List (Key × V) → List (D × D) → Prop
  | nil : DnK K H [] []
  | cons {k : Key} {v : V} {vs : List (Key × V)} {d : D} {ds : List (D × D)} : Dn K H v d → DnK K H vs ds → DnK K H ((k, v) :: vs) ((keyD k, d) :: ds)
end

theorem Same.seqT {K : PySem.W.Frag} {H H' : Hp} {a : Addr} {xs : List V} (e : Same H H') (h : SqT K H a xs) : SqT K H' a xs := by
  rcases h with (h | ⟨o, h⟩) | h
  · exact .inl (.inl (e _ _ h))
  · exact .inl (.inr ⟨o, e _ _ h⟩)
  · exact .inr h

section
variable {K : PySem.W.Frag} {H H' : Hp}
mutual
theorem Dn.mono (s : Same H H') : ∀ {v : V} {d : D}, Dn K H v d → Dn K H' v d
  | _, _, .non => .non
  | _, _, .bl b => .bl b
  | _, _, .int i => .int i
  | _, _, .str x => .str x
  | _, _, .lst h a => .lst (s.seq h) (DnA.mono s a)
  | _, _, .tup h a => .tup (h.mono s) (DnA.mono s a)
  | _, _, .dct h a => .dct (s _ _ h) (DnK.mono s a)
theorem DnA.mono (s : Same H H') : ∀ {vs : List V} {ds : List D}, DnA K H vs ds → DnA K H' vs ds
  | _, _, .nil => .nil
  | _, _, .cons h t => .cons (Dn.mono s h) (DnA.mono s t)
theorem DnK.mono (s : Same H H') : ∀ {vs : List (Key × V)} {ds : List (D × D)}, DnK K H vs ds → DnK K H' vs ds
  | _, _, .nil => .nil
  | _, _, .cons h t => .cons (Dn.mono s h) (DnK.mono s t)
end
theorem DnA.len : ∀ {vs : List V} {ds : List D}, DnA K H vs ds → vs.length = ds.length
  | _, _, .nil => rfl
  | _, _, .cons _ t => by simp [DnA.len t]
theorem DnA.get : ∀ {vs : List V} {ds : List D} {i : Nat} {d : D}, DnA K H vs ds → ds[i]? = some d → ∃ v, vs[i]? = some v ∧ Dn K H v d
  | _, _, _, _, .nil, e => by simp at e
  | _, _, 0, _, .cons h _, e => by simp at e; subst e; exact ⟨_, rfl, h⟩
  | _, _, i + 1, d, .cons _ t, e => by
    obtain ⟨v, h1, h2⟩ := DnA.get (i := i) (d := d) t (by simpa using e)
    exact ⟨v, by simpa using h1, h2⟩
theorem DnA.getv : ∀ {vs : List V} {ds : List D} {i : Nat} {v : V}, DnA K H vs ds → vs[i]? = some v → ∃ d, ds[i]? = some d ∧ Dn K H v d
  | _, _, _, _, .nil, e => by simp at e
  | _, _, 0, _, .cons h _, e => by simp at e; subst e; exact ⟨_, rfl, h⟩
  | _, _, i + 1, d, .cons _ t, e => by
    obtain ⟨v, h1, h2⟩ := DnA.getv (i := i) (v := d) t (by simpa using e)
    exact ⟨v, by simpa using h1, h2⟩
theorem DnA.append : ∀ {vs ws : List V} {ds es : List D}, DnA K H vs ds → DnA K H ws es → DnA K H (vs ++ ws) (ds ++ es)
  | _, _, _, _, .nil, s => s
  | _, _, _, _, .cons h t, s => .cons h (DnA.append t s)
theorem DnA.take : ∀ {vs : List V} {ds : List D} (n : Nat), DnA K H vs ds → DnA K H (vs.take n) (ds.take n)
  | _, _, 0, _ => .nil
  | _, _, _ + 1, .nil => .nil
  | _, _, n + 1, .cons r t => .cons r (DnA.take n t)
theorem DnA.drop : ∀ {vs : List V} {ds : List D} (n : Nat), DnA K H vs ds → DnA K H (vs.drop n) (ds.drop n)
  | _, _, 0, r => r
  | _, _, _ + 1, .nil => .nil
  | _, _, n + 1, .cons _ t => DnA.drop n t
theorem DnA.snoc {vs : List V} {ds : List D} {v : V} {d : D} (a : DnA K H vs ds) (h : Dn K H v d) : DnA K H (vs ++ [v]) (ds ++ [d]) := a.append (.cons h .nil)
theorem DnA.set {v : V} {d : D} (r : Dn K H v d) : ∀ {xs : List V} {us : List D} (i : Nat), DnA K H xs us → DnA K H (xs.set i v) (us.set i d)
  | _, _, _, .nil => .nil
  | _, _, 0, .cons _ t => .cons r t
  | _, _, i + 1, .cons q t => .cons q (DnA.set r i t)
end

/-! ### what is owned is hidden -/
open Classical in
noncomputable def hd (O : Addr → Prop) (H : Hp) : Hp := fun a => if O a then none else H a
theorem hd_none {O : Addr → Prop} {H : Hp} {a : Addr} (h : O a) : hd O H a = none := by unfold hd; rw [if_pos h]
theorem hd_of {O : Addr → Prop} {H : Hp} {a : Addr} (h : ¬ O a) : hd O H a = H a := by unfold hd; rw [if_neg h]
theorem hd_some {O : Addr → Prop} {H : Hp} {a : Addr} {o : HO} (h : hd O H a = some o) : ¬ O a ∧ H a = some o := by
  by_cases q : O a
  · rw [hd_none q] at h; cases h
  · rw [hd_of q] at h; exact ⟨q, h⟩
theorem same_hd {O : Addr → Prop} {H H' : Hp} (s : Same H H') : Same (hd O H) (hd O H') := fun a o h => by
  obtain ⟨n, e⟩ := hd_some h
  rw [hd_of n]; exact s _ _ e
theorem hd_le {O : Addr → Prop} {H : Hp} : Same (hd O H) H := fun a o h => (hd_some h).2
theorem hd_sub {O O' : Addr → Prop} {H : Hp} (s : ∀ a, O a → O' a) : Same (hd O' H) (hd O H) := fun a o h => by
  obtain ⟨n, e⟩ := hd_some h
  rw [hd_of fun q => n (s a q)]; exact e
theorem same_upd {H : Hp} {p : Addr} {o : HO} (h : H p = none) : Same H (upd H p o) := fun b x e => by
  rw [upd_ne (ne_of_none e h)]
  exact e

inductive Sl where
  | val (d : D)
  | own (l : List D)
abbrev Rho := List (Option Sl)

def SlR (K : PySem.W.Frag) (B O : Addr → Prop) (H : Hp) (v : V) : Sl → Prop
  | .val d => Dn K (hd O H) v d
  | .own l => ∃ a xs, v = .ref a ∧ O a ∧ ¬ B a ∧ H a = some (.lst xs) ∧ DnA K (hd O H) xs l

structure Rel (K : PySem.W.Frag) (B O : Addr → Prop) (σ : L2.St) (H : Hp) (ρ : Rho) : Prop where
  len : σ.length = ρ.length
  dom : ∀ a, O a → H a ≠ none
  sub : ∀ a, B a → O a
  get : ∀ (i : Nat) (s : Sl), ρ[i]? = some (some s) → ∃ v, σ[i]? = some (some v) ∧ SlR K B O H v s
  inj : ∀ (i j : Nat) (l l' : List D) (v : V), ρ[i]? = some (some (.own l)) → ρ[j]? = some (some (.own l')) → σ[i]? = some (some v) → σ[j]? = some (some v) → i = j

theorem SlR.mono {K : PySem.W.Frag} {B O : Addr → Prop} {H H' : Hp} {v : V} (s : Same H H') : ∀ {x : Sl}, SlR K B O H v x → SlR K B O H' v x
  | .val _, h => Dn.mono (same_hd s) h
  | .own _, ⟨a, xs, e, o, b, h, q⟩ => ⟨a, xs, e, o, b, s _ _ h, q.mono (same_hd s)⟩
theorem Rel.mono {K : PySem.W.Frag} {B O : Addr → Prop} {σ : L2.St} {H H' : Hp} {ρ : Rho} (R : Rel K B O σ H ρ) (s : Same H H') : Rel K B O σ H' ρ where
  len := R.len
  dom := fun a o h => R.dom a o (s.free h)
  sub := R.sub
  get := fun i x e => let ⟨v, h1, h2⟩ := R.get i x e; ⟨v, h1, h2.mono s⟩
  inj := R.inj
theorem Rel.new {K : PySem.W.Frag} {B O : Addr → Prop} {σ : L2.St} {H : Hp} {ρ : Rho} (R : Rel K B O σ H ρ) {p : Addr} (h : H p = none) : ¬ O p := fun o => R.dom p o h

/-! ### judgements of pure readings -/
def DE (K : PySem.W.Frag) (t : TE) (f : Rho → Option D) : Prop := ∀ B O σ H ρ d Q, Rel K B O σ H ρ → f ρ = some d → (∀ v H', Same H H' → Dn K (hd O H') v d → Q v H') → t σ H Q
def DA (K : PySem.W.Frag) (t : TA) (f : Rho → Option (List D)) : Prop := ∀ B O σ H ρ d Q, Rel K B O σ H ρ → f ρ = some d → (∀ v H', Same H H' → DnA K (hd O H') v d → Q v H') → t σ H Q
def DT (K : PySem.W.Frag) (t : TT) (f : Rho → Option Bool) : Prop := ∀ B O σ H ρ b Q, Rel K B O σ H ρ → f ρ = some b → (∀ H', Same H H' → Q b H') → t σ H Q
/-- a new list: its items are told, none else holds it -/
def DF (K : PySem.W.Frag) (t : TE) (f : Rho → Option (List D)) : Prop := ∀ B O σ H ρ d Q, Rel K B O σ H ρ → f ρ = some d →
  (∀ p xs H', H p = none → ¬ O p → Same H H' → H' p = some (.lst xs) → DnA K (hd (fun a => O a ∨ a = p) H') xs d → Q (.ref p) H') → t σ H Q

inductive Out where
  | nx (ρ : Rho) | rt (d : D) | bk (ρ : Rho) | ct (ρ : Rho)

structure Tr (B O : Addr → Prop) (H : Hp) (O' : Addr → Prop) (H' : Hp) : Prop where
  same : Same (hd O H) (hd O' H')
  sub : ∀ a, B a → O' a
  keep : ∀ a, B a → H' a = H a
  dom : ∀ a, O' a → H' a ≠ none
theorem Tr.trans {B O O1 O2 : Addr → Prop} {H H1 H2 : Hp} (a : Tr B O H O1 H1) (b : Tr B O1 H1 O2 H2) : Tr B O H O2 H2 :=
  ⟨a.same.trans b.same, b.sub, fun x h => (b.keep x h).trans (a.keep x h), b.dom⟩

def post (K : PySem.W.Frag) (B O : Addr → Prop) (H : Hp) (D : Ends) : Out → Prop
  | .nx ρ' => ∀ O' σ' H', Tr B O H O' H' → Rel K B O' σ' H' ρ' → D.nx σ' H'
  | .rt d => ∀ v O' H', Tr B O H O' H' → Dn K (hd O' H') v d → D.rt v H'
  | .bk ρ' => ∀ O' σ' H', Tr B O H O' H' → Rel K B O' σ' H' ρ' → D.bk σ' H'
  | .ct ρ' => ∀ O' σ' H', Tr B O H O' H' → Rel K B O' σ' H' ρ' → D.ct σ' H'
def DS (K : PySem.W.Frag) (t : TS) (g : Rho → Option Out) : Prop := ∀ B O σ H ρ o D, Rel K B O σ H ρ → g ρ = some o → post K B O H D o → t D σ H

theorem Rel.tr {K : PySem.W.Frag} {B O : Addr → Prop} {σ : L2.St} {H H' : Hp} {ρ : Rho} (R : Rel K B O σ H ρ) (s : Same H H') : Tr B O H O H' where
  same := same_hd s
  sub := R.sub
  keep := fun a b => by
    cases q : H a with
    | none => exact absurd q (R.dom a (R.sub a b))
    | some o => exact s _ _ q
  dom := fun a o h => R.dom a o (s.free h)

/-- w: or any tuple of such things, known by its items alone (what enumerate and zip yield) -/
def DnB (K : PySem.W.Frag) (w : Bool) (H : Hp) (v : V) (d : D) : Prop := Dn K H v d ∨ (w = true ∧ ∃ a xs ds, v = .ref a ∧ d = .tuple ds ∧ SqT K H a xs ∧ DnA K H xs ds)
theorem DnB.f {K : PySem.W.Frag} {H : Hp} {v : V} {d : D} (h : DnB K false H v d) : Dn K H v d := h.elim id fun z => nomatch z.1
/-- what a target stores: only the slots ts are touched -/
def DG (K : PySem.W.Frag) (g : TG) (ts : List Nat) (h : D → Rho → Option Rho) (w : Bool := false) : Prop := ∀ B O σ H ρ v d ρ' Q, Rel K B O σ H ρ → DnB K w (hd O H) v d → h d ρ = some ρ' →
  (∀ σ', Rel K B O σ' H ρ' → σ'.length = σ.length → (∀ j, j ∉ ts → σ'[j]? = σ[j]?) → Q σ' H) → g v σ H Q
def DGs (K : PySem.W.Frag) (g : TGs) (ts : List Nat) (h : List D → Rho → Option Rho) : Prop := ∀ B O σ H ρ v d ρ' Q, Rel K B O σ H ρ → DnA K (hd O H) v d → h d ρ = some ρ' →
  (∀ σ', Rel K B O σ' H ρ' → σ'.length = σ.length → (∀ j, j ∉ ts → σ'[j]? = σ[j]?) → Q σ' H) → g v σ H Q

/-- a walk's items -/
def Wk (K : PySem.W.Frag) (B O : Addr → Prop) (H : Hp) (J : It) (ds : List D) (w : Bool := false) : Prop := ∀ (i : Nat) O' H', i ≤ ds.length → Tr B O H O' H' →
  match ds[i]? with
  | some d => J.go i H' ∧ ∀ x H2, J.yld i H' x H2 → Same H' H2 ∧ DnB K w (hd O' H2) x d
  | none => J.stop i H'
def DI (K : PySem.W.Frag) (t : TI) (f : Rho → Option (List D)) (w : Bool := false) : Prop := ∀ B O σ H ρ ds R, Rel K B O σ H ρ → f ρ = some ds → (∀ J H', Same H H' → Wk K B O H' J ds w → R J H') → t σ H R

/-! ### with the text -/
structure YE (X : Cx) (e : Expr) (f : Rho → Option D) : Prop where
  ex : ∃ t, PE X e t ∧ DE X.K t f
structure YF (X : Cx) (e : Expr) (f : Rho → Option (List D)) : Prop where
  ex : ∃ t, PE X e t ∧ DF X.K t f
structure YA (X : Cx) (e : List Expr) (f : Rho → Option (List D)) : Prop where
  ex : ∃ t, PA X e t ∧ DA X.K t f
structure YT (X : Cx) (e : Expr) (f : Rho → Option Bool) : Prop where
  ex : ∃ t, PT X e t ∧ DT X.K t f
structure YW (X : Cx) (e : Expr) (f : Rho → Option Bool) : Prop where
  ex : ∃ t, PW X e t ∧ DT X.K t f
structure YS (X : Cx) (e : Stmt) (f : Rho → Option Out) : Prop where
  ex : ∃ t, PS X e t ∧ DS X.K t f
structure YB (X : Cx) (e : List Stmt) (f : Rho → Option Out) : Prop where
  ex : ∃ t, PSs X e t ∧ DS X.K t f
structure YG (X : Cx) (e : Expr) (ts : List Nat) (f : D → Rho → Option Rho) (w : Bool := false) : Prop where
  ex : ∃ t, PG X e t ∧ DG X.K t ts f w
structure YGs (X : Cx) (e : List Expr) (ts : List Nat) (f : List D → Rho → Option Rho) : Prop where
  ex : ∃ t, PGs X e t ∧ DGs X.K t ts f
structure YI (X : Cx) (tg e : Expr) (f : Rho → Option (List D)) (w : Bool := false) : Prop where
  ex : ∃ t, PI X tg e t ∧ DI X.K t f w

/-! ### names, constants -/
def fVar (i : Nat) : Rho → Option D := fun ρ => match ρ[i]? with
  | some (some (.val d)) => some d
  | _ => none
def fC (d : D) : Rho → Option D := fun _ => some d
section
variable {X : Cx}
theorem de_var {K : PySem.W.Frag} (i : Nat) : DE K (tVar i) (fVar i) := by
  intro B O σ H ρ d Q R h q
  unfold fVar at h
  split at h
  · rename_i d' e
    cases h
    obtain ⟨v, h1, h2⟩ := R.get i _ e
    exact ⟨v, h1, q v H (Same.refl H) h2⟩
  · cases h
theorem y_var (i : Nat) {x : Str} {pos : Pos} (hN : X.N[i]? = some x := by rfl) (hv : Vis X.env.scope x := by first | exact Or.inl rfl | exact Or.inr (Or.inl rfl) | exact Or.inr (Or.inr rfl)) (hd : (x == ("__debug__" : Str)) = false := by decide)
    (hcd : (x == ("__classdict__" : Str)) = false := by decide) : YE X (.Name x pos) (fVar i) := ⟨_, pe_var hN hv hd hcd, de_var i⟩
theorem de_c {K : PySem.W.Frag} {v : V} {d : D} (h : ∀ H, Dn K H v d) : DE K (tC v) (fC d) := by
  intro B O σ H ρ d' Q R e q
  cases e
  exact q v H (Same.refl H) (h _)
theorem y_int {i : Int} {j pos} : YE X (.Constant (.int i) j pos) (fC (.int i)) := ⟨_, pe_int, de_c fun _ => .int i⟩
theorem y_bl {i : Bool} {j pos} : YE X (.Constant (.bool i) j pos) (fC (.bool i)) := ⟨_, pe_bl, de_c fun _ => .bl i⟩
theorem y_str {i : Str} {j pos} : YE X (.Constant (.str i) j pos) (fC (.str i)) := ⟨_, pe_str, de_c fun _ => .str i⟩
theorem y_non {j pos} : YE X (.Constant .none j pos) (fC .none) := ⟨_, pe_non, de_c fun _ => .non⟩
end

end PV

namespace PV
open PySem PySem.Spec PyProof.Rows L2
/-! ### operators -/
def f1 (g : D → Option D) (fa : Rho → Option D) : Rho → Option D := fun ρ => (fa ρ).bind g
def f2 (g : D → D → Option D) (fa fb : Rho → Option D) : Rho → Option D := fun ρ => (fa ρ).bind fun x => (fb ρ).bind fun y => g x y
/-- a value-level rule and what it computes -/
def R1D (K : PySem.W.Frag) (r : V → Hp → VK → Prop) (g : D → Option D) : Prop := ∀ O H x dx d Q, (∀ a, O a → H a ≠ none) → Dn K (hd O H) x dx → g dx = some d → (∀ v H', Same H H' → Dn K (hd O H') v d → Q v H') → r x H Q
def R2D (K : PySem.W.Frag) (r : R2) (g : D → D → Option D) : Prop := ∀ O H x y dx dy d Q, (∀ a, O a → H a ≠ none) → Dn K (hd O H) x dx → Dn K (hd O H) y dy → g dx dy = some d → (∀ v H', Same H H' → Dn K (hd O H') v d → Q v H') → r x y H Q
def RnD (K : PySem.W.Frag) (r : List V → Hp → VK → Prop) (g : List D → Option D) : Prop := ∀ O H x dx d Q, (∀ a, O a → H a ≠ none) → DnA K (hd O H) x dx → g dx = some d → (∀ v H', Same H H' → Dn K (hd O H') v d → Q v H') → r x H Q
theorem de_un {K : PySem.W.Frag} {r : V → Hp → VK → Prop} {g : D → Option D} {ta : TE} {fa : Rho → Option D} (hr : R1D K r g) (ha : DE K ta fa) : DE K (tUn r ta) (f1 g fa) := by
  intro B O σ H ρ d Q R e q
  obtain ⟨x, ex, e⟩ := Option.bind_eq_some_iff.mp e
  refine ha B O σ H ρ x _ R ex fun v H1 s1 n1 => ?_
  exact hr O H1 v x d Q (R.mono s1).dom n1 e fun v2 H2 s2 n2 => q v2 H2 (s1.trans s2) n2
theorem de_op {K : PySem.W.Frag} {r : R2} {g : D → D → Option D} {ta tb : TE} {fa fb : Rho → Option D} (hr : R2D K r g) (ha : DE K ta fa) (hb : DE K tb fb) : DE K (tOp r ta tb) (f2 g fa fb) := by
  intro B O σ H ρ d Q R e q
  obtain ⟨x, ex, e⟩ := Option.bind_eq_some_iff.mp e
  obtain ⟨y, ey, e⟩ := Option.bind_eq_some_iff.mp e
  refine ha B O σ H ρ x _ R ex fun v H1 s1 n1 => ?_
  refine hb B O σ H1 ρ y _ (R.mono s1) ey fun u H2 s2 n2 => ?_
  exact hr O H2 v u x y d Q ((R.mono s1).mono s2).dom (n1.mono (same_hd s2)) n2 e fun v3 H3 s3 n3 => q v3 H3 ((s1.trans s2).trans s3) n3
def fn (g : List D → Option D) (fa : Rho → Option (List D)) : Rho → Option D := fun ρ => (fa ρ).bind g
theorem de_cb {K : PySem.W.Frag} {r : List V → Hp → VK → Prop} {g : List D → Option D} {ta : TA} {fa : Rho → Option (List D)} (hr : RnD K r g) (ha : DA K ta fa) : DE K (tCB r ta) (fn g fa) := by
  intro B O σ H ρ d Q R e q
  obtain ⟨x, ex, e⟩ := Option.bind_eq_some_iff.mp e
  refine ha B O σ H ρ x _ R ex fun v H1 s1 n1 => ?_
  exact hr O H1 v x d Q (R.mono s1).dom n1 e fun v2 H2 s2 n2 => q v2 H2 (s1.trans s2) n2

/-! ### argument lists -/
def aNil : Rho → Option (List D) := fun _ => some []
def aCons (fa : Rho → Option D) (fr : Rho → Option (List D)) : Rho → Option (List D) := fun ρ => (fa ρ).bind fun x => (fr ρ).bind fun r => some (x :: r)
theorem da_nil {K : PySem.W.Frag} : DA K tNil aNil := by
  intro B O σ H ρ d Q R e q
  cases e
  exact q [] H (Same.refl H) .nil
theorem da_cons {K : PySem.W.Frag} {ta : TE} {tr : TA} {fa : Rho → Option D} {fr : Rho → Option (List D)} (ha : DE K ta fa) (hr : DA K tr fr) : DA K (tCons ta tr) (aCons fa fr) := by
  intro B O σ H ρ d Q R e q
  obtain ⟨x, ex, e⟩ := Option.bind_eq_some_iff.mp e
  obtain ⟨y, ey, e⟩ := Option.bind_eq_some_iff.mp e
  cases e
  refine ha B O σ H ρ x _ R ex fun v H1 s1 n1 => ?_
  exact hr B O σ H1 ρ y _ (R.mono s1) ey fun u H2 s2 n2 => q _ _ (s1.trans s2) (.cons (n1.mono (same_hd s2)) n2)

/-! ### tuples, lists -/
def fTup (fa : Rho → Option (List D)) : Rho → Option D := fun ρ => (fa ρ).bind fun ds => if ds.length ≤ 16777216 then some (.tuple ds) else none
def fLst (fa : Rho → Option (List D)) : Rho → Option D := fun ρ => (fa ρ).bind fun ds => if ds.length ≤ 16777216 then some (.list ds) else none
def gLst (fa : Rho → Option (List D)) : Rho → Option (List D) := fun ρ => (fa ρ).bind fun ds => if ds.length ≤ 16777216 then some ds else none
theorem line_eq : sizeLine = 16777216 := sizeLine_eq
theorem hd_new {O : Addr → Prop} {H : Hp} {p : Addr} {o : HO} (hO : ∀ a, O a → H a ≠ none) (h : H p = none) : hd O (upd H p o) p = some o := by
  rw [hd_of fun q => hO p q h, upd_same]
theorem de_tup {K : PySem.W.Frag} {ta : TA} {fa : Rho → Option (List D)} (ha : DA K ta fa) : DE K (tTupF ta) (fTup fa) := by
  intro B O σ H ρ d Q R e q
  obtain ⟨x, ex, e⟩ := Option.bind_eq_some_iff.mp e
  split at e
  · rename_i hz
    cases e
    refine ha B O σ H ρ x _ R ex fun v H1 s1 n1 => ⟨by rw [n1.len, line_eq]; exact hz, fun p ob hob hp => ?_⟩
    have s2 := PV.same_upd (o := .frz ob (.tup v)) hp
    exact q _ _ (s1.trans s2) (.tup ⟨ob, hob, hd_new (R.mono s1).dom hp⟩ (n1.mono (same_hd s2)))
  · cases e
theorem df_lst {K : PySem.W.Frag} {ta : TA} {fa : Rho → Option (List D)} (ha : DA K ta fa) : DF K (tLst ta) (gLst fa) := by
  intro B O σ H ρ d Q R e q
  obtain ⟨x, ex, e⟩ := Option.bind_eq_some_iff.mp e
  split at e
  · rename_i hz
    cases e
    refine ha B O σ H ρ d _ R ex fun v H1 s1 n1 => ⟨by rw [n1.len, line_eq]; exact hz, fun p hp => ?_⟩
    have s2 := PV.same_upd (o := .lst v) hp
    refine q _ _ _ (s1.free hp) (R.new (s1.free hp)) (s1.trans s2) upd_same (n1.mono fun a o h => ?_)
    obtain ⟨n, h⟩ := hd_some h
    have np : a ≠ p := ne_of_none h hp
    rw [hd_of (by rintro (z | z); exact n z; exact np z), upd_ne np]
    exact h
  · cases e
/-- a new list as a value -/
def fOfF (f : Rho → Option (List D)) : Rho → Option D := fun ρ => (f ρ).map .list
theorem de_f {K : PySem.W.Frag} {t : TE} {f : Rho → Option (List D)} (h : DF K t f) : DE K t (fOfF f) := by
  intro B O σ H ρ d Q R e q
  unfold fOfF at e
  obtain ⟨x, ex, e⟩ := Option.map_eq_some_iff.mp e
  cases e
  refine h B O σ H ρ x _ R ex fun p xs H1 hp np s1 e1 n1 => ?_
  refine q _ _ s1 (.lst (.inl (.inl (by rw [hd_of np]; exact e1))) (n1.mono (hd_sub fun a => .inl)))

/-! ### tests -/
def tB1 (fa : Rho → Option D) : Rho → Option Bool := fun ρ => (fa ρ).bind fun d => match d with | .bool b => some b | _ => none
def tAnd1 (fa fb : Rho → Option Bool) : Rho → Option Bool := fun ρ => (fa ρ).bind fun c => if c = true then fb ρ else some false
def tOr1 (fa fb : Rho → Option Bool) : Rho → Option Bool := fun ρ => (fa ρ).bind fun c => if c = true then some true else fb ρ
def tNot1 (fa : Rho → Option Bool) : Rho → Option Bool := fun ρ => (fa ρ).bind fun c => some (!c)
def fIf (fc : Rho → Option Bool) (fa fb : Rho → Option D) : Rho → Option D := fun ρ => (fc ρ).bind fun c => if c = true then fa ρ else fb ρ
def fAnd (fa fb : Rho → Option D) : Rho → Option D := fun ρ => (fa ρ).bind fun d => match d with | .bool c => if c = true then fb ρ else some (.bool false) | _ => none
def fOr (fa fb : Rho → Option D) : Rho → Option D := fun ρ => (fa ρ).bind fun d => match d with | .bool c => if c = true then some (.bool true) else fb ρ | _ => none
def fNot (fa : Rho → Option D) : Rho → Option D := fun ρ => (fa ρ).bind fun d => match d with | .bool c => some (.bool !c) | _ => none
section
variable {K : PySem.W.Frag} {ta tb : TE} {fa fb : Rho → Option D} {tc td : TT} {fc fd : Rho → Option Bool}
theorem dt_b (ha : DE K ta fa) : DT K (tB ta) (tB1 fa) := by
  intro B O σ H ρ b Q R e q
  obtain ⟨x, ex, e⟩ := Option.bind_eq_some_iff.mp e
  cases x <;> try cases e
  refine ha B O σ H ρ _ _ R ex fun v H1 s1 n1 => ?_
  cases n1
  exact ⟨_, rfl, q _ s1⟩
theorem dt_test (ha : DE K ta fa) : DT K (tTest ta) (tB1 fa) := by
  intro B O σ H ρ b Q R e q
  obtain ⟨x, ex, e⟩ := Option.bind_eq_some_iff.mp e
  cases x <;> try cases e
  refine ha B O σ H ρ _ _ R ex fun v H1 s1 n1 => ?_
  cases n1
  exact ⟨_, rfl, q _ s1⟩
theorem dt_and (hc : DT K tc fc) (hd' : DT K td fd) : DT K (tAnd tc td) (tAnd1 fc fd) := by
  intro B O σ H ρ b Q R e q
  obtain ⟨x, ex, e⟩ := Option.bind_eq_some_iff.mp e
  refine hc B O σ H ρ _ _ R ex fun H1 s1 => ?_
  cases x with
  | true => exact iteT (hd' B O σ H1 ρ _ _ (R.mono s1) e fun H2 s2 => q H2 (s1.trans s2))
  | false => cases e; exact iteF (q H1 s1)
theorem dt_or (hc : DT K tc fc) (hd' : DT K td fd) : DT K (tOr tc td) (tOr1 fc fd) := by
  intro B O σ H ρ b Q R e q
  obtain ⟨x, ex, e⟩ := Option.bind_eq_some_iff.mp e
  refine hc B O σ H ρ _ _ R ex fun H1 s1 => ?_
  cases x with
  | false => exact iteF (hd' B O σ H1 ρ _ _ (R.mono s1) e fun H2 s2 => q H2 (s1.trans s2))
  | true => cases e; exact iteT (q H1 s1)
theorem dt_not (hc : DT K tc fc) : DT K (tNot tc) (tNot1 fc) := by
  intro B O σ H ρ b Q R e q
  obtain ⟨x, ex, e⟩ := Option.bind_eq_some_iff.mp e
  cases e
  exact hc B O σ H ρ _ _ R ex fun H1 s1 => q H1 s1
theorem de_if (hc : DT K tc fc) (ha : DE K ta fa) (hb : DE K tb fb) : DE K (tIf tc ta tb) (fIf fc fa fb) := by
  intro B O σ H ρ b Q R e q
  obtain ⟨x, ex, e⟩ := Option.bind_eq_some_iff.mp e
  refine hc B O σ H ρ _ _ R ex fun H1 s1 => ?_
  cases x with
  | true => exact iteT (ha B O σ H1 ρ _ _ (R.mono s1) e fun v H2 s2 => q v H2 (s1.trans s2))
  | false => exact iteF (hb B O σ H1 ρ _ _ (R.mono s1) e fun v H2 s2 => q v H2 (s1.trans s2))
theorem de_and (ha : DE K ta fa) (hb : DE K tb fb) : DE K (tAndV ta tb) (fAnd fa fb) := by
  intro B O σ H ρ b Q R e q
  obtain ⟨x, ex, e⟩ := Option.bind_eq_some_iff.mp e
  refine ha B O σ H ρ _ _ R ex fun v H1 s1 n1 => ?_
  cases x <;> try cases e
  rename_i c
  cases n1
  refine ⟨c, rfl, ?_⟩
  cases c with
  | true => exact iteT (hb B O σ H1 ρ _ _ (R.mono s1) e fun v H2 s2 => q v H2 (s1.trans s2))
  | false => cases e; exact iteF (q _ _ s1 (.bl _))
theorem de_or (ha : DE K ta fa) (hb : DE K tb fb) : DE K (tOrV ta tb) (fOr fa fb) := by
  intro B O σ H ρ b Q R e q
  obtain ⟨x, ex, e⟩ := Option.bind_eq_some_iff.mp e
  refine ha B O σ H ρ _ _ R ex fun v H1 s1 n1 => ?_
  cases x <;> try cases e
  rename_i c
  cases n1
  refine ⟨c, rfl, ?_⟩
  cases c with
  | false => exact iteF (hb B O σ H1 ρ _ _ (R.mono s1) e fun v H2 s2 => q v H2 (s1.trans s2))
  | true => cases e; exact iteT (q _ _ s1 (.bl _))
theorem de_not (ha : DE K ta fa) : DE K (tNotV ta) (fNot fa) := by
  intro B O σ H ρ b Q R e q
  obtain ⟨x, ex, e⟩ := Option.bind_eq_some_iff.mp e
  refine ha B O σ H ρ _ _ R ex fun v H1 s1 n1 => ?_
  cases x <;> try cases e
  rename_i c
  cases n1
  exact ⟨c, rfl, q _ _ s1 (.bl _)⟩
end
/-- a op1 b op2 c -/
def fChain (g g' : D → D → Option D) (fa fb fc : Rho → Option D) : Rho → Option D := fun ρ => (fa ρ).bind fun x => (fb ρ).bind fun y => (g x y).bind fun z => match z with
  | .bool k => if k = true then (fc ρ).bind fun w => g' y w else some (.bool false)
  | _ => none
theorem de_chain {K : PySem.W.Frag} {r r' : R2} {g g' : D → D → Option D} {ta tb tc : TE} {fa fb fc : Rho → Option D} (hr : R2D K r g) (hr' : R2D K r' g') (ha : DE K ta fa) (hb : DE K tb fb) (hc : DE K tc fc) : DE K (tChain r r' ta tb tc) (fChain g g' fa fb fc) := by
  intro B O σ H ρ d Q R e q
  obtain ⟨x, ex, e⟩ := Option.bind_eq_some_iff.mp e
  obtain ⟨y, ey, e⟩ := Option.bind_eq_some_iff.mp e
  obtain ⟨z, ez, e⟩ := Option.bind_eq_some_iff.mp e
  refine ha B O σ H ρ x _ R ex fun v H1 s1 n1 => ?_
  refine hb B O σ H1 ρ y _ (R.mono s1) ey fun u H2 s2 n2 => ?_
  have R2 := (R.mono s1).mono s2
  refine hr O H2 v u x y z _ R2.dom (n1.mono (same_hd s2)) n2 ez fun v3 H3 s3 n3 => ?_
  cases z <;> try cases e
  rename_i k
  cases n3
  refine ⟨k, rfl, ?_⟩
  cases k with
  | false => cases e; exact iteF (q _ _ ((s1.trans s2).trans s3) (.bl _))
  | true =>
    obtain ⟨w', ew, e⟩ := Option.bind_eq_some_iff.mp e
    refine iteT (hc B O σ H3 ρ _ _ (R2.mono s3) ew fun w4 H4 s4 n4 => ?_)
    exact hr' O H4 u w4 y w' d Q ((R2.mono s3).mono s4).dom (n2.mono (same_hd (s3.trans s4))) n4 e fun v5 H5 s5 n5 => q _ _ ((((s1.trans s2).trans s3).trans s4).trans s5) n5

/-! ### statements -/
def sNext : Rho → Option Out := fun ρ => some (.nx ρ)
def sSeq (g h : Rho → Option Out) : Rho → Option Out := fun ρ => (g ρ).bind fun o => match o with
  | .nx ρ1 => h ρ1
  | .rt d => some (.rt d)
  | .bk ρ1 => some (.bk ρ1)
  | .ct ρ1 => some (.ct ρ1)
def sIf (fc : Rho → Option Bool) (g h : Rho → Option Out) : Rho → Option Out := fun ρ => (fc ρ).bind fun c => if c = true then g ρ else h ρ
def sRet (fa : Rho → Option D) : Rho → Option Out := fun ρ => (fa ρ).map .rt
def sRetN : Rho → Option Out := fun _ => some (.rt .none)
def sBrk : Rho → Option Out := fun ρ => some (.bk ρ)
def sCnt : Rho → Option Out := fun ρ => some (.ct ρ)
def sDrop (fa : Rho → Option D) : Rho → Option Out := fun ρ => (fa ρ).map fun _ => .nx ρ
def sSetG (fa : Rho → Option D) (h : D → Rho → Option Rho) : Rho → Option Out := fun ρ => (fa ρ).bind fun d => (h d ρ).map .nx
def hName (i : Nat) : D → Rho → Option Rho := fun d ρ => some (ρ.set i (some (.val d)))
def hNil : List D → Rho → Option Rho := fun l ρ => match l with | [] => some ρ | _ => none
def hCons (h : D → Rho → Option Rho) (hs : List D → Rho → Option Rho) : List D → Rho → Option Rho := fun l ρ => match l with | d :: r => (h d ρ).bind (hs r) | [] => none
def hTup (n : Nat) (hs : List D → Rho → Option Rho) : D → Rho → Option Rho := fun d ρ => match d with | .tuple l => if l.length = n then hs l ρ else none | _ => none
section
variable {K : PySem.W.Frag}
theorem post.mono {B O O1 : Addr → Prop} {H H1 : Hp} {D : Ends} {o : Out} (t : Tr B O H O1 H1) (h : post K B O H D o) : post K B O1 H1 D o := by
  cases o with
  | nx ρ => exact fun O' σ' H' t' R' => h O' σ' H' (t.trans t') R'
  | bk ρ => exact fun O' σ' H' t' R' => h O' σ' H' (t.trans t') R'
  | ct ρ => exact fun O' σ' H' t' R' => h O' σ' H' (t.trans t') R'
  | rt d => exact fun v O' H' t' n => h v O' H' (t.trans t') n
theorem ds_next : DS K tNext sNext := by
  intro B O σ H ρ o D R e q
  cases e
  exact q O σ H (R.tr (Same.refl H)) R
theorem ds_brk : DS K tBreak sBrk := by
  intro B O σ H ρ o D R e q
  cases e
  exact q O σ H (R.tr (Same.refl H)) R
theorem ds_cnt : DS K tCont sCnt := by
  intro B O σ H ρ o D R e q
  cases e
  exact q O σ H (R.tr (Same.refl H)) R
theorem ds_seq {t u : TS} {g h : Rho → Option Out} (ht : DS K t g) (hu : DS K u h) : DS K (tSeq t u) (sSeq g h) := by
  intro B O σ H ρ o D R e q
  obtain ⟨o1, e1, e⟩ := Option.bind_eq_some_iff.mp e
  refine ht B O σ H ρ o1 _ R e1 ?_
  cases o1 with
  | nx ρ1 => exact fun O' σ' H' t' R' => hu B O' σ' H' ρ1 o D R' e (q.mono t')
  | rt d => cases e; exact q
  | bk d => cases e; exact q
  | ct d => cases e; exact q
theorem ds_if {tc : TT} {fc : Rho → Option Bool} {t u : TS} {g h : Rho → Option Out} (hc : DT K tc fc) (ht : DS K t g) (hu : DS K u h) : DS K (tIfS tc t u) (sIf fc g h) := by
  intro B O σ H ρ o D R e q
  obtain ⟨c, e1, e⟩ := Option.bind_eq_some_iff.mp e
  refine hc B O σ H ρ _ _ R e1 fun H1 s1 => ?_
  cases c with
  | true => exact iteT (ht B O σ H1 ρ o D (R.mono s1) e (q.mono (R.tr s1)))
  | false => exact iteF (hu B O σ H1 ρ o D (R.mono s1) e (q.mono (R.tr s1)))
theorem ds_never {g : Rho → Option Out} (h : ∀ ρ, g ρ = none) : DS K tNever g := by
  intro B O σ H ρ o D R e q
  rw [h] at e; cases e
def sNever : Rho → Option Out := fun _ => none
theorem ds_ret {ta : TE} {fa : Rho → Option D} (ha : DE K ta fa) : DS K (tRet ta) (sRet fa) := by
  intro B O σ H ρ o D R e q
  obtain ⟨x, ex, e⟩ := Option.map_eq_some_iff.mp e
  cases e
  exact ha B O σ H ρ x _ R ex fun v H1 s1 n1 => q v O H1 (R.tr s1) n1
theorem ds_retN : DS K tRetN sRetN := by
  intro B O σ H ρ o D R e q
  cases e
  exact q .non O H (R.tr (Same.refl H)) .non
theorem ds_drop {ta : TE} {fa : Rho → Option D} (ha : DE K ta fa) : DS K (tDrop ta) (sDrop fa) := by
  intro B O σ H ρ o D R e q
  obtain ⟨x, ex, e⟩ := Option.map_eq_some_iff.mp e
  cases e
  exact ha B O σ H ρ x _ R ex fun v H1 s1 n1 => q O σ H1 (R.tr s1) (R.mono s1)
theorem Rel.set {B O : Addr → Prop} {σ : L2.St} {H : Hp} {ρ : Rho} {v : V} {d : PV.D} (R : Rel K B O σ H ρ) (i : Nat) (h : Dn K (hd O H) v d) : Rel K B O (σ.set i (some v)) H (ρ.set i (some (.val d))) where
  len := by simp [R.len]
  dom := R.dom
  sub := R.sub
  get := fun j s e => by
    by_cases hj : i = j
    · subst hj
      by_cases hl : i < ρ.length
      · rw [List.getElem?_set_self hl] at e
        cases e
        exact ⟨v, List.getElem?_set_self (by rw [R.len]; exact hl), h⟩
      · rw [List.getElem?_eq_none (by simpa using hl)] at e; cases e
    · rw [List.getElem?_set_ne hj] at e ⊢
      exact R.get j s e
  inj := fun a b l l' u e1 e2 e3 e4 => by
    have ha : i ≠ a := fun z => by
      subst z
      by_cases hl : i < ρ.length
      · rw [List.getElem?_set_self hl] at e1; cases e1
      · rw [List.getElem?_eq_none (by simpa using hl)] at e1; cases e1
    have hb : i ≠ b := fun z => by
      subst z
      by_cases hl : i < ρ.length
      · rw [List.getElem?_set_self hl] at e2; cases e2
      · rw [List.getElem?_eq_none (by simpa using hl)] at e2; cases e2
    rw [List.getElem?_set_ne ha] at e1 e3
    rw [List.getElem?_set_ne hb] at e2 e4
    exact R.inj a b l l' u e1 e2 e3 e4
theorem dg_name (i : Nat) : DG K (gName i) [i] (hName i) := by
  intro B O σ H ρ v d ρ' Q R n e q
  cases e
  exact q _ (R.set i n.f) (by simp) fun j hj => List.getElem?_set_ne (by simpa using fun z => hj (by simp [z]))
theorem dgs_nil : DGs K gNil [] hNil := by
  intro B O σ H ρ v d ρ' Q R n e q
  cases n with
  | cons _ _ => cases e
  | nil => cases e; exact ⟨rfl, q σ R rfl fun _ _ => rfl⟩
theorem dgs_cons {g : TG} {gs : TGs} {ts us : List Nat} {h : PV.D → Rho → Option Rho} {hs : List PV.D → Rho → Option Rho} (hg : DG K g ts h) (hgs : DGs K gs us hs) : DGs K (gCons g gs) (ts ++ us) (hCons h hs) := by
  intro B O σ H ρ v d ρ' Q R n e q
  cases n with
  | nil => cases e
  | cons n1 n2 =>
    obtain ⟨ρ1, e1, e⟩ := Option.bind_eq_some_iff.mp e
    refine ⟨_, _, rfl, hg B O σ H ρ _ _ ρ1 _ R (.inl n1) e1 fun σ1 R1 l1 k1 => ?_⟩
    refine hgs B O σ1 H ρ1 _ _ ρ' _ R1 n2 e fun σ2 R2 l2 k2 => ?_
    exact q σ2 R2 (l2.trans l1) fun j hj => (k2 j fun z => hj (List.mem_append_right _ z)).trans (k1 j fun z => hj (List.mem_append_left _ z))
theorem dg_tup {gs : TGs} {ts : List Nat} {n : Nat} {hs : List PV.D → Rho → Option Rho} (hg : DGs K gs ts hs) {w : Bool} : DG K (gTup K n gs) ts (hTup n hs) w := by
  intro B O σ H ρ v d ρ' Q R nn e q
  unfold hTup at e
  split at e
  · split at e
    · rename_i l hl
      rcases nn with nn | ⟨_, a, xs, ds, rfl, hd', hq, ha⟩
      · cases nn with
        | tup hq ha => exact ⟨_, _, rfl, Same.seqT hd_le hq.sq, by rw [ha.len]; exact hl, hg B O σ H ρ _ _ ρ' _ R ha e q⟩
      · cases hd'
        exact ⟨_, _, rfl, Same.seqT hd_le hq, by rw [ha.len]; exact hl, hg B O σ H ρ _ _ ρ' _ R ha e q⟩
    · cases e
  · cases e
theorem ds_asg {ta : TE} {fa : Rho → Option PV.D} {g : TG} {ts : List Nat} {h : PV.D → Rho → Option Rho} (ha : DE K ta fa) (hg : DG K g ts h) : DS K (tAsg ta g) (sSetG fa h) := by
  intro B O σ H ρ o D R e q
  obtain ⟨x, ex, e⟩ := Option.bind_eq_some_iff.mp e
  obtain ⟨ρ1, e1, e⟩ := Option.map_eq_some_iff.mp e
  cases e
  refine ha B O σ H ρ x _ R ex fun v H1 s1 n1 => ?_
  exact hg B O σ H1 ρ v x ρ1 _ (R.mono s1) (.inl n1) e1 fun σ' R' _ _ => q O σ' H1 (R.tr s1) R'
end

/-! ### loops -/
def forF (g : Rho → Option Out) (h : D → Rho → Option Rho) : List D → Rho → Option Out
  | [], ρ => some (.nx ρ)
  | d :: ds, ρ => (h d ρ).bind fun ρ1 => (g ρ1).bind fun o => match o with
    | .nx ρ2 => forF g h ds ρ2
    | .ct ρ2 => forF g h ds ρ2
    | .bk ρ2 => some (.nx ρ2)
    | .rt d => some (.rt d)
def sFor (fi : Rho → Option (List D)) (h : D → Rho → Option Rho) (g : Rho → Option Out) : Rho → Option Out := fun ρ => (fi ρ).bind fun ds => forF g h ds ρ
def whileF (fc : Rho → Option Bool) (g : Rho → Option Out) : Nat → Rho → Option Out
  | 0, _ => none
  | n + 1, ρ => (fc ρ).bind fun c => if c = true then (g ρ).bind fun o => match o with
      | .nx ρ2 => whileF fc g n ρ2
      | .ct ρ2 => whileF fc g n ρ2
      | .bk ρ2 => some (.nx ρ2)
      | .rt d => some (.rt d)
    else some (.nx ρ)
def sWhile (n : Nat) (fc : Rho → Option Bool) (g : Rho → Option Out) : Rho → Option Out := whileF fc g n
section
variable {K : PySem.W.Frag}
theorem Wk.mono {B O O1 : Addr → Prop} {H H1 : Hp} {J : It} {ds : List PV.D} {b : Bool} (w : Wk K B O H J ds b) (t : Tr B O H O1 H1) : Wk K B O1 H1 J ds b := fun i O' H' hi t' => w i O' H' hi (t.trans t')
theorem ds_for {w : TI} {fi : Rho → Option (List PV.D)} {g : TG} {ts : List Nat} {h : PV.D → Rho → Option Rho} {t : TS} {b : Rho → Option Out} {wb : Bool} (hw : DI K w fi wb) (hg : DG K g ts h wb) (ht : DS K t b) : DS K (tFor w g t) (sFor fi h b) := by
  intro B O σ H ρ o D R e q
  obtain ⟨ds, e1, e⟩ := Option.bind_eq_some_iff.mp e
  refine hw B O σ H ρ ds _ R e1 fun J H1 s1 wk => ?_
  refine ⟨fun i m σ2 H2 => m = ds.length - i ∧ i ≤ ds.length ∧ ∃ O2 ρ2, Tr B O H1 O2 H2 ∧ Rel K B O2 σ2 H2 ρ2 ∧ forF b h (ds.drop i) ρ2 = some o,
    ⟨ds.length, by simp, by simp, O, ρ, (R.mono s1).tr (Same.refl H1), R.mono s1, e⟩, ?_⟩
  rintro i m σ2 H2 ⟨rfl, hi, O2, ρ2, t2, R2, e2⟩
  have k := wk i O2 H2 hi t2
  cases hd' : ds[i]? with
  | none =>
    rw [hd'] at k
    have hl : ds.length ≤ i := List.getElem?_eq_none_iff.mp hd'
    rw [List.drop_eq_nil_of_le hl] at e2
    cases e2
    exact .inl ⟨k, q O2 σ2 H2 ((R.tr s1).trans t2) R2⟩
  | some d =>
    rw [hd'] at k
    have hl : i < ds.length := (List.getElem?_eq_some_iff.mp hd').1
    have hdd : ds.drop i = d :: ds.drop (i + 1) := by
      rw [List.drop_eq_getElem_cons hl]
      rw [(List.getElem?_eq_some_iff.mp hd').2]
    rw [hdd] at e2
    unfold forF at e2
    obtain ⟨ρ3, e3, e2⟩ := Option.bind_eq_some_iff.mp e2
    obtain ⟨o1, e4, e2⟩ := Option.bind_eq_some_iff.mp e2
    refine .inr ⟨k.1, fun σ3 H3 => ∃ O3 ρ4, Tr B O H1 O3 H3 ∧ Rel K B O3 σ3 H3 ρ4 ∧ forF b h (ds.drop (i + 1)) ρ4 = some o, fun σ3 H3 hN => ?_, fun x H3 hy => ?_⟩
    · exact ⟨ds.length - (i + 1), by omega, rfl, hl, hN⟩
    · obtain ⟨s3, n3⟩ := k.2 x H3 hy
      have R3 := R2.mono s3
      refine hg B O2 σ2 H3 ρ2 x d ρ3 _ R3 n3 e3 fun σ4 R4 _ _ => ?_
      refine ht B O2 σ4 H3 ρ3 o1 _ R4 e4 ?_
      have t3 := t2.trans (R2.tr s3)
      cases o1 with
      | nx ρ5 => exact fun O' σ' H' t' R' => ⟨O', ρ5, t3.trans t', R', e2⟩
      | ct ρ5 => exact fun O' σ' H' t' R' => ⟨O', ρ5, t3.trans t', R', e2⟩
      | bk ρ5 =>
        cases e2
        exact fun O' σ' H' t' R' => q O' σ' H' (((R.tr s1).trans t3).trans t') R'
      | rt d =>
        cases e2
        exact fun v O' H' t' n => q v O' H' (((R.tr s1).trans t3).trans t') n
theorem ds_while {n : Nat} {tc : TT} {fc : Rho → Option Bool} {t : TS} {b : Rho → Option Out} (hc : DT K tc fc) (ht : DS K t b) : DS K (tWhile tc t) (sWhile n fc b) := by
  intro B O σ H ρ o D R e q
  refine ⟨fun m σ2 H2 => ∃ O2 ρ2, Tr B O H O2 H2 ∧ Rel K B O2 σ2 H2 ρ2 ∧ whileF fc b m ρ2 = some o, ⟨n, O, ρ, R.tr (Same.refl H), R, e⟩, ?_⟩
  rintro m σ2 H2 ⟨O2, ρ2, t2, R2, e2⟩
  cases m with
  | zero => cases e2
  | succ m =>
    unfold whileF at e2
    obtain ⟨c, e3, e2⟩ := Option.bind_eq_some_iff.mp e2
    refine hc B O2 σ2 H2 ρ2 _ _ R2 e3 fun H3 s3 => ?_
    have t3 := t2.trans (R2.tr s3)
    cases c with
    | false =>
      cases e2
      exact iteF (q O2 σ2 H3 t3 (R2.mono s3))
    | true =>
      refine iteT ?_
      obtain ⟨o1, e4, e2⟩ := Option.bind_eq_some_iff.mp e2
      refine ⟨fun σ3 H3 => ∃ O3 ρ4, Tr B O H O3 H3 ∧ Rel K B O3 σ3 H3 ρ4 ∧ whileF fc b m ρ4 = some o, fun σ3 H3 hN => ⟨m, Nat.lt_succ_self m, hN⟩, ?_⟩
      refine ht B O2 σ2 H3 ρ2 o1 _ (R2.mono s3) e4 ?_
      cases o1 with
      | nx ρ5 => exact fun O' σ' H' t' R' => ⟨O', ρ5, t3.trans t', R', e2⟩
      | ct ρ5 => exact fun O' σ' H' t' R' => ⟨O', ρ5, t3.trans t', R', e2⟩
      | bk ρ5 =>
        cases e2
        exact fun O' σ' H' t' R' => q O' σ' H' (t3.trans t') R'
      | rt d =>
        cases e2
        exact fun v O' H' t' n => q v O' H' (t3.trans t') n
end
end PV

namespace PV
open PySem PySem.Spec PyProof.Rows L2
/-! ### comprehensions -/
def wipeR (ρ : Rho) : List Nat → Rho
  | [] => ρ
  | v :: vs => (wipeR ρ vs).set v none
theorem wipe_get (σ : L2.St) : ∀ (vs : List Nat) (j : Nat), (wipe σ vs)[j]? = if j ∈ vs ∧ j < σ.length then some none else σ[j]?
  | [], j => by simp [wipe]
  | v :: vs, j => by
    unfold wipe
    by_cases h : v = j
    · subst h
      by_cases hl : v < σ.length
      · rw [List.getElem?_set_self (by rw [wipe_length]; exact hl), if_pos ⟨by simp, hl⟩]
      · rw [if_neg (by rintro ⟨_, q⟩; exact hl q), List.getElem?_eq_none (by simp [wipe_length]; omega), List.getElem?_eq_none (by omega)]
    · rw [List.getElem?_set_ne h, wipe_get σ vs j]
      have e : (j ∈ v :: vs) ↔ j ∈ vs := by simp [Ne.symm h]
      simp only [e]
theorem wipeR_get (ρ : Rho) : ∀ (vs : List Nat) (j : Nat), (wipeR ρ vs)[j]? = if j ∈ vs ∧ j < ρ.length then some none else ρ[j]?
  | [], j => by simp [wipeR]
  | v :: vs, j => by
    have hlen : ∀ vs, (wipeR ρ vs).length = ρ.length := fun vs => by
      induction vs with
      | nil => rfl
      | cons a b ih => unfold wipeR; rw [List.length_set, ih]
    unfold wipeR
    by_cases h : v = j
    · subst h
      by_cases hl : v < ρ.length
      · rw [List.getElem?_set_self (by rw [hlen]; exact hl), if_pos ⟨by simp, hl⟩]
      · rw [if_neg (by rintro ⟨_, q⟩; exact hl q), List.getElem?_eq_none (by simp [hlen]; omega), List.getElem?_eq_none (by omega)]
    · rw [List.getElem?_set_ne h, wipeR_get ρ vs j]
      have e : (j ∈ v :: vs) ↔ j ∈ vs := by simp [Ne.symm h]
      simp only [e]
theorem wipeR_len (ρ : Rho) : ∀ vs, (wipeR ρ vs).length = ρ.length
  | [] => rfl
  | v :: vs => by unfold wipeR; rw [List.length_set, wipeR_len ρ vs]
theorem wipe_same {σ σ2 : L2.St} {ts vs : List Nat} (hl : σ2.length = (wipe σ vs).length) (h : ∀ j, j ∉ ts → σ2[j]? = (wipe σ vs)[j]?) (hs : ∀ j ∈ ts, j ∈ vs) : wipe σ2 vs = wipe σ vs := by
  apply List.ext_getElem?
  intro j
  rw [wipe_get, wipe_get]
  have el : σ2.length = σ.length := by rw [hl, wipe_length]
  rw [el]
  by_cases hj : j ∈ vs ∧ j < σ.length
  · rw [if_pos hj, if_pos hj]
  · rw [if_neg hj, if_neg hj]
    by_cases ht : j ∈ ts
    · have hv := hs j ht
      have hnl : ¬ j < σ.length := fun q => hj ⟨hv, q⟩
      rw [List.getElem?_eq_none (by omega), List.getElem?_eq_none (by omega)]
    · rw [h j ht, wipe_get, if_neg hj]
section
variable {K : PySem.W.Frag}
theorem Rel.wipe {B O : Addr → Prop} {σ : L2.St} {H : Hp} {ρ : Rho} (R : Rel K B O σ H ρ) (vs : List Nat) : Rel K B O (wipe σ vs) H (wipeR ρ vs) where
  len := by rw [wipe_length, wipeR_len]; exact R.len
  dom := R.dom
  sub := R.sub
  get := fun j s e => by
    rw [wipeR_get] at e
    split at e
    · cases e
    · rename_i h
      rw [wipe_get, if_neg (by rw [R.len]; exact h)]
      exact R.get j s e
  inj := fun a b l l' u e1 e2 e3 e4 => by
    rw [wipeR_get] at e1 e2
    rw [wipe_get] at e3 e4
    split at e1
    · cases e1
    split at e2
    · cases e2
    split at e3
    · cases e3
    split at e4
    · cases e4
    exact R.inj a b l l' u e1 e2 e3 e4
/-- one more thing is owned: a new one -/
def addO (O : Addr → Prop) (p : Addr) : Addr → Prop := fun a => O a ∨ a = p
theorem Rel.grow {B O : Addr → Prop} {σ : L2.St} {H H' : Hp} {ρ : Rho} {p : Addr} (R : Rel K B O σ H ρ) (s : Same H H') (hp : H p = none) (hq : H' p ≠ none) : Rel K B (addO O p) σ H' ρ := by
  have sm : Same (hd O H) (hd (addO O p) H') := fun a o e => by
    obtain ⟨n, e⟩ := hd_some e
    rw [hd_of (by rintro (z | z); exact n z; rw [z, hp] at e; cases e)]
    exact s _ _ e
  refine ⟨R.len, fun a o => ?_, fun a b => .inl (R.sub a b), fun i x e => ?_, R.inj⟩
  · rcases o with o | rfl
    · exact fun z => R.dom a o (s.free z)
    · exact hq
  · obtain ⟨v, h1, h2⟩ := R.get i x e
    refine ⟨v, h1, ?_⟩
    cases x with
    | val d => exact Dn.mono sm h2
    | own l =>
      obtain ⟨a, xs, e1, e2, e3, e4, e5⟩ := h2
      exact ⟨a, xs, e1, .inl e2, e3, s _ _ e4, e5.mono sm⟩
theorem Rel.growTr {B O : Addr → Prop} {σ : L2.St} {H H' : Hp} {ρ : Rho} {p : Addr} (R : Rel K B O σ H ρ) (s : Same H H') (hp : H p = none) (hq : H' p ≠ none) : Tr B O H (addO O p) H' where
  same := fun a o e => by
    obtain ⟨n, e⟩ := hd_some e
    rw [hd_of (by rintro (z | z); exact n z; rw [z, hp] at e; cases e)]
    exact s _ _ e
  sub := fun a b => .inl (R.sub a b)
  keep := (R.tr s).keep
  dom := (R.grow s hp hq).dom
end
def lcF (h : D → Rho → Option Rho) (ft : Rho → Option Bool) (fe : Rho → Option D) (ρ : Rho) : List D → Option (List D)
  | [] => some []
  | d :: ds => (h d ρ).bind fun ρ1 => (ft ρ1).bind fun b => if b = true then (fe ρ1).bind fun y => (lcF h ft fe ρ ds).bind fun r => some (y :: r) else lcF h ft fe ρ ds
def gLc (fi : Rho → Option (List D)) (h : D → Rho → Option Rho) (ft : Rho → Option Bool) (fe : Rho → Option D) (vs : List Nat) : Rho → Option (List D) := fun ρ => (fi ρ).bind fun ds => if ds.length ≤ 16777216 then lcF h ft fe (wipeR ρ vs) ds else none
theorem hd_upd_own {O : Addr → Prop} {H : Hp} {p : Addr} {o : HO} (h : O p) : hd O (upd H p o) = hd O H := by
  funext a
  by_cases q : O a
  · rw [hd_none q, hd_none q]
  · rw [hd_of q, hd_of q, upd_ne]
    intro e; rw [e] at q; exact q h
theorem df_lc {K : PySem.W.Frag} {wi : TI} {g : TG} {tt : TT} {te : TE} {vs ts : List Nat} {fi : Rho → Option (List D)} {h : D → Rho → Option Rho} {ft : Rho → Option Bool} {fe : Rho → Option D}
    {wb : Bool} (hi : DI K wi fi wb) (hg : DG K g ts h wb) (hs : ∀ j ∈ ts, j ∈ vs) (ht : DT K tt ft) (he : DE K te fe) : DF K (tLc wi g tt te vs) (gLc fi h ft fe vs) := by
  intro B O σ H ρ d Q R e q
  obtain ⟨ds, e1, e⟩ := Option.bind_eq_some_iff.mp e
  split at e
  case isFalse => cases e
  rename_i hz
  refine hi B O σ H ρ ds _ R e1 fun J H1 s1 wk p hp => ?_
  have R1 := R.mono s1
  refine ⟨fun i m H2 => m = ds.length - i ∧ i ≤ ds.length ∧ ∃ acc accd rest, Same H1 H2 ∧ H2 p = some (.lst acc) ∧ DnA K (hd (addO O p) H2) acc accd ∧ accd.length ≤ i ∧ lcF h ft fe (wipeR ρ vs) (ds.drop i) = some rest ∧ d = accd ++ rest,
    ⟨ds.length, by simp, by simp, [], [], d, PV.same_upd hp, upd_same, .nil, by simp, e, rfl⟩, ?_⟩
  rintro i m H2 ⟨rfl, hi', acc, accd, rest, s2, e2, n2, hl2, e3, rfl⟩
  have hq : H2 p ≠ none := by rw [e2]; exact fun z => by cases z
  have k := wk i (addO O p) H2 hi' (R1.growTr s2 hp hq)
  have R2 := R1.grow s2 hp hq
  cases hd' : ds[i]? with
  | none =>
    rw [hd'] at k
    have hl : ds.length ≤ i := List.getElem?_eq_none_iff.mp hd'
    rw [List.drop_eq_nil_of_le hl] at e3
    cases e3
    refine .inl ⟨k, ?_⟩
    rw [List.append_nil] at q
    exact q p acc H2 (s1.free hp) (R.new (s1.free hp)) (s1.trans s2) e2 n2
  | some x0 =>
    rw [hd'] at k
    have hl : i < ds.length := (List.getElem?_eq_some_iff.mp hd').1
    have hdd : ds.drop i = x0 :: ds.drop (i + 1) := by
      rw [List.drop_eq_getElem_cons hl]
      rw [(List.getElem?_eq_some_iff.mp hd').2]
    rw [hdd] at e3
    unfold lcF at e3
    obtain ⟨ρ1, e4, e3⟩ := Option.bind_eq_some_iff.mp e3
    obtain ⟨b, e5, e3⟩ := Option.bind_eq_some_iff.mp e3
    refine .inr ⟨k.1, fun H' => ∃ acc' accd' rest', Same H1 H' ∧ H' p = some (.lst acc') ∧ DnA K (hd (addO O p) H') acc' accd' ∧ accd'.length ≤ i + 1 ∧ lcF h ft fe (wipeR ρ vs) (ds.drop (i + 1)) = some rest' ∧ accd ++ rest = accd' ++ rest', fun H' hN => ⟨ds.length - (i + 1), by omega, rfl, hl, hN⟩, fun x H3 hy => ?_⟩
    obtain ⟨s3, n3⟩ := k.2 x H3 hy
    refine hg B (addO O p) (wipe σ vs) H3 (wipeR ρ vs) x x0 ρ1 _ ((R2.mono s3).wipe vs) n3 e4 fun σ4 R4 l4 k4 => ?_
    refine ⟨wipe_same l4 k4 hs, ht B (addO O p) σ4 H3 ρ1 b _ R4 e5 fun H5 s5 => ?_⟩
    have s25 := s3.trans s5
    cases b with
    | false =>
      rw [if_neg Bool.false_ne_true] at e3
      exact iteF ⟨acc, accd, rest, s2.trans s25, s25 _ _ e2, n2.mono (same_hd s25), by omega, e3, rfl⟩
    | true =>
      rw [if_pos rfl] at e3
      obtain ⟨y, e6, e3⟩ := Option.bind_eq_some_iff.mp e3
      obtain ⟨r, e7, e3⟩ := Option.bind_eq_some_iff.mp e3
      cases e3
      refine iteT (he B (addO O p) σ4 H5 ρ1 y _ (R4.mono s5) e6 fun v H6 s6 n6 => ?_)
      have s26 := s25.trans s6
      refine ⟨acc, s26 _ _ e2, by rw [n2.len, line_eq]; omega, acc ++ [v], accd ++ [y], r, ?_, upd_same, ?_, by simp; omega, e7, by simp⟩
      · intro a o z
        have hap : a ≠ p := ne_of_none z hp
        rw [upd_ne hap]
        exact s26 _ _ (s2 _ _ z)
      · rw [hd_upd_own (.inr rfl)]
        exact (n2.mono (same_hd s26)).snoc n6
/-- one more test in a comprehension -/
def tYesF : Rho → Option Bool := fun _ => some true
theorem dt_yes {K : PySem.W.Frag} : DT K tYes tYesF := by
  intro B O σ H ρ b Q R e q
  cases e
  exact q H (Same.refl H)

/-! ### walks -/
section
variable {K : PySem.W.Frag}
theorem Wk.list {B O : Addr → Prop} {H : Hp} {a : Addr} {xs : List V} {ds : List D} (h : SqL K (hd O H) a xs) (n : DnA K (hd O H) xs ds) : Wk K B O H (Itl K a) ds := by
  intro i O' H' hi t
  have h' : SqL K H' a xs := Same.seq hd_le (t.same.seq h)
  have n' := n.mono t.same
  cases e : ds[i]? with
  | none =>
    have hl : ds.length ≤ i := List.getElem?_eq_none_iff.mp e
    exact ⟨xs, h', by rw [n.len]; exact hl⟩
  | some d =>
    obtain ⟨v, ev, nv⟩ := n'.get e
    refine ⟨⟨xs, v, h', ev⟩, fun x H2 y => ?_⟩
    obtain ⟨rfl, y⟩ := y
    have := y xs h'
    rw [ev] at this
    cases this
    exact ⟨Same.refl _, .inl nv⟩
theorem Wk.tup {B O : Addr → Prop} {H : Hp} {a : Addr} {xs : List V} {ds : List D} (h : SqT K (hd O H) a xs) (n : DnA K (hd O H) xs ds) : Wk K B O H (Itt K a) ds := by
  intro i O' H' hi t
  have h' : SqT K H' a xs := Same.seqT hd_le (Same.seqT t.same h)
  have n' := n.mono t.same
  cases e : ds[i]? with
  | none =>
    have hl : ds.length ≤ i := List.getElem?_eq_none_iff.mp e
    exact ⟨xs, h', by rw [n.len]; exact hl⟩
  | some d =>
    obtain ⟨v, ev, nv⟩ := n'.get e
    refine ⟨⟨xs, v, h', ev⟩, fun x H2 y => ?_⟩
    obtain ⟨rfl, y⟩ := y
    have := y xs h'
    rw [ev] at this
    cases this
    exact ⟨Same.refl _, .inl nv⟩
def rngD (lo : Int) (n : Nat) : List D := (List.range n).map fun i : Nat => .int (lo + (i : Int))
theorem Wk.range {B O : Addr → Prop} {H : Hp} {lo : Int} {n : Nat} : Wk K B O H (Itr lo n) (rngD lo n) := by
  intro i O' H' hi t
  by_cases h : i < n
  · have e : (rngD lo n)[i]? = some (.int (lo + (i : Int))) := by simp [rngD, h]
    rw [e]
    refine ⟨h, fun x H2 y => ?_⟩
    obtain ⟨rfl, rfl⟩ := y
    exact ⟨Same.refl _, .inl (.int _)⟩
  · have e : (rngD lo n)[i]? = none := by simp [rngD]; omega
    rw [e]
    exact Nat.le_of_not_lt h
def strD (x : Str) : List D := x.cps.toList.map fun c => .str ⟨#[c]⟩
theorem Wk.str {B O : Addr → Prop} {H : Hp} {z : Str} : Wk K B O H (Its z) (strD z) := by
  intro i O' H' hi t
  cases e : z.cps[i]? with
  | some c =>
    have e2 : (strD z)[i]? = some (.str ⟨#[c]⟩) := by
      unfold strD
      rw [List.getElem?_map, Array.getElem?_toList, e]
      rfl
    rw [e2]
    have h : i < z.cps.size := by
      obtain ⟨h, _⟩ := Array.getElem?_eq_some_iff.mp e
      exact h
    refine ⟨h, fun x H2 y => ?_⟩
    obtain ⟨rfl, c', e', rfl⟩ := y
    rw [e] at e'
    cases e'
    exact ⟨Same.refl _, .inl (.str _)⟩
  | none =>
    have e2 : (strD z)[i]? = none := by
      unfold strD
      rw [List.getElem?_map, Array.getElem?_toList, e]
      rfl
    rw [e2]
    exact Array.getElem?_eq_none_iff.mp e
end

/-! ### what is walked, as it stands in the text: a list, a tuple or a text -/
def itemsD : D → Option (List D)
  | .list l => some l
  | .tuple l => some l
  | .str x => some (strD x)
  | _ => none
def iF (fa : Rho → Option D) : Rho → Option (List D) := fun ρ => (fa ρ).bind itemsD
def iOr (w w' : TI) : TI := fun σ H R => w σ H R ∨ w' σ H R
/-- a reading of an expression that is asked for each of the three ways -/
def iSeq (K : PySem.W.Frag) (te : TE) : TI := fun σ H R => te σ H fun v H1 => (∃ a, v = .ref a ∧ (∃ xs, SqL K H1 a xs) ∧ R (Itl K a) H1) ∨ (∃ a, v = .ref a ∧ (∃ xs, SqT K H1 a xs) ∧ R (Itt K a) H1) ∨ ∃ x, v = .str x ∧ R (Its x) H1
theorem di_seq {K : PySem.W.Frag} {te : TE} {fa : Rho → Option D} (ha : DE K te fa) : DI K (iSeq K te) (iF fa) := by
  intro B O σ H ρ ds Q R e q
  obtain ⟨d, e1, e⟩ := Option.bind_eq_some_iff.mp e
  refine ha B O σ H ρ d _ R e1 fun v H1 s1 n1 => ?_
  cases d <;> try cases e
  · cases n1
    exact .inr (.inr ⟨_, rfl, q _ _ s1 .str⟩)
  · cases n1 with
    | lst h a => exact .inl ⟨_, rfl, ⟨_, Same.seq hd_le h⟩, q _ _ s1 (.list h a)⟩
  · cases n1 with
    | tup h a => exact .inr (.inl ⟨_, rfl, ⟨_, Same.seqT hd_le h.sq⟩, q _ _ s1 (.tup h.sq a)⟩)
def iRg1 (fa : Rho → Option D) : Rho → Option (List D) := fun ρ => (fa ρ).bind fun d => match d with | .int j => if j < 2 ^ 62 ∧ -(2 ^ 62) ≤ j then some (rngD 0 j.toNat) else none | _ => none
def iRg2 (fa fb : Rho → Option D) : Rho → Option (List D) := fun ρ => (fa ρ).bind fun d => (fb ρ).bind fun e => match d, e with | .int i, .int j => if (i < 2 ^ 62 ∧ -(2 ^ 62) ≤ i) ∧ j < 2 ^ 62 ∧ -(2 ^ 62) ≤ j then some (rngD i (j - i).toNat) else none | _, _ => none
theorem di_rg1 {K : PySem.W.Frag} {ta : TE} {fa : Rho → Option D} (ha : DE K ta fa) : DI K (iRng1 (tCons ta tNil)) (iRg1 fa) := by
  intro B O σ H ρ ds Q R e q
  obtain ⟨d, e1, e⟩ := Option.bind_eq_some_iff.mp e
  refine ha B O σ H ρ d _ R e1 fun v H1 s1 n1 => ?_
  cases d with
  | int j =>
    cases n1
    simp only at e
    split at e
    · rename_i hj
      cases e
      exact ⟨j, rfl, hj.2, hj.1, q _ _ s1 .range⟩
    · cases e
  | _ => cases e
theorem di_rg2 {K : PySem.W.Frag} {ta tb : TE} {fa fb : Rho → Option D} (ha : DE K ta fa) (hb : DE K tb fb) : DI K (iRng2 (tCons ta (tCons tb tNil))) (iRg2 fa fb) := by
  intro B O σ H ρ ds Q R e q
  obtain ⟨d, e1, e⟩ := Option.bind_eq_some_iff.mp e
  obtain ⟨d', e2, e⟩ := Option.bind_eq_some_iff.mp e
  refine ha B O σ H ρ d _ R e1 fun v H1 s1 n1 => ?_
  refine hb B O σ H1 ρ d' _ (R.mono s1) e2 fun v' H2 s2 n2 => ?_
  cases d with
  | int i =>
    cases d' with
    | int j =>
      cases n1
      cases n2
      simp only at e
      split at e
      · rename_i hj
        cases e
        exact ⟨i, j, rfl, ⟨hj.1.2, hj.1.1, hj.2.2, hj.2.1⟩, q _ _ (s1.trans s2) .range⟩
      · cases e
    | _ => cases e
  | _ => cases e

/-! ### defs -/
def startR (n : Nat) (ds : List D) : Rho := ds.map (fun d => some (.val d)) ++ List.replicate (n - ds.length) none
def outD : Out → Option D
  | .rt d => some d
  | .nx _ => some .none
  | _ => none
/-- what a def computes -/
def runF (n : Nat) (g : Rho → Option Out) (ds : List D) : Option D := (g (startR n ds)).bind outD
/-- its promise -/
def spP (K : PySem.W.Frag) (m : Nat) (F : List D → Option D) : Sp := fun vs H Q _ => ∃ (O : Addr → Prop) (ds : List D) (d : D), ds.length = m ∧ (∀ a, O a → H a ≠ none) ∧ DnA K (hd O H) vs ds ∧ F ds = some d ∧ ∀ v H', Same H H' → Dn K (hd O H') v d → Q v H'
theorem de_call {K : PySem.W.Frag} {m : Nat} {F : List D → Option D} {E : XK} {ta : TA} {fa : Rho → Option (List D)} (ha : DA K ta fa) (hm : ∀ ρ ds, fa ρ = some ds → ds.length = m) : DE K (tCall (spP K m F) [] E ta) (PV.fn F fa) := by
  intro B O σ H ρ d Q R e q
  obtain ⟨x, ex, e⟩ := Option.bind_eq_some_iff.mp e
  refine ha B O σ H ρ x _ R ex fun v H1 s1 n1 => ?_
  rw [List.append_nil]
  exact ⟨O, x, d, hm _ _ ex, (R.mono s1).dom, n1, e, fun v2 H2 s2 n2 => q v2 H2 (s1.trans s2) n2⟩
theorem rel_start {K : PySem.W.Frag} {O : Addr → Prop} {H : Hp} {N : List Str} {vs : List V} {ds : List D} (hO : ∀ a, O a → H a ≠ none) (n : DnA K (hd O H) vs ds) : Rel K O O (L2.start N vs) H (startR N.length ds) where
  len := by unfold L2.start startR; simp [n.len]
  dom := hO
  sub := fun _ h => h
  get := fun i s e => by
    unfold startR at e
    rw [List.getElem?_append] at e
    split at e
    · rename_i hl
      rw [List.getElem?_map] at e
      rw [List.length_map] at hl
      cases ed : ds[i]? with
      | none => rw [ed] at e; cases e
      | some d =>
        rw [ed] at e
        cases e
        obtain ⟨v, ev, nv⟩ := n.get ed
        refine ⟨v, ?_, nv⟩
        unfold L2.start
        rw [List.getElem?_append_left (by rw [List.length_map, n.len]; exact hl), List.getElem?_map, ev]
        rfl
    · rw [List.getElem?_replicate] at e
      split at e <;> cases e
  inj := fun i j l l' v e _ _ _ => by
    unfold startR at e
    rw [List.getElem?_append] at e
    split at e
    · rw [List.getElem?_map] at e
      cases ed : ds[i]? with
      | none => rw [ed] at e; cases e
      | some d => rw [ed] at e; cases e
    · rw [List.getElem?_replicate] at e
      split at e <;> cases e
/-- a def's reading keeps its promise -/
theorem sp_body {K : PySem.W.Frag} {t : TS} {g : Rho → Option Out} {N : List Str} {m : Nat} {vs : List V} {H : Hp} {Q : VK} {E : XK} (ht : DS K t g) (h : spP K m (runF N.length g) vs H Q E) : t { nx := fun _ H' => Q .non H', rt := Q } (L2.start N vs) H := by
  obtain ⟨O, ds, d, _, hO, n, e, q⟩ := h
  obtain ⟨o, e1, e2⟩ := Option.bind_eq_some_iff.mp e
  refine ht O O (L2.start N vs) H (startR N.length ds) o _ (rel_start hO n) e1 ?_
  have back : ∀ {O' : Addr → Prop} {H' : Hp}, Tr O O H O' H' → Same H H' := fun {O' H'} t a x z => by
    by_cases ha : O a
    · rw [t.keep a ha]; exact z
    · have := t.same a x (by rw [hd_of ha]; exact z)
      exact (hd_some this).2
  cases o with
  | rt d' =>
    cases e2
    exact fun v O' H' t n' => q v H' (back t) (n'.mono (hd_sub t.sub))
  | nx ρ' =>
    cases e2
    exact fun O' σ' H' t R' => q .non H' (back t) .non
  | bk ρ' => cases e2
  | ct ρ' => cases e2
theorem sp_len {K : PySem.W.Frag} {m : Nat} {F : List D → Option D} {vs : List V} {H : Hp} {Q : VK} {E : XK} (h : spP K m F vs H Q E) : vs.length = m := by
  obtain ⟨O, ds, d, hm, _, n, _⟩ := h
  rw [n.len, hm]
end PV

namespace PV
open PySem PySem.Spec PyProof.Rows L2
/-! ### values: operators -/
def rOr (r r' : R2) : R2 := fun x y H Q => r x y H Q ∨ r' x y H Q
theorem OpR.or {X : Cx} {f : Value → Value → Sem Value} {r r' : R2} (h : OpR X f r) (h' : OpR X f r') : OpR X f (rOr r r') := by
  intro pins s σ H x y v u Q I rx ry q
  rcases q with q | q
  · exact h pins s σ H x y v u Q I rx ry q
  · exact h' pins s σ H x y v u Q I rx ry q
def cOr (r r' : List V → Hp → VK → Prop) : List V → Hp → VK → Prop := fun xs H Q => r xs H Q ∨ r' xs H Q
theorem CallR.or {X : Cx} {f : Value} {r r' : List V → Hp → VK → Prop} (h : CallR X f r) (h' : CallR X f r') : CallR X f (cOr r r') := by
  intro pins s σ H xs us Q I rx q
  rcases q with q | q
  · exact h pins s σ H xs us Q I rx q
  · exact h' pins s σ H xs us Q I rx q
def mOr (r r' : V → List V → Hp → VK → Prop) : V → List V → Hp → VK → Prop := fun x xs H Q => r x xs H Q ∨ r' x xs H Q
section
variable {X : Cx}
/-- list + list, any lists -/
def rCatL (K : PySem.W.Frag) : R2 := fun x y H Q => ∃ l b xs zs, x = .ref l ∧ y = .ref b ∧ SqL K H l xs ∧ SqL K H b zs ∧ xs.length + zs.length ≤ sizeLine ∧ ∀ p, H p = none → Q (.ref p) (upd H p (.lst (xs ++ zs)))
theorem op_catL : OpR X (binaryOp .Add) (rCatL X.K) := by
  intro pins s σ H x y v u Q I rx ry h
  obtain ⟨l, b, xs, zs, rfl, rfl, hH, hB, hz, q⟩ := h
  cases rx
  cases ry
  obtain ⟨its, r, ⟨⟨cls, dd, data, sl⟩, n, ho, hc, hdn, hd⟩, hl⟩ := I.list hH
  obtain ⟨its2, r2, ⟨⟨cls2, dd2, data2, sl2⟩, n2, ho2, hc2, hdn2, hd2⟩, hl2⟩ := I.list hB
  simp only at hc hdn hd hc2 hdn2 hd2
  subst hc hdn hd hc2 hdn2 hd2
  have e1 := r.length
  have e2 := r2.length
  refine concat_meets ⟨_, ho, rfl⟩ ⟨_, ho2, rfl⟩ noFill_list_add seq_list_add PySem.F.slot_list_add PySem.F.entry_list_add (PySem.F.args_list_add_2 _ _) (list_addW l b its.toArray its2.toArray n n2 none none sl sl2 (by simp; omega)) ⟨ho, ho2, ?_⟩
  have ea : its.toArray ++ its2.toArray = (its ++ its2).toArray := by simp
  rw [ea]
  exact ⟨.ref _, _, I.lnew (t' := s.toks) (r.append r2) (by rw [List.length_append]; omega), rfl, q _ I.fresh⟩
/-- list * int, any list -/
def rRepL (K : PySem.W.Frag) : R2 := fun x y H Q => ∃ l k xs, x = .ref l ∧ y = .int k ∧ SqL K H l xs ∧ -(2 ^ 63) ≤ k ∧ k < 2 ^ 63 ∧ xs.length * k.toNat ≤ sizeLine ∧
  ∀ p, H p = none → Q (.ref p) (upd H p (.lst (List.replicate k.toNat xs).flatten))
theorem op_repL : OpR X (binaryOp .Mult) (rRepL X.K) := by
  intro pins s σ H x y v u Q I rx ry h
  obtain ⟨l, k, xs, rfl, rfl, hH, h1, h2, hz, q⟩ := h
  cases rx
  obtain ⟨t, rfl⟩ := ry
  obtain ⟨its, r, ⟨⟨cls, d, data, sl⟩, n, ho, hc, hdn, hd⟩, hl⟩ := I.list hH
  simp only at hc hdn hd
  subst hc hdn hd
  have e1 := r.length
  have hsz' : its.toArray.size * k.toNat ≤ 2 ^ 24 := by rw [List.size_toArray, ← e1]; rw [sizeLine_eq] at hz; omega
  refine wpAny_binaryOp_repeat_ref (T := "list") (U := "int") (by decide) ⟨_, ho, rfl⟩ (fun s' => typeIs_int s' k t) noFill_list_mul F.fills_int_mul F.slot_int_rmul repeat_list F.slot_int_index.lookup
    (call_meets F.slot_int_rmul (typeIs_int s k t) F.entry_int_rmul (F.args_int_rmul_2 _ _) (lm_int_rmul_list_any k t l its.toArray n none sl)
      ⟨ho, rfl, ⟨_, ho, rfl⟩, call_meets F.slot_list_mul ⟨_, ho, rfl⟩ F.entry_list_mul (F.args_list_mul_2 _ _)
        (lm_list_mul_any l its.toArray n none sl k t (by simp [Builtin.List.listFitsIndex]; omega) (by omega) (by simp [Builtin.List.listTooLong, sizeLine]; omega))
        ⟨ho, ?_⟩⟩)
  rw [listMul_foldl_if]
  exact ⟨.ref _, _, I.lnew (t' := s.toks) (r.rep k.toNat) (by rw [PyProof.Rows.lm_len_rep_flat, Nat.mul_comm]; exact hz), rfl, q _ I.fresh⟩
/-- text * int -/
def repS (x : Str) (k : Int) : Str := ⟨(List.replicate k.toNat x.cps.toList).flatten.toArray⟩
def rRepS : R2 := fun x y H Q => ∃ z k, x = .str z ∧ y = .int k ∧ -(2 ^ 62) ≤ k ∧ k < 2 ^ 62 ∧ z.length * k.toNat ≤ sizeLine ∧ Q (.str (repS z k)) H
theorem flat_cps (c : Array Nat) (n : Nat) : (List.replicate n c).foldl (· ++ ·) #[] = (List.replicate n c.toList).flatten.toArray := by
  have h : ∀ (n : Nat) (a : Array Nat), (List.replicate n c).foldl (· ++ ·) a = a ++ (List.replicate n c.toList).flatten.toArray := by
    intro n
    induction n with
    | zero => intro a; simp
    | succ n ih =>
      intro a
      rw [List.replicate_succ, List.foldl_cons, ih, List.replicate_succ, List.flatten_cons]
      apply Array.ext'
      simp
  rw [h]
  simp
theorem op_repS : OpR X (binaryOp .Mult) rRepS := by
  intro pins s σ H x y v u Q I rx ry h
  obtain ⟨z, k, rfl, rfl, h1, h2, hz, q⟩ := h
  obtain ⟨t, rfl⟩ := rx
  obtain ⟨t', rfl⟩ := ry
  have hzz := sizeLine_eq
  refine PySem.P.mul_str ?_ ?_ ?_ ?_
  · rw [decide_eq_false (by omega), decide_eq_false (by omega)]; rfl
  · intro h3 h4 h5
    have h6 : z.length ≠ 0 := by
      intro e; rw [e] at h4; simp at h4
    have h7 : (0 : Int) < k := by omega
    have h8 : (2 ^ 63 - 1 : Int) / k < z.length := h5
    have h9 : (2 ^ 63 - 1 : Int) < z.length * k := (Int.ediv_lt_iff_lt_mul h7).mp h8
    have h10 : (z.length : Int) * k = ((z.length * k.toNat : Nat) : Int) := by
      rw [Int.natCast_mul, Int.toNat_of_nonneg (by omega)]
    omega
  · intro h3 h4
    unfold Builtin.Str.tooLong
    exact decide_eq_false (by omega)
  · split
    · rename_i hk
      have e : repS z k = Str.empty := by
        unfold repS
        rw [show k.toNat = 0 by omega]
        rfl
      rw [e] at q
      exact ⟨by decide, .str Str.empty, H, I.tok _, ⟨_, rfl⟩, q⟩
    · rename_i hk
      split
      · rename_i he
        have e : repS z k = z := by
          unfold repS
          rw [Bool.or_eq_true] at he
          rcases he with he | he
          · have : k = 1 := by simpa using he
            subst this
            simp
          · have e0 : z.cps = #[] := by
              have : z.cps.size = 0 := by simpa [Str.length] using he
              exact Array.eq_empty_of_size_eq_zero this
            obtain ⟨c⟩ := z
            simp only at e0
            subst e0
            simp [PyProof.Rows.lm_rep_nil]
        rw [e] at q
        exact ⟨.str z, H, I, ⟨_, rfl⟩, q⟩
      · rw [flat_cps]
        refine ⟨?_, .str (repS z k), H, I.tok _, ⟨_, rfl⟩, q⟩
        show (List.replicate k.toNat z.cps.toList).flatten.toArray.size ≤ sizeLine
        rw [List.size_toArray, PyProof.Rows.lm_len_rep_flat, Nat.mul_comm, Array.length_toList]
        exact hz
end
end PV

namespace PV
open PySem PySem.Spec PyProof.Rows L2
def tOrE (t t' : TE) : TE := fun σ H Q => t σ H Q ∨ t' σ H Q
theorem pe_orE {X : Cx} {e : Expr} {t t' : TE} (h : PE X e t) (h' : PE X e t') : PE X e (tOrE t t') := ⟨fun pins s σ H Q I q => q.elim (h.run pins s σ H Q I) (h'.run pins s σ H Q I)⟩

def vAdd : D → D → Option D
  | .int i, .int j => some (.int (i + j))
  | .str x, .str y => if x.length + y.length ≤ 16777216 then some (.str (x ++ y)) else none
  | .tuple xs, .tuple ys => if xs.length + ys.length ≤ 16777216 then some (.tuple (xs ++ ys)) else none
  | .list xs, .list ys => if xs.length + ys.length ≤ 16777216 then some (.list (xs ++ ys)) else none
  | _, _ => none
def vSub : D → D → Option D
  | .int i, .int j => some (.int (i - j))
  | _, _ => none
def mulOk (i j : Int) : Prop := (-18446744073709551616 < i ∧ i < 18446744073709551616) ∨ (-18446744073709551616 < j ∧ j < 18446744073709551616)
instance (i j : Int) : Decidable (mulOk i j) := by unfold mulOk; infer_instance
def vMul : D → D → Option D
  | .int i, .int j => if mulOk i j then some (.int (i * j)) else none
  | .str x, .int k => if (-4611686018427387904 ≤ k ∧ k < 4611686018427387904) ∧ x.length * k.toNat ≤ 16777216 then some (.str (repS x k)) else none
  | .list xs, .int k => if (-4611686018427387904 ≤ k ∧ k < 4611686018427387904) ∧ xs.length * k.toNat ≤ 16777216 then some (.list (List.replicate k.toNat xs).flatten) else none
  | _, _ => none
def vDiv : D → D → Option D
  | .int i, .int j => if 0 < j ∧ j < 18446744073709551616 then some (.int (i / j)) else none
  | _, _ => none
def vMod : D → D → Option D
  | .int i, .int j => if 0 < j then some (.int (i % j)) else none
  | _, _ => none
def vEqB : D → D → Option Bool
  | .int i, .int j => some (decide (i = j))
  | .str x, .str y => some (decide (x = y))
  | d, e => if SeqAt.shaped d = true ∧ SeqAt.shaped e = true then some (PyData.eqv d e) else none
def vEq (d e : D) : Option D := (vEqB d e).map .bool
def vNe (d e : D) : Option D := (vEqB d e).map fun b => .bool !b
def vLtB : D → D → Option Bool
  | .int i, .int j => some (decide (i < j))
  | .str x, .str y => some (decide (x.cps.toList < y.cps.toList))
  | _, _ => none
def vLt (d e : D) : Option D := (vLtB d e).map .bool
def vGt (d e : D) : Option D := (vLtB e d).map .bool
def vLe (d e : D) : Option D := (vLtB e d).map fun b => .bool !b
def vGe (d e : D) : Option D := (vLtB d e).map fun b => .bool !b
def flatD : D → Bool
  | .none | .bool _ | .int _ | .str _ => true
  | _ => false
def vInB : D → D → Option Bool
  | .str x, .str y => match x.cps.toList with
    | [c] => some (decide (c ∈ y.cps.toList))
    | _ => some (!(Builtin.Str.occurrences y x 0 y.length 1).isEmpty)
  | d, .list ds => if SeqAt.shaped d = true ∧ SeqAt.shaped (.list ds) = true then some (ds.any fun z => PyData.eqv z d) else none
  | d, .tuple ds => if flatD d = true ∧ ds.all flatD = true then some (ds.any fun z => PyData.eqv z d) else none
  | .str x, .dict kvs => some (kvs.any fun kv => PyData.eqv kv.1 (.str x))
  | .int x, .dict kvs => some (kvs.any fun kv => PyData.eqv kv.1 (.int x))
  | _, _ => none
def vIn (d e : D) : Option D := (vInB d e).map .bool
def vNotIn (d e : D) : Option D := (vInB d e).map fun b => .bool !b
def vIsB : D → D → Option Bool
  | .bool a, .bool b => some (decide (a = b))
  | .none, .none => some true
  | _, .none => some false
  | _, _ => none
def vIs (d e : D) : Option D := (vIsB d e).map .bool
def vIsNot (d e : D) : Option D := (vIsB d e).map fun b => .bool !b
def vIx : D → D → Option D
  | .list xs, .int i => atI xs i
  | .tuple xs, .int i => atI xs i
  | .str z, .int i => if z.length ≤ 16777216 then (atI z.cps.toList i).map fun c => .str ⟨#[c]⟩ else none
  | .dict kvs, .str x => (kvs.find? fun kv => PyData.eqv kv.1 (.str x)).map (·.2)
  | .dict kvs, .int x => (kvs.find? fun kv => PyData.eqv kv.1 (.int x)).map (·.2)
  | _, _ => none

section
variable {K : PySem.W.Frag}
theorem Dn.up {O : Addr → Prop} {H : Hp} {v : V} {d : D} (h : Dn K (hd O H) v d) : Dn K H v d := h.mono hd_le
theorem DnA.up {O : Addr → Prop} {H : Hp} {v : List V} {d : List D} (h : DnA K (hd O H) v d) : DnA K H v d := h.mono hd_le
mutual
theorem Dn.dp : ∀ {H : Hp} {v : V} {d : D}, Dn K H v d → d.canLay0 = true → Dp K H v d
  | _, _, _, .non, _ => .non
  | _, _, _, .bl b, _ => .bl b
  | _, _, _, .int b, _ => .int b
  | _, _, _, .str b, _ => .str b
  | _, _, _, .lst h a, c => .lst h (DnA.dp a (by simpa only [PyData.canLay0] using c))
  | _, _, _, .tup h a, c => .tup h.sq (DnA.dp a (by simpa only [PyData.canLay0] using c))
  | _, _, _, .dct h a, c => by simp [PyData.canLay0] at c
theorem DnA.dp : ∀ {H : Hp} {v : List V} {d : List D}, DnA K H v d → PyData.canLayAll0 d = true → DpAll K H v d
  | _, _, _, .nil, _ => .nil
  | _, _, _, .cons h t, c => by
    rw [PyData.canLayAll0, Bool.and_eq_true] at c
    exact .cons (Dn.dp h c.1) (DnA.dp t c.2)
end
theorem shaped_lay {d : D} (h : SeqAt.shaped d = true) : d.canLay0 = true := by
  unfold SeqAt.shaped at h
  rw [Bool.and_eq_true] at h
  exact h.1
theorem DnA.rep {H : Hp} {xs : List V} {ds : List D} (h : DnA K H xs ds) : ∀ n : Nat, DnA K H (List.replicate n xs).flatten (List.replicate n ds).flatten
  | 0 => .nil
  | n + 1 => by
    rw [List.replicate_succ, List.replicate_succ, List.flatten_cons, List.flatten_cons]
    exact h.append (DnA.rep h n)
/-- a new list or tuple -/
theorem new_lst {O : Addr → Prop} {H : Hp} {p : Addr} {xs : List V} {ds : List D} (hO : ∀ a, O a → H a ≠ none) (hp : H p = none) (n : DnA K (hd O H) xs ds) : Same H (upd H p (.lst xs)) ∧ Dn K (hd O (upd H p (.lst xs))) (.ref p) (.list ds) :=
  ⟨PV.same_upd hp, .lst (.inl (.inl (hd_new hO hp))) (n.mono (same_hd (PV.same_upd hp)))⟩
theorem new_tup {O : Addr → Prop} {H : Hp} {p : Addr} {xs : List V} {ds : List D} {ob : Obj} (hob : ob.dict = none) (hO : ∀ a, O a → H a ≠ none) (hp : H p = none) (n : DnA K (hd O H) xs ds) : Same H (upd H p (.frz ob (.tup xs))) ∧ Dn K (hd O (upd H p (.frz ob (.tup xs)))) (.ref p) (.tuple ds) :=
  ⟨PV.same_upd hp, .tup ⟨ob, hob, hd_new hO hp⟩ (n.mono (same_hd (PV.same_upd hp)))⟩

def rAddU (K : PySem.W.Frag) : R2 := rOr (rI0 fun i j => .int (i + j)) (rOr (fun x y H Q => ∃ i j, x = .str i ∧ y = .str j ∧ i.length + j.length ≤ sizeLine ∧ Q (.str (i ++ j)) H) (rOr (rCatF K) (rCatL K)))
theorem r_add : R2D K (rAddU K) vAdd := by
  intro O H x y dx dy d Q hO n1 n2 e q
  cases n1 <;> cases n2 <;> simp only [vAdd] at e <;> try (cases e; done)
  · cases e; exact .inl ⟨_, _, rfl, rfl, q _ _ (Same.refl H) (.int _)⟩
  · split at e
    · rename_i h; cases e; exact .inr (.inl ⟨_, _, rfl, rfl, by rw [line_eq]; exact h, q _ _ (Same.refl H) (.str _)⟩)
    · cases e
  · split at e
    · rename_i hl1 hn1 _ _ _ hl2 hn2 h
      cases e
      refine .inr (.inr (.inr ⟨_, _, _, _, rfl, rfl, Same.seq hd_le hl1, Same.seq hd_le hl2, by rw [hn1.len, hn2.len, line_eq]; exact h, fun p hp => ?_⟩))
      obtain ⟨s, n⟩ := new_lst (K := K) hO hp (hn1.append hn2)
      exact q _ _ s n
    · cases e
  · split at e
    · rename_i hl1 hn1 _ _ _ hl2 hn2 h
      cases e
      refine .inr (.inr (.inl ⟨_, _, _, _, rfl, rfl, Same.seqT hd_le hl1.sq, Same.seqT hd_le hl2.sq, by rw [hn1.len, hn2.len, line_eq]; exact h, ?_, ?_, fun _ _ p ob hob hp => ?_⟩))
      · intro ex; subst ex
        cases hn1
        exact q _ _ (Same.refl H) (.tup hl2 hn2)
      · intro _ ey; subst ey
        cases hn2
        rw [List.append_nil] at q
        exact q _ _ (Same.refl H) (.tup hl1 hn1)
      · obtain ⟨s, n⟩ := new_tup (K := K) hob hO hp (hn1.append hn2)
        exact q _ _ s n
    · cases e
theorem r_sub : R2D K (rI0 fun i j => .int (i - j)) vSub := by
  intro O H x y dx dy d Q hO n1 n2 e q
  cases n1 <;> cases n2 <;> simp only [vSub] at e <;> try (cases e; done)
  cases e; exact ⟨_, _, rfl, rfl, q _ _ (Same.refl H) (.int _)⟩
def rMulU (K : PySem.W.Frag) : R2 := rOr (rI CMul fun i j => .int (i * j)) (rOr rRepS (rRepL K))
theorem r_mul : R2D K (rMulU K) vMul := by
  intro O H x y dx dy d Q hO n1 n2 e q
  cases n1 <;> cases n2 <;> simp only [vMul] at e <;> try (cases e; done)
  · split at e
    · rename_i h; cases e
      refine .inl ⟨_, _, rfl, rfl, ?_, q _ _ (Same.refl H) (.int _)⟩
      rcases h with h | h
      · exact .inl ⟨by simpa using h.1, by simpa using h.2⟩
      · exact .inr ⟨by simpa using h.1, by simpa using h.2⟩
    · cases e
  · split at e
    · rename_i h; cases e
      exact .inr (.inl ⟨_, _, rfl, rfl, by simpa using h.1.1, by simpa using h.1.2, by rw [line_eq]; exact h.2, q _ _ (Same.refl H) (.str _)⟩)
    · cases e
  · split at e
    · rename_i hl1 hn1 _ h
      cases e
      refine .inr (.inr ⟨_, _, _, rfl, rfl, Same.seq hd_le hl1, by have := h.1.1; omega, by have := h.1.2; omega, by rw [hn1.len, line_eq]; exact h.2, fun p hp => ?_⟩)
      obtain ⟨s, n⟩ := new_lst (K := K) hO hp (hn1.rep _)
      exact q _ _ s n
    · cases e
theorem log_small {j : Int} (h0 : 0 < j) (h : j < 18446744073709551616) : j.natAbs.log2 < 9000 := by
  have h2 : j.natAbs < 2 ^ 64 := by omega
  exact Nat.lt_of_lt_of_le (PySem.Flt.log2_lt_of (by decide) h2) (by decide)
theorem r_div : R2D K (rI CDivW fun i j => .int (i / j)) vDiv := by
  intro O H x y dx dy d Q hO n1 n2 e q
  cases n1 <;> cases n2 <;> simp only [vDiv] at e <;> try (cases e; done)
  split at e
  · rename_i h; cases e; exact ⟨_, _, rfl, rfl, ⟨h.1, log_small h.1 h.2⟩, q _ _ (Same.refl H) (.int _)⟩
  · cases e
theorem r_mod : R2D K (rI (fun _ j => 0 < j) fun i j => .int (i % j)) vMod := by
  intro O H x y dx dy d Q hO n1 n2 e q
  cases n1 <;> cases n2 <;> simp only [vMod] at e <;> try (cases e; done)
  split at e
  · rename_i h; cases e; exact ⟨_, _, rfl, rfl, h, q _ _ (Same.refl H) (.int _)⟩
  · cases e
theorem vEqB_gen {d e : D} {b : Bool} (h : vEqB d e = some b) : (∃ i j, d = .int i ∧ e = .int j ∧ b = decide (i = j)) ∨ (∃ i j, d = .str i ∧ e = .str j ∧ b = decide (i = j)) ∨ (SeqAt.shaped d = true ∧ SeqAt.shaped e = true ∧ b = PyData.eqv d e) := by
  unfold vEqB at h
  split at h
  · cases h; exact .inl ⟨_, _, rfl, rfl, rfl⟩
  · cases h; exact .inr (.inl ⟨_, _, rfl, rfl, rfl⟩)
  · split at h
    · rename_i g; cases h; exact .inr (.inr ⟨g.1, g.2, rfl⟩)
    · cases h
theorem r_eq : R2D K (rOr rEq (rEqD K)) vEq := by
  intro O H x y dx dy d Q hO n1 n2 e q
  obtain ⟨b, eb, e⟩ := Option.map_eq_some_iff.mp e
  subst e
  rcases vEqB_gen eb with ⟨i, j, rfl, rfl, rfl⟩ | ⟨i, j, rfl, rfl, rfl⟩ | ⟨h1, h2, rfl⟩
  · cases n1; cases n2
    refine .inl ⟨rfl, ?_⟩
    have : decide (V.int i = V.int j) = decide (i = j) := by simp
    rw [this]; exact q _ _ (Same.refl H) (.bl _)
  · cases n1; cases n2
    refine .inl ⟨rfl, ?_⟩
    have : decide (V.str i = V.str j) = decide (i = j) := by simp
    rw [this]; exact q _ _ (Same.refl H) (.bl _)
  · exact .inr ⟨_, _, n1.up.dp (shaped_lay h1), n2.up.dp (shaped_lay h2), h1, h2, q _ _ (Same.refl H) (.bl _)⟩
theorem r_ne : R2D K (rOr rNe (rNeD K)) vNe := by
  intro O H x y dx dy d Q hO n1 n2 e q
  obtain ⟨b, eb, e⟩ := Option.map_eq_some_iff.mp e
  subst e
  rcases vEqB_gen eb with ⟨i, j, rfl, rfl, rfl⟩ | ⟨i, j, rfl, rfl, rfl⟩ | ⟨h1, h2, rfl⟩
  · cases n1; cases n2
    refine .inl ⟨rfl, ?_⟩
    have : decide (V.int i = V.int j) = decide (i = j) := by simp
    rw [this]; exact q _ _ (Same.refl H) (.bl _)
  · cases n1; cases n2
    refine .inl ⟨rfl, ?_⟩
    have : decide (V.str i = V.str j) = decide (i = j) := by simp
    rw [this]; exact q _ _ (Same.refl H) (.bl _)
  · exact .inr ⟨_, _, n1.up.dp (shaped_lay h1), n2.up.dp (shaped_lay h2), h1, h2, q _ _ (Same.refl H) (.bl _)⟩
end
def rLtU : R2 := rOr (rI0 fun i j => .bl (decide (i < j))) (fun x y H Q => ∃ i j, x = .str i ∧ y = .str j ∧ Q (.bl (decide (i.cps.toList < j.cps.toList))) H)
def rLeU : R2 := rOr (rI0 fun i j => .bl (decide (i ≤ j))) (fun x y H Q => ∃ i j, x = .str i ∧ y = .str j ∧ Q (.bl (!decide (j.cps.toList < i.cps.toList))) H)
def rGtU : R2 := rOr (rI0 fun i j => .bl (decide (j < i))) (fun x y H Q => ∃ i j, x = .str i ∧ y = .str j ∧ Q (.bl (decide (j.cps.toList < i.cps.toList))) H)
def rGeU : R2 := rOr (rI0 fun i j => .bl (decide (j ≤ i))) (fun x y H Q => ∃ i j, x = .str i ∧ y = .str j ∧ Q (.bl (!decide (i.cps.toList < j.cps.toList))) H)
section
variable {K : PySem.W.Frag}
theorem r_lt : R2D K rLtU vLt := by
  intro O H x y dx dy d Q hO n1 n2 e q
  cases n1 <;> cases n2 <;> simp only [vLt, vLtB, Option.map_some, Option.map_none] at e <;> try (cases e; done)
  · cases e; exact .inl ⟨_, _, rfl, rfl, q _ _ (Same.refl H) (.bl _)⟩
  · cases e; exact .inr ⟨_, _, rfl, rfl, q _ _ (Same.refl H) (.bl _)⟩
theorem r_gt : R2D K rGtU vGt := by
  intro O H x y dx dy d Q hO n1 n2 e q
  cases n1 <;> cases n2 <;> simp only [vGt, vLtB, Option.map_some, Option.map_none] at e <;> try (cases e; done)
  · cases e; exact .inl ⟨_, _, rfl, rfl, q _ _ (Same.refl H) (.bl _)⟩
  · cases e; exact .inr ⟨_, _, rfl, rfl, q _ _ (Same.refl H) (.bl _)⟩
theorem dec_le (i j : Int) : decide (i ≤ j) = !decide (j < i) := by
  by_cases h : j < i
  · rw [decide_eq_true h, decide_eq_false (by omega)]; rfl
  · rw [decide_eq_false h, decide_eq_true (by omega)]; rfl
theorem r_le : R2D K rLeU vLe := by
  intro O H x y dx dy d Q hO n1 n2 e q
  cases n1 <;> cases n2 <;> simp only [vLe, vLtB, Option.map_some, Option.map_none] at e <;> try (cases e; done)
  · cases e; exact .inl ⟨_, _, rfl, rfl, by show Q (.bl (decide (_ ≤ _))) H; rw [dec_le]; exact q _ _ (Same.refl H) (.bl _)⟩
  · cases e; exact .inr ⟨_, _, rfl, rfl, q _ _ (Same.refl H) (.bl _)⟩
theorem r_ge : R2D K rGeU vGe := by
  intro O H x y dx dy d Q hO n1 n2 e q
  cases n1 <;> cases n2 <;> simp only [vGe, vLtB, Option.map_some, Option.map_none] at e <;> try (cases e; done)
  · cases e; exact .inl ⟨_, _, rfl, rfl, by show Q (.bl (decide (_ ≤ _))) H; rw [dec_le]; exact q _ _ (Same.refl H) (.bl _)⟩
  · cases e; exact .inr ⟨_, _, rfl, rfl, q _ _ (Same.refl H) (.bl _)⟩
/-! ### is -/
def rIsU : R2 := rOr (fun x y H Q => y = .non ∧ Q (.bl (decide (x = .non))) H) rIsB
def rIsNotU : R2 := rOr (fun x y H Q => y = .non ∧ Q (.bl (!decide (x = .non))) H) rNotB
theorem r_is : R2D K rIsU vIs := by
  intro O H x y dx dy d Q hO n1 n2 e q
  cases n2 <;> cases n1 <;> simp only [vIs, vIsB, Option.map_some, Option.map_none] at e <;> try (cases e; done)
  all_goals first
    | (cases e; exact .inl ⟨rfl, by rw [decide_eq_true rfl]; exact q _ _ (Same.refl H) (.bl _)⟩)
    | (cases e; exact .inl ⟨rfl, by rw [decide_eq_false (by intro z; cases z)]; exact q _ _ (Same.refl H) (.bl _)⟩)
    | (cases e; exact .inr ⟨_, _, rfl, rfl, q _ _ (Same.refl H) (.bl _)⟩)
theorem r_isnot : R2D K rIsNotU vIsNot := by
  intro O H x y dx dy d Q hO n1 n2 e q
  cases n2 <;> cases n1 <;> simp only [vIsNot, vIsB, Option.map_some, Option.map_none] at e <;> try (cases e; done)
  all_goals first
    | (cases e; exact .inl ⟨rfl, by rw [decide_eq_true rfl]; exact q _ _ (Same.refl H) (.bl _)⟩)
    | (cases e; exact .inl ⟨rfl, by rw [decide_eq_false (by intro z; cases z)]; exact q _ _ (Same.refl H) (.bl _)⟩)
    | (cases e; exact .inr ⟨_, _, rfl, rfl, q _ _ (Same.refl H) (.bl _)⟩)
/-! ### subscripts -/
theorem DnA.at_ {H : Hp} {vs : List V} {ds : List D} {i : Int} {d : D} (n : DnA K H vs ds) (h : atI ds i = some d) : ∃ v, atI vs i = some v ∧ Dn K H v d := by
  unfold atI at h ⊢
  rw [n.len]
  cases e : ixN ds.length i with
  | none => rw [e] at h; cases h
  | some j =>
    rw [e] at h
    exact n.get h
end
end PV

namespace PV
open PySem PySem.Spec PyProof.Rows L2
/-! ### subscripts -/
section
variable {K : PySem.W.Frag}
theorem key_eqv : ∀ (k : Key) (x : Key), PyData.eqv (keyD k) (keyD x) = decide (k = x)
  | .inl i, .inl j => by
    show (i == j) = _
    by_cases h : i = j <;> simp [h]
  | .inl i, .inr y => by
    show false = _
    simp
  | .inr x, .inl j => by
    show false = _
    simp
  | .inr x, .inr y => by
    show (x == y) = _
    by_cases h : x = y <;> simp [h]
theorem DnK.find {H : Hp} {kvs : List (Key × V)} {ds : List (D × D)} (n : DnK K H kvs ds) (k : Key) : ∀ d, (ds.find? fun kv => PyData.eqv kv.1 (keyD k)).map (·.2) = some d → ∃ v, valV kvs k = some v ∧ Dn K H v d := by
  induction kvs generalizing ds with
  | nil => intro d h; cases n; simp at h
  | cons kv r ih =>
    intro d h
    cases n with
    | @cons k' v _ d' ds' hv hr =>
      rw [List.find?_cons] at h
      unfold valV
      rw [List.find?_cons]
      rw [show PyData.eqv ((keyD k', d') : D × D).1 (keyD k) = decide (k' = k) from key_eqv k' k] at h
      by_cases hk : k' = k
      · rw [decide_eq_true hk] at h ⊢
        simp only [Option.map_some, Option.some.injEq] at h
        subst h
        exact ⟨v, rfl, hv⟩
      · rw [decide_eq_false hk] at h ⊢
        exact ih hr d h
theorem DnK.any {H : Hp} {kvs : List (Key × V)} {ds : List (D × D)} (n : DnK K H kvs ds) (k : Key) : (ds.any fun kv => PyData.eqv kv.1 (keyD k)) = (valV kvs k).isSome := by
  induction kvs generalizing ds with
  | nil => cases n; rfl
  | cons kv r ih =>
    cases n with
    | @cons k' v _ d' ds' hv hr =>
      unfold valV
      rw [List.any_cons, List.find?_cons, ih hr]
      rw [show PyData.eqv ((keyD k', d') : D × D).1 (keyD k) = decide (k' = k) from key_eqv k' k]
      by_cases hk : k' = k
      · rw [decide_eq_true hk]; rfl
      · rw [decide_eq_false hk]; rfl
theorem de_ix {ta tb : TE} {fa fb : Rho → Option D} (ha : DE K ta fa) (hb : DE K tb fb) : DE K (tOrE (tOp (rIx K) ta tb) (tDGet ta tb)) (f2 vIx fa fb) := by
  intro B O σ H ρ d Q R e q
  obtain ⟨x, ex, e⟩ := Option.bind_eq_some_iff.mp e
  obtain ⟨y, ey, e⟩ := Option.bind_eq_some_iff.mp e
  by_cases hd' : ∃ kvs, x = .dict kvs
  · obtain ⟨kvs, rfl⟩ := hd'
    refine .inr (ha B O σ H ρ _ _ R ex fun v H1 s1 n1 => hb B O σ H1 ρ y _ (R.mono s1) ey fun u H2 s2 n2 => ?_)
    have n1' := n1.mono (same_hd s2)
    cases n1' with
    | @dct a kv _ h1 h2 =>
      have key : ∀ k : Key, u = kV k → y = keyD k → ∃ a' v', V.ref a = .ref a' ∧ DGet H2 a' u (some v') ∧ Q v' H2 := fun k e1 e2 => by
        subst e1
        have e3 : (kvs.find? fun kv => PyData.eqv kv.1 (keyD k)).map (·.2) = some d := by
          subst e2
          cases k <;> exact e
        obtain ⟨v', hv, hn⟩ := h2.find k d e3
        exact ⟨a, v', rfl, hv ▸ DGet.k (hd_le _ _ h1), q _ _ (s1.trans s2) hn⟩
      cases n2 with
      | int i => exact key (.inl i) rfl rfl
      | str x => exact key (.inr x) rfl rfl
      | non => cases e
      | bl _ => cases e
      | lst _ _ => cases e
      | tup _ _ => cases e
      | dct _ _ => cases e
  · refine .inl (ha B O σ H ρ _ _ R ex fun v H1 s1 n1 => hb B O σ H1 ρ y _ (R.mono s1) ey fun u H2 s2 n2 => ?_)
    have n1' := n1.mono (same_hd s2)
    have fin : ∀ w, Dn K (hd O H2) w d → Q w H2 := fun w n => q _ _ (s1.trans s2) n
    cases n1' with
    | lst h a =>
      cases n2 with
      | int i =>
        obtain ⟨w, hw, nw⟩ := a.at_ (show atI _ i = some d from e)
        exact .inl ⟨_, _, i, w, rfl, rfl, Same.seq hd_le h, hw, fin _ nw⟩
      | _ => cases e
    | tup h a =>
      cases n2 with
      | int i =>
        obtain ⟨w, hw, nw⟩ := a.at_ (show atI _ i = some d from e)
        exact .inr (.inl ⟨_, _, i, w, rfl, rfl, Same.seqT hd_le h.sq, hw, fin _ nw⟩)
      | _ => cases e
    | str z =>
      cases n2 with
      | int i =>
        have e' : (if z.length ≤ 16777216 then (atI z.cps.toList i).map fun c => PyData.str ⟨#[c]⟩ else none) = some d := e
        split at e'
        · rename_i hz
          obtain ⟨c, hc, e'⟩ := Option.map_eq_some_iff.mp e'
          subst e'
          exact .inr (.inr ⟨z, i, c, rfl, rfl, by rw [line_eq]; exact hz, hc, fin _ (.str _)⟩)
        · cases e'
      | _ => cases e
    | dct h a => exact absurd ⟨_, rfl⟩ hd'
    | non => cases e
    | bl _ => cases e
    | int _ => cases e
end
/-! ### slices -/
def cutD (xs : List D) (lo hi : Option Int) : List D := (xs.drop (HT.sIx xs.length 0 lo)).take (HT.sIx xs.length xs.length hi - HT.sIx xs.length 0 lo)
def vSl : D → Option Int → Option Int → Option D
  | .list xs, lo, hi => some (.list (cutD xs lo hi))
  | .tuple xs, lo, hi => some (.tuple (cutD xs lo hi))
  | .str z, lo, hi => if z.length ≤ 16777216 then some (.str (cutS z lo hi)) else none
  | _, _, _ => none
def pNo : Rho → Option (Option Int) := fun _ => some none
def pSome (fa : Rho → Option D) : Rho → Option (Option Int) := fun ρ => (fa ρ).bind fun d => match d with | .int i => some (some i) | _ => none
def fSl (fa : Rho → Option D) (fl fh : Rho → Option (Option Int)) : Rho → Option D := fun ρ => (fa ρ).bind fun d => (fl ρ).bind fun l => (fh ρ).bind fun h => vSl d l h
def DO (K : PySem.W.Frag) (t : TO) (f : Rho → Option (Option Int)) : Prop := ∀ B O σ H ρ d Q, Rel K B O σ H ρ → f ρ = some d → (∀ H', Same H H' → Q d H') → t σ H Q
section
variable {K : PySem.W.Frag}
theorem do_no : DO K tNoPart pNo := by
  intro B O σ H ρ d Q R e q
  cases e
  exact q H (Same.refl H)
theorem do_some {ta : TE} {fa : Rho → Option D} (ha : DE K ta fa) : DO K (tPart ta) (pSome fa) := by
  intro B O σ H ρ d Q R e q
  obtain ⟨x, ex, e⟩ := Option.bind_eq_some_iff.mp e
  refine ha B O σ H ρ x _ R ex fun v H1 s1 n1 => ?_
  cases n1 with
  | int i => cases e; exact ⟨i, rfl, q _ s1⟩
  | _ => cases e
def rSlU (K : PySem.W.Frag) : V → Option Int → Option Int → Hp → VK → Prop := fun x lo hi H Q => rSlL K x lo hi H Q ∨ (rSlF K x lo hi H Q ∨ rSlS x lo hi H Q)
theorem sIx_le (n d : Nat) (h : d ≤ n) (o : Option Int) : HT.sIx n d o ≤ n := by
  unfold HT.sIx
  split
  · exact h
  · split <;> omega
theorem DnA.cut {H : Hp} {vs : List V} {ds : List D} (n : DnA K H vs ds) (lo hi : Option Int) : DnA K H (cutV vs lo hi) (cutD ds lo hi) := by
  unfold cutV cutD
  rw [n.len]
  exact (n.drop _).take _
theorem de_sl {ta : TE} {tl th : TO} {fa : Rho → Option D} {fl fh : Rho → Option (Option Int)} (ha : DE K ta fa) (hl : DO K tl fl) (hh : DO K th fh) : DE K (tSl (rSlU K) ta tl th) (fSl fa fl fh) := by
  intro B O σ H ρ d Q R e q
  obtain ⟨x, ex, e⟩ := Option.bind_eq_some_iff.mp e
  obtain ⟨l, el, e⟩ := Option.bind_eq_some_iff.mp e
  obtain ⟨h, eh, e⟩ := Option.bind_eq_some_iff.mp e
  refine ha B O σ H ρ x _ R ex fun v H1 s1 n1 => ?_
  refine hl B O σ H1 ρ l _ (R.mono s1) el fun H2 s2 => ?_
  refine hh B O σ H2 ρ h _ ((R.mono s1).mono s2) eh fun H3 s3 => ?_
  have n3 := n1.mono (same_hd (s2.trans s3))
  have sT := s1.trans (s2.trans s3)
  have hO := (R.mono sT).dom
  cases n3 with
  | lst hs a =>
    cases e
    refine .inl ⟨_, _, rfl, Same.seq hd_le hs, fun p hp => ?_⟩
    obtain ⟨s, n⟩ := new_lst (K := K) hO hp (a.cut l h)
    exact q _ _ (sT.trans s) n
  | @tup ad xs ds hs a =>
    cases e
    refine .inr (.inl ⟨_, _, rfl, Same.seqT hd_le hs.sq, fun hw => ?_, fun hw p ob hob hp => ?_⟩)
    · rw [a.len] at hw
      have e2 : cutD ds l h = ds := by
        unfold cutD
        rw [hw.1, hw.2]
        simp
      rw [e2] at q
      exact q _ _ sT (.tup hs a)
    · obtain ⟨s, n⟩ := new_tup (K := K) hob hO hp (a.cut l h)
      exact q _ _ (sT.trans s) n
  | str z =>
    have e' : (if z.length ≤ 16777216 then some (PyData.str (cutS z l h)) else none) = some d := e
    split at e'
    · rename_i hz
      cases e'
      exact .inr (.inr ⟨z, rfl, by rw [line_eq]; exact hz, q _ _ sT (.str _)⟩)
    · cases e'
  | non => cases e
  | bl _ => cases e
  | int _ => cases e
  | dct _ _ => cases e
end
/-! ### in -/
section
variable {K : PySem.W.Frag} {X : Cx}
def rInDict : R2 := fun y x H Q => ∃ a o, x = .ref a ∧ DGet H a y o ∧ Q (.bl o.isSome) H
def rNotInDict : R2 := fun y x H Q => ∃ a o, x = .ref a ∧ DGet H a y o ∧ Q (.bl (!o.isSome)) H
theorem op_inDict (hu : X.A.units + 1 < cLine) : OpR X (compareOp .In) rInDict := by
  intro pins s σ H x y v u Q I rx ry h
  obtain ⟨a, o, rfl, g, q⟩ := h
  obtain rfl : u = Value.ref a := ry
  exact d_in hu I g rx fun s3 I3 => ⟨.bl o.isSome, H, I3, rfl, q⟩
theorem op_notInDict (hu : X.A.units + 1 < cLine) : OpR X (compareOp .NotIn) rNotInDict := by
  intro pins s σ H x y v u Q I rx ry h
  obtain ⟨a, o, rfl, g, q⟩ := h
  obtain rfl : u = Value.ref a := ry
  exact d_notIn hu I g rx fun s3 I3 => ⟨.bl (!o.isSome), H, I3, rfl, q⟩
def rInStr : R2 := fun x y H Q => ∃ i j, x = .str i ∧ y = .str j ∧ Q (.bl (!(Builtin.Str.occurrences j i 0 j.length 1).isEmpty)) H
def rNotInStr : R2 := fun x y H Q => ∃ i j, x = .str i ∧ y = .str j ∧ Q (.bl (!(!(Builtin.Str.occurrences j i 0 j.length 1).isEmpty))) H
def rInSign : R2 := fun x y H Q => ∃ (c : Nat) (z : Str), x = .str ⟨#[c]⟩ ∧ y = .str z ∧ Q (.bl (decide (c ∈ z.cps.toList))) H
def rNotInSign : R2 := fun x y H Q => ∃ (c : Nat) (z : Str), x = .str ⟨#[c]⟩ ∧ y = .str z ∧ Q (.bl (!decide (c ∈ z.cps.toList))) H
def rInU (K : PySem.W.Frag) : R2 := rOr rInStr (rOr rInSign (rOr (rInD K) (rOr (rIn K false) rInDict)))
def rNotInU (K : PySem.W.Frag) : R2 := rOr rNotInStr (rOr rNotInSign (rOr (rNotInD K) (rOr (rIn K true) rNotInDict)))
theorem op_inU {k : Nat} (hr : Room k X.A) : OpR X (compareOp .In) (rInU X.K) := by
  have hu := hr.un
  exact OpR.or op_in_str (OpR.or op_in_sign (OpR.or (op_inD (by omega)) (OpR.or op_in_seq (op_inDict (by omega)))))
theorem op_notInU {k : Nat} (hr : Room k X.A) : OpR X (compareOp .NotIn) (rNotInU X.K) := by
  have hu := hr.un
  exact OpR.or op_notin_str (OpR.or op_notIn_sign (OpR.or (op_notInD (by omega)) (OpR.or op_notIn_seq (op_notInDict (by omega)))))
theorem vInB_gen {d e : D} {b : Bool} (h : vInB d e = some b) :
    (∃ c y x, d = .str x ∧ x = ⟨#[c]⟩ ∧ e = .str y ∧ b = decide (c ∈ y.cps.toList)) ∨ (∃ x y, d = .str x ∧ e = .str y ∧ b = !(Builtin.Str.occurrences y x 0 y.length 1).isEmpty) ∨
    (∃ ds, e = .list ds ∧ SeqAt.shaped d = true ∧ SeqAt.shaped (.list ds) = true ∧ b = ds.any fun z => PyData.eqv z d) ∨
    (∃ ds, e = .tuple ds ∧ flatD d = true ∧ ds.all flatD = true ∧ b = ds.any fun z => PyData.eqv z d) ∨
    (∃ kvs k, e = .dict kvs ∧ d = keyD k ∧ b = kvs.any fun kv => PyData.eqv kv.1 (keyD k)) := by
  cases e with
  | str y =>
    cases d with
    | str x =>
      simp only [vInB] at h
      split at h
      · rename_i c hc
        cases h
        refine .inl ⟨c, y, x, rfl, ?_, rfl, rfl⟩
        obtain ⟨cp⟩ := x
        simp only at hc
        congr 1
        exact Array.toList_inj.mp hc
      · cases h; exact .inr (.inl ⟨x, y, rfl, rfl, rfl⟩)
    | _ => simp [vInB] at h
  | list ds =>
    have h' : (if SeqAt.shaped d = true ∧ SeqAt.shaped (.list ds) = true then some (ds.any fun z => PyData.eqv z d) else none) = some b := by
      cases d <;> exact h
    split at h'
    · rename_i g; cases h'; exact .inr (.inr (.inl ⟨ds, rfl, g.1, g.2, rfl⟩))
    · cases h'
  | tuple ds =>
    have h' : (if flatD d = true ∧ ds.all flatD = true then some (ds.any fun z => PyData.eqv z d) else none) = some b := by
      cases d <;> exact h
    split at h'
    · rename_i g; cases h'; exact .inr (.inr (.inr (.inl ⟨ds, rfl, g.1, g.2, rfl⟩)))
    · cases h'
  | dict kvs =>
    cases d with
    | str x => cases h; exact .inr (.inr (.inr (.inr ⟨kvs, .inr x, rfl, rfl, rfl⟩)))
    | int x => cases h; exact .inr (.inr (.inr (.inr ⟨kvs, .inl x, rfl, rfl, rfl⟩)))
    | _ => simp [vInB] at h
  | _ => cases d <;> simp [vInB] at h
theorem flat_dn {H : Hp} {v : V} {d : D} (n : Dn K H v d) (h : flatD d = true) : flatV v = true := by
  cases n <;> first | rfl | cases h
theorem flatA_dn {H : Hp} : ∀ {v : List V} {d : List D}, DnA K H v d → d.all flatD = true → v.all flatV = true
  | _, _, .nil, _ => rfl
  | _, _, .cons h t, q => by
    rw [List.all_cons, Bool.and_eq_true] at q ⊢
    exact ⟨flat_dn h q.1, flatA_dn t q.2⟩
theorem eqV_dn {H : Hp} {v w : V} {d e : D} (n : Dn K H v d) (m : Dn K H w e) (hd' : flatD d = true) (he : flatD e = true) : eqV v w = PyData.eqv d e := by
  cases n <;> cases m <;> first | rfl | cases hd' | cases he | (simp [eqV, PyData.eqv]; done)
theorem inV_dn {H : Hp} {w : V} {e : D} (m : Dn K H w e) (he : flatD e = true) : ∀ {v : List V} {d : List D}, DnA K H v d → d.all flatD = true → inV w v = d.any fun z => PyData.eqv z e
  | _, _, .nil, _ => rfl
  | _, _, .cons h t, q => by
    rw [List.all_cons, Bool.and_eq_true] at q
    unfold inV
    rw [List.any_cons, List.any_cons, eqV_dn h m q.1 he]
    have := inV_dn m he t q.2
    unfold inV at this
    rw [this]
theorem r_in : R2D K (rInU K) vIn := by
  intro O H x y dx dy d Q hO n1 n2 e q
  obtain ⟨b, eb, e⟩ := Option.map_eq_some_iff.mp e
  subst e
  have fin : Q (.bl b) H := q _ _ (Same.refl H) (.bl _)
  rcases vInB_gen eb with ⟨c, y', x', rfl, rfl, rfl, rfl⟩ | ⟨x', y', rfl, rfl, rfl⟩ | ⟨ds, rfl, h1, h2, rfl⟩ | ⟨ds, rfl, h1, h2, rfl⟩ | ⟨kvs, k, rfl, rfl, rfl⟩
  · cases n1; cases n2
    exact .inr (.inl ⟨c, _, rfl, rfl, fin⟩)
  · cases n1; cases n2
    exact .inl ⟨_, _, rfl, rfl, fin⟩
  · exact .inr (.inr (.inl ⟨_, _, n1.up.dp (shaped_lay h1), n2.up.dp (shaped_lay h2), h1, h2, fin⟩))
  · cases n2 with
    | tup h a =>
      refine .inr (.inr (.inr (.inl ⟨_, _, rfl, .inr (Same.seqT hd_le h.sq), flat_dn n1 h1, flatA_dn a h2, ?_⟩)))
      rw [inV_dn n1 h1 a h2]
      exact fin
  · cases n2 with
    | dct h a =>
      have e1 : x = kV k := by
        cases k <;> (cases n1; rfl)
      subst e1
      refine .inr (.inr (.inr (.inr ⟨_, _, rfl, DGet.k (hd_le _ _ h), ?_⟩)))
      rw [← a.any k]
      exact fin
theorem r_notin : R2D K (rNotInU K) vNotIn := by
  intro O H x y dx dy d Q hO n1 n2 e q
  obtain ⟨b, eb, e⟩ := Option.map_eq_some_iff.mp e
  subst e
  have fin : Q (.bl (!b)) H := q _ _ (Same.refl H) (.bl _)
  rcases vInB_gen eb with ⟨c, y', x', rfl, rfl, rfl, rfl⟩ | ⟨x', y', rfl, rfl, rfl⟩ | ⟨ds, rfl, h1, h2, rfl⟩ | ⟨ds, rfl, h1, h2, rfl⟩ | ⟨kvs, k, rfl, rfl, rfl⟩
  · cases n1; cases n2
    exact .inr (.inl ⟨c, _, rfl, rfl, fin⟩)
  · cases n1; cases n2
    exact .inl ⟨_, _, rfl, rfl, fin⟩
  · exact .inr (.inr (.inl ⟨_, _, n1.up.dp (shaped_lay h1), n2.up.dp (shaped_lay h2), h1, h2, fin⟩))
  · cases n2 with
    | tup h a =>
      refine .inr (.inr (.inr (.inl ⟨_, _, rfl, .inr (Same.seqT hd_le h.sq), flat_dn n1 h1, flatA_dn a h2, ?_⟩)))
      rw [inV_dn n1 h1 a h2]
      exact fin
  · cases n2 with
    | dct h a =>
      have e1 : x = kV k := by
        cases k <;> (cases n1; rfl)
      subst e1
      refine .inr (.inr (.inr (.inr ⟨_, _, rfl, DGet.k (hd_le _ _ h), ?_⟩)))
      rw [← a.any k]
      exact fin
end
end PV

namespace PV
open PySem PySem.Spec PyProof.Rows L2
/-! ### built-ins, by values -/
def bLen : List D → Option D
  | [.str z] => if z.length ≤ 16777216 then some (.int z.length) else none
  | [.list l] => some (.int l.length)
  | [.tuple l] => some (.int l.length)
  | _ => none
def bInt : List D → Option D
  | [.int i] => some (.int i)
  | [.bool k] => some (.int (if k then 1 else 0))
  | [.str a] => if a.length ≤ 640 then (PySem.intText? a).map .int else none
  | _ => none
def bStr : List D → Option D
  | [.int i] => if i.natAbs < 2 ^ 64 then some (.str (toString i)) else none
  | _ => none
def bAbs : List D → Option D
  | [.int i] => some (.int (if i < 0 then -i else i))
  | _ => none
/-- the items can be compared one with another -/
def alikeOk (ds : List D) : Bool := (ds.all fun x => ds.all fun y => PySem.W.alike x y) && ds.all fun x => x.canLay0 && decide (x.depth ≤ 16)
def someOk (ds : List D) : Bool := ds.all fun x => match x with | .none => false | _ => true
def sortOk (ds : List D) : Bool := (ds.all fun x => match x with | .tuple (_ :: _) => true | _ => false) || ds.all fun x => match x with | .none => false | .tuple _ => false | _ => true
def vMin : List D → Option D
  | x :: xs => if alikeOk (x :: xs) && someOk (x :: xs) then some (PySem.W.minD x xs) else none
  | [] => none
def vMax : List D → Option D
  | x :: xs => if alikeOk (x :: xs) && someOk (x :: xs) then some (PySem.W.maxD x xs) else none
  | [] => none
def bMin : List D → Option D
  | [.list l] => vMin l
  | [.int i, .int j] => some (.int (if j < i then j else i))
  | _ => none
def bMax : List D → Option D
  | [.list l] => vMax l
  | [.int i, .int j] => some (.int (if j > i then j else i))
  | _ => none
def intsOf : List D → Option (List Int)
  | [] => some []
  | .int i :: r => (intsOf r).map (i :: ·)
  | _ => none
def strsOf : List D → Option (List Str)
  | [] => some []
  | .str i :: r => (strsOf r).map (i :: ·)
  | _ => none
def bSum : List D → Option D
  | [.list l] => (intsOf l).map fun ns => .int ns.sum
  | _ => none
def vSort (l : List D) : Option (List D) := if alikeOk l && sortOk l && decide (l.length ≤ 16777216) then some (l.mergeSort (PySem.W.dataLe false id)) else none
def bSorted : List D → Option D
  | [.list l] => (vSort l).map .list
  | _ => none
def bTuple : List D → Option D
  | [.list l] => some (.tuple l)
  | [.tuple l] => some (.tuple l)
  | _ => none
def bList : List D → Option D
  | [.list l] => some (.list l)
  | [.tuple l] => some (.list l)
  | _ => none
def mJoin : D → List D → Option D
  | .str a, [.list l] => (strsOf l).bind fun ys => if (ys.map (·.length)).sum + ys.length * a.length ≤ 16777216 then some (.str (Txt.join a ys)) else none
  | .str a, [.tuple l] => (strsOf l).bind fun ys => if (ys.map (·.length)).sum + ys.length * a.length ≤ 16777216 then some (.str (Txt.join a ys)) else none
  | _, _ => none
def mIndex : D → List D → Option D
  | .str a, [.str b] => match Builtin.Str.occurrences a b 0 a.length 1 with
    | i :: _ => some (.int (i : Nat))
    | [] => none
  | _, _ => none
def mCount : D → List D → Option D
  | .str a, [.str b] => some (.int (Txt.count a b))
  | _, _ => none

section
variable {K : PySem.W.Frag}
theorem intsOf_dn {H : Hp} : ∀ {vs : List V} {l : List D} {ns : List Int}, DnA K H vs l → intsOf l = some ns → vs = ns.map V.int
  | _, _, _, .nil, e => by cases e; rfl
  | _, d :: _, ns, .cons h t, e => by
    cases d <;> try (cases e; done)
    obtain ⟨r, er, e⟩ := Option.map_eq_some_iff.mp e
    subst e
    cases h
    rw [List.map_cons, intsOf_dn t er]
theorem strsOf_dn {H : Hp} : ∀ {vs : List V} {l : List D} {ns : List Str}, DnA K H vs l → strsOf l = some ns → vs = ns.map V.str
  | _, _, _, .nil, e => by cases e; rfl
  | _, d :: _, ns, .cons h t, e => by
    cases d <;> try (cases e; done)
    obtain ⟨r, er, e⟩ := Option.map_eq_some_iff.mp e
    subst e
    cases h
    rw [List.map_cons, strsOf_dn t er]
def rLenA (K : PySem.W.Frag) : List V → Hp → VK → Prop := cOr (fun xs H Q => ∃ p ys, xs = [.ref p] ∧ (SqL K H p ys ∨ SqT K H p ys) ∧ Q (.int ys.length) H) (fun xs H Q => ∃ z, xs = [.str z] ∧ z.length ≤ sizeLine ∧ Q (.int z.length) H)
theorem rn_len : RnD K (rLenA K) bLen := by
  intro O H x dx d Q hO n e q
  unfold bLen at e
  split at e
  · rename_i z
    split at e
    · rename_i hz
      cases e
      cases n with | cons n1 n2 => cases n2; cases n1; exact .inr ⟨z, rfl, by rw [line_eq]; exact hz, q _ _ (Same.refl H) (.int _)⟩
    · cases e
  · rename_i l
    cases e
    cases n with | cons n1 n2 =>
      cases n2
      cases n1 with | lst h a =>
        exact .inl ⟨_, _, rfl, .inl (Same.seq hd_le h), by rw [a.len]; exact q _ _ (Same.refl H) (.int _)⟩
  · rename_i l
    cases e
    cases n with | cons n1 n2 =>
      cases n2
      cases n1 with | tup h a =>
        exact .inl ⟨_, _, rfl, .inr (Same.seqT hd_le h.sq), by rw [a.len]; exact q _ _ (Same.refl H) (.int _)⟩
  · cases e
def rIntA : List V → Hp → VK → Prop := cOr (fun xs H Q => (∃ i, xs = [.int i] ∧ Q (.int i) H) ∨ ∃ k, xs = [.bl k] ∧ Q (.int (if k then 1 else 0)) H) (fun xs H Q => ∃ a n, xs = [.str a] ∧ PySem.intText? a = some n ∧ a.length ≤ 640 ∧ Q (.int n) H)
theorem rn_int : RnD K rIntA bInt := by
  intro O H x dx d Q hO n e q
  unfold bInt at e
  split at e
  · cases e
    cases n with | cons n1 n2 => cases n2; cases n1; exact .inl (.inl ⟨_, rfl, q _ _ (Same.refl H) (.int _)⟩)
  · cases e
    cases n with | cons n1 n2 => cases n2; cases n1; exact .inl (.inr ⟨_, rfl, q _ _ (Same.refl H) (.int _)⟩)
  · split at e
    · rename_i hz
      obtain ⟨k, hk, e⟩ := Option.map_eq_some_iff.mp e
      subst e
      cases n with | cons n1 n2 => cases n2; cases n1; exact .inr ⟨_, k, rfl, hk, hz, q _ _ (Same.refl H) (.int _)⟩
    · cases e
  · cases e
theorem rn_abs : RnD K (fun xs H Q => ∃ i, xs = [.int i] ∧ Q (.int (if i < 0 then -i else i)) H) bAbs := by
  intro O H x dx d Q hO n e q
  unfold bAbs at e
  split at e
  · cases e
    cases n with | cons n1 n2 => cases n2; cases n1; exact ⟨_, rfl, q _ _ (Same.refl H) (.int _)⟩
  · cases e
theorem rn_str : RnD K (fun xs H Q => ∃ i, xs = [.int i] ∧ i.natAbs.log2 < 1920 ∧ Q (.str (toString i)) H) bStr := by
  intro O H x dx d Q hO n e q
  unfold bStr at e
  split at e
  · split at e
    · rename_i hz
      cases e
      cases n with | cons n1 n2 =>
        cases n2; cases n1
        exact ⟨_, rfl, Nat.lt_of_lt_of_le (PySem.Flt.log2_lt_of (by decide) hz) (by decide), q _ _ (Same.refl H) (.str _)⟩
    · cases e
  · cases e
end
/-! ### min, max, sorted of data -/
theorem alikeOk_all {ds : List D} (h : alikeOk ds = true) : PySem.W.AllAlike ds ∧ PyData.canLayAll0 ds = true ∧ ∀ d ∈ ds, d.depth ≤ 16 := by
  unfold alikeOk at h
  rw [Bool.and_eq_true] at h
  obtain ⟨h1, h2⟩ := h
  rw [List.all_eq_true] at h1 h2
  refine ⟨fun d hd d' hd' => ?_, ?_, fun d hd => ?_⟩
  · have := h1 d hd
    rw [List.all_eq_true] at this
    exact this d' hd'
  · clear h1
    induction ds with
    | nil => rfl
    | cons x xs ih =>
      have := h2 x List.mem_cons_self
      rw [Bool.and_eq_true] at this
      rw [PyData.canLayAll0, this.1, ih fun y hy => h2 y (List.mem_cons_of_mem _ hy)]
      rfl
  · have := h2 d hd
    rw [Bool.and_eq_true] at this
    exact of_decide_eq_true this.2
theorem depthAll_le : ∀ {ds : List D}, (∀ d ∈ ds, d.depth ≤ 16) → PyData.depthAll ds ≤ 16
  | [], _ => by simp [PyData.depthAll]
  | x :: xs, h => by
    rw [PyData.depthAll]
    have h1 := h x List.mem_cons_self
    have h2 := depthAll_le fun d hd => h d (List.mem_cons_of_mem x hd)
    omega
theorem someOk_all {ds : List D} (h : someOk ds = true) : ∀ d ∈ ds, d ≠ .none := by
  unfold someOk at h
  rw [List.all_eq_true] at h
  intro d hd e
  have := h d hd
  rw [e] at this
  cases this
theorem sortOk_all {ds : List D} (h : sortOk ds = true) : PySem.W.Sortable ds := by
  unfold sortOk at h
  rw [Bool.or_eq_true] at h
  rcases h with h | h
  · rw [List.all_eq_true] at h
    refine .inl fun d hd => ?_
    have := h d hd
    split at this
    · rename_i x r; exact ⟨x, r, rfl⟩
    · cases this
  · rw [List.all_eq_true] at h
    refine .inr fun d hd => ⟨fun e => ?_, fun xs e => ?_⟩
    · have := h d hd; rw [e] at this; cases this
    · have := h d hd; rw [e] at this; cases this
theorem minD_mem (x : D) (xs : List D) : PySem.W.minD x xs ∈ x :: xs := by
  unfold PySem.W.minD
  induction xs generalizing x with
  | nil => simp
  | cons y ys ih =>
    rw [List.foldl_cons]
    split
    · have := ih y
      simp only [List.mem_cons] at this ⊢
      rcases this with h | h
      · exact .inr (.inl h)
      · exact .inr (.inr h)
    · have := ih x
      simp only [List.mem_cons] at this ⊢
      rcases this with h | h
      · exact .inl h
      · exact .inr (.inr h)
theorem maxD_mem (x : D) (xs : List D) : PySem.W.maxD x xs ∈ x :: xs := by
  unfold PySem.W.maxD
  induction xs generalizing x with
  | nil => simp
  | cons y ys ih =>
    rw [List.foldl_cons]
    split
    · have := ih y
      simp only [List.mem_cons] at this ⊢
      rcases this with h | h
      · exact .inr (.inl h)
      · exact .inr (.inr h)
    · have := ih x
      simp only [List.mem_cons] at this ⊢
      rcases this with h | h
      · exact .inl h
      · exact .inr (.inr h)
section
variable {X : Cx}
/-- min of a list of alike data: an item that stands for the least -/
def rMinD (K : PySem.W.Frag) : List V → Hp → VK → Prop := fun xs H Q => ∃ (a : Addr) (ys : List V) (x : D) (ds : List D) (G : Hp), xs = [.ref a] ∧ SqL K H a ys ∧ Same G H ∧ DnA K G ys (x :: ds) ∧ alikeOk (x :: ds) = true ∧ someOk (x :: ds) = true ∧
  ∀ v, Dn K G v (PySem.W.minD x ds) → Q v H
def rMaxD (K : PySem.W.Frag) : List V → Hp → VK → Prop := fun xs H Q => ∃ (a : Addr) (ys : List V) (x : D) (ds : List D) (G : Hp), xs = [.ref a] ∧ SqL K H a ys ∧ Same G H ∧ DnA K G ys (x :: ds) ∧ alikeOk (x :: ds) = true ∧ someOk (x :: ds) = true ∧
  ∀ v, Dn K G v (PySem.W.maxD x ds) → Q v H
theorem reads_dn {pins : List (Addr × Obj)} {σ : L2.St} {H G : Hp} {s : Shared} (I : Inv X pins σ H s) (sm : Same G H) : ∀ {vs : List V} {us : List Value} {ds : List D}, DnA X.K G vs ds → Vals vs us → PyData.canLayAll0 ds = true → ∃ as, ReadsAll s.heap us ds as :=
  fun n r c => Dp.readsAll I _ _ _ ((n.mono sm).dp c) r
theorem vals_getI {vs : List V} {us : List Value} {i : Nat} {u : Value} (r : Vals vs us) (h : us[i]? = some u) : ∃ v, vs[i]? = some v ∧ RelV v u := by
  cases e : vs[i]? with
  | none =>
    have := r.none_of e
    rw [this] at h; cases h
  | some v =>
    obtain ⟨u', h1, h2⟩ := r.get e
    rw [h] at h1; cases h1
    exact ⟨v, rfl, h2⟩
theorem dp_alike {H : Hp} {v : V} {d e : D} {u : Value} {pins : List (Addr × Obj)} {σ : L2.St} {s : Shared} (I : Inv X pins σ H s) (n : Dn X.K H v d) (r : RelV v u) (cd : d.canLay0 = true) (h : PySem.W.alike d e = true) {h' : Heap} {as : List Addr} (re : Reads h' u e as) (k : ∀ b o, s.heap.get? b = some o → h'.get? b = some o) : d = e := by
  obtain ⟨as', rd⟩ := Dp.reads I d v u (n.dp cd) r
  exact PySem.W.alike_unique d e u _ _ h (PySem.W.reads_keeps k rd) re
theorem depth_room {k : Nat} {A : Around} (hr : Room k A) : A.units + 64 < cLine := hr.units
theorem cr_minD {k : Nat} (hr : Room k X.A) (hc : X.calm = true) : CallR X (.builtin "min") (rMinD X.K) := by
  intro pins s σ H xs us Q I r h
  obtain ⟨a, ys, x, ds, G, rfl, hs, sm, n, ok, ok2, q⟩ := h
  obtain ⟨its, rv, hl, _⟩ := I.list hs
  rw [Vals.ref1 r]
  obtain ⟨h1, h2, h3⟩ := alikeOk_all ok
  obtain ⟨as, ra⟩ := reads_dn I sm n rv h2
  have hu := hr.units
  have hdp := depthAll_le h3
  refine PySem.W.min_list_data (I.ok.hd hc) hl.isList (by simpa using ra) ⟨fun x hx y hy => h1 x hx y hy, someOk_all ok2⟩ (by omega) fun i v h' tk bs hv rd hk => ?_
  have hv' : its[i]? = some v := by simpa using hv
  obtain ⟨w, hw, rw'⟩ := vals_getI rv hv'
  obtain ⟨d, hd', nd⟩ := n.getv hw
  have hm : d ∈ x :: ds := List.mem_of_getElem? hd'
  have hmm := minD_mem x ds
  have e : d = PySem.W.minD x ds := dp_alike I (nd.mono sm) rw' (shaped_lay (by
    unfold SeqAt.shaped
    rw [Bool.and_eq_true]
    refine ⟨?_, decide_eq_true (Nat.le_trans (h3 d hm) (by decide))⟩
    have := ok
    unfold alikeOk at this
    rw [Bool.and_eq_true] at this
    have := List.all_eq_true.mp this.2 d hm
    rw [Bool.and_eq_true] at this
    exact this.1)) (h1 d hm _ hmm) rd hk
  subst e
  exact ⟨w, H, I.kept hk, rw', q w nd⟩
theorem cr_maxD {k : Nat} (hr : Room k X.A) (hc : X.calm = true) : CallR X (.builtin "max") (rMaxD X.K) := by
  intro pins s σ H xs us Q I r h
  obtain ⟨a, ys, x, ds, G, rfl, hs, sm, n, ok, ok2, q⟩ := h
  obtain ⟨its, rv, hl, _⟩ := I.list hs
  rw [Vals.ref1 r]
  obtain ⟨h1, h2, h3⟩ := alikeOk_all ok
  obtain ⟨as, ra⟩ := reads_dn I sm n rv h2
  have hu := hr.units
  have hdp := depthAll_le h3
  refine PySem.W.max_list_data (I.ok.hd hc) hl.isList (by simpa using ra) ⟨fun x hx y hy => h1 x hx y hy, someOk_all ok2⟩ (by omega) fun i v h' tk bs hv rd hk => ?_
  have hv' : its[i]? = some v := by simpa using hv
  obtain ⟨w, hw, rw'⟩ := vals_getI rv hv'
  obtain ⟨d, hd', nd⟩ := n.getv hw
  have hm : d ∈ x :: ds := List.mem_of_getElem? hd'
  have hmm := maxD_mem x ds
  have e : d = PySem.W.maxD x ds := dp_alike I (nd.mono sm) rw' (shaped_lay (by
    unfold SeqAt.shaped
    rw [Bool.and_eq_true]
    refine ⟨?_, decide_eq_true (Nat.le_trans (h3 d hm) (by decide))⟩
    have := ok
    unfold alikeOk at this
    rw [Bool.and_eq_true] at this
    have := List.all_eq_true.mp this.2 d hm
    rw [Bool.and_eq_true] at this
    exact this.1)) (h1 d hm _ hmm) rd hk
  subst e
  exact ⟨w, H, I.kept hk, rw', q w nd⟩
/-- sorted of a list of alike data -/
def rSortD (K : PySem.W.Frag) : List V → Hp → VK → Prop := fun xs H Q => ∃ (a : Addr) (ys : List V) (ds : List D) (G : Hp), xs = [.ref a] ∧ SqL K H a ys ∧ Same G H ∧ DnA K G ys ds ∧ alikeOk ds = true ∧ sortOk ds = true ∧ ds.length ≤ 16777216 ∧
  ∀ p zs, H p = none → DnA K G zs (ds.mergeSort (PySem.W.dataLe false id)) → Q (.ref p) (upd H p (.lst zs))
theorem each_of {K : PySem.W.Frag} {G : Hp} : ∀ {ys : List V} {us : List Value} {ds : List D}, DnA K G ys ds → Vals ys us → PySem.W.EachIs (fun u d => ∃ v, RelV v u ∧ Dn K G v d) us ds
  | _, _, _, .nil, .nil => .nil
  | _, _, _, .cons h t, .cons r s => .cons ⟨_, r, h⟩ (each_of t s)
theorem of_each {K : PySem.W.Frag} {G : Hp} : ∀ {us : List Value} {ds : List D}, PySem.W.EachIs (fun u d => ∃ v, RelV v u ∧ Dn K G v d) us ds → ∃ zs, Vals zs us ∧ DnA K G zs ds
  | _, _, .nil => ⟨[], .nil, .nil⟩
  | _, _, .cons ⟨v, r, h⟩ t => let ⟨zs, a, b⟩ := of_each t; ⟨v :: zs, .cons r a, .cons h b⟩
theorem cr_sortD {k : Nat} (hr : Room k X.A) : CallR X (.builtin "sorted") (rSortD X.K) := by
  intro pins s σ H xs us Q I r h
  obtain ⟨a, ys, ds, G, rfl, hs, sm, n, ok, ok2, hz, q⟩ := h
  obtain ⟨its, rv, hl, _⟩ := I.list hs
  rw [Vals.ref1 r]
  obtain ⟨h1, h2, h3⟩ := alikeOk_all ok
  obtain ⟨as, ra⟩ := reads_dn I sm n rv h2
  have hu := hr.units
  have er := PySem.W.readsAll_each (h := s.heap) (id : D → D) (vs := its) (bs := ds) (as := as) (by simpa using ra)
  refine PySem.W.sorted_data (enc := id) hl.isList (each_of n rv) er (by simpa using h1) (by simpa using sortOk_all ok2) (by rw [line_eq]; exact hz) (fun b hb => by have := h3 b hb; show X.A.units + 2 + b.depth < cLine; omega) fun out hlen he => ?_
  obtain ⟨zs, hv, hn⟩ := of_each he
  obtain ⟨ep, he'⟩ := PyProof.Rows.sortedAll_at s.heap its out.toArray
  refine ⟨.ref _, upd H (s.heap.objs.size + 1) (.lst zs), I.laid (t' := s.toks) (fun _ _ => PyProof.Rows.sortedAll_old) (Nat.le_succ _) ⟨?_, out, ep, hv, he'⟩, rfl, q _ zs (I.hok.fresh (Nat.le_succ _)) hn⟩
  rw [hv.length, hlen, line_eq]; exact hz
end
section
variable {K : PySem.W.Frag}
def rMinA (K : PySem.W.Frag) : List V → Hp → VK → Prop := cOr (rMinD K) (fun xs H Q => ∃ i j, xs = [.int i, .int j] ∧ Q (.int (if j < i then j else i)) H)
def rMaxA (K : PySem.W.Frag) : List V → Hp → VK → Prop := cOr (rMaxD K) (fun xs H Q => ∃ i j, xs = [.int i, .int j] ∧ Q (.int (if j > i then j else i)) H)
theorem rn_min : RnD K (rMinA K) bMin := by
  intro O H x dx d Q hO n e q
  unfold bMin at e
  split at e
  · rename_i l
    cases n with | cons n1 n2 =>
      cases n2
      cases n1 with | lst h a =>
        cases l with
        | nil => cases e
        | cons y ys =>
          simp only [vMin] at e
          by_cases g : (alikeOk (y :: ys) && someOk (y :: ys)) = true
          · rw [if_pos g] at e
            cases e
            rw [Bool.and_eq_true] at g
            exact .inl ⟨_, _, y, ys, hd O H, rfl, Same.seq hd_le h, hd_le, a, g.1, g.2, fun v nv => q _ _ (Same.refl H) nv⟩
          · rw [if_neg g] at e
            cases e
  · cases e
    cases n with | cons n1 n2 =>
      cases n2 with | cons n2 n3 => cases n3; cases n1; cases n2; exact .inr ⟨_, _, rfl, q _ _ (Same.refl H) (.int _)⟩
  · cases e
theorem rn_max : RnD K (rMaxA K) bMax := by
  intro O H x dx d Q hO n e q
  unfold bMax at e
  split at e
  · rename_i l
    cases n with | cons n1 n2 =>
      cases n2
      cases n1 with | lst h a =>
        cases l with
        | nil => cases e
        | cons y ys =>
          simp only [vMax] at e
          by_cases g : (alikeOk (y :: ys) && someOk (y :: ys)) = true
          · rw [if_pos g] at e
            cases e
            rw [Bool.and_eq_true] at g
            exact .inl ⟨_, _, y, ys, hd O H, rfl, Same.seq hd_le h, hd_le, a, g.1, g.2, fun v nv => q _ _ (Same.refl H) nv⟩
          · rw [if_neg g] at e
            cases e
  · cases e
    cases n with | cons n1 n2 =>
      cases n2 with | cons n2 n3 => cases n3; cases n1; cases n2; exact .inr ⟨_, _, rfl, q _ _ (Same.refl H) (.int _)⟩
  · cases e
theorem rn_sum : RnD K (rSum K) bSum := by
  intro O H x dx d Q hO n e q
  unfold bSum at e
  split at e
  · obtain ⟨ns, hn, e⟩ := Option.map_eq_some_iff.mp e
    subst e
    cases n with | cons n1 n2 =>
      cases n2
      cases n1 with | lst h a =>
        exact ⟨_, ns, rfl, by rw [← intsOf_dn a hn]; exact Same.seq hd_le h, q _ _ (Same.refl H) (.int _)⟩
  · cases e
theorem rn_sorted : RnD K (rSortD K) bSorted := by
  intro O H x dx d Q hO n e q
  unfold bSorted at e
  split at e
  · rename_i l
    obtain ⟨l', hl, e⟩ := Option.map_eq_some_iff.mp e
    subst e
    unfold vSort at hl
    split at hl
    · rename_i g
      cases hl
      rw [Bool.and_eq_true, Bool.and_eq_true] at g
      cases n with | cons n1 n2 =>
        cases n2
        cases n1 with | lst h a =>
          refine ⟨_, _, l, hd O H, rfl, Same.seq hd_le h, hd_le, a, g.1.1, g.1.2, of_decide_eq_true g.2, fun p zs hp nz => ?_⟩
          obtain ⟨s, nn⟩ := new_lst (K := K) hO hp nz
          exact q _ _ s nn
    · cases hl
  · cases e
theorem rn_tuple : RnD K (fun xs H Q => ∃ p ys, xs = [.ref p] ∧ ((SqL K H p ys ∧ mkT ys H Q) ∨ (SqT K H p ys ∧ Q (.ref p) H))) bTuple := by
  intro O H x dx d Q hO n e q
  unfold bTuple at e
  split at e
  · cases e
    cases n with | cons n1 n2 =>
      cases n2
      cases n1 with | lst h a =>
        refine ⟨_, _, rfl, .inl ⟨Same.seq hd_le h, fun p ob hob hp => ?_⟩⟩
        obtain ⟨s, nn⟩ := new_tup (K := K) hob hO hp a
        exact q _ _ s nn
  · cases e
    cases n with | cons n1 n2 =>
      cases n2
      cases n1 with | tup h a =>
        exact ⟨_, _, rfl, .inr ⟨Same.seqT hd_le h.sq, q _ _ (Same.refl H) (.tup h a)⟩⟩
  · cases e
theorem rn_list : RnD K (fun xs H Q => ∃ p ys, xs = [.ref p] ∧ (SqL K H p ys ∨ SqT K H p ys) ∧ ∀ l, H l = none → Q (.ref l) (upd H l (.lst ys))) bList := by
  intro O H x dx d Q hO n e q
  unfold bList at e
  split at e
  · cases e
    cases n with | cons n1 n2 =>
      cases n2
      cases n1 with | lst h a =>
        refine ⟨_, _, rfl, .inl (Same.seq hd_le h), fun p hp => ?_⟩
        obtain ⟨s, nn⟩ := new_lst (K := K) hO hp a
        exact q _ _ s nn
  · cases e
    cases n with | cons n1 n2 =>
      cases n2
      cases n1 with | tup h a =>
        refine ⟨_, _, rfl, .inr (Same.seqT hd_le h.sq), fun p hp => ?_⟩
        obtain ⟨s, nn⟩ := new_lst (K := K) hO hp a
        exact q _ _ s nn
  · cases e
/-! ### methods by values -/
def RmD (K : PySem.W.Frag) (T : String) (r : V → List V → Hp → VK → Prop) (g : D → List D → Option D) : Prop := (∀ H x dx dys, Dn K H x dx → (∃ d, g dx dys = some d) → tyV K T x H) ∧
  ∀ O H x ys dx dys d Q, (∀ a, O a → H a ≠ none) → Dn K (hd O H) x dx → DnA K (hd O H) ys dys → g dx dys = some d → (∀ v H', Same H H' → Dn K (hd O H') v d → Q v H') → r x ys H Q
def fM (g : D → List D → Option D) (fa : Rho → Option D) (fb : Rho → Option (List D)) : Rho → Option D := fun ρ => (fa ρ).bind fun x => (fb ρ).bind fun y => g x y
theorem de_m {T : String} {r : V → List V → Hp → VK → Prop} {g : D → List D → Option D} {ta : TE} {tb : TA} {fa : Rho → Option D} {fb : Rho → Option (List D)} (hr : RmD K T r g) (ha : DE K ta fa) (hb : DA K tb fb) : DE K (tBM K T r ta tb) (fM g fa fb) := by
  intro B O σ H ρ d Q R e q
  obtain ⟨x, ex, e⟩ := Option.bind_eq_some_iff.mp e
  obtain ⟨y, ey, e⟩ := Option.bind_eq_some_iff.mp e
  refine ha B O σ H ρ x _ R ex fun v H1 s1 n1 => ⟨hr.1 H1 v x y n1.up ⟨d, e⟩, ?_⟩
  refine hb B O σ H1 ρ y _ (R.mono s1) ey fun u H2 s2 n2 => ?_
  exact hr.2 O H2 v u x y d Q ((R.mono s1).mono s2).dom (n1.mono (same_hd s2)) n2 e fun v3 H3 s3 n3 => q v3 H3 ((s1.trans s2).trans s3) n3
def rJoin (K : PySem.W.Frag) : V → List V → Hp → VK → Prop := fun x xs H Q => ∃ a p, ∃ ys : List Str, x = .str a ∧ xs = [.ref p] ∧ (SqL K H p (ys.map V.str) ∨ SqT K H p (ys.map V.str)) ∧
      (ys.map (·.length)).sum + ys.length * a.length ≤ 16777216 ∧ Q (.str (Txt.join a ys)) H
theorem rm_join : RmD K "str" (rJoin K) mJoin := by
  refine ⟨fun H x dx dys n ⟨d, e⟩ => ?_, fun O H x ys dx dys d Q hO n1 n2 e q => ?_⟩
  · cases n <;> first | rfl | (simp [mJoin] at e; done)
  · unfold mJoin at e
    split at e
    · obtain ⟨zs, hz, e⟩ := Option.bind_eq_some_iff.mp e
      split at e
      · rename_i hl
        cases e
        cases n1
        cases n2 with | cons m1 m2 =>
          cases m2
          cases m1 with | lst h a =>
            exact ⟨_, _, zs, rfl, rfl, .inl (by rw [← strsOf_dn a hz]; exact Same.seq hd_le h), hl, q _ _ (Same.refl H) (.str _)⟩
      · cases e
    · obtain ⟨zs, hz, e⟩ := Option.bind_eq_some_iff.mp e
      split at e
      · rename_i hl
        cases e
        cases n1
        cases n2 with | cons m1 m2 =>
          cases m2
          cases m1 with | tup h a =>
            exact ⟨_, _, zs, rfl, rfl, .inr (by rw [← strsOf_dn a hz]; exact Same.seqT hd_le h.sq), hl, q _ _ (Same.refl H) (.str _)⟩
      · cases e
    · cases e
theorem rm_index : RmD K "str" (fun x xs H Q => ∃ a b i rest, x = .str a ∧ xs = [.str b] ∧ Builtin.Str.occurrences a b 0 a.length 1 = i :: rest ∧ Q (.int (i : Nat)) H) mIndex := by
  refine ⟨fun H x dx dys n ⟨d, e⟩ => ?_, fun O H x ys dx dys d Q hO n1 n2 e q => ?_⟩
  · cases n <;> first | rfl | (simp [mIndex] at e; done)
  · unfold mIndex at e
    split at e
    · split at e
      · rename_i hi
        cases e
        cases n1
        cases n2 with | cons m1 m2 => cases m2; cases m1; exact ⟨_, _, _, _, rfl, rfl, hi, q _ _ (Same.refl H) (.int _)⟩
      · cases e
    · cases e
theorem rm_count : RmD K "str" (fun x xs H Q => ∃ a b, x = .str a ∧ xs = [.str b] ∧ Q (.int (Txt.count a b)) H) mCount := by
  refine ⟨fun H x dx dys n ⟨d, e⟩ => ?_, fun O H x ys dx dys d Q hO n1 n2 e q => ?_⟩
  · cases n <;> first | rfl | (simp [mCount] at e; done)
  · unfold mCount at e
    split at e
    · cases e
      cases n1
      cases n2 with | cons m1 m2 => cases m2; cases m1; exact ⟨_, _, rfl, rfl, q _ _ (Same.refl H) (.int _)⟩
    · cases e
end
end PV

namespace PV
open PySem PySem.Spec PyProof.Rows L2
theorem pi_or {X : Cx} {tg e : Expr} {w w' : TI} (h : PI X tg e w) (h' : PI X tg e w') : PI X tg e (iOr w w') := ⟨fun pins s σ H R I q => q.elim (h.run pins s σ H R I) (h'.run pins s σ H R I)⟩
theorem di_seq3 {K : PySem.W.Frag} {te : TE} {fa : Rho → Option D} (ha : DE K te fa) : DI K (iOr (iList K te) (iOr (iTup K te) (iStr te))) (iF fa) := by
  intro B O σ H ρ ds Q R e q
  obtain ⟨d, e1, e⟩ := Option.bind_eq_some_iff.mp e
  cases d <;> try cases e
  · refine .inr (.inr (ha B O σ H ρ _ _ R e1 fun v H1 s1 n1 => ?_))
    cases n1
    exact ⟨_, rfl, q _ _ s1 .str⟩
  · refine .inl (ha B O σ H ρ _ _ R e1 fun v H1 s1 n1 => ?_)
    cases n1 with
    | lst h a => exact ⟨_, rfl, ⟨_, Same.seq hd_le h⟩, q _ _ s1 (.list h a)⟩
  · refine .inr (.inl (ha B O σ H ρ _ _ R e1 fun v H1 s1 n1 => ?_))
    cases n1 with
    | tup h a => exact ⟨_, rfl, ⟨_, Same.seqT hd_le h.sq⟩, q _ _ s1 (.tup h.sq a)⟩
/-- a def of the text: it stands at f, of level k, with m parameters, and computes F -/
structure Fn (P : Program) (w : World) (K : PySem.W.Frag) (mg : Str → Option Value) (base : Heap) (k : Nat) (x : Str) (m : Nat) (F : List D → Option D) : Prop where
  ex : ∃ f fd ps, FnOk P w K mg base CX0 k f fd ps (spP K m F) ∧ mg x = some (.ref f) ∧ PySem.W.keepIn K (.ref f) = true ∧ Binds K fd ps []
section
variable {X : Cx} {a b c e : Expr} {es : List Expr} {fa fb fc : Rho → Option D} {fs : Rho → Option (List D)} {pos p p2 apos cpos : Pos} {n k : Nat}
/-! operators -/
theorem y_op {op : Operator} {r : R2} {g : D → D → Option D} (ho : OpR X (binaryOp op) r) (hr : R2D X.K r g) (ha : YE X a fa) (hb : YE X b fb) : YE X (.BinOp a op b pos) (f2 g fa fb) :=
  let ⟨_, p1, d1⟩ := ha.ex; let ⟨_, p2, d2⟩ := hb.ex; ⟨_, pe_op ho p1 p2, de_op hr d1 d2⟩
theorem y_add (ha : YE X a fa) (hb : YE X b fb) : YE X (.BinOp a .Add b pos) (f2 vAdd fa fb) := y_op (OpR.or op_add (OpR.or op_add_str (OpR.or op_catF op_catL))) r_add ha hb
theorem y_sub (ha : YE X a fa) (hb : YE X b fb) : YE X (.BinOp a .Sub b pos) (f2 vSub fa fb) := y_op op_sub r_sub ha hb
theorem y_mul (ha : YE X a fa) (hb : YE X b fb) : YE X (.BinOp a .Mult b pos) (f2 vMul fa fb) := y_op (OpR.or op_mul (OpR.or op_repS op_repL)) r_mul ha hb
theorem y_div (ha : YE X a fa) (hb : YE X b fb) : YE X (.BinOp a .FloorDiv b pos) (f2 vDiv fa fb) := y_op op_fdivW r_div ha hb
theorem y_mod (ha : YE X a fa) (hb : YE X b fb) : YE X (.BinOp a .Mod b pos) (f2 vMod fa fb) := y_op op_mod r_mod ha hb
/-! comparisons -/
theorem y_cmp {op : CmpOp} {r : R2} {g : D → D → Option D} (ho : OpR X (compareOp op) r) (hr : R2D X.K r g) (hm : behindInMarks op b = false) (ha : YE X a fa) (hb : YE X b fb) : YE X (.Compare a [op] [b] pos) (f2 g fa fb) :=
  let ⟨_, p1, d1⟩ := ha.ex; let ⟨_, p2, d2⟩ := hb.ex; ⟨_, pe_cmpR ho p1 p2 hm, de_op hr d1 d2⟩
theorem yt_cmp {op : CmpOp} {r : R2} {g : D → D → Option D} (ho : OpR X (compareOp op) r) (hr : R2D X.K r g) (hm : behindInMarks op b = false) (ha : YE X a fa) (hb : YE X b fb) : YT X (.Compare a [op] [b] pos) (tB1 (f2 g fa fb)) :=
  let ⟨_, p1, d1⟩ := ha.ex; let ⟨_, p2, d2⟩ := hb.ex; ⟨_, pt_cmpR ho p1 p2 hm, dt_test (de_op hr d1 d2)⟩
theorem o_lt : OpR X (compareOp .Lt) rLtU := OpR.or op_lt op_lt_str
theorem o_le : OpR X (compareOp .LtE) rLeU := OpR.or op_le op_le_str
theorem o_gt : OpR X (compareOp .Gt) rGtU := OpR.or op_gt op_gt_str
theorem o_ge : OpR X (compareOp .GtE) rGeU := OpR.or op_ge op_ge_str
theorem o_eq (hr : Room k X.A) : OpR X (compareOp .Eq) (rOr rEq (rEqD X.K)) := OpR.or op_eq (op_eqD hr.units)
theorem o_ne (hr : Room k X.A) : OpR X (compareOp .NotEq) (rOr rNe (rNeD X.K)) := OpR.or op_ne (op_neD hr.units)
theorem o_is : OpR X (compareOp .Is) rIsU := OpR.or op_isN op_isBl
theorem o_isnot : OpR X (compareOp .IsNot) rIsNotU := OpR.or op_notN op_notBl
theorem y_chain {op op' : CmpOp} {r r' : R2} {g g' : D → D → Option D} (ho : OpR X (compareOp op) r) (ho' : OpR X (compareOp op') r') (hr : R2D X.K r g) (hr' : R2D X.K r' g') (ha : YE X a fa) (hb : YE X b fb) (hc : YE X c fc)
    (hm : lastMarks [op, op'] [b, c] = false := by with_unfolding_all rfl) : YE X (.Compare a [op, op'] [b, c] pos) (fChain g g' fa fb fc) :=
  let ⟨_, p1, d1⟩ := ha.ex; let ⟨_, p2, d2⟩ := hb.ex; let ⟨_, p3, d3⟩ := hc.ex; ⟨_, pe_chain ho ho' p1 p2 p3 hm, de_chain hr hr' d1 d2 d3⟩
theorem yt_chain {op op' : CmpOp} {r r' : R2} {g g' : D → D → Option D} (ho : OpR X (compareOp op) r) (ho' : OpR X (compareOp op') r') (hr : R2D X.K r g) (hr' : R2D X.K r' g') (ha : YE X a fa) (hb : YE X b fb) (hc : YE X c fc)
    (hm : lastMarks [op, op'] [b, c] = false := by with_unfolding_all rfl) : YT X (.Compare a [op, op'] [b, c] pos) (tB1 (fChain g g' fa fb fc)) :=
  let ⟨_, p1, d1⟩ := ha.ex; let ⟨_, p2, d2⟩ := hb.ex; let ⟨_, p3, d3⟩ := hc.ex; ⟨_, pt_chain ho ho' p1 p2 p3 hm, dt_test (de_chain hr hr' d1 d2 d3)⟩
/-! truth -/
theorem yt_val (ha : YE X a fa) (he : ∀ whole, isTrue a X.env whole = (do let v ← whole; standAt a.pos; holding [v] (truthy v)) := by intro _; rfl) : YT X a (tB1 fa) :=
  let ⟨_, p1, d1⟩ := ha.ex; ⟨_, pt_val p1 he, dt_b d1⟩
variable {ft fu : Rho → Option Bool} {rest : List Expr}
theorem yw_and1 (ha : YT X a ft) : YW X (.BoolOp .And [a] pos) ft := let ⟨_, p1, d1⟩ := ha.ex; ⟨_, pw_and1 p1, d1⟩
theorem yw_or1 (ha : YT X a ft) : YW X (.BoolOp .Or [a] pos) ft := let ⟨_, p1, d1⟩ := ha.ex; ⟨_, pw_or1 p1, d1⟩
theorem yw_and (ha : YT X a ft) (hb : YW X (.BoolOp .And (b :: rest) pos) fu) : YW X (.BoolOp .And (a :: b :: rest) pos) (tAnd1 ft fu) :=
  let ⟨_, p1, d1⟩ := ha.ex; let ⟨_, p2, d2⟩ := hb.ex; ⟨_, pw_and p1 p2, dt_and d1 d2⟩
theorem yw_or (ha : YT X a ft) (hb : YW X (.BoolOp .Or (b :: rest) pos) fu) : YW X (.BoolOp .Or (a :: b :: rest) pos) (tOr1 ft fu) :=
  let ⟨_, p1, d1⟩ := ha.ex; let ⟨_, p2, d2⟩ := hb.ex; ⟨_, pw_or p1 p2, dt_or d1 d2⟩
theorem yt_w (ha : YW X a ft) : YT X a ft := let ⟨_, p1, d1⟩ := ha.ex; ⟨_, p1.pt, d1⟩
theorem yt_not (ha : YT X a ft) : YT X (.UnaryOp .Not a pos) (tNot1 ft) := let ⟨_, p1, d1⟩ := ha.ex; ⟨_, pt_not p1, dt_not d1⟩
theorem y_one {op} (ha : YE X a fa) : YE X (.BoolOp op [a] pos) fa := let ⟨_, p1, d1⟩ := ha.ex; ⟨_, pe_one p1, d1⟩
theorem y_and (ha : YE X a fa) (hb : YE X (.BoolOp .And (b :: rest) pos) fb) : YE X (.BoolOp .And (a :: b :: rest) pos) (fAnd fa fb) :=
  let ⟨_, p1, d1⟩ := ha.ex; let ⟨_, p2, d2⟩ := hb.ex; ⟨_, pe_and p1 p2, de_and d1 d2⟩
theorem y_or (ha : YE X a fa) (hb : YE X (.BoolOp .Or (b :: rest) pos) fb) : YE X (.BoolOp .Or (a :: b :: rest) pos) (fOr fa fb) :=
  let ⟨_, p1, d1⟩ := ha.ex; let ⟨_, p2, d2⟩ := hb.ex; ⟨_, pe_or p1 p2, de_or d1 d2⟩
theorem y_not (ha : YE X a fa) : YE X (.UnaryOp .Not a pos) (fNot fa) := let ⟨_, p1, d1⟩ := ha.ex; ⟨_, pe_not p1, de_not d1⟩
def vNeg : D → Option D
  | .int i => some (.int (-i))
  | _ => none
theorem r_neg {K : PySem.W.Frag} : R1D K (rU fun i => .int (-i)) vNeg := by
  intro O H x dx d Q hO n e q
  cases n <;> try (cases e; done)
  cases e; exact ⟨_, rfl, q _ _ (Same.refl H) (.int _)⟩
theorem y_neg (ha : YE X a fa) : YE X (.UnaryOp .USub a pos) (f1 vNeg fa) := let ⟨_, p1, d1⟩ := ha.ex; ⟨_, pe_un un_neg p1, de_un r_neg d1⟩
theorem y_if (hc : YT X c ft) (ha : YE X a fa) (hb : YE X b fb) : YE X (.IfExp c a b pos) (fIf ft fa fb) :=
  let ⟨_, p0, d0⟩ := hc.ex; let ⟨_, p1, d1⟩ := ha.ex; let ⟨_, p2, d2⟩ := hb.ex; ⟨_, pe_ifExp p0 p1 p2, de_if d0 d1 d2⟩
/-! argument lists, displays -/
structure YAn (X : Cx) (es : List Expr) (n : Nat) (f : Rho → Option (List D)) : Prop where
  ex : ∃ t, PA X es t ∧ DA X.K t f
  len : ∀ ρ ds, f ρ = some ds → ds.length = n
theorem ya_nil : YAn X [] 0 aNil := ⟨⟨_, pa_nil, da_nil⟩, fun _ _ e => by cases e; rfl⟩
theorem ya_cons (ha : YE X e fa) (hr : YAn X es n fs) (hs : starEach (e :: es) X.env = (false, eval e X.env) :: starEach es X.env := by rfl) : YAn X (e :: es) (n + 1) (aCons fa fs) :=
  let ⟨_, p1, d1⟩ := ha.ex; let ⟨_, p2, d2⟩ := hr.ex
  ⟨⟨_, pa_cons p1 p2 hs, da_cons d1 d2⟩, fun ρ ds e => by
    obtain ⟨x, ex, e⟩ := Option.bind_eq_some_iff.mp e
    obtain ⟨r, er, e⟩ := Option.bind_eq_some_iff.mp e
    cases e
    rw [List.length_cons, hr.len ρ r er]⟩
def fTup' (fa : Rho → Option (List D)) : Rho → Option D := fun ρ => (fa ρ).map .tuple
def gLst' (fa : Rho → Option (List D)) : Rho → Option (List D) := fa
theorem de_tup' {K : PySem.W.Frag} {ta : TA} (n : Nat) (hn : n ≤ 16777216) (hl : ∀ ρ ds, fs ρ = some ds → ds.length = n) (ha : DA K ta fs) : DE K (tTupF ta) (fTup' fs) := by
  intro B O σ H ρ d Q R e q
  obtain ⟨x, ex, e⟩ := Option.map_eq_some_iff.mp e
  subst e
  refine de_tup ha B O σ H ρ _ Q R ?_ q
  unfold fTup
  rw [ex]
  exact if_pos (by rw [hl ρ x ex]; exact hn)
theorem df_lst' {K : PySem.W.Frag} {ta : TA} (n : Nat) (hn : n ≤ 16777216) (hl : ∀ ρ ds, fs ρ = some ds → ds.length = n) (ha : DA K ta fs) : DF K (tLst ta) (gLst' fs) := by
  intro B O σ H ρ d Q R e q
  refine df_lst ha B O σ H ρ d Q R ?_ q
  unfold gLst
  unfold gLst' at e
  rw [e]
  exact if_pos (by rw [hl ρ d e]; exact hn)
theorem y_tup {x1} (h : YAn X es n fs) (hn : n ≤ 16777216 := by decide) : YE X (.Tuple es x1 pos) (fTup' fs) := let ⟨_, p1, d1⟩ := h.ex; ⟨_, pe_tupF p1, de_tup' n hn h.len d1⟩
theorem yf_lst (h : YAn X es n fs) (hn : n ≤ 16777216 := by decide) : YF X (.List es pos) (gLst' fs) := let ⟨_, p1, d1⟩ := h.ex; ⟨_, pe_lst p1, df_lst' n hn h.len d1⟩
theorem y_f (h : YF X e fs) : YE X e (fOfF fs) := let ⟨_, p1, d1⟩ := h.ex; ⟨_, p1, de_f d1⟩
theorem y_lst (h : YAn X es n fs) (hn : n ≤ 16777216 := by decide) : YE X (.List es pos) (fOfF (gLst' fs)) := y_f (yf_lst h hn)
/-! subscripts -/
theorem y_ix (hr : Room k X.A) (ha : YE X a fa) (hb : YE X b fb) (hs : PlainIx b := by exact fun _ _ => rfl) : YE X (.Subscript a b pos) (f2 vIx fa fb) :=
  let ⟨_, p1, d1⟩ := ha.ex; let ⟨_, p2, d2⟩ := hb.ex; ⟨_, pe_orE (pe_ix ix_seq p1 p2 hs) (pe_dget (hu_of hr) p1 p2 hs), de_ix d1 d2⟩
structure YO (X : Cx) (e : Option Expr) (f : Rho → Option (Option Int)) : Prop where
  ex : ∃ t, PO X e t ∧ DO X.K t f
theorem yo_no : YO X none pNo := ⟨_, po_none, do_no⟩
theorem yo_some (h : YE X e fa) : YO X (some e) (pSome fa) := let ⟨_, p1, d1⟩ := h.ex; ⟨_, po_some p1, do_some d1⟩
theorem sl_u : L2.SlR X (rSlU X.K) := L2.SlR.or sl_list (L2.SlR.or sl_tupF sl_str)
theorem y_sl {lo hi : Option Expr} {fl fh : Rho → Option (Option Int)} (ha : YE X a fa) (hl : YO X lo fl) (hh : YO X hi fh) : YE X (.Subscript a (.Slice lo hi none p2) pos) (fSl fa fl fh) :=
  let ⟨_, p1, d1⟩ := ha.ex; let ⟨_, q1, e1⟩ := hl.ex; let ⟨_, q2, e2⟩ := hh.ex; ⟨_, pe_slice sl_u p1 q1 q2, de_sl d1 e1 e2⟩
/-! calls -/
theorem y_call {x : Str} {m j : Nat} {F : List D → Option D} (Fc : Fn X.prog X.w X.K X.mg X.base j x m F) (hr : Room k X.A) (hj : j ≤ k) (hg : Gl X x) (ha : YAn X (e :: es) m fs) (hdb : (x == ("__debug__" : Str)) = false := by decide)
    (he : starEach (e :: es) X.env = (false, eval e X.env) :: starEach es X.env := by rfl) (hpl : (backTo pos (starEach es X.env)).any (·.1) = false := by rfl) : YE X (.Call (.Name x p) (e :: es) [] pos) (fn F fs) :=
  let ⟨_, _, _, F1, hm, hk, hb⟩ := Fc.ex; let ⟨_, p1, d1⟩ := ha.ex
  ⟨_, pe_call F1 (hr.mono hj) hg hm hk hb .nil pass0 p1 hdb he hpl, de_call d1 ha.len⟩
theorem y_bi {x : Str} {id : String} {r : List V → Hp → VK → Prop} {g : List D → Option D} (hc : CallR X (.builtin id) r) (hn : RnD X.K r g) (hg : Gl X x) (hm : X.mg x = none) (hv : bootBuiltins x = some (.builtin id)) (ha : YAn X (e :: es) n fs)
    (h1 : x ≠ "__name__" := by decide) (hdb : (x == ("__debug__" : Str)) = false := by decide) (he : starEach (e :: es) X.env = (false, eval e X.env) :: starEach es X.env := by rfl) (hpl : (backTo pos (starEach es X.env)).any (·.1) = false := by rfl) : YE X (.Call (.Name x p) (e :: es) [] pos) (fn g fs) :=
  let ⟨_, p1, d1⟩ := ha.ex; ⟨_, pe_callB hc hg hm hv p1 h1 hdb he hpl, de_cb hn d1⟩
theorem y_ty {x : Str} {id : String} {r : List V → Hp → VK → Prop} {g : List D → Option D} (hc : CallR X (.type id) r) (hn : RnD X.K r g) (hg : Gl X x) (hm : X.mg x = none) (hv : bootBuiltins x = some (.type id)) (ha : YAn X (e :: es) n fs)
    (h1 : x ≠ "__name__" := by decide) (hdb : (x == ("__debug__" : Str)) = false := by decide) (he : starEach (e :: es) X.env = (false, eval e X.env) :: starEach es X.env := by rfl) (hpl : (backTo pos (starEach es X.env)).any (·.1) = false := by rfl) : YE X (.Call (.Name x p) (e :: es) [] pos) (fn g fs) :=
  let ⟨_, p1, d1⟩ := ha.ex; ⟨_, pe_callTy hc hg hm hv p1 h1 hdb he hpl, de_cb hn d1⟩
theorem c_len : CallR X (.builtin "len") (rLenA X.K) := CallR.or call_len_seq call_len_str
theorem c_int : CallR X (.type "int") rIntA := CallR.or call_int1 call_int_str
theorem c_min (hr : Room k X.A) (hc : X.calm = true) : CallR X (.builtin "min") (rMinA X.K) := CallR.or (cr_minD hr hc) (call_min2 hc)
theorem c_max (hr : Room k X.A) (hc : X.calm = true) : CallR X (.builtin "max") (rMaxA X.K) := CallR.or (cr_maxD hr hc) (call_max2 hc)
/-! methods -/
theorem y_m {T id : String} {name : Str} {o : Expr} {r : V → List V → Hp → VK → Prop} {g : D → List D → Option D} (pa : PlainAttrs T) (slot : Slot T name id) (hty : typeOf (.builtin id) = pure (.type "method_descriptor")) (hm : MtR X id r) (hr : RmD X.K T r g) (ho : YE X o fa) (ha : YAn X (e :: es) n fs)
    (hbase : attributeBase o name X.env (eval o X.env) = eval o X.env := by rfl)
    (hfew : ((backTo cpos (starEach (e :: es) X.env)).all (fun x => !x.1) && (backToKw cpos (keywordEach [] X.env)).all (fun x => x.1.isSome)
      && decide ((e :: es).length + ([] : List Keyword).length + (if ([] : List Keyword).isEmpty then 0 else 1) < 30)) = true := by rfl)
    (hline : (apos.endLine == cpos.line) = true := by rfl) (hs : starEach (e :: es) X.env = (false, eval e X.env) :: starEach es X.env := by rfl) (hplain : (backTo cpos (starEach es X.env)).any (·.1) = false := by rfl) :
    YE X (.Call (.Attribute o name apos) (e :: es) [] cpos) (fM g fa fs) :=
  let ⟨_, p1, d1⟩ := ho.ex; let ⟨_, p2, d2⟩ := ha.ex; ⟨_, pe_bm pa slot hty hm p1 p2 hbase hfew hline hs hplain, de_m hr d1 d2⟩
theorem y_join {o : Expr} (ho : YE X o fa) (ha : YAn X [e] 1 fs) (hbase : attributeBase o "join" X.env (eval o X.env) = eval o X.env := by rfl)
    (hfew : ((backTo cpos (starEach [e] X.env)).all (fun x => !x.1) && (backToKw cpos (keywordEach [] X.env)).all (fun x => x.1.isSome)
      && decide ([e].length + ([] : List Keyword).length + (if ([] : List Keyword).isEmpty then 0 else 1) < 30)) = true := by rfl)
    (hline : (apos.endLine == cpos.line) = true := by rfl) (hs : starEach [e] X.env = (false, eval e X.env) :: starEach [] X.env := by rfl) (hplain : (backTo cpos (starEach [] X.env)).any (·.1) = false := by rfl) :
    YE X (.Call (.Attribute o "join" apos) [e] [] cpos) (fM mJoin fa fs) := y_m F.plainAttrs_str F.slot_str_join F.type_str_join mt_join rm_join ho ha hbase hfew hline hs hplain
theorem y_index {o : Expr} (ho : YE X o fa) (ha : YAn X [e] 1 fs) (hbase : attributeBase o "index" X.env (eval o X.env) = eval o X.env := by rfl)
    (hfew : ((backTo cpos (starEach [e] X.env)).all (fun x => !x.1) && (backToKw cpos (keywordEach [] X.env)).all (fun x => x.1.isSome)
      && decide ([e].length + ([] : List Keyword).length + (if ([] : List Keyword).isEmpty then 0 else 1) < 30)) = true := by rfl)
    (hline : (apos.endLine == cpos.line) = true := by rfl) (hs : starEach [e] X.env = (false, eval e X.env) :: starEach [] X.env := by rfl) (hplain : (backTo cpos (starEach [] X.env)).any (·.1) = false := by rfl) :
    YE X (.Call (.Attribute o "index" apos) [e] [] cpos) (fM mIndex fa fs) := y_m F.plainAttrs_str F.slot_str_index F.type_str_index mt_sindex rm_index ho ha hbase hfew hline hs hplain
theorem y_count {o : Expr} (ho : YE X o fa) (ha : YAn X [e] 1 fs) (hbase : attributeBase o "count" X.env (eval o X.env) = eval o X.env := by rfl)
    (hfew : ((backTo cpos (starEach [e] X.env)).all (fun x => !x.1) && (backToKw cpos (keywordEach [] X.env)).all (fun x => x.1.isSome)
      && decide ([e].length + ([] : List Keyword).length + (if ([] : List Keyword).isEmpty then 0 else 1) < 30)) = true := by rfl)
    (hline : (apos.endLine == cpos.line) = true := by rfl) (hs : starEach [e] X.env = (false, eval e X.env) :: starEach [] X.env := by rfl) (hplain : (backTo cpos (starEach [] X.env)).any (·.1) = false := by rfl) :
    YE X (.Call (.Attribute o "count" apos) [e] [] cpos) (fM mCount fa fs) := y_m F.plainAttrs_str F.slot_str_count F.type_str_count mt_count rm_count ho ha hbase hfew hline hs hplain
/-! globals -/
theorem y_glob {x : Str} {v : V} {u : Value} {d : D} (hg : Gl X x) (hm : X.mg x = some u) (r : RelV v u) (hd' : ∀ H, Dn X.K H v d) (hd : (x == ("__debug__" : Str)) = false := by decide) : YE X (.Name x pos) (fC d) := ⟨_, pe_glob hg hm r hd, de_c hd'⟩
theorem y_gstr {x z : Str} (hg : Gl X x) (hm : ∃ t, X.mg x = some (.str z t)) (hd : (x == ("__debug__" : Str)) = false := by decide) : YE X (.Name x pos) (fC (.str z)) := let ⟨t, h⟩ := hm; y_glob hg h (v := .str z) ⟨t, rfl⟩ (fun _ => .str z) hd
theorem y_gint {x : Str} {i : Int} (hg : Gl X x) (hm : ∃ t, X.mg x = some (.int i t)) (hd : (x == ("__debug__" : Str)) = false := by decide) : YE X (.Name x pos) (fC (.int i)) := let ⟨t, h⟩ := hm; y_glob hg h (v := .int i) ⟨t, rfl⟩ (fun _ => .int i) hd
/-! walks -/
variable {tg : Expr} {fi : Rho → Option (List D)} {h : D → Rho → Option Rho} {ts : List Nat}
theorem yi_seq (ha : YE X a fa) : YI X tg a (iF fa) := let ⟨_, p1, d1⟩ := ha.ex; ⟨_, pi_or (pi_list p1) (pi_or (pi_tup p1) (pi_str p1)), di_seq3 d1⟩
theorem yi_rg1 (hg : Gl X "range") (hm : X.mg "range" = none) (ha : YE X a fa) (hs : starEach [a] X.env = [(false, eval a X.env)] := by rfl) : YI X tg (.Call (.Name "range" p) [a] [] pos) (iRg1 fa) :=
  let ⟨_, p1, d1⟩ := ha.ex; ⟨_, pi_range1 hg hm (pa_cons p1 pa_nil (by rw [hs]; rfl)) hs, di_rg1 d1⟩
theorem yi_rg2 (hg : Gl X "range") (hm : X.mg "range" = none) (ha : YE X a fa) (hb : YE X b fb) (hs : starEach [a, b] X.env = [(false, eval a X.env), (false, eval b X.env)] := by rfl) (hs2 : starEach [b] X.env = [(false, eval b X.env)] := by rfl) : YI X tg (.Call (.Name "range" p) [a, b] [] pos) (iRg2 fa fb) :=
  let ⟨_, p1, d1⟩ := ha.ex; let ⟨_, p2, d2⟩ := hb.ex; ⟨_, pi_range2 hg hm (pa_cons p1 (pa_cons p2 pa_nil (by rw [hs2]; rfl)) (by rw [hs, hs2])) hs hs2, di_rg2 d1 d2⟩
/-! targets -/
theorem yg_name (i : Nat) {x : Str} (hN : X.N.Nodup) (hi : X.N[i]? = some x) (hx : Loc X.env.scope x) (hf : X.fn x = true ∨ X.env.scope.names.lookup x = some .local := by first | exact .inl rfl | exact .inr rfl | assumption) : YG X (.Name x pos) [i] (hName i) := ⟨_, pg_name hN hi hx hf, dg_name i⟩
theorem ygs_nil : YGs X [] [] hNil := ⟨_, pgs_nil, dgs_nil⟩
variable {hs : List D → Rho → Option Rho} {us : List Nat}
theorem ygs_cons (h1 : YG X e ts h) (h2 : YGs X es us hs) (hs' : (assignEach (e :: es) X.env).map (·.2) = assign e X.env :: (assignEach es X.env).map (·.2) := by rfl) : YGs X (e :: es) (ts ++ us) (hCons h hs) :=
  let ⟨_, p1, d1⟩ := h1.ex; let ⟨_, p2, d2⟩ := h2.ex; ⟨_, pgs_cons p1 p2 hs', dgs_cons d1 d2⟩
theorem yg_tup {j : Nat} (hc : X.calm = true) (h1 : YGs X es ts hs) (hn : (assignEach es X.env).length = n := by rfl) (hst : (assignEach es X.env).findIdx? (·.1) = none := by rfl) {w : Bool} : YG X (.Tuple es j pos) ts (hTup n hs) w :=
  let ⟨_, p1, d1⟩ := h1.ex; ⟨_, pg_tup hc p1 hn hst, dg_tup d1⟩
/-! comprehensions -/
structure YTs (X : Cx) (ifs : List Expr) (f : Rho → Option Bool) : Prop where
  ex : ∃ t, PTs X ifs t ∧ DT X.K t f
theorem yts_no : YTs X [] tYesF := ⟨_, pts_nil, dt_yes⟩
theorem yts_one (h : YT X c ft) : YTs X [c] ft := let ⟨_, p1, d1⟩ := h.ex; ⟨_, pts_one p1, d1⟩
end
end PV

namespace PV
open PySem PySem.Spec PyProof.Rows L2
/-! ### the widest reading of a denotation -/
def tP (K : PySem.W.Frag) (f : Rho → Option D) : TE := fun σ H Q => ∃ B O ρ d, Rel K B O σ H ρ ∧ f ρ = some d ∧ ∀ v H', Same H H' → Dn K (hd O H') v d → Q v H'
def tPT (K : PySem.W.Frag) (f : Rho → Option Bool) : TT := fun σ H Q => ∃ B O ρ d, Rel K B O σ H ρ ∧ f ρ = some d ∧ ∀ H', Same H H' → Q d H'
def tPG (K : PySem.W.Frag) (ts : List Nat) (h : D → Rho → Option Rho) (w : Bool := false) : TG := fun v σ H Q => ∃ B O ρ d ρ', Rel K B O σ H ρ ∧ DnB K w (hd O H) v d ∧ h d ρ = some ρ' ∧ ∀ σ', Rel K B O σ' H ρ' → σ'.length = σ.length → (∀ j, j ∉ ts → σ'[j]? = σ[j]?) → Q σ' H
section
variable {X : Cx} {e : Expr}
theorem YE.pe {f : Rho → Option D} (h : YE X e f) : PE X e (tP X.K f) := by
  obtain ⟨t, p, d⟩ := h.ex
  refine ⟨fun pins s σ H Q I q => ?_⟩
  obtain ⟨B, O, ρ, d', R, e', q⟩ := q
  exact p.run pins s σ H Q I (d B O σ H ρ d' Q R e' q)
theorem YTs.pe {es : List Expr} {f : Rho → Option Bool} (h : YTs X es f) : PTs X es (tPT X.K f) := by
  obtain ⟨t, p, d⟩ := h.ex
  refine ⟨fun pins s σ H Q I q => ?_⟩
  obtain ⟨B, O, ρ, d', R, e', q⟩ := q
  exact p.run pins s σ H Q I (d B O σ H ρ d' Q R e' q)
theorem YG.pe {ts : List Nat} {h : D → Rho → Option Rho} {w : Bool} (g : YG X e ts h w) : PG X e (tPG X.K ts h w) := by
  obtain ⟨t, p, d⟩ := g.ex
  refine ⟨fun pins s σ H v u Q I r q => ?_⟩
  obtain ⟨B, O, ρ, d', ρ', R, n, e', q⟩ := q
  exact p.run pins s σ H v u Q I r (d B O σ H ρ v d' ρ' Q R n e' q)
theorem de_tP {K : PySem.W.Frag} {f : Rho → Option D} : DE K (tP K f) f := fun B O σ H ρ d Q R e q => ⟨B, O, ρ, d, R, e, q⟩
theorem dt_tP {K : PySem.W.Frag} {f : Rho → Option Bool} : DT K (tPT K f) f := fun B O σ H ρ d Q R e q => ⟨B, O, ρ, d, R, e, q⟩
theorem dg_tP {K : PySem.W.Frag} {ts : List Nat} {h : D → Rho → Option Rho} {w : Bool} : DG K (tPG K ts h w) ts h w := fun B O σ H ρ v d ρ' Q R n e q => ⟨B, O, ρ, d, ρ', R, n, e, q⟩
end
section
variable {X : Cx} {elt tg iter : Expr} {ifs : List Expr} {scope : Scope} {own : List (Str × Nat)} {pos spos py : Pos} {fi : Rho → Option (List D)} {h : D → Rho → Option Rho} {ft : Rho → Option Bool} {fe : Rho → Option D} {ts vs : List Nat}
theorem yf_lc (hc : X.calm = true) (hN : X.N.Nodup) (ok : BlkOk X.N X.env.scope scope own) {wb : Bool} (hi : YI X tg iter fi wb)
    (hg : ∀ (s : Shared) (H : Hp) (C : Addr) (cl : List (Str × Addr)) (fp : List Addr), YG (X.blk s H scope (compEnvC scope cl C X.env) fp) tg ts h wb) (hsub : ∀ j ∈ ts, j ∈ vs)
    (ht : ∀ (s : Shared) (H : Hp) (C : Addr) (cl : List (Str × Addr)) (fp : List Addr), YTs (X.blk s H scope (compEnvC scope cl C X.env) fp) ifs ft)
    (he : ∀ (s : Shared) (H : Hp) (C : Addr) (cl : List (Str × Addr)) (fp : List Addr), YE (X.blk s H scope (compEnvC scope cl C X.env) fp) elt fe) (hs : ∀ x, foldedSetIterable iter X.env x = pure x := by intro _; rfl) (hv : own.map (·.2) = vs := by rfl) :
    YF X (.ListComp elt [⟨tg, iter, ifs, 0⟩] scope pos) (gLc fi h ft fe vs) := by
  subst hv
  obtain ⟨wi, pi, di⟩ := hi.ex
  exact ⟨_, pe_lc hc hN pi ok (fun s H C cl fp => (hg s H C cl fp).pe) (fun s H C cl fp => (ht s H C cl fp).pe) (fun s H C cl fp => (he s H C cl fp).pe) hs, df_lc di dg_tP hsub dt_tP de_tP⟩
theorem ys_setLc (i : Nat) {y : Str} (hc : X.calm = true) (hN : X.N.Nodup) (hy : X.N[i]? = some y) (hyl : X.env.scope.names.lookup y = some .local)
    (hsw : swapsWith (.ListComp elt [⟨tg, iter, ifs, 0⟩] scope pos) (some (.Name y py)) spos.line X.env = pure true) (ok : BlkOk X.N X.env.scope scope own) {wb : Bool} (hi : YI X tg iter fi wb)
    (hg : ∀ (s : Shared) (H : Hp) (C : Addr) (cl : List (Str × Addr)) (fp : List Addr), YG (X.blk s H scope (compEnvC scope cl C X.env) fp) tg ts h wb) (hsub : ∀ j ∈ ts, j ∈ vs)
    (ht : ∀ (s : Shared) (H : Hp) (C : Addr) (cl : List (Str × Addr)) (fp : List Addr), YTs (X.blk s H scope (compEnvC scope cl C X.env) fp) ifs ft)
    (he : ∀ (s : Shared) (H : Hp) (C : Addr) (cl : List (Str × Addr)) (fp : List Addr), YE (X.blk s H scope (compEnvC scope cl C X.env) fp) elt fe) (hs : ∀ x, foldedSetIterable iter X.env x = pure x := by intro _; rfl) (hv : own.map (·.2) = vs := by rfl) :
    YS X (.Assign [.Name y py] (.ListComp elt [⟨tg, iter, ifs, 0⟩] scope pos) spos) (sSetG (fOfF (gLc fi h ft fe vs)) (hName i)) := by
  subst hv
  obtain ⟨wi, pi, di⟩ := hi.ex
  exact ⟨_, L2.ps_setLc hc hN hy hyl hsw pi ok (fun s H C cl fp => (hg s H C cl fp).pe) (fun s H C cl fp => (ht s H C cl fp).pe) (fun s H C cl fp => (he s H C cl fp).pe) hs, ds_asg (de_f (df_lc di dg_tP hsub dt_tP de_tP)) (dg_name i)⟩
end
/-! ### statements -/
section
variable {X : Cx} {a b e : Expr} {st : Stmt} {rest body : List Stmt} {fa fb : Rho → Option D} {g g' : Rho → Option Out} {ft : Rho → Option Bool} {h : D → Rho → Option Rho} {ts : List Nat} {pos pos' : Pos} {fi : Rho → Option (List D)}
theorem yb_nil : YB X [] sNext := ⟨_, pss_nil, ds_next⟩
theorem yb_one (h1 : YS X st g) : YB X [st] g := let ⟨_, p, d⟩ := h1.ex; ⟨_, pss_one p, d⟩
theorem yb_cons (h1 : YS X st g) (h2 : YB X rest g') : YB X (st :: rest) (sSeq g g') := let ⟨_, p, d⟩ := h1.ex; let ⟨_, p2, d2⟩ := h2.ex; ⟨_, pss_cons p p2, ds_seq d d2⟩
theorem ys_set (i : Nat) {x : Str} (hN : X.N.Nodup) (hi : X.N[i]? = some x) (hx : Loc X.env.scope x) (he : YE X e fa) (hs : swapsWith e (some (.Name x pos')) pos.line X.env = pure false := by rfl) (hf : X.fn x = true ∨ X.env.scope.names.lookup x = some .local := by first | exact .inl rfl | exact .inr rfl | assumption) :
    YS X (.Assign [.Name x pos'] e pos) (sSetG fa (hName i)) := let ⟨_, p, d⟩ := he.ex; ⟨_, L2.ps_set hN hi hx p hs hf, ds_asg d (dg_name i)⟩
theorem ys_asg {tg : Expr} (he : YE X e fa) (hg : YG X tg ts h) (hs : swapsWithSole [tg] e pos.line X.env = pure false := by rfl) (hw : swappedStores [tg] e X.env = pure none := by rfl)
    (h1 : (assignEach [tg] X.env).map (·.2) = [assign tg X.env] := by rfl) : YS X (.Assign [tg] e pos) (sSetG fa h) := let ⟨_, p, d⟩ := he.ex; let ⟨_, p2, d2⟩ := hg.ex; ⟨_, ps_asg p p2 hs hw h1, ds_asg d d2⟩
def sPar (i j : Nat) (fa : Rho → Option (List D)) : Rho → Option Out := fun ρ => (fa ρ).bind fun ds => match ds with
  | [x, y] => some (.nx ((ρ.set i (some (.val x))).set j (some (.val y))))
  | _ => none
theorem ds_par {K : PySem.W.Frag} {i j : Nat} {ta : TA} {f : Rho → Option (List D)} (ha : DA K ta f) : DS K (tPar i j ta) (sPar i j f) := by
  intro B O σ H ρ o D R e q
  obtain ⟨ds, e1, e⟩ := Option.bind_eq_some_iff.mp e
  refine ha B O σ H ρ ds _ R e1 fun vs H1 s1 n1 => ?_
  split at e
  · cases e
    cases n1 with | cons m1 m2 =>
      cases m2 with | cons m2 m3 =>
        cases m3
        exact ⟨_, _, rfl, q O _ H1 (R.tr s1) (((R.mono s1).set i m1).set j m2)⟩
  · cases e
theorem ys_par (i j : Nat) {x y : Str} {px py pt : Pos} {kt k2 pt2} {fs : Rho → Option (List D)} (hc : X.calm = true) (hN : X.N.Nodup) (hi : X.N[i]? = some x) (hj : X.N[j]? = some y) (hij : i ≠ j)
    (hx : X.env.scope.names.lookup x = some .local) (hy : X.env.scope.names.lookup y = some .local) (ha : YAn X [a, b] 2 fs)
    (hw : swappedStores [.Tuple [.Name x px, .Name y py] kt pt] (.Tuple [a, b] k2 pt2) X.env = pure (some [x, y]) := by rfl)
    (hs : swapsWithSole [.Tuple [.Name x px, .Name y py] kt pt] (.Tuple [a, b] k2 pt2) pos.line X.env = pure false := by rfl) :
    YS X (.Assign [.Tuple [.Name x px, .Name y py] kt pt] (.Tuple [a, b] k2 pt2) pos) (sPar i j fs) := let ⟨_, p, d⟩ := ha.ex; ⟨_, L2.ps_par hc hN hi hj hij hx hy p hw hs, ds_par d⟩
theorem ys_if (hc : YT X e ft) (ha : YB X body g) (hb : YB X rest g') : YS X (.If e body rest pos) (sIf ft g g') := let ⟨_, p0, d0⟩ := hc.ex; let ⟨_, p, d⟩ := ha.ex; let ⟨_, p2, d2⟩ := hb.ex; ⟨_, ps_if p0 p p2, ds_if d0 d d2⟩
theorem ys_ret (he : YE X e fa) : YS X (.Return (some e) pos) (sRet fa) := let ⟨_, p, d⟩ := he.ex; ⟨_, ps_ret p, ds_ret d⟩
theorem ys_retN : YS X (.Return none pos) sRetN := ⟨_, ps_retN, ds_retN⟩
theorem ys_expr (he : YE X e fa) (hs : swapsWith e none pos.line X.env = pure false := by rfl) : YS X (.Expr e pos) (sDrop fa) := let ⟨_, p, d⟩ := he.ex; ⟨_, ps_expr p hs, ds_drop d⟩
theorem ys_doc {x j} : YS X (.Expr (.Constant (.str x) j pos) pos') sNext := ⟨_, ps_doc, ds_next⟩
theorem ys_pass : YS X (.Pass pos) sNext := ⟨_, ps_pass, ds_next⟩
theorem ys_brk : YS X (.Break pos) sBrk := ⟨_, ps_break, ds_brk⟩
theorem ys_cnt : YS X (.Continue pos) sCnt := ⟨_, ps_continue, ds_cnt⟩
theorem ys_never : YS X st sNever := ⟨_, ps_never, ds_never fun _ => rfl⟩
theorem ys_for {tg iter : Expr} (hp : PassesOwn (model X.prog X.w) X.A X.env X.xe) (hc : X.calm = true) {wb : Bool} (hi : YI X tg iter fi wb) (hg : YG X tg ts h wb) (hb : YB X body g) (hs : ∀ x, foldedSetIterable iter X.env x = pure x := by intro _; rfl) :
    YS X (.For tg iter body [] pos) (sFor fi h g) := let ⟨_, p0, d0⟩ := hi.ex; let ⟨_, p, d⟩ := hg.ex; let ⟨_, p2, d2⟩ := hb.ex; ⟨_, ps_for hp hc p0 p p2 hs, ds_for d0 d d2⟩
theorem ys_while (n : Nat) (hp : PassesOwn (model X.prog X.w) X.A X.env X.xe) (hc : YT X e ft) (hb : YB X body g) : YS X (.While e body [] pos) (sWhile n ft g) := let ⟨_, p, d⟩ := hc.ex; let ⟨_, p2, d2⟩ := hb.ex; ⟨_, ps_while hp p p2, ds_while d d2⟩
end
/-! ### a def of the text -/
abbrev FnP (K : PySem.W.Frag) (x : Str) (st : Stmt) (f : Addr) (fd : FuncData) : Prop := FunD K x x (defArgs st) (defBody st) (defScope st) [] [] f fd
section
variable {P : Program} {w : World} {K : PySem.W.Frag} {mg : Str → Option Value} {base : Heap}
theorem fn_ok {x : Str} {st : Stmt} {f : Addr} {fd : FuncData} {N ps : List Str} {m k : Nat} {g : Rho → Option Out} (Fd : FnP K x st f fd) (S : FnScope N ps (defScope st)) (hm : ps.length = m)
    (hb : ∀ (cdv : Value) (A : Around) (outer : List Env) (s : Shared) (H : Hp) (E : XK), Room k (A.deeper (envOfC x (defScope st) s.heap.objs.size f cdv)) →
      YB (cxOf CX0 P w K mg base N x (defScope st) f cdv A outer s H E).nox (defBody st) g) : FnOk P w K mg base CX0 (k + 1) f fd ps (spP K m (runF N.length g)) := by
  refine Fd.ok S (fun vs H Q E h => (sp_len h).trans hm.symm) (fun cdv A outer s H vs Q E hr h => ?_)
  obtain ⟨t, p, d⟩ := (hb cdv A outer s H E hr).ex
  exact ⟨t, PSs.nox p, sp_body d h⟩
theorem fn_mk {x : Str} {st : Stmt} {f : Addr} {fd : FuncData} {N ps : List Str} {m k : Nat} {g : Rho → Option Out} (Fd : FnP K x st f fd) (S : FnScope N ps (defScope st)) (hm : ps.length = m) (gx : mg x = some (.ref f))
    (hbind : ∀ (kV doc pm : Value) (an : Option Addr) (cdv ct : Value) (us : List Value), us.length = ps.length → bindArgs (PySem.W.fnOf x x (defArgs st) (defBody st) (defScope st) .none kV doc pm an cdv ct) ⟨us, []⟩ = pure (ps.zip us))
    (hb : ∀ (cdv : Value) (A : Around) (outer : List Env) (s : Shared) (H : Hp) (E : XK), Room k (A.deeper (envOfC x (defScope st) s.heap.objs.size f cdv)) →
      YB (cxOf CX0 P w K mg base N x (defScope st) f cdv A outer s H E).nox (defBody st) g) : Fn P w K mg base (k + 1) x m (runF N.length g) :=
  ⟨f, fd, ps, fn_ok Fd S hm hb, gx, Fd.kp, Fd.bindsN hbind⟩
end
end PV

namespace PV
open PySem PySem.Spec PyProof.Rows L2
/-! ### text[::k] -/
def stepS (z : Str) (k : Int) : Str := if ((k == 1) && (Builtin.Str.strSliceIndices none none k z.length).length == z.length) = true then z else ⟨((Builtin.Str.strSliceIndices none none k z.length).filterMap (z.cps[·]?)).toArray⟩
def vStep : D → D → Option D
  | .str z, .int k => if k ≠ 0 ∧ z.length ≤ 16777216 ∧ (stepS z k).length ≤ 16777216 then some (.str (stepS z k)) else none
  | _, _ => none
def tStepS (te ts : TE) : TE := fun σ H Q => te σ H fun x H1 => ts σ H1 fun y H2 => ∃ z k, x = .str z ∧ y = .int k ∧ k ≠ 0 ∧ (stepS z k).length ≤ sizeLine ∧ Q (.str (stepS z k)) H2
section
variable {X : Cx} {e st : Expr} {te ts : TE} {p3 pos : Pos}
theorem pe_stepS (he : PE X e te) (hst : PE X st ts) : PE X (.Subscript e (.Slice none none (some st) p3) pos) (tStepS te ts) := by
  refine ⟨fun pins s σ H Q I h => ?_⟩
  refine Subscript_ (thn (he.run pins s σ H _ I h) fun v s1 ⟨x, H1, I1, r1, q1⟩ => ?_)
  refine wpAny_Slice ?_
  rw [evalPart_none]
  refine wpAny_pure ?_
  rw [evalPart_some]
  refine wpAny_pure ?_
  refine thn (hst.run pins s1 σ H1 _ I1 q1) fun vs s3 ⟨y, H3, I3, r3, z, k, ex, ey, hk, hl, q3⟩ => ?_
  subst ex
  subst ey
  obtain ⟨t, rfl⟩ := r1
  obtain ⟨t3, rfl⟩ := r3
  have I4 : Inv X pins σ H3 { s3 with heap := s3.heap.push { cls := .type "slice", data := .fields #[.none, .none, .int k t3] } } := I3.kept (t' := s3.toks) fun b ob q => Heap.get?_push_of_some _ q
  show wpAny (model X.prog X.w) X.A (subscriptTail e (.Slice none none (some st) p3) (.str z t) (.ref s3.heap.objs.size)) (EP X pins σ Q) X.xe { s3 with heap := s3.heap.push { cls := .type "slice", data := .fields #[.none, .none, .int k t3] } }
  refine tail_any (ops := [.ref s3.heap.objs.size, .str z t]) (typeIs_str _ _ _) F.slot_str_getitem.lookup ?_ (by with_unfolding_all rfl)
  refine wpAny_getItem_str_slice (l := none) (u := none) (st := some (k, t3)) ⟨_, Heap.get?_push_size _ rfl, rfl, rfl⟩ (by simpa using hk) ?_
  show Made.post (if (k == 1 && (Builtin.Str.strSliceIndices none none k z.length).length == z.length) = true then Made.val (.str z t)
    else Made.str ⟨((Builtin.Str.strSliceIndices none none k z.length).filterMap (z.cps[·]?)).toArray⟩) (EP X pins σ Q) _
  unfold stepS at q3 hl
  by_cases c : (k == 1 && (Builtin.Str.strSliceIndices none none k z.length).length == z.length) = true
  · rw [if_pos c] at q3 ⊢
    exact ⟨.str z, H3, I4, ⟨t, rfl⟩, q3⟩
  · rw [if_neg c] at q3 hl ⊢
    exact ⟨hl, .str _, H3, I4.tok _, ⟨_, rfl⟩, q3⟩
theorem de_stepS {K : PySem.W.Frag} {fa fb : Rho → Option D} (ha : DE K te fa) (hb : DE K ts fb) : DE K (tStepS te ts) (f2 vStep fa fb) := by
  intro B O σ H ρ d Q R e q
  obtain ⟨x, ex, e⟩ := Option.bind_eq_some_iff.mp e
  obtain ⟨y, ey, e⟩ := Option.bind_eq_some_iff.mp e
  refine ha B O σ H ρ x _ R ex fun v H1 s1 n1 => ?_
  refine hb B O σ H1 ρ y _ (R.mono s1) ey fun u H2 s2 n2 => ?_
  unfold vStep at e
  split at e
  · split at e
    · rename_i h
      cases e
      cases n1
      cases n2
      exact ⟨_, _, rfl, rfl, h.1, by rw [line_eq]; exact h.2.2, q _ _ (s1.trans s2) (.str _)⟩
    · cases e
  · cases e
theorem y_stepS {fa fb : Rho → Option D} (ha : YE X e fa) (hb : YE X st fb) : YE X (.Subscript e (.Slice none none (some st) p3) pos) (f2 vStep fa fb) := let ⟨_, p1, d1⟩ := ha.ex; let ⟨_, p2, d2⟩ := hb.ex; ⟨_, pe_stepS p1 p2, de_stepS d1 d2⟩
end
end PV

namespace PV
open PySem PySem.Spec PyProof.Rows L2
theorem dn_ints {K : PySem.W.Frag} {H : Hp} : ∀ ns : List Int, DnA K H (ns.map V.int) (ns.map PyData.int)
  | [] => .nil
  | n :: r => .cons (.int n) (dn_ints r)
theorem law_end {K : PySem.W.Frag} {H : Hp} {a : Addr} {ns : List Int} {F : List D → Option D} (hS : SqL K H a (ns.map V.int)) (h : F [.list (ns.map .int)] = some (.bool true)) : spP K 1 F [.ref a] H (fun v _ => v = .bl true) (fun _ _ _ => False) := by
  have e : hd (fun _ => False) H = H := by
    funext b
    exact hd_of id
  refine ⟨fun _ => False, [.list (ns.map .int)], .bool true, rfl, fun _ z => z.elim, ?_, h, fun v H' _ n => ?_⟩
  · rw [e]
    exact .cons (.lst hS (dn_ints ns)) .nil
  · cases n
    rfl
/-- turns that a while is given -/
def fuel : Nat := 1000000000000
end PV

namespace PV
open PySem PySem.Spec PyProof.Rows L2
/-! ### enumerate, zip over lists, tuples, texts -/
theorem meets_enumerate_new1 {v : Value} {o : Obj} {Hh : Heap → Prop} (B : Begins v o Hh) :
    Meets (Builtin.«enumerate.__new__» ⟨[.type "enumerate", v], []⟩) (fun _ R s => Hh s.heap ∧
      R (.ok (.ret (.ref (s.heap.push o).objs.size))) { s with heap := (s.heap.push o).push { cls := .type "enumerate", data := .fields #[.none, .bool false, .ref s.heap.objs.size, rawInt 0, .none, .none] } }) :=
  .of_wp fun prog w A R s h => by
    obtain ⟨hp, g, d, tk, os⟩ := s; obtain ⟨h1, h⟩ := h
    have hsub := sub_enumerate
    have q1 : ∀ {A' : Around} {E : Value → Shared → Prop} {Q : Value → Shared → Prop}, Q (.ref hp.objs.size) ⟨hp.push o, g, d, tk, os⟩ → wpAny (model prog w) A' (pyIter v) Q E ⟨hp, g, d, tk, os⟩ :=
      fun q => B.iter prog w _ _ ⟨hp, g, d, tk, os⟩ _ h1 q
    wp_walk using q1
    refine wpAny_stack_any fun st => wpAny_pure ?_
    split
    · rename_i c _ _ _ _ _
      cases (c == Value.type "enumerate")
      · wp_walk using q1
        exact ⟨_, rfl, h⟩
      · wp_walk using q1
        exact ⟨_, rfl, h⟩
    · wp_walk using q1
      exact ⟨_, rfl, h⟩
section
variable {prog : Program} {w : World} {A : Around} {E : Value → Shared → Prop} {s : Shared}
theorem enum_begins1 {v : Value} {o : Obj} {Hh : Heap → Prop} {Q : Value → Shared → Prop} (B : Begins v o Hh) (h1 : Hh s.heap)
    (h : ∀ h', IsEnum h' (s.heap.objs.size + 1) s.heap.objs.size 0 .none → h'.get? s.heap.objs.size = some o → h'.objs.size = s.heap.objs.size + 2 →
      (∀ b o, s.heap.get? b = some o → h'.get? b = some o) → Q (.ref (s.heap.objs.size + 1)) { s with heap := h' }) :
    wpAny (model prog w) A (call (.type "enumerate") [v]) Q E s := by
  refine callType_new F.called_enumerate (by decide) (F.typeCall_enumerate_1 _) (F.newCall_enumerate_1 _) (fun obj => F.args_object_init_2 obj _) F.entry_enumerate_new
    (meets_enumerate_new1 B) ⟨h1, ?_⟩
  have hz : (s.heap.push o).objs.size = s.heap.objs.size + 1 := Heap.size_push ..
  show _ ∧ _
  rw [hz]
  have he : IsEnum ((s.heap.push o).push { cls := .type "enumerate", data := .fields #[.none, .bool false, .ref s.heap.objs.size, rawInt 0, .none, .none] }) (s.heap.objs.size + 1) s.heap.objs.size 0 .none := by
    have := Heap.get?_push_size (s.heap.push o) (o := { cls := .type "enumerate", data := .fields #[.none, .bool false, .ref s.heap.objs.size, rawInt 0, .none, .none] }) rfl
    rw [hz] at this; exact this
  refine ⟨⟨_, he, rfl⟩, h _ he (Heap.get?_push_of_some _ (Heap.get?_push_size _ B.free)) (by rw [Heap.size_push, hz]) fun b o x => Heap.get?_push_of_some _ (Heap.get?_push_of_some _ x)⟩
end
/-- what is walked: a list, a tuple, a text -/
inductive SK where
  | l (a : Addr) | t (a : Addr) | s (z : Str) (u : Tok)
/-- its items, as they stand -/
def SK.Ok (K : PySem.W.Frag) (H : Hp) : SK → List V → Prop
  | .l a, xs => SqL K H a xs
  | .t a, xs => SqT K H a xs
  | .s z _, xs => xs = z.cps.toList.map fun c => V.str ⟨#[c]⟩
def SK.obj : SK → Obj
  | .l a => { cls := .type "list_iterator", data := .fields #[.ref a, .int 0 0] }
  | .t a => { cls := .type "tuple_iterator", data := .fields #[.ref a, .int 0 0] }
  | .s z u => { cls := .type (strIterType z), data := .fields #[.str z u, .int 0 0] }
def SK.It (it : Addr) (i : Nat) (h : Heap) : SK → Prop
  | .l a => h.IsListIter it a i
  | .t a => h.IsTupleIter it a i
  | .s z u => h.IsStrIter it (strIterType z) z u i
/-- the cells that it leans on besides the iterator -/
def SK.fp : SK → List Addr
  | .l a => [a]
  | .t a => [a]
  | .s _ _ => []
def SK.v : SK → Value
  | .l a => .ref a
  | .t a => .ref a
  | .s z u => .str z u
theorem SK.It.obj {it : Addr} {i : Nat} {h : Heap} : ∀ {k : SK}, k.It it i h → ∃ o, h.get? it = some o ∧ ∀ v, o.data ≠ .cell v
  | .l _, ⟨o, ho, _, hd⟩ => ⟨o, ho, fun v e => by rw [hd] at e; cases e⟩
  | .t _, ⟨o, ho, _, hd⟩ => ⟨o, ho, fun v e => by rw [hd] at e; cases e⟩
  | .s _ _, ⟨o, ho, _, hd⟩ => ⟨o, ho, fun v e => by rw [hd] at e; cases e⟩
theorem SK.It.keep {it : Addr} {i : Nat} {h h' : Heap} (e : ∀ o, h.get? it = some o → h'.get? it = some o) : ∀ {k : SK}, k.It it i h → k.It it i h'
  | .l _, ⟨o, ho, r⟩ => ⟨o, e _ ho, r⟩
  | .t _, ⟨o, ho, r⟩ => ⟨o, e _ ho, r⟩
  | .s _ _, ⟨o, ho, r⟩ => ⟨o, e _ ho, r⟩
theorem SK.It.new {it : Addr} {h : Heap} : ∀ {k : SK}, h.get? it = some k.obj → k.It it 0 h
  | .l _, e => ⟨_, e, rfl, rfl⟩
  | .t _, e => ⟨_, e, rfl, rfl⟩
  | .s _ _, e => ⟨_, e, rfl, rfl⟩
section
variable {X : Cx} {pins : List (Addr × Obj)} {σ : L2.St} {H : Hp} {s : Shared}
/-- its iterator draws its items, whatever runs around -/
theorem SK.draws (I : Inv X pins σ H s) {k : SK} {xs : List V} {it : Addr} {i : Nat} (hx : k.Ok X.K H xs) (hit : k.It it i s.heap) (hn : H it = none) (hb : ∀ a o, X.K.lookup a = some o → a ≠ it) :
    ∃ (P : Nat → Value → Prop) (St : Nat → Heap → Prop), (∀ A : Around, A.handled = none → Draws X.prog X.w A it (it :: k.fp) xs.length P St) ∧ St i s.heap ∧ (∀ j h, St j h → k.It it j h) ∧ (∀ j v, P j v → ∃ x, xs[j]? = some x ∧ RelV x v) ∧ ∀ b ∈ k.fp, b < s.heap.objs.size ∧ b ≠ it := by
  cases k with
  | l a =>
    obtain ⟨its, rv, p, hz⟩ := I.list hx
    have hl := rv.length
    have hne : a ≠ it := fun e => by
      subst e
      obtain ⟨o, n, e1, e2, _⟩ := p
      obtain ⟨o', e3, e4, _⟩ := hit
      rw [e1] at e3; cases e3; rw [e2] at e4; exact absurd (Value.type.inj e4) (by decide)
    refine ⟨fun i v => its.toArray[i]? = some v, fun i h => h.IsListIter it a i ∧ h.IsList a its.toArray, fun A hh => by have := Draws.list (prog := X.prog) (w := X.w) (A := A) hh it a hne its.toArray; rw [List.size_toArray, ← hl] at this; exact this, ⟨hit, p.isList⟩, fun j h st => st.1, fun j v hv => ?_, fun b hb => ?_⟩
    · exact vals_getI rv (by simpa using hv)
    · have : b = a := by simpa [SK.fp] using hb
      subst this
      exact ⟨p.lt, hne⟩
  | t a =>
    obtain ⟨its, rv, p, hz⟩ := I.tuple hx
    have hl := rv.length
    have hne : a ≠ it := fun e => by
      subst e
      obtain ⟨o, e1, e2, _⟩ := p
      obtain ⟨o', e3, e4, _⟩ := hit
      rw [e1] at e3; cases e3; rw [e2] at e4; exact absurd (Value.type.inj e4) (by decide)
    refine ⟨fun i v => its.toArray[i]? = some v, fun i h => h.IsTupleIter it a i ∧ h.IsTuple a its.toArray, fun A hh => by have := Draws.tuple (prog := X.prog) (w := X.w) (A := A) hh it a hne its.toArray; rw [List.size_toArray, ← hl] at this; exact this, ⟨hit, p⟩, fun j h st => st.1, fun j v hv => ?_, fun b hb => ?_⟩
    · exact vals_getI rv (by simpa using hv)
    · have : b = a := by simpa [SK.fp] using hb
      subst this
      exact ⟨p.lt, hne⟩
  | s z u =>
    have hx' : xs = z.cps.toList.map fun c => V.str ⟨#[c]⟩ := hx
    subst hx'
    refine ⟨fun i v => ∃ c u, z.cps[i]? = some c ∧ v = .str ⟨#[c]⟩ u, fun i h => h.IsStrIter it (strIterType z) z u i, fun A hh => by have := Draws.text (prog := X.prog) (w := X.w) (A := A) hh it z u; rw [List.length_map, Array.length_toList]; exact this, hit, fun j h st => st, fun j v hv => ?_, fun b hb => by cases hb⟩
    obtain ⟨c, t, hc, rfl⟩ := hv
    refine ⟨.str ⟨#[c]⟩, ?_, ⟨t, rfl⟩⟩
    rw [List.getElem?_map, Array.getElem?_toList, hc]
    rfl
theorem SK.notFp (I : Inv X pins σ H s) {k : SK} {xs : List V} (hq : k.Ok X.K H xs) {e it : Addr} (hne : e ≠ it) {o : Obj} {T : String} (he : s.heap.get? e = some o) (hc : o.cls = .type T) (h1 : T ≠ "list") (h2 : T ≠ "tuple") : e ∉ it :: k.fp := fun z => by
  rcases List.mem_cons.mp z with z | z
  · exact hne z
  · cases k with
    | l a =>
      have : e = a := by simpa [SK.fp] using z
      subst this
      obtain ⟨_, _, ⟨o', n, e1, e2, _⟩, _⟩ := I.list hq
      rw [he] at e1; cases e1; rw [hc] at e2; exact absurd (Value.type.inj e2) h1
    | t a =>
      have : e = a := by simpa [SK.fp] using z
      subst this
      obtain ⟨_, _, ⟨o', e1, e2, _⟩, _⟩ := I.tuple hq
      rw [he] at e1; cases e1; rw [hc] at e2; exact absurd (Value.type.inj e2) h2
    | s z' u => cases z
theorem SK.inj (I : Inv X pins σ H s) : ∀ {k : SK} {xs ys : List V}, k.Ok X.K H xs → k.Ok X.K H ys → xs = ys
  | .l _, _, _, h, h' => I.list_inj h h'
  | .t _, _, _, h, h' => I.tuple_inj h h'
  | .s _ _, _, _, h, h' => h.trans h'.symm
theorem SK.begins (I : Inv X pins σ H s) {k : SK} {xs : List V} (hx : k.Ok X.K H xs) : ∃ Hh : Heap → Prop, Begins k.v k.obj Hh ∧ Hh s.heap := by
  cases k with
  | l a =>
    obtain ⟨its, rv, p, hz⟩ := I.list hx
    exact ⟨_, begins_list a its.toArray, p.isList⟩
  | t a =>
    obtain ⟨its, rv, p, hz⟩ := I.tuple hx
    exact ⟨_, begins_tuple a its.toArray, p⟩
  | s z u => exact ⟨_, begins_text z u, trivial⟩
end
/-- enumerate: the items in new pairs with their number -/
def IeK (K : PySem.W.Frag) (k : SK) : L2.It :=
  ⟨fun i H => ∃ (xs : List V) (x : V), k.Ok K H xs ∧ xs[i]? = some x, fun i H v H' => ∃ T x, v = .ref T ∧ H T = none ∧ H' = upd H T (.tup [.int (i : Nat), x]) ∧ ∀ xs, k.Ok K H xs → xs[i]? = some x, fun i H => ∃ xs : List V, k.Ok K H xs ∧ xs.length = i⟩
theorem turn_enumK {P : Program} {w : World} {K : PySem.W.Frag} {elts : List Expr} {kk : Nat} {tpos : Pos} (k : SK) (e it : Addr) :
    Turn P w K (.Tuple elts kk tpos) (IeK K k) [e, it] e (fun i h => (∃ old, IsEnum h e it ((i : Nat) : Int) old) ∧ k.It it i h ∧ e ≠ it ∧ (∀ a o, K.lookup a = some o → a ≠ it)) where
  mem := by simp
  obj := fun i h st b hb => by
    obtain ⟨⟨old, he⟩, hi, _⟩ := st
    have e' : b = e ∨ b = it := by simpa using hb
    rcases e' with z | z
    · rw [z]; exact ⟨_, he, fun v q => nomatch q⟩
    · rw [z]; exact hi.obj
  keep := fun i h h' st kp => let ⟨⟨old, he⟩, hi, hne, hb⟩ := st; ⟨⟨old, kp e (by simp) _ he⟩, hi.keep fun o q => kp it (by simp) o q, hne, hb⟩
  item := by
    intro X hP hw hK hc i pins s σ H E I hf st hg
    subst hP hw hK
    obtain ⟨⟨old, he⟩, hit, hne, hb⟩ := st
    obtain ⟨xs, x, hq, hx⟩ := hg
    obtain ⟨P, St, D, st0, stI, hP, hfp⟩ := SK.draws I hq hit (hf it (by simp)).1 hb
    have hlt : i < xs.length := (List.getElem?_eq_some_iff.mp hx).1
    have hel : e < s.heap.objs.size := Heap.lt_size he
    have hil : it < s.heap.objs.size := by obtain ⟨o, q, _⟩ := hit.obj; exact Heap.lt_size q
    have hef : e ∉ it :: k.fp := SK.notFp I hq hne he rfl (by decide) (by decide)
    have W := WalksT.enumFrom (A := X.A) 0 (D X.A.in1 (I.ok.hd hc)) e hne hef (by simp)
    have st0' : (∃ old, IsEnum s.heap e it (0 + (i : Int)) old) ∧ St i s.heap := ⟨⟨old, by rw [Int.zero_add]; exact he⟩, st0⟩
    refine W.item i s _ E hlt st0' fun T vals h' tk hpt hTs hT hMid hk => ⟨_, rfl, ?_⟩
    refine W.go elts kk tpos i T { s with heap := h', toks := tk } _ E hMid fun h'' hst hk2 => ?_
    obtain ⟨t0, u, hu, rfl⟩ := hpt
    obtain ⟨x', hx', ru⟩ := hP i u hu
    rw [hx] at hx'; cases hx'
    have hTw := W.apart i T h' hMid
    have new : ObjOk X.prog X.w (upd H T (.tup [.int (i : Nat), x])) h'' T (.tup [.int (i : Nat), x]) := by
      obtain ⟨o, ho, hcl, n, hdt⟩ := hT
      exact ⟨by show 2 ≤ sizeLine; decide, [.int (0 + (i : Int)) t0, u], .cons ⟨t0, by rw [Int.zero_add]⟩ (.cons ru .nil), ⟨o, hk2 T o hTw ho, hcl, n, hdt⟩⟩
    have I1 : Inv X pins σ (upd H T (.tup [.int (i : Nat), x])) { s with heap := h'', toks := tk } :=
      I.turnedNew (ch := [e, it]) (fun b ob hb q => hk2 b ob hb (hk b ob hb q)) hf hTs new
    obtain ⟨⟨old', he'⟩, hst'⟩ := hst
    refine ⟨.ref T, _, I1, rfl, ⟨_, x, rfl, I.hok.fresh hTs, rfl, fun ys hy => by rw [SK.inj I hy hq]; exact hx⟩, ⟨⟨old', by rw [Int.zero_add] at he'; exact he'⟩, stI _ _ hst', hne, hb⟩, fun b hb' => ?_⟩
    have hbl : b < s.heap.objs.size := by
      have e' : b = e ∨ b = it := by simpa using hb'
      rcases e' with z | z
      · rw [z]; exact hel
      · rw [z]; exact hil
    rw [upd_ne (Nat.ne_of_lt (Nat.lt_of_lt_of_le hbl hTs))]
    exact (hf b hb').1
  done := by
    intro X hP hw hK hc i pins s σ H E I hf st hg
    subst hP hw hK
    obtain ⟨⟨old, he⟩, hit, hne, hb⟩ := st
    obtain ⟨xs, hq, hx⟩ := hg
    obtain ⟨P, St, D, st0, stI, hP, hfp⟩ := SK.draws I hq hit (hf it (by simp)).1 hb
    have hef : e ∉ it :: k.fp := SK.notFp I hq hne he rfl (by decide) (by decide)
    have W := WalksT.enumFrom (A := X.A) 0 (D X.A.in1 (I.ok.hd hc)) e hne hef (by simp)
    have st0' : (∃ old, IsEnum s.heap e it (0 + (i : Int)) old) ∧ St i s.heap := ⟨⟨old, by rw [Int.zero_add]; exact he⟩, st0⟩
    rw [← hx] at st0'
    exact W.done s _ E st0' fun h' tk hk => ⟨rfl, I.turnedL (t' := tk) (ch := [e, it]) hk hf⟩
  self := fun A i s Q E st h => let ⟨⟨_, he⟩, _⟩ := st; wpAny_pyIter_enum he h
end PV
namespace PV
open PySem PySem.Spec PyProof.Rows L2
section
variable {X : Cx} {pins : List (Addr × Obj)} {σ : L2.St} {H : Hp} {s : Shared}
theorem SK.fpLt (I : Inv X pins σ H s) : ∀ {k : SK} {xs : List V}, k.Ok X.K H xs → ∀ b ∈ k.fp, b < s.heap.objs.size
  | .l a, _, h, b, hb => by
    obtain ⟨_, _, p, _⟩ := I.list h
    have : b = a := by simpa [SK.fp] using hb
    subst this; exact p.lt
  | .t a, _, h, b, hb => by
    obtain ⟨_, _, p, _⟩ := I.tuple h
    have : b = a := by simpa [SK.fp] using hb
    subst this; exact p.lt
  | .s _ _, _, _, b, hb => by cases hb
end
theorem mem_skip {α : Type} {x a b : α} {l : List α} (h : x ∈ a :: l) : x ∈ a :: b :: l := by
  rcases List.mem_cons.mp h with h | h
  · exact List.mem_cons.mpr (.inl h)
  · exact List.mem_cons_of_mem _ (List.mem_cons_of_mem _ h)
/-- zip of two: the items in new pairs -/
def IzK (K : PySem.W.Frag) (k k2 : SK) : L2.It :=
  ⟨fun i H => ∃ (xs ys : List V) (x y : V), k.Ok K H xs ∧ k2.Ok K H ys ∧ xs[i]? = some x ∧ ys[i]? = some y,
   fun i H v H' => ∃ T x y, v = .ref T ∧ H T = none ∧ H' = upd H T (.tup [x, y]) ∧ (∀ xs, k.Ok K H xs → xs[i]? = some x) ∧ ∀ xs, k2.Ok K H xs → xs[i]? = some y,
   fun i H => ∃ xs ys : List V, k.Ok K H xs ∧ k2.Ok K H ys ∧ min xs.length ys.length = i⟩
theorem turn_zipK {P : Program} {w : World} {K : PySem.W.Frag} {elts : List Expr} {kk : Nat} {tpos : Pos} (k k2 : SK) {z TI TO i1 i2 : Addr} (S : ZipSep2 z TI TO i1 i2 (i1 :: k.fp) (i2 :: k2.fp)) :
    Turn P w K (.Tuple elts kk tpos) (IzK K k k2) [z, TI, TO, i1, i2] z (fun i h => IsZip h z TI TO .none ∧ IsTupOf2 h TI (.ref i1) (.ref i2) ∧ (∃ x y, IsTupOf2 h TO x y) ∧ k.It i1 i h ∧ k2.It i2 i h ∧ (∀ a o, K.lookup a = some o → a ≠ i1) ∧ (∀ a o, K.lookup a = some o → a ≠ i2)) where
  mem := by simp
  obj := fun i h st c hc => by
    obtain ⟨hz, hTI, ⟨x, y, hTO⟩, h1, h2, _⟩ := st
    have e' : c = z ∨ c = TI ∨ c = TO ∨ c = i1 ∨ c = i2 := by simpa using hc
    rcases e' with q | q | q | q | q
    · rw [q]; exact ⟨_, hz, fun v q => nomatch q⟩
    · rw [q]; exact ⟨_, hTI, fun v q => nomatch q⟩
    · rw [q]; exact ⟨_, hTO, fun v q => nomatch q⟩
    · rw [q]; exact h1.obj
    · rw [q]; exact h2.obj
  keep := fun i h h' st kp => by
    obtain ⟨hz, hTI, ⟨x, y, hTO⟩, h1, h2, b1, b2⟩ := st
    exact ⟨kp z (by simp) _ hz, kp TI (by simp) _ hTI, ⟨x, y, kp TO (by simp) _ hTO⟩, h1.keep fun o q => kp i1 (by simp) o q, h2.keep fun o q => kp i2 (by simp) o q, b1, b2⟩
  item := by
    intro X hP hw hK hc i pins s σ H E I hf st hg
    subst hP hw hK
    obtain ⟨hz, hTI, ⟨x0, y0, hTO⟩, h1, h2, b1, b2⟩ := st
    obtain ⟨xs, ys, x, y, hqx, hqy, hx, hy⟩ := hg
    obtain ⟨P1, St1, D1, st1, stI1, hP1, _⟩ := SK.draws I hqx h1 (hf i1 (by simp)).1 b1
    obtain ⟨P2, St2, D2, st2, stI2, hP2, _⟩ := SK.draws I hqy h2 (hf i2 (by simp)).1 b2
    have l1 : i < xs.length := (List.getElem?_eq_some_iff.mp hx).1
    have l2 : i < ys.length := (List.getElem?_eq_some_iff.mp hy).1
    have W := WalksT.zipD2 (A := X.A) S (D1 X.A.in1 (I.ok.hd hc)) (D2 X.A.in1 (I.ok.hd hc))
    refine W.item i s _ E (by omega) ⟨hz, hTI, ⟨x0, y0, hTO⟩, st1, st2⟩ fun T vals h' tk hpt hTs hT hMid hk => ⟨_, rfl, ?_⟩
    refine W.go elts kk tpos i T { s with heap := h', toks := tk } _ E hMid fun h'' hst hk2 => ?_
    obtain ⟨u, u2, hu, hu2, rfl⟩ := hpt
    obtain ⟨x', hx', ru⟩ := hP1 i u hu
    rw [hx] at hx'; cases hx'
    obtain ⟨y', hy', ru2⟩ := hP2 i u2 hu2
    rw [hy] at hy'; cases hy'
    have hTw := W.apart i T h' hMid
    have new : ObjOk X.prog X.w (upd H T (.tup [x, y])) h'' T (.tup [x, y]) := by
      obtain ⟨o, ho, hcl, n, hdt⟩ := hT
      exact ⟨by show 2 ≤ sizeLine; decide, [u, u2], .cons ru (.cons ru2 .nil), ⟨o, hk2 T o hTw ho, hcl, n, hdt⟩⟩
    have I1 : Inv X pins σ (upd H T (.tup [x, y])) { s with heap := h'', toks := tk } :=
      I.turnedNew (ch := [z, TI, TO, i1, i2]) (fun b ob hb q => hk2 b ob (fun m => hb (mem_skip m)) (hk b ob (fun m => hb (mem_skip m)) q)) hf hTs new
    obtain ⟨z1, z2, z3, z4, z5⟩ := hst
    refine ⟨.ref T, _, I1, rfl, ⟨_, x, y, rfl, I.hok.fresh hTs, rfl, fun l hl => by rw [SK.inj I hl hqx]; exact hx, fun l hl => by rw [SK.inj I hl hqy]; exact hy⟩, ⟨z1, z2, z3, stI1 _ _ z4, stI2 _ _ z5, b1, b2⟩, fun b hb' => ?_⟩
    have hbl : b < s.heap.objs.size := by
      have e' : b = z ∨ b = TI ∨ b = TO ∨ b = i1 ∨ b = i2 := by simpa using hb'
      rcases e' with q | q | q | q | q
      · rw [q]; exact Heap.lt_size hz
      · rw [q]; exact Heap.lt_size hTI
      · rw [q]; exact Heap.lt_size hTO
      · rw [q]; obtain ⟨_, e1, _⟩ := h1.obj; exact Heap.lt_size e1
      · rw [q]; obtain ⟨_, e2, _⟩ := h2.obj; exact Heap.lt_size e2
    rw [upd_ne (Nat.ne_of_lt (Nat.lt_of_lt_of_le hbl hTs))]
    exact (hf b hb').1
  done := by
    intro X hP hw hK hc i pins s σ H E I hf st hg
    subst hP hw hK
    obtain ⟨hz, hTI, ⟨x0, y0, hTO⟩, h1, h2, b1, b2⟩ := st
    obtain ⟨xs, ys, hqx, hqy, hx⟩ := hg
    obtain ⟨P1, St1, D1, st1, stI1, hP1, _⟩ := SK.draws I hqx h1 (hf i1 (by simp)).1 b1
    obtain ⟨P2, St2, D2, st2, stI2, hP2, _⟩ := SK.draws I hqy h2 (hf i2 (by simp)).1 b2
    have W := WalksT.zipD2 (A := X.A) S (D1 X.A.in1 (I.ok.hd hc)) (D2 X.A.in1 (I.ok.hd hc))
    rw [← hx] at st1 st2
    exact W.done s _ E ⟨hz, hTI, ⟨x0, y0, hTO⟩, st1, st2⟩ fun h' tk hk => ⟨rfl, I.turnedL (t' := tk) (ch := [z, TI, TO, i1, i2]) (fun b o hb q => hk b o (fun m => hb (mem_skip m)) q) hf⟩
  self := fun A i s Q E st h => wpAny_pyIter_zip st.1 h
/-- zip of three -/
def IzK3 (K : PySem.W.Frag) (k k2 k3 : SK) : L2.It :=
  ⟨fun i H => ∃ (xs ys zs : List V) (x y z : V), k.Ok K H xs ∧ k2.Ok K H ys ∧ k3.Ok K H zs ∧ xs[i]? = some x ∧ ys[i]? = some y ∧ zs[i]? = some z,
   fun i H v H' => ∃ T x y z, v = .ref T ∧ H T = none ∧ H' = upd H T (.tup [x, y, z]) ∧ (∀ xs, k.Ok K H xs → xs[i]? = some x) ∧ (∀ xs, k2.Ok K H xs → xs[i]? = some y) ∧ ∀ xs, k3.Ok K H xs → xs[i]? = some z,
   fun i H => ∃ xs ys zs : List V, k.Ok K H xs ∧ k2.Ok K H ys ∧ k3.Ok K H zs ∧ min (min xs.length ys.length) zs.length = i⟩
theorem turn_zipK3 {P : Program} {w : World} {K : PySem.W.Frag} {elts : List Expr} {kk : Nat} {tpos : Pos} (k k2 k3 : SK) {z TI TO i1 i2 i3 : Addr} (S : ZipSep3 z TI TO i1 i2 i3 (i1 :: k.fp) (i2 :: k2.fp) (i3 :: k3.fp)) :
    Turn P w K (.Tuple elts kk tpos) (IzK3 K k k2 k3) [z, TI, TO, i1, i2, i3] z (fun i h => IsZip h z TI TO .none ∧ IsTupOf3 h TI (.ref i1) (.ref i2) (.ref i3) ∧ (∃ x y u, IsTupOf3 h TO x y u) ∧ k.It i1 i h ∧ k2.It i2 i h ∧ k3.It i3 i h ∧ (∀ a o, K.lookup a = some o → a ≠ i1) ∧ (∀ a o, K.lookup a = some o → a ≠ i2) ∧ (∀ a o, K.lookup a = some o → a ≠ i3)) where
  mem := by simp
  obj := fun i h st c hc => by
    obtain ⟨hz, hTI, ⟨x, y, u, hTO⟩, h1, h2, h3, _⟩ := st
    have e' : c = z ∨ c = TI ∨ c = TO ∨ c = i1 ∨ c = i2 ∨ c = i3 := by simpa using hc
    rcases e' with q | q | q | q | q | q
    · rw [q]; exact ⟨_, hz, fun v q => nomatch q⟩
    · rw [q]; exact ⟨_, hTI, fun v q => nomatch q⟩
    · rw [q]; exact ⟨_, hTO, fun v q => nomatch q⟩
    · rw [q]; exact h1.obj
    · rw [q]; exact h2.obj
    · rw [q]; exact h3.obj
  keep := fun i h h' st kp => by
    obtain ⟨hz, hTI, ⟨x, y, u, hTO⟩, h1, h2, h3, b1, b2, b3⟩ := st
    exact ⟨kp z (by simp) _ hz, kp TI (by simp) _ hTI, ⟨x, y, u, kp TO (by simp) _ hTO⟩, h1.keep fun o q => kp i1 (by simp) o q, h2.keep fun o q => kp i2 (by simp) o q, h3.keep fun o q => kp i3 (by simp) o q, b1, b2, b3⟩
  item := by
    intro X hP hw hK hc i pins s σ H E I hf st hg
    subst hP hw hK
    obtain ⟨hz, hTI, ⟨x0, y0, u0, hTO⟩, h1, h2, h3, b1, b2, b3⟩ := st
    obtain ⟨xs, ys, zs, x, y, zz, hqx, hqy, hqz, hx, hy, hzz⟩ := hg
    obtain ⟨P1, St1, D1, st1, stI1, hP1, _⟩ := SK.draws I hqx h1 (hf i1 (by simp)).1 b1
    obtain ⟨P2, St2, D2, st2, stI2, hP2, _⟩ := SK.draws I hqy h2 (hf i2 (by simp)).1 b2
    obtain ⟨P3, St3, D3, st3, stI3, hP3, _⟩ := SK.draws I hqz h3 (hf i3 (by simp)).1 b3
    have l1 : i < xs.length := (List.getElem?_eq_some_iff.mp hx).1
    have l2 : i < ys.length := (List.getElem?_eq_some_iff.mp hy).1
    have l3 : i < zs.length := (List.getElem?_eq_some_iff.mp hzz).1
    have W := WalksT.zipD3 (A := X.A) S (D1 X.A.in1 (I.ok.hd hc)) (D2 X.A.in1 (I.ok.hd hc)) (D3 X.A.in1 (I.ok.hd hc))
    refine W.item i s _ E (by omega) ⟨hz, hTI, ⟨x0, y0, u0, hTO⟩, st1, st2, st3⟩ fun T vals h' tk hpt hTs hT hMid hk => ⟨_, rfl, ?_⟩
    refine W.go elts kk tpos i T { s with heap := h', toks := tk } _ E hMid fun h'' hst hk2 => ?_
    obtain ⟨u, u2, u3, hu, hu2, hu3, rfl⟩ := hpt
    obtain ⟨x', hx', ru⟩ := hP1 i u hu
    rw [hx] at hx'; cases hx'
    obtain ⟨y', hy', ru2⟩ := hP2 i u2 hu2
    rw [hy] at hy'; cases hy'
    obtain ⟨z', hz', ru3⟩ := hP3 i u3 hu3
    rw [hzz] at hz'; cases hz'
    have hTw := W.apart i T h' hMid
    have new : ObjOk X.prog X.w (upd H T (.tup [x, y, zz])) h'' T (.tup [x, y, zz]) := by
      obtain ⟨o, ho, hcl, n, hdt⟩ := hT
      exact ⟨by show 3 ≤ sizeLine; decide, [u, u2, u3], .cons ru (.cons ru2 (.cons ru3 .nil)), ⟨o, hk2 T o hTw ho, hcl, n, hdt⟩⟩
    have I1 : Inv X pins σ (upd H T (.tup [x, y, zz])) { s with heap := h'', toks := tk } :=
      I.turnedNew (ch := [z, TI, TO, i1, i2, i3]) (fun b ob hb q => hk2 b ob (fun m => hb (mem_skip m)) (hk b ob (fun m => hb (mem_skip m)) q)) hf hTs new
    obtain ⟨z1, z2, z3, z4, z5, z6⟩ := hst
    refine ⟨.ref T, _, I1, rfl, ⟨_, x, y, zz, rfl, I.hok.fresh hTs, rfl, fun l hl => by rw [SK.inj I hl hqx]; exact hx, fun l hl => by rw [SK.inj I hl hqy]; exact hy, fun l hl => by rw [SK.inj I hl hqz]; exact hzz⟩, ⟨z1, z2, z3, stI1 _ _ z4, stI2 _ _ z5, stI3 _ _ z6, b1, b2, b3⟩, fun b hb' => ?_⟩
    have hbl : b < s.heap.objs.size := by
      have e' : b = z ∨ b = TI ∨ b = TO ∨ b = i1 ∨ b = i2 ∨ b = i3 := by simpa using hb'
      rcases e' with q | q | q | q | q | q
      · rw [q]; exact Heap.lt_size hz
      · rw [q]; exact Heap.lt_size hTI
      · rw [q]; exact Heap.lt_size hTO
      · rw [q]; obtain ⟨_, e1, _⟩ := h1.obj; exact Heap.lt_size e1
      · rw [q]; obtain ⟨_, e2, _⟩ := h2.obj; exact Heap.lt_size e2
      · rw [q]; obtain ⟨_, e2, _⟩ := h3.obj; exact Heap.lt_size e2
    rw [upd_ne (Nat.ne_of_lt (Nat.lt_of_lt_of_le hbl hTs))]
    exact (hf b hb').1
  done := by
    intro X hP hw hK hc i pins s σ H E I hf st hg
    subst hP hw hK
    obtain ⟨hz, hTI, ⟨x0, y0, u0, hTO⟩, h1, h2, h3, b1, b2, b3⟩ := st
    obtain ⟨xs, ys, zs, hqx, hqy, hqz, hx⟩ := hg
    obtain ⟨P1, St1, D1, st1, stI1, hP1, _⟩ := SK.draws I hqx h1 (hf i1 (by simp)).1 b1
    obtain ⟨P2, St2, D2, st2, stI2, hP2, _⟩ := SK.draws I hqy h2 (hf i2 (by simp)).1 b2
    obtain ⟨P3, St3, D3, st3, stI3, hP3, _⟩ := SK.draws I hqz h3 (hf i3 (by simp)).1 b3
    have W := WalksT.zipD3 (A := X.A) S (D1 X.A.in1 (I.ok.hd hc)) (D2 X.A.in1 (I.ok.hd hc)) (D3 X.A.in1 (I.ok.hd hc))
    rw [← hx] at st1 st2 st3
    exact W.done s _ E ⟨hz, hTI, ⟨x0, y0, u0, hTO⟩, st1, st2, st3⟩ fun h' tk hk => ⟨rfl, I.turnedL (t' := tk) (ch := [z, TI, TO, i1, i2, i3]) (fun b o hb q => hk b o (fun m => hb (mem_skip m)) q) hf⟩
  self := fun A i s Q E st h => wpAny_pyIter_zip st.1 h

/-- a value that is walked -/
def skOf : V → SK → Prop
  | .ref a, .l b => a = b
  | .ref a, .t b => a = b
  | .str z, .s z' u => z = z' ∧ u = 0
  | _, _ => False
theorem skOf.rel {x : V} {k : SK} {u : Value} (h : skOf x k) (r : RelV x u) : ∃ k' : SK, k'.v = u ∧ k'.fp = k.fp ∧ (∀ K H, SK.Ok K H k' = SK.Ok K H k) := by
  cases x with
  | ref a =>
    cases k with
    | l b => cases h; cases r; exact ⟨.l a, rfl, rfl, fun _ _ => rfl⟩
    | t b => cases h; cases r; exact ⟨.t a, rfl, rfl, fun _ _ => rfl⟩
    | s _ _ => cases h
  | str z =>
    cases k with
    | l b => cases h
    | t b => cases h
    | s z' u' => obtain ⟨rfl, rfl⟩ := h; obtain ⟨t, rfl⟩ := r; exact ⟨.s z t, rfl, rfl, fun _ _ => rfl⟩
  | _ => cases h
theorem IeK.same {K : PySem.W.Frag} {k k' : SK} (h : ∀ K H, SK.Ok K H k' = SK.Ok K H k) : IeK K k' = IeK K k := by unfold IeK; simp only [h]
theorem IzK.same {K : PySem.W.Frag} {k k' m m' : SK} (h : ∀ K H, SK.Ok K H k' = SK.Ok K H k) (h2 : ∀ K H, SK.Ok K H m' = SK.Ok K H m) : IzK K k' m' = IzK K k m := by unfold IzK; simp only [h, h2]
theorem IzK3.same {K : PySem.W.Frag} {k k' m m' n n' : SK} (h : ∀ K H, SK.Ok K H k' = SK.Ok K H k) (h2 : ∀ K H, SK.Ok K H m' = SK.Ok K H m) (h3 : ∀ K H, SK.Ok K H n' = SK.Ok K H n) : IzK3 K k' m' n' = IzK3 K k m n := by unfold IzK3; simp only [h, h2, h3]
theorem notK {X : Cx} {pins : List (Addr × Obj)} {σ : L2.St} {H : Hp} {s : Shared} (I : Inv X pins σ H s) {N : Addr} (h : s.heap.objs.size ≤ N) : ∀ a o, X.K.lookup a = some o → a ≠ N := fun a o e z => by
  have := Heap.lt_size (I.kIn a o e)
  rw [z] at this
  exact absurd (Nat.lt_of_lt_of_le this h) (Nat.lt_irrefl _)
def iEnumK (K : PySem.W.Frag) (ta : TA) : TI := fun σ H R => ta σ H fun vs H1 => ∃ x k xs, vs = [x] ∧ skOf x k ∧ SK.Ok K H1 k xs ∧ R (IeK K k) H1
theorem pi_enumK {X : Cx} {e : Expr} {ta : TA} {p pos tpos : Pos} {elts : List Expr} {kk : Nat} (hg : Gl X "enumerate") (hm : X.mg "enumerate" = none) (ha : PA X [e] ta) (hs : starEach [e] X.env = [(false, eval e X.env)] := by rfl) :
    PI X (.Tuple elts kk tpos) (.Call (.Name "enumerate" p) [e] [] pos) (iEnumK X.K ta) := by
  refine ⟨fun pins s σ H R I h => ?_⟩
  refine Call_ (ld_blt I hg hm boot_enumerate (PyProof.Rows.callWith_type1 (thn (ha.run pos pins s σ H _ I h) fun us s1 ⟨vs, H1, I1, r1, q1⟩ => ?_) hs rfl))
  obtain ⟨x, k, xs, ex, hsk, hq, q⟩ := q1
  subst ex
  cases r1 with
  | cons r rr =>
    cases rr
    obtain ⟨k', hv, hfp, hok⟩ := hsk.rel r
    subst hv
    have hq' : SK.Ok X.K H1 k' xs := by rw [hok]; exact hq
    obtain ⟨Hh, B, b0⟩ := SK.begins I1 hq'
    refine enum_begins1 B b0 fun h' he hit hsz hk => wpAny_pyIter_enum he ?_
    have I2 : Inv X pins σ H1 { s1 with heap := h' } := I1.kept (t' := s1.toks) hk
    refine ⟨s1.heap.objs.size + 1, [s1.heap.objs.size + 1, s1.heap.objs.size], _, _, H1, rfl, I2, turn_enumK k' (s1.heap.objs.size + 1) s1.heap.objs.size, ⟨⟨.none, he⟩, SK.It.new hit, Nat.succ_ne_self _, notK I1 (Nat.le_refl _)⟩, fun b hb => ?_, by rw [IeK.same hok]; exact q⟩
    have e' : b = s1.heap.objs.size + 1 ∨ b = s1.heap.objs.size := by simpa using hb
    have hle : s1.heap.objs.size ≤ b := by
      rcases e' with z | z
      · rw [z]; exact Nat.le_add_right _ _
      · rw [z]; exact Nat.le_refl _
    exact I1.fpOk hle (I1.hok.fresh hle)
def iZipK (K : PySem.W.Frag) (ta : TA) : TI := fun σ H R => ta σ H fun vs H1 => ∃ x k xs x2 k2 xs2, vs = [x, x2] ∧ skOf x k ∧ SK.Ok K H1 k xs ∧ skOf x2 k2 ∧ SK.Ok K H1 k2 xs2 ∧ R (IzK K k k2) H1
theorem pi_zipK {X : Cx} {e e2 : Expr} {ta : TA} {p pos tpos : Pos} {elts : List Expr} {kk : Nat} (hg : Gl X "zip") (hm : X.mg "zip" = none) (ha : PA X [e, e2] ta)
    (hs : starEach [e, e2] X.env = (false, eval e X.env) :: starEach [e2] X.env := by rfl) (hpl : (backTo pos (starEach [e2] X.env)).any (·.1) = false := by rfl) :
    PI X (.Tuple elts kk tpos) (.Call (.Name "zip" p) [e, e2] [] pos) (iZipK X.K ta) := by
  refine ⟨fun pins s σ H R I h => ?_⟩
  refine Call_ (ld_blt I hg hm PyProof.Rows.boot_zip (PyProof.Rows.callWith_type1 (thn (ha.run pos pins s σ H _ I h) fun us s1 ⟨vs, H1, I1, r1, q1⟩ => ?_) hs hpl))
  obtain ⟨x, k, xs, x2, k2, xs2, ex, hsk, hq, hsk2, hq2, q⟩ := q1
  subst ex
  cases r1 with
  | cons r rr =>
    cases rr with
    | cons r' rr =>
      cases rr
      obtain ⟨k', hv, hfp, hok⟩ := hsk.rel r
      subst hv
      obtain ⟨m', hv2, hfp2, hok2⟩ := hsk2.rel r'
      subst hv2
      have hq' : SK.Ok X.K H1 k' xs := by rw [hok]; exact hq
      have hq2' : SK.Ok X.K H1 m' xs2 := by rw [hok2]; exact hq2
      obtain ⟨Hh, B, b0⟩ := SK.begins I1 hq'
      obtain ⟨Hh2, B2, b02⟩ := SK.begins I1 hq2'
      refine zip_begins2 B B2 b0 b02 fun h' hz hTI hTO h1 h2 hsz hk => wpAny_pyIter_zip hz ?_
      have I2 : Inv X pins σ H1 { s1 with heap := h' } := I1.kept (t' := s1.toks) hk
      refine ⟨s1.heap.objs.size + 4, [s1.heap.objs.size + 4, s1.heap.objs.size + 2, s1.heap.objs.size + 3, s1.heap.objs.size, s1.heap.objs.size + 1], _, _, H1, rfl, I2, turn_zipK k' m' (zip_sep2 (SK.fpLt I1 hq') (SK.fpLt I1 hq2')), ⟨hz, hTI, ⟨_, _, hTO⟩, SK.It.new h1, SK.It.new h2, notK I1 (Nat.le_refl _), notK I1 (Nat.le_succ _)⟩, fun c hcm => ?_, by rw [IzK.same hok hok2]; exact q⟩
      have e' : c = s1.heap.objs.size + 4 ∨ c = s1.heap.objs.size + 2 ∨ c = s1.heap.objs.size + 3 ∨ c = s1.heap.objs.size ∨ c = s1.heap.objs.size + 1 := by simpa using hcm
      have hle : s1.heap.objs.size ≤ c := by
        rcases e' with z | z | z | z | z
        · rw [z]; exact Nat.le_add_right _ _
        · rw [z]; exact Nat.le_add_right _ _
        · rw [z]; exact Nat.le_add_right _ _
        · rw [z]; exact Nat.le_refl _
        · rw [z]; exact Nat.le_add_right _ _
      exact I1.fpOk hle (I1.hok.fresh hle)
def iZipK3 (K : PySem.W.Frag) (ta : TA) : TI := fun σ H R => ta σ H fun vs H1 => ∃ x k xs x2 k2 xs2 x3 k3 xs3, vs = [x, x2, x3] ∧ skOf x k ∧ SK.Ok K H1 k xs ∧ skOf x2 k2 ∧ SK.Ok K H1 k2 xs2 ∧ skOf x3 k3 ∧ SK.Ok K H1 k3 xs3 ∧ R (IzK3 K k k2 k3) H1
theorem pi_zipK3 {X : Cx} {e e2 e3 : Expr} {ta : TA} {p pos tpos : Pos} {elts : List Expr} {kk : Nat} (hg : Gl X "zip") (hm : X.mg "zip" = none) (ha : PA X [e, e2, e3] ta)
    (hs : starEach [e, e2, e3] X.env = (false, eval e X.env) :: starEach [e2, e3] X.env := by rfl) (hpl : (backTo pos (starEach [e2, e3] X.env)).any (·.1) = false := by rfl) :
    PI X (.Tuple elts kk tpos) (.Call (.Name "zip" p) [e, e2, e3] [] pos) (iZipK3 X.K ta) := by
  refine ⟨fun pins s σ H R I h => ?_⟩
  refine Call_ (ld_blt I hg hm PyProof.Rows.boot_zip (PyProof.Rows.callWith_type1 (thn (ha.run pos pins s σ H _ I h) fun us s1 ⟨vs, H1, I1, r1, q1⟩ => ?_) hs hpl))
  obtain ⟨x, k, xs, x2, k2, xs2, x3, k3, xs3, ex, hsk, hq, hsk2, hq2, hsk3, hq3, q⟩ := q1
  subst ex
  cases r1 with
  | cons r rr =>
    cases rr with
    | cons r' rr =>
      cases rr with
      | cons r'' rr =>
        cases rr
        obtain ⟨k', hv, hfp, hok⟩ := hsk.rel r
        subst hv
        obtain ⟨m', hv2, hfp2, hok2⟩ := hsk2.rel r'
        subst hv2
        obtain ⟨n', hv3, hfp3, hok3⟩ := hsk3.rel r''
        subst hv3
        have hq' : SK.Ok X.K H1 k' xs := by rw [hok]; exact hq
        have hq2' : SK.Ok X.K H1 m' xs2 := by rw [hok2]; exact hq2
        have hq3' : SK.Ok X.K H1 n' xs3 := by rw [hok3]; exact hq3
        obtain ⟨Hh, B, b0⟩ := SK.begins I1 hq'
        obtain ⟨Hh2, B2, b02⟩ := SK.begins I1 hq2'
        obtain ⟨Hh3, B3, b03⟩ := SK.begins I1 hq3'
        refine zip_begins3 B B2 B3 b0 b02 b03 fun h' hz hTI hTO h1 h2 h3 hsz hk => wpAny_pyIter_zip hz ?_
        have I2 : Inv X pins σ H1 { s1 with heap := h' } := I1.kept (t' := s1.toks) hk
        refine ⟨s1.heap.objs.size + 5, [s1.heap.objs.size + 5, s1.heap.objs.size + 3, s1.heap.objs.size + 4, s1.heap.objs.size, s1.heap.objs.size + 1, s1.heap.objs.size + 2], _, _, H1, rfl, I2, turn_zipK3 k' m' n' (zip_sep3 (SK.fpLt I1 hq') (SK.fpLt I1 hq2') (SK.fpLt I1 hq3')), ⟨hz, hTI, ⟨_, _, _, hTO⟩, SK.It.new h1, SK.It.new h2, SK.It.new h3, notK I1 (Nat.le_refl _), notK I1 (Nat.le_succ _), notK I1 (Nat.le_add_right _ _)⟩, fun c hcm => ?_, by rw [IzK3.same hok hok2 hok3]; exact q⟩
        have e' : c = s1.heap.objs.size + 5 ∨ c = s1.heap.objs.size + 3 ∨ c = s1.heap.objs.size + 4 ∨ c = s1.heap.objs.size ∨ c = s1.heap.objs.size + 1 ∨ c = s1.heap.objs.size + 2 := by simpa using hcm
        have hle : s1.heap.objs.size ≤ c := by
          rcases e' with z | z | z | z | z | z
          · rw [z]; exact Nat.le_add_right _ _
          · rw [z]; exact Nat.le_add_right _ _
          · rw [z]; exact Nat.le_add_right _ _
          · rw [z]; exact Nat.le_refl _
          · rw [z]; exact Nat.le_add_right _ _
          · rw [z]; exact Nat.le_add_right _ _
        exact I1.fpOk hle (I1.hok.fresh hle)
/-! ### their items -/
def enumD (ds : List D) : List D := ds.zipIdx.map fun p => .tuple [.int (p.2 : Nat), p.1]
def zipD (ds es : List D) : List D := List.zipWith (fun a b => .tuple [a, b]) ds es
def zipD3 (ds es fs : List D) : List D := List.zipWith (fun p c => match p with | .tuple [a, b] => .tuple [a, b, c] | _ => .none) (zipD ds es) fs
section
variable {K : PySem.W.Frag}
theorem sk_of {O : Addr → Prop} {H : Hp} {v : V} {d : D} {ds : List D} (n : Dn K (hd O H) v d) (h : itemsD d = some ds) : ∃ k xs, skOf v k ∧ SK.Ok K (hd O H) k xs ∧ DnA K (hd O H) xs ds := by
  cases n with
  | lst h1 a => cases h; exact ⟨.l _, _, rfl, h1, a⟩
  | tup h1 a => cases h; exact ⟨.t _, _, rfl, h1.sq, a⟩
  | str z =>
    cases h
    refine ⟨.s z 0, _, ⟨rfl, rfl⟩, rfl, ?_⟩
    unfold strD
    have : ∀ l : List Nat, DnA K (hd O H) (l.map fun c => V.str ⟨#[c]⟩) (l.map fun c => PyData.str ⟨#[c]⟩) := fun l => by
      induction l with
      | nil => exact .nil
      | cons c r ih => exact .cons (.str _) ih
    exact this _
  | non => cases h
  | bl _ => cases h
  | int _ => cases h
  | dct _ _ => cases h
theorem SK.Ok.mono {H H' : Hp} (s : Same H H') : ∀ {k : SK} {xs : List V}, SK.Ok K H k xs → SK.Ok K H' k xs
  | .l _, _, h => s.seq h
  | .t _, _, h => Same.seqT s h
  | .s _ _, _, h => h
theorem new_tupW {O : Addr → Prop} {H : Hp} {p : Addr} {xs : List V} {ds : List D} (hO : ∀ a, O a → H a ≠ none) (hp : H p = none) (n : DnA K (hd O H) xs ds) : Same H (upd H p (.tup xs)) ∧ DnB K true (hd O (upd H p (.tup xs))) (.ref p) (.tuple ds) :=
  ⟨PV.same_upd hp, .inr ⟨rfl, p, xs, ds, rfl, rfl, .inl (.inl (hd_new hO hp)), n.mono (same_hd (PV.same_upd hp))⟩⟩
theorem Wk.enum {B O : Addr → Prop} {H : Hp} {k : SK} {xs : List V} {ds : List D} (h : SK.Ok K (hd O H) k xs) (n : DnA K (hd O H) xs ds) : Wk K B O H (IeK K k) (enumD ds) true := by
  intro i O' H' hi t
  have h' : SK.Ok K H' k xs := (h.mono t.same).mono hd_le
  have n' := n.mono t.same
  have hlen : (enumD ds).length = ds.length := by simp [enumD]
  cases e : ds[i]? with
  | none =>
    have hl : ds.length ≤ i := List.getElem?_eq_none_iff.mp e
    have e2 : (enumD ds)[i]? = none := List.getElem?_eq_none (by rw [hlen]; exact hl)
    rw [e2]
    exact ⟨xs, h', by rw [n.len]; omega⟩
  | some d =>
    obtain ⟨v, ev, nv⟩ := n'.get e
    have e2 : (enumD ds)[i]? = some (.tuple [.int (i : Nat), d]) := by
      unfold enumD
      rw [List.getElem?_map, List.getElem?_zipIdx, e]
      simp
    rw [e2]
    refine ⟨⟨xs, v, h', ev⟩, fun x H2 y => ?_⟩
    obtain ⟨T, x', rfl, hT, rfl, hx⟩ := y
    have := hx xs h'
    rw [ev] at this
    cases this
    exact new_tupW (K := K) t.dom hT (.cons (.int _) (.cons nv .nil))
theorem Wk.zip {B O : Addr → Prop} {H : Hp} {k k2 : SK} {xs ys : List V} {ds es : List D} (h : SK.Ok K (hd O H) k xs) (n : DnA K (hd O H) xs ds) (h2 : SK.Ok K (hd O H) k2 ys) (n2 : DnA K (hd O H) ys es) : Wk K B O H (IzK K k k2) (zipD ds es) true := by
  intro i O' H' hi t
  have h' : SK.Ok K H' k xs := (h.mono t.same).mono hd_le
  have n' := n.mono t.same
  have h2' : SK.Ok K H' k2 ys := (h2.mono t.same).mono hd_le
  have n2' := n2.mono t.same
  have hlen : (zipD ds es).length = min ds.length es.length := by simp [zipD]
  by_cases hl : i < min ds.length es.length
  · have a1 : i < ds.length := by omega
    have a2 : i < es.length := by omega
    obtain ⟨v, ev, nv⟩ := n'.get (List.getElem?_eq_getElem a1)
    obtain ⟨u, eu, nu⟩ := n2'.get (List.getElem?_eq_getElem a2)
    have e2 : (zipD ds es)[i]? = some (.tuple [ds[i], es[i]]) := by
      unfold zipD
      rw [List.getElem?_zipWith, List.getElem?_eq_getElem a1, List.getElem?_eq_getElem a2]
    rw [e2]
    refine ⟨⟨xs, ys, v, u, h', h2', ev, eu⟩, fun x H2 y => ?_⟩
    obtain ⟨T, x', y', rfl, hT, rfl, hx, hy⟩ := y
    have q1 := hx xs h'
    rw [ev] at q1
    cases q1
    have q2 := hy ys h2'
    rw [eu] at q2
    cases q2
    exact new_tupW (K := K) t.dom hT (.cons nv (.cons nu .nil))
  · have e2 : (zipD ds es)[i]? = none := List.getElem?_eq_none (by omega)
    rw [e2]
    exact ⟨xs, ys, h', h2', by rw [n.len, n2.len]; omega⟩
theorem Wk.zip3 {B O : Addr → Prop} {H : Hp} {k k2 k3 : SK} {xs ys zs : List V} {ds es fs : List D} (h : SK.Ok K (hd O H) k xs) (n : DnA K (hd O H) xs ds) (h2 : SK.Ok K (hd O H) k2 ys) (n2 : DnA K (hd O H) ys es) (h3 : SK.Ok K (hd O H) k3 zs) (n3 : DnA K (hd O H) zs fs) : Wk K B O H (IzK3 K k k2 k3) (zipD3 ds es fs) true := by
  intro i O' H' hi t
  have h' : SK.Ok K H' k xs := (h.mono t.same).mono hd_le
  have n' := n.mono t.same
  have h2' : SK.Ok K H' k2 ys := (h2.mono t.same).mono hd_le
  have n2' := n2.mono t.same
  have h3' : SK.Ok K H' k3 zs := (h3.mono t.same).mono hd_le
  have n3' := n3.mono t.same
  have hlen : (zipD3 ds es fs).length = min (min ds.length es.length) fs.length := by simp [zipD3, zipD]
  by_cases hl : i < min (min ds.length es.length) fs.length
  · have a1 : i < ds.length := by omega
    have a2 : i < es.length := by omega
    have a3 : i < fs.length := by omega
    obtain ⟨v, ev, nv⟩ := n'.get (List.getElem?_eq_getElem a1)
    obtain ⟨u, eu, nu⟩ := n2'.get (List.getElem?_eq_getElem a2)
    obtain ⟨u3, eu3, nu3⟩ := n3'.get (List.getElem?_eq_getElem a3)
    have e2 : (zipD3 ds es fs)[i]? = some (.tuple [ds[i], es[i], fs[i]]) := by
      unfold zipD3 zipD
      rw [List.getElem?_zipWith, List.getElem?_zipWith, List.getElem?_eq_getElem a1, List.getElem?_eq_getElem a2, List.getElem?_eq_getElem a3]
    rw [e2]
    refine ⟨⟨xs, ys, zs, v, u, u3, h', h2', h3', ev, eu, eu3⟩, fun x H2 y => ?_⟩
    obtain ⟨T, x', y', z', rfl, hT, rfl, hx, hy, hz⟩ := y
    have q1 := hx xs h'
    rw [ev] at q1
    cases q1
    have q2 := hy ys h2'
    rw [eu] at q2
    cases q2
    have q3 := hz zs h3'
    rw [eu3] at q3
    cases q3
    exact new_tupW (K := K) t.dom hT (.cons nv (.cons nu (.cons nu3 .nil)))
  · have e2 : (zipD3 ds es fs)[i]? = none := List.getElem?_eq_none (by omega)
    rw [e2]
    exact ⟨xs, ys, zs, h', h2', h3', by rw [n.len, n2.len, n3.len]; omega⟩
def iEnum1 (fa : Rho → Option D) : Rho → Option (List D) := fun ρ => (fa ρ).bind fun d => (itemsD d).map enumD
def iZip2 (fa fb : Rho → Option D) : Rho → Option (List D) := fun ρ => (fa ρ).bind fun d => (fb ρ).bind fun e => (itemsD d).bind fun ds => (itemsD e).map fun es => zipD ds es
def iZip3 (fa fb fc : Rho → Option D) : Rho → Option (List D) := fun ρ => (fa ρ).bind fun d => (fb ρ).bind fun e => (fc ρ).bind fun f => (itemsD d).bind fun ds => (itemsD e).bind fun es => (itemsD f).map fun fs => zipD3 ds es fs
variable {ta tb tc : TE} {fa fb fc : Rho → Option D}
theorem di_enum (ha : DE K ta fa) : DI K (iEnumK K (tCons ta tNil)) (iEnum1 fa) true := by
  intro B O σ H ρ ds Q R e q
  obtain ⟨d, e1, e⟩ := Option.bind_eq_some_iff.mp e
  obtain ⟨l, e2, e⟩ := Option.map_eq_some_iff.mp e
  subst e
  refine ha B O σ H ρ d _ R e1 fun v H1 s1 n1 => ?_
  obtain ⟨k, xs, hk, ho, hn⟩ := sk_of n1 e2
  exact ⟨v, k, xs, rfl, hk, ho.mono hd_le, q _ _ s1 (.enum ho hn)⟩
theorem di_zip2 (ha : DE K ta fa) (hb : DE K tb fb) : DI K (iZipK K (tCons ta (tCons tb tNil))) (iZip2 fa fb) true := by
  intro B O σ H ρ ds Q R e q
  obtain ⟨d, e1, e⟩ := Option.bind_eq_some_iff.mp e
  obtain ⟨d2, e2, e⟩ := Option.bind_eq_some_iff.mp e
  obtain ⟨l, l1, e⟩ := Option.bind_eq_some_iff.mp e
  obtain ⟨l', l2, e⟩ := Option.map_eq_some_iff.mp e
  subst e
  refine ha B O σ H ρ d _ R e1 fun v H1 s1 n1 => ?_
  refine hb B O σ H1 ρ d2 _ (R.mono s1) e2 fun v2 H2 s2 n2 => ?_
  obtain ⟨k, xs, hk, ho, hn⟩ := sk_of (n1.mono (same_hd s2)) l1
  obtain ⟨k2, xs2, hk2, ho2, hn2⟩ := sk_of n2 l2
  exact ⟨v, k, xs, v2, k2, xs2, rfl, hk, ho.mono hd_le, hk2, ho2.mono hd_le, q _ _ (s1.trans s2) (.zip ho hn ho2 hn2)⟩
theorem di_zip3 (ha : DE K ta fa) (hb : DE K tb fb) (hc : DE K tc fc) : DI K (iZipK3 K (tCons ta (tCons tb (tCons tc tNil)))) (iZip3 fa fb fc) true := by
  intro B O σ H ρ ds Q R e q
  obtain ⟨d, e1, e⟩ := Option.bind_eq_some_iff.mp e
  obtain ⟨d2, e2, e⟩ := Option.bind_eq_some_iff.mp e
  obtain ⟨d3, e3, e⟩ := Option.bind_eq_some_iff.mp e
  obtain ⟨l, l1, e⟩ := Option.bind_eq_some_iff.mp e
  obtain ⟨l', l2, e⟩ := Option.bind_eq_some_iff.mp e
  obtain ⟨l'', l3, e⟩ := Option.map_eq_some_iff.mp e
  subst e
  refine ha B O σ H ρ d _ R e1 fun v H1 s1 n1 => ?_
  refine hb B O σ H1 ρ d2 _ (R.mono s1) e2 fun v2 H2 s2 n2 => ?_
  refine hc B O σ H2 ρ d3 _ ((R.mono s1).mono s2) e3 fun v3 H3 s3 n3 => ?_
  obtain ⟨k, xs, hk, ho, hn⟩ := sk_of (n1.mono (same_hd (s2.trans s3))) l1
  obtain ⟨k2, xs2, hk2, ho2, hn2⟩ := sk_of (n2.mono (same_hd s3)) l2
  obtain ⟨k3, xs3, hk3, ho3, hn3⟩ := sk_of n3 l3
  exact ⟨v, k, xs, v2, k2, xs2, v3, k3, xs3, rfl, hk, ho.mono hd_le, hk2, ho2.mono hd_le, hk3, ho3.mono hd_le, q _ _ ((s1.trans s2).trans s3) (.zip3 ho hn ho2 hn2 ho3 hn3)⟩
end
section
variable {X : Cx} {a b c : Expr} {fa fb fc : Rho → Option D} {p pos tpos : Pos} {elts : List Expr} {kk : Nat}
theorem yi_enum (hg : Gl X "enumerate") (hm : X.mg "enumerate" = none) (ha : YE X a fa) (hs : starEach [a] X.env = [(false, eval a X.env)] := by rfl) : YI X (.Tuple elts kk tpos) (.Call (.Name "enumerate" p) [a] [] pos) (iEnum1 fa) true :=
  let ⟨_, p1, d1⟩ := ha.ex; ⟨_, pi_enumK hg hm (pa_cons p1 pa_nil (by rw [hs]; rfl)) hs, di_enum d1⟩
theorem yi_zip2 (hg : Gl X "zip") (hm : X.mg "zip" = none) (ha : YE X a fa) (hb : YE X b fb) (hs : starEach [a, b] X.env = (false, eval a X.env) :: starEach [b] X.env := by rfl) (hs2 : starEach [b] X.env = (false, eval b X.env) :: starEach [] X.env := by rfl) (hpl : (backTo pos (starEach [b] X.env)).any (·.1) = false := by rfl) :
    YI X (.Tuple elts kk tpos) (.Call (.Name "zip" p) [a, b] [] pos) (iZip2 fa fb) true :=
  let ⟨_, p1, d1⟩ := ha.ex; let ⟨_, p2, d2⟩ := hb.ex; ⟨_, pi_zipK hg hm (pa_cons p1 (pa_cons p2 pa_nil hs2) hs) hs hpl, di_zip2 d1 d2⟩
theorem yi_zip3 (hg : Gl X "zip") (hm : X.mg "zip" = none) (ha : YE X a fa) (hb : YE X b fb) (hc : YE X c fc) (hs : starEach [a, b, c] X.env = (false, eval a X.env) :: starEach [b, c] X.env := by rfl) (hs2 : starEach [b, c] X.env = (false, eval b X.env) :: starEach [c] X.env := by rfl) (hs3 : starEach [c] X.env = (false, eval c X.env) :: starEach [] X.env := by rfl) (hpl : (backTo pos (starEach [b, c] X.env)).any (·.1) = false := by rfl) :
    YI X (.Tuple elts kk tpos) (.Call (.Name "zip" p) [a, b, c] [] pos) (iZip3 fa fb fc) true :=
  let ⟨_, p1, d1⟩ := ha.ex; let ⟨_, p2, d2⟩ := hb.ex; let ⟨_, p3, d3⟩ := hc.ex; ⟨_, pi_zipK3 hg hm (pa_cons p1 (pa_cons p2 (pa_cons p3 pa_nil hs3) hs2) hs) hs hpl, di_zip3 d1 d2 d3⟩
end
end PV

namespace PV
open PySem PySem.Spec PyProof.Rows L2
/-! ### lists that are changed: owned by one name -/
def sSetOwn (i : Nat) (f : Rho → Option (List D)) : Rho → Option Out := fun ρ => (f ρ).map fun l => .nx (ρ.set i (some (.own l)))
def ownOf (ρ : Rho) (i : Nat) : Option (List D) := match ρ[i]? with | some (some (.own l)) => some l | _ => none
def sAppend (i : Nat) (fa : Rho → Option D) : Rho → Option Out := fun ρ => (ownOf ρ i).bind fun l => (fa ρ).bind fun d => if l.length < 16777216 then some (.nx (ρ.set i (some (.own (l ++ [d]))))) else none
def sExtend (i : Nat) (fa : Rho → Option (List D)) : Rho → Option Out := fun ρ => (ownOf ρ i).bind fun l => (fa ρ).bind fun m => if l.length + m.length ≤ 16777216 then some (.nx (ρ.set i (some (.own (l ++ m))))) else none
def sPut (i : Nat) (fb fa : Rho → Option D) : Rho → Option Out := fun ρ => (ownOf ρ i).bind fun l => (fa ρ).bind fun d => (fb ρ).bind fun j => match j with
  | .int k => (ixN l.length k).map fun n => .nx (ρ.set i (some (.own (l.set n d))))
  | _ => none
/-- the names is are owned no more -/
def frz (is : List Nat) (ρ : Rho) : Rho := ρ.mapIdx fun j s => if j ∈ is then (match s with | some (.own l) => some (.val (.list l)) | x => x) else s
def sFrz (is : List Nat) (g : Rho → Option Out) : Rho → Option Out := fun ρ => g (frz is ρ)
section
variable {K : PySem.W.Frag}
theorem ownOf_eq {ρ : Rho} {i : Nat} {l : List D} (h : ownOf ρ i = some l) : ρ[i]? = some (some (.own l)) := by
  unfold ownOf at h
  split at h
  · rename_i e; cases h; exact e
  · cases h
theorem Rel.setOwn {B O : Addr → Prop} {σ : L2.St} {H : Hp} {ρ : Rho} {p : Addr} {xs : List V} {l : List D} (R : Rel K B O σ H ρ) (i : Nat) (ho : O p) (hb : ¬ B p) (hp : H p = some (.lst xs)) (n : DnA K (hd O H) xs l)
    (hne : ∀ (j : Nat) (m : List D), j ≠ i → ρ[j]? = some (some (.own m)) → σ[j]? ≠ some (some (V.ref p))) : Rel K B O (σ.set i (some (.ref p))) H (ρ.set i (some (.own l))) where
  len := by simp [R.len]
  dom := R.dom
  sub := R.sub
  get := fun j s e => by
    by_cases hj : i = j
    · subst hj
      by_cases hl : i < ρ.length
      · rw [List.getElem?_set_self hl] at e
        cases e
        exact ⟨.ref p, List.getElem?_set_self (by rw [R.len]; exact hl), p, xs, rfl, ho, hb, hp, n⟩
      · rw [List.getElem?_eq_none (by simpa using hl)] at e; cases e
    · rw [List.getElem?_set_ne hj] at e ⊢
      exact R.get j s e
  inj := fun a b l1 l2 u e1 e2 e3 e4 => by
    by_cases ha : i = a
    · by_cases hb' : i = b
      · exact ha.symm.trans hb'
      · subst ha
        rw [List.getElem?_set_ne hb'] at e2 e4
        have hl : i < ρ.length := by
          by_cases hl : i < ρ.length
          · exact hl
          · rw [List.getElem?_eq_none (by simpa using hl)] at e1; cases e1
        rw [List.getElem?_set_self (by rw [R.len]; exact hl)] at e3
        cases e3
        exact absurd e4 (hne b l2 (Ne.symm hb') e2)
    · rw [List.getElem?_set_ne ha] at e1 e3
      by_cases hb' : i = b
      · subst hb'
        have hl : i < ρ.length := by
          by_cases hl : i < ρ.length
          · exact hl
          · rw [List.getElem?_eq_none (by simpa using hl)] at e2; cases e2
        rw [List.getElem?_set_self (by rw [R.len]; exact hl)] at e4
        cases e4
        exact absurd e3 (hne a l1 (Ne.symm ha) e1)
      · rw [List.getElem?_set_ne hb'] at e2 e4
        exact R.inj a b l1 l2 u e1 e2 e3 e4
theorem ds_setOwn {t : TE} {f : Rho → Option (List D)} (i : Nat) (ht : DF K t f) : DS K (tAsg t (gName i)) (sSetOwn i f) := by
  intro B O σ H ρ o D R e q
  obtain ⟨l, el, e⟩ := Option.map_eq_some_iff.mp e
  subst e
  refine ht B O σ H ρ l _ R el fun p xs H1 hp np s1 e1 n1 => ?_
  have hq : H1 p ≠ none := by rw [e1]; exact fun z => by cases z
  refine q (addO O p) _ H1 (R.growTr s1 hp hq) ((R.grow s1 hp hq).setOwn i (.inr rfl) (fun z => np (R.sub p z)) e1 n1 fun j m hj em hs => ?_)
  obtain ⟨v, ev, a, ys, rfl, oa, _⟩ := R.get j _ em
  rw [hs] at ev
  cases ev
  exact np oa
/-- the list at a (owned by slot i) holds other items now -/
theorem Rel.update {B O : Addr → Prop} {σ : L2.St} {H : Hp} {ρ : Rho} {a : Addr} {xs : List V} {l m : List D} (R : Rel K B O σ H ρ) {i : Nat} (e : ρ[i]? = some (some (.own l))) (es : σ[i]? = some (some (.ref a))) (oa : O a) (nb : ¬ B a) (n : DnA K (hd O H) xs m) :
    Rel K B O σ (upd H a (.lst xs)) (ρ.set i (some (.own m))) ∧ Tr B O H O (upd H a (.lst xs)) := by
  have hh : hd O (upd H a (.lst xs)) = hd O H := hd_upd_own oa
  have hdom : ∀ b, O b → upd H a (.lst xs) b ≠ none := fun b hb => by
    by_cases q : b = a
    · rw [q, upd_same]; exact fun z => by cases z
    · rw [upd_ne q]; exact R.dom b hb
  have hil : i < ρ.length := (List.getElem?_eq_some_iff.mp e).1
  refine ⟨⟨by simp [R.len], hdom, R.sub, fun j s ej => ?_, fun p q l1 l2 u e1 e2 e3 e4 => ?_⟩, ⟨by rw [hh]; exact Same.refl _, R.sub, fun b hb => upd_ne (fun z => nb (by rw [← z]; exact hb)), hdom⟩⟩
  · by_cases hj : i = j
    · subst hj
      rw [List.getElem?_set_self hil] at ej
      cases ej
      exact ⟨.ref a, es, a, xs, rfl, oa, nb, upd_same, by rw [hh]; exact n⟩
    · rw [List.getElem?_set_ne hj] at ej
      obtain ⟨v, ev, hv⟩ := R.get j s ej
      refine ⟨v, ev, ?_⟩
      cases s with
      | val d => show Dn K (hd O (upd H a (.lst xs))) v d; rw [hh]; exact hv
      | own l2 =>
        obtain ⟨a2, ys, rfl, o2, nb2, h2, n2⟩ := hv
        have hne : a2 ≠ a := fun z => by
          subst z
          exact hj (R.inj i j l l2 _ e ej es ev)
        exact ⟨a2, ys, rfl, o2, nb2, by rw [upd_ne hne]; exact h2, by rw [hh]; exact n2⟩
  · have fix : ∀ {p : Nat} {l1 : List D}, (ρ.set i (some (.own m)))[p]? = some (some (.own l1)) → ∃ l', ρ[p]? = some (some (.own l')) := fun {p l1} h => by
      by_cases hp : i = p
      · subst hp; exact ⟨l, e⟩
      · rw [List.getElem?_set_ne hp] at h; exact ⟨l1, h⟩
    obtain ⟨l1', e1'⟩ := fix e1
    obtain ⟨l2', e2'⟩ := fix e2
    exact R.inj p q l1' l2' u e1' e2' e3 e4
theorem ds_append {ta : TE} {fa : Rho → Option D} (i : Nat) (ha : DE K ta fa) : DS K (tDrop (tBM K "list" rAppend (tVar i) (tCons ta tNil))) (sAppend i fa) := by
  intro B O σ H ρ o D R e q
  obtain ⟨l, el, e⟩ := Option.bind_eq_some_iff.mp e
  obtain ⟨d, ed, e⟩ := Option.bind_eq_some_iff.mp e
  split at e
  case isFalse => cases e
  rename_i hz
  cases e
  have el' := ownOf_eq el
  obtain ⟨v, ev, a, xs, rfl, oa, nb, hp, n⟩ := R.get i _ el'
  refine ⟨.ref a, ev, .inl ⟨rfl, xs, .inl (.inl hp)⟩, ha B O σ H ρ d _ R ed fun v H1 s1 n1 => ?_⟩
  refine ⟨a, xs, v, rfl, rfl, s1 _ _ hp, by rw [n.len, line_eq]; exact hz, ?_⟩
  obtain ⟨R2, t2⟩ := (R.mono s1).update el' ev oa nb ((n.mono (same_hd s1)).snoc n1)
  exact q O σ _ ((R.tr s1).trans t2) R2
theorem ds_extend {ta : TE} {fa : Rho → Option (List D)} (i : Nat) (ha : DF K ta fa) : DS K (tDrop (tBM K "list" rExtend (tVar i) (tCons ta tNil))) (sExtend i fa) := by
  intro B O σ H ρ o D R e q
  obtain ⟨l, el, e⟩ := Option.bind_eq_some_iff.mp e
  obtain ⟨m, em, e⟩ := Option.bind_eq_some_iff.mp e
  split at e
  case isFalse => cases e
  rename_i hz
  cases e
  have el' := ownOf_eq el
  obtain ⟨v, ev, a, xs, rfl, oa, nb, hp, n⟩ := R.get i _ el'
  refine ⟨.ref a, ev, .inl ⟨rfl, xs, .inl (.inl hp)⟩, ha B O σ H ρ m _ R em fun p ys H1 hp1 np s1 e1 n1 => ?_⟩
  refine ⟨a, p, xs, ys, rfl, rfl, s1 _ _ hp, e1, by rw [n.len, n1.len, line_eq]; exact hz, ?_⟩
  obtain ⟨R2, t2⟩ := (R.mono s1).update el' ev oa nb ((n.mono (same_hd s1)).append (n1.mono (hd_sub fun _ => .inl)))
  exact q O σ _ ((R.tr s1).trans t2) R2
theorem ds_put {ta tb : TE} {fa fb : Rho → Option D} (i : Nat) (ha : DE K ta fa) (hb : DE K tb fb) : DS K (tAsg ta (gSub (tVar i) tb rSetL)) (sPut i fb fa) := by
  intro B O σ H ρ o D R e q
  obtain ⟨l, el, e⟩ := Option.bind_eq_some_iff.mp e
  obtain ⟨d, ed, e⟩ := Option.bind_eq_some_iff.mp e
  obtain ⟨j, ej, e⟩ := Option.bind_eq_some_iff.mp e
  have el' := ownOf_eq el
  obtain ⟨v, ev, a, xs, rfl, oa, nb, hp, n⟩ := R.get i _ el'
  refine ha B O σ H ρ d _ R ed fun v H1 s1 n1 => ⟨.ref a, ev, hb B O σ H1 ρ j _ (R.mono s1) ej fun w H2 s2 n2 => ?_⟩
  cases j with
  | int k =>
    obtain ⟨x, ex, e⟩ := Option.map_eq_some_iff.mp e
    subst e
    cases n2
    have s12 := s1.trans s2
    refine ⟨a, xs, k, x, rfl, rfl, s12 _ _ hp, by rw [n.len]; exact ex, ?_⟩
    obtain ⟨R2, t2⟩ := (R.mono s12).update el' ev oa nb (DnA.set (n1.mono (same_hd s2)) x (n.mono (same_hd s12)))
    exact q O σ _ ((R.tr s12).trans t2) R2
  | _ => cases e
theorem frz_get (is : List Nat) (ρ : Rho) (j : Nat) : (frz is ρ)[j]? = (ρ[j]?).map fun s => if j ∈ is then (match s with | some (.own l) => some (.val (.list l)) | x => x) else s := by
  unfold frz
  rw [List.getElem?_mapIdx]
theorem Rel.frz {B O : Addr → Prop} {σ : L2.St} {H : Hp} {ρ : Rho} (R : Rel K B O σ H ρ) (is : List Nat) : ∃ O2, Rel K B O2 σ H (frz is ρ) ∧ Tr B O H O2 H := by
  refine ⟨fun a => O a ∧ ¬ ∃ j ∈ is, ∃ l, ρ[j]? = some (some (.own l)) ∧ σ[j]? = some (some (.ref a)), ⟨?_, fun a o => R.dom a o.1, fun a b => ⟨R.sub a b, ?_⟩, fun j s e => ?_, fun p q l1 l2 u e1 e2 e3 e4 => ?_⟩, ⟨hd_sub fun a o => o.1, fun a b => ⟨R.sub a b, ?_⟩, fun _ _ => rfl, fun a o => R.dom a o.1⟩⟩
  · unfold PV.frz; rw [List.length_mapIdx]; exact R.len
  · rintro ⟨j, _, l, e1, e2⟩
    obtain ⟨v, ev, a', xs, rfl, _, nb, _⟩ := R.get j _ e1
    rw [e2] at ev; cases ev
    exact nb b
  · rw [frz_get] at e
    obtain ⟨s0, es0, e⟩ := Option.map_eq_some_iff.mp e
    have sub := hd_sub (H := H) (O := fun a => O a ∧ ¬ ∃ j ∈ is, ∃ l, ρ[j]? = some (some (.own l)) ∧ σ[j]? = some (some (.ref a))) (O' := O) fun a o => o.1
    by_cases hj : j ∈ is
    · rw [if_pos hj] at e
      cases s0 with
      | none => cases e
      | some s0 =>
        cases s0 with
        | val d =>
          cases e
          obtain ⟨v, ev, nv⟩ := R.get j _ es0
          exact ⟨v, ev, Dn.mono sub nv⟩
        | own l =>
          cases e
          obtain ⟨v, ev, a, xs, rfl, oa, nb, hp, n⟩ := R.get j _ es0
          refine ⟨.ref a, ev, .lst (.inl (.inl ?_)) (n.mono sub)⟩
          rw [hd_of (fun o => o.2 ⟨j, hj, l, es0, ev⟩)]
          exact hp
    · rw [if_neg hj] at e
      subst e
      obtain ⟨v, ev, hv⟩ := R.get j _ es0
      refine ⟨v, ev, ?_⟩
      cases s with
      | val d => exact Dn.mono sub hv
      | own l =>
        obtain ⟨a, xs, rfl, oa, nb, hp, n⟩ := hv
        refine ⟨a, xs, rfl, ⟨oa, ?_⟩, nb, hp, n.mono sub⟩
        rintro ⟨j2, hj2, l2, e1, e2⟩
        have := R.inj j j2 l l2 _ es0 e1 ev e2
        exact hj (by rw [this]; exact hj2)
  · have back : ∀ {p : Nat} {l : List D}, (PV.frz is ρ)[p]? = some (some (.own l)) → ρ[p]? = some (some (.own l)) := fun {p l} h => by
      rw [frz_get] at h
      obtain ⟨s0, es0, h⟩ := Option.map_eq_some_iff.mp h
      by_cases hp : p ∈ is
      · rw [if_pos hp] at h
        cases s0 with
        | none => cases h
        | some s0 => cases s0 <;> cases h
      · rw [if_neg hp] at h; subst h; exact es0
    exact R.inj p q l1 l2 u (back e1) (back e2) e3 e4
  · rintro ⟨j, _, l, e1, e2⟩
    obtain ⟨v, ev, a', xs, rfl, _, nb, _⟩ := R.get j _ e1
    rw [e2] at ev; cases ev
    exact nb b
theorem ds_frz {t : TS} {g : Rho → Option Out} (is : List Nat) (ht : DS K t g) : DS K t (sFrz is g) := by
  intro B O σ H ρ o D R e q
  obtain ⟨O2, R2, t2⟩ := R.frz is
  exact ht B O2 σ H _ o D R2 e (q.mono t2)
/-! fresh lists -/
def gRep (fa fb : Rho → Option D) : Rho → Option (List D) := fun ρ => (fa ρ).bind fun d => (fb ρ).bind fun k => match d, k with
  | .list xs, .int k => if (-4611686018427387904 ≤ k ∧ k < 4611686018427387904) ∧ xs.length * k.toNat ≤ 16777216 then some (List.replicate k.toNat xs).flatten else none
  | _, _ => none
theorem fresh_of {O : Addr → Prop} {H : Hp} {p : Addr} {xs : List V} {ds : List D} (hp : H p = none) (n : DnA K (hd O H) xs ds) : DnA K (hd (fun a => O a ∨ a = p) (upd H p (.lst xs))) xs ds := n.mono fun a o h => by
  obtain ⟨n, h⟩ := hd_some h
  have np : a ≠ p := ne_of_none h hp
  rw [hd_of (by rintro (z | z); exact n z; exact np z), upd_ne np]
  exact h
theorem df_rep {ta tb : TE} {fa fb : Rho → Option D} (ha : DE K ta fa) (hb : DE K tb fb) : DF K (tOp (rRepL K) ta tb) (gRep fa fb) := by
  intro B O σ H ρ d Q R e q
  obtain ⟨x, ex, e⟩ := Option.bind_eq_some_iff.mp e
  obtain ⟨y, ey, e⟩ := Option.bind_eq_some_iff.mp e
  refine ha B O σ H ρ x _ R ex fun v H1 s1 n1 => ?_
  refine hb B O σ H1 ρ y _ (R.mono s1) ey fun u H2 s2 n2 => ?_
  split at e
  · split at e
    · rename_i h
      cases e
      cases n1 with
      | lst hl hn =>
        cases n2
        refine ⟨_, _, _, rfl, rfl, s2.seq (Same.seq hd_le hl), by have := h.1.1; omega, by have := h.1.2; omega, by rw [hn.len, line_eq]; exact h.2, fun p hp => ?_⟩
        exact q p _ _ ((s1.trans s2).free hp) (R.new ((s1.trans s2).free hp)) ((s1.trans s2).trans (PV.same_upd hp)) upd_same (fresh_of hp ((hn.mono (same_hd s2)).rep _))
    · cases e
  · cases e
def gListOf (fa : Rho → Option D) : Rho → Option (List D) := fun ρ => (fa ρ).bind fun d => match d with
  | .list xs => some xs
  | .tuple xs => some xs
  | _ => none
theorem df_listOf {ta : TE} {fa : Rho → Option D} (ha : DE K ta fa) : DF K (tCB (fun xs H Q => ∃ p ys, xs = [.ref p] ∧ (SqL K H p ys ∨ SqT K H p ys) ∧ ∀ l, H l = none → Q (.ref l) (upd H l (.lst ys))) (tCons ta tNil)) (gListOf fa) := by
  intro B O σ H ρ d Q R e q
  obtain ⟨x, ex, e⟩ := Option.bind_eq_some_iff.mp e
  refine ha B O σ H ρ x _ R ex fun v H1 s1 n1 => ?_
  cases n1 with
  | lst hl hn =>
    cases e
    refine ⟨_, _, rfl, .inl (Same.seq hd_le hl), fun p hp => ?_⟩
    exact q p _ _ (s1.free hp) (R.new (s1.free hp)) (s1.trans (PV.same_upd hp)) upd_same (fresh_of hp hn)
  | tup hl hn =>
    cases e
    refine ⟨_, _, rfl, .inr (Same.seqT hd_le hl.sq), fun p hp => ?_⟩
    exact q p _ _ (s1.free hp) (R.new (s1.free hp)) (s1.trans (PV.same_upd hp)) upd_same (fresh_of hp hn)
  | non => cases e
  | bl _ => cases e
  | int _ => cases e
  | str _ => cases e
  | dct _ _ => cases e
end
section
variable {X : Cx} {a b e : Expr} {fa fb : Rho → Option D} {fl : Rho → Option (List D)} {pos pos' apos cpos p : Pos} {g : Rho → Option Out} {st : Stmt}
theorem yf_rep (ha : YE X a fa) (hb : YE X b fb) : YF X (.BinOp a .Mult b pos) (gRep fa fb) := let ⟨_, p1, d1⟩ := ha.ex; let ⟨_, p2, d2⟩ := hb.ex; ⟨_, pe_op op_repL p1 p2, df_rep d1 d2⟩
theorem yf_list (hg : Gl X "list") (hm : X.mg "list" = none) (ha : YE X a fa) (he : starEach [a] X.env = (false, eval a X.env) :: starEach [] X.env := by rfl) (hpl : (backTo pos (starEach [] X.env)).any (·.1) = false := by rfl) : YF X (.Call (.Name "list" p) [a] [] pos) (gListOf fa) :=
  let ⟨_, p1, d1⟩ := ha.ex; ⟨_, pe_callTy call_list_of hg hm (by decide +kernel) (pa_cons p1 pa_nil he) (by decide) (by decide) he hpl, df_listOf d1⟩
theorem ys_setOwn (i : Nat) {x : Str} (hN : X.N.Nodup) (hi : X.N[i]? = some x) (hx : Loc X.env.scope x) (he : YF X e fl) (hs : swapsWith e (some (.Name x pos')) pos.line X.env = pure false := by rfl) (hf : X.fn x = true ∨ X.env.scope.names.lookup x = some .local := by first | exact .inl rfl | exact .inr rfl | assumption) :
    YS X (.Assign [.Name x pos'] e pos) (sSetOwn i fl) := let ⟨_, p, d⟩ := he.ex; ⟨_, L2.ps_set hN hi hx p hs hf, ds_setOwn i d⟩
theorem ys_setOwnLc (i : Nat) {y : Str} {py spos : Pos} {elt tg iter : Expr} {ifs : List Expr} {scope : Scope} {own : List (Str × Nat)} {fi : Rho → Option (List D)} {h : D → Rho → Option Rho} {ft : Rho → Option Bool} {fe : Rho → Option D} {ts vs : List Nat} (hc : X.calm = true) (hN : X.N.Nodup) (hy : X.N[i]? = some y) (hyl : X.env.scope.names.lookup y = some .local)
    (hsw : swapsWith (.ListComp elt [⟨tg, iter, ifs, 0⟩] scope pos) (some (.Name y py)) spos.line X.env = pure true) (ok : BlkOk X.N X.env.scope scope own) {wb : Bool} (hi : YI X tg iter fi wb)
    (hg : ∀ (s : Shared) (H : Hp) (C : Addr) (cl : List (Str × Addr)) (fp : List Addr), YG (X.blk s H scope (compEnvC scope cl C X.env) fp) tg ts h wb) (hsub : ∀ j ∈ ts, j ∈ vs)
    (ht : ∀ (s : Shared) (H : Hp) (C : Addr) (cl : List (Str × Addr)) (fp : List Addr), YTs (X.blk s H scope (compEnvC scope cl C X.env) fp) ifs ft)
    (he : ∀ (s : Shared) (H : Hp) (C : Addr) (cl : List (Str × Addr)) (fp : List Addr), YE (X.blk s H scope (compEnvC scope cl C X.env) fp) elt fe) (hs : ∀ x, foldedSetIterable iter X.env x = pure x := by intro _; rfl) (hv : own.map (·.2) = vs := by rfl) :
    YS X (.Assign [.Name y py] (.ListComp elt [⟨tg, iter, ifs, 0⟩] scope pos) spos) (sSetOwn i (gLc fi h ft fe vs)) := by
  subst hv
  obtain ⟨wi, pi, di⟩ := hi.ex
  exact ⟨_, L2.ps_setLc hc hN hy hyl hsw pi ok (fun s H C cl fp => (hg s H C cl fp).pe) (fun s H C cl fp => (ht s H C cl fp).pe) (fun s H C cl fp => (he s H C cl fp).pe) hs, ds_setOwn i (df_lc di dg_tP hsub dt_tP de_tP)⟩
theorem ys_append (i : Nat) {x : Str} (ha : YE X a fa) (hN : X.N[i]? = some x := by rfl) (hv : Vis X.env.scope x := by first | exact Or.inl rfl | exact Or.inr (Or.inl rfl) | exact Or.inr (Or.inr rfl)) (h1 : (x == ("__debug__" : Str)) = false := by decide) (h2 : (x == ("__classdict__" : Str)) = false := by decide)
    (hbase : attributeBase (.Name x p) "append" X.env (eval (.Name x p) X.env) = eval (.Name x p) X.env := by rfl)
    (hfew : ((backTo cpos (starEach [a] X.env)).all (fun x => !x.1) && (backToKw cpos (keywordEach [] X.env)).all (fun x => x.1.isSome)
      && decide ([a].length + ([] : List Keyword).length + (if ([] : List Keyword).isEmpty then 0 else 1) < 30)) = true := by rfl)
    (hline : (apos.endLine == cpos.line) = true := by rfl) (hs : starEach [a] X.env = (false, eval a X.env) :: starEach [] X.env := by rfl) (hplain : (backTo cpos (starEach [] X.env)).any (·.1) = false := by rfl)
    (hsw : swapsWith (.Call (.Attribute (.Name x p) "append" apos) [a] [] cpos) none pos.line X.env = pure false := by rfl) : YS X (.Expr (.Call (.Attribute (.Name x p) "append" apos) [a] [] cpos) pos) (sAppend i fa) :=
  let ⟨_, p1, d1⟩ := ha.ex; ⟨_, ps_expr (pe_bm PySem.F.plainAttrs_list PySem.F.slot_list_append PySem.F.type_list_append mt_append (pe_var hN hv h1 h2) (pa_cons p1 pa_nil hs) hbase hfew hline hs hplain) hsw, ds_append i d1⟩
theorem ys_extend (i : Nat) {x : Str} (ha : YF X a fl) (hN : X.N[i]? = some x := by rfl) (hv : Vis X.env.scope x := by first | exact Or.inl rfl | exact Or.inr (Or.inl rfl) | exact Or.inr (Or.inr rfl)) (h1 : (x == ("__debug__" : Str)) = false := by decide) (h2 : (x == ("__classdict__" : Str)) = false := by decide)
    (hbase : attributeBase (.Name x p) "extend" X.env (eval (.Name x p) X.env) = eval (.Name x p) X.env := by rfl)
    (hfew : ((backTo cpos (starEach [a] X.env)).all (fun x => !x.1) && (backToKw cpos (keywordEach [] X.env)).all (fun x => x.1.isSome)
      && decide ([a].length + ([] : List Keyword).length + (if ([] : List Keyword).isEmpty then 0 else 1) < 30)) = true := by rfl)
    (hline : (apos.endLine == cpos.line) = true := by rfl) (hs : starEach [a] X.env = (false, eval a X.env) :: starEach [] X.env := by rfl) (hplain : (backTo cpos (starEach [] X.env)).any (·.1) = false := by rfl)
    (hsw : swapsWith (.Call (.Attribute (.Name x p) "extend" apos) [a] [] cpos) none pos.line X.env = pure false := by rfl) : YS X (.Expr (.Call (.Attribute (.Name x p) "extend" apos) [a] [] cpos) pos) (sExtend i fl) :=
  let ⟨_, p1, d1⟩ := ha.ex; ⟨_, ps_expr (pe_bm PySem.F.plainAttrs_list PySem.F.slot_list_extend PySem.F.type_list_extend mt_extend (pe_var hN hv h1 h2) (pa_cons p1 pa_nil hs) hbase hfew hline hs hplain) hsw, ds_extend i d1⟩
theorem ys_put (i : Nat) {x : Str} (hb : YE X b fb) (ha : YE X a fa) (hN : X.N[i]? = some x := by rfl) (hv : Vis X.env.scope x := by first | exact Or.inl rfl | exact Or.inr (Or.inl rfl) | exact Or.inr (Or.inr rfl)) (h1 : (x == ("__debug__" : Str)) = false := by decide) (h2 : (x == ("__classdict__" : Str)) = false := by decide)
    (hst : ∀ v, assign (.Subscript (.Name x p) b pos') X.env v = (do
      let ov ← holding [v] (eval (.Name x p) X.env)
      let iv ← holding [v, ov] (eval b X.env)
      standAt pos'
      holding [v, ov, iv] (setItem ov iv v)
      release [v, ov, iv] []) := by intro _; rfl)
    (hs : swapsWithSole [.Subscript (.Name x p) b pos'] a pos.line X.env = pure false := by rfl) (hw : swappedStores [.Subscript (.Name x p) b pos'] a X.env = pure none := by rfl)
    (h3 : (assignEach [.Subscript (.Name x p) b pos'] X.env).map (·.2) = [assign (.Subscript (.Name x p) b pos') X.env] := by rfl) : YS X (.Assign [.Subscript (.Name x p) b pos'] a pos) (sPut i fb fa) :=
  let ⟨_, p1, d1⟩ := ha.ex; let ⟨_, p2, d2⟩ := hb.ex; ⟨_, ps_asg p1 (pg_sub (pe_var hN hv h1 h2) p2 set_list hst) hs hw h3, ds_put i d1 d2⟩
theorem ys_frz (is : List Nat) (h : YS X st g) : YS X st (sFrz is g) := let ⟨_, p, d⟩ := h.ex; ⟨_, p, ds_frz is d⟩
end
/-! ### isinstance with a built-in class -/
def tyD : D → List String
  | .none => ["NoneType"]
  | .bool _ => ["bool", "int"]
  | .int _ => ["int"]
  | .str _ => ["str"]
  | .list _ => ["list"]
  | .tuple _ => ["tuple"]
  | .dict _ => ["dict"]
def vIsi (T : String) (d : D) : Option D := some (.bool ((tyD d).contains T))
end PV

namespace PV
open PySem PySem.Spec PyProof.Rows L2
/-! ### isinstance -/
def isiTs : List String := ["int", "str", "tuple", "bool", "list"]
theorem tyX_dn {K : PySem.W.Frag} {H : Hp} {v : V} {d : D} (n : Dn K H v d) : ∃ T, TyX K H v (.type T) ∧ ∀ T2 ∈ isiTs, kitB T T2 = some ((tyD d).contains T2) := by
  have ty : ∀ (d : D) (T : String), (∀ T2 ∈ isiTs, kitB T T2 = some ((tyD d).contains T2)) → TyX K H v (.type T) → ∃ T, TyX K H v (.type T) ∧ ∀ T2 ∈ isiTs, kitB T T2 = some ((tyD d).contains T2) := fun d T h t => ⟨T, t, h⟩
  cases n with
  | non => exact ty _ "NoneType" (by decide +kernel) (.base .non)
  | bl b => exact ty (.bool b) "bool" (by show ∀ T2 ∈ isiTs, kitB "bool" T2 = some ((["bool", "int"] : List String).contains T2); decide +kernel) (.base (.bl b))
  | int i => exact ty (.int i) "int" (by show ∀ T2 ∈ isiTs, kitB "int" T2 = some ((["int"] : List String).contains T2); decide +kernel) (.base (.int i))
  | str x => exact ty (.str x) "str" (by show ∀ T2 ∈ isiTs, kitB "str" T2 = some ((["str"] : List String).contains T2); decide +kernel) (.base (.str x))
  | @lst a xs ds h _ =>
    refine ty (.list ds) "list" (by show ∀ T2 ∈ isiTs, kitB "list" T2 = some ((["list"] : List String).contains T2); decide +kernel) ?_
    rcases h with (h | ⟨o, h⟩) | ⟨o, its, n, hk, hc, _⟩
    · exact .base (.lst h)
    · exact .base (.frz h)
    · exact .kList hk hc
  | @tup a xs ds h _ =>
    refine ty (.tuple ds) "tuple" (by show ∀ T2 ∈ isiTs, kitB "tuple" T2 = some ((["tuple"] : List String).contains T2); decide +kernel) ?_
    obtain ⟨ob, _, h⟩ := h
    exact .fTuple h
  | @dct a kv ds h _ => exact ty (.dict ds) "dict" (by show ∀ T2 ∈ isiTs, kitB "dict" T2 = some ((["dict"] : List String).contains T2); decide +kernel) (.base (.dK h))
theorem de_isi {K : PySem.W.Frag} {ta : TE} {fa : Rho → Option D} {T : String} (hT : T ∈ isiTs) (ha : DE K ta fa) : DE K (tCB (rIsi K) (tCons ta (tCons (tC (.ty T)) tNil))) (f1 (vIsi T) fa) := by
  intro B O σ H ρ d Q R e q
  obtain ⟨x, ex, e⟩ := Option.bind_eq_some_iff.mp e
  cases e
  refine ha B O σ H ρ x _ R ex fun v H1 s1 n1 => ?_
  obtain ⟨T1, ty, hk⟩ := tyX_dn n1.up
  exact ⟨v, .ty T, .type T1, .type T, _, rfl, .ty T, ty, kit_ty (hk T hT), q _ _ s1 (.bl _)⟩
section
variable {X : Cx} {a b c e : Expr} {fa fb fc : Rho → Option D} {pos p p2 : Pos}
theorem y_isi {x : Str} (T : String) (hT : T ∈ isiTs) (hg : Gl X "isinstance") (hg2 : Gl X x) (hm : X.mg "isinstance" = none) (hm2 : X.mg x = none) (hv : bootBuiltins x = some (.type T)) (ha : YE X a fa)
    (h1 : x ≠ "__name__" := by decide) (hdb : (x == ("__debug__" : Str)) = false := by decide)
    (he : starEach [a, .Name x p2] X.env = (false, eval a X.env) :: starEach [.Name x p2] X.env := by rfl) (he2 : starEach [.Name x p2] X.env = (false, eval (.Name x p2) X.env) :: starEach [] X.env := by rfl) (hpl : (backTo pos (starEach [.Name x p2] X.env)).any (·.1) = false := by rfl) :
    YE X (.Call (.Name "isinstance" p) [a, .Name x p2] [] pos) (f1 (vIsi T) fa) :=
  let ⟨_, p1, d1⟩ := ha.ex
  ⟨_, pe_callB call_isi hg hm (by decide +kernel) (pa_cons p1 (pa_cons (pe_bltn (v := .ty T) hg2 hm2 hv rfl h1 hdb) pa_nil he2) he) (by decide) (by decide) he hpl, de_isi hT d1⟩
theorem y_isi_int (hg : Gl X "isinstance") (hg2 : Gl X "int") (hm : X.mg "isinstance" = none) (hm2 : X.mg "int" = none) (ha : YE X a fa)
    (he : starEach [a, .Name "int" p2] X.env = (false, eval a X.env) :: starEach [.Name "int" p2] X.env := by rfl) (he2 : starEach [.Name "int" p2] X.env = (false, eval (.Name "int" p2) X.env) :: starEach [] X.env := by rfl) (hpl : (backTo pos (starEach [.Name "int" p2] X.env)).any (·.1) = false := by rfl) :
    YE X (.Call (.Name "isinstance" p) [a, .Name "int" p2] [] pos) (f1 (vIsi "int") fa) := y_isi "int" (by decide) hg hg2 hm hm2 (by decide +kernel) ha (by decide) (by decide) he he2 hpl
theorem y_isi_str (hg : Gl X "isinstance") (hg2 : Gl X "str") (hm : X.mg "isinstance" = none) (hm2 : X.mg "str" = none) (ha : YE X a fa)
    (he : starEach [a, .Name "str" p2] X.env = (false, eval a X.env) :: starEach [.Name "str" p2] X.env := by rfl) (he2 : starEach [.Name "str" p2] X.env = (false, eval (.Name "str" p2) X.env) :: starEach [] X.env := by rfl) (hpl : (backTo pos (starEach [.Name "str" p2] X.env)).any (·.1) = false := by rfl) :
    YE X (.Call (.Name "isinstance" p) [a, .Name "str" p2] [] pos) (f1 (vIsi "str") fa) := y_isi "str" (by decide) hg hg2 hm hm2 (by decide +kernel) ha (by decide) (by decide) he he2 hpl
theorem y_isi_tuple (hg : Gl X "isinstance") (hg2 : Gl X "tuple") (hm : X.mg "isinstance" = none) (hm2 : X.mg "tuple" = none) (ha : YE X a fa)
    (he : starEach [a, .Name "tuple" p2] X.env = (false, eval a X.env) :: starEach [.Name "tuple" p2] X.env := by rfl) (he2 : starEach [.Name "tuple" p2] X.env = (false, eval (.Name "tuple" p2) X.env) :: starEach [] X.env := by rfl) (hpl : (backTo pos (starEach [.Name "tuple" p2] X.env)).any (·.1) = false := by rfl) :
    YE X (.Call (.Name "isinstance" p) [a, .Name "tuple" p2] [] pos) (f1 (vIsi "tuple") fa) := y_isi "tuple" (by decide) hg hg2 hm hm2 (by decide +kernel) ha (by decide) (by decide) he he2 hpl
theorem y_isi_bool (hg : Gl X "isinstance") (hg2 : Gl X "bool") (hm : X.mg "isinstance" = none) (hm2 : X.mg "bool" = none) (ha : YE X a fa)
    (he : starEach [a, .Name "bool" p2] X.env = (false, eval a X.env) :: starEach [.Name "bool" p2] X.env := by rfl) (he2 : starEach [.Name "bool" p2] X.env = (false, eval (.Name "bool" p2) X.env) :: starEach [] X.env := by rfl) (hpl : (backTo pos (starEach [.Name "bool" p2] X.env)).any (·.1) = false := by rfl) :
    YE X (.Call (.Name "isinstance" p) [a, .Name "bool" p2] [] pos) (f1 (vIsi "bool") fa) := y_isi "bool" (by decide) hg hg2 hm hm2 (by decide +kernel) ha (by decide) (by decide) he he2 hpl
end
/-! ### all -/
def blsOf : List D → Option (List Bool)
  | [] => some []
  | .bool i :: r => (blsOf r).map (i :: ·)
  | _ => none
def bAll : List D → Option D
  | [.list l] => (blsOf l).map fun bs => .bool (bs.all id)
  | _ => none
section
variable {K : PySem.W.Frag}
theorem blsOf_dn {H : Hp} : ∀ {vs : List V} {l : List D} {ns : List Bool}, DnA K H vs l → blsOf l = some ns → vs = ns.map V.bl
  | _, _, _, .nil, e => by cases e; rfl
  | _, d :: _, ns, .cons h t, e => by
    cases d <;> try (cases e; done)
    obtain ⟨r, er, e⟩ := Option.map_eq_some_iff.mp e
    subst e
    cases h
    rw [List.map_cons, blsOf_dn t er]
theorem rn_all : RnD K (rAll K) bAll := by
  intro O H x dx d Q hO n e q
  unfold bAll at e
  split at e
  · obtain ⟨ns, hn, e⟩ := Option.map_eq_some_iff.mp e
    subst e
    cases n with | cons n1 n2 =>
      cases n2
      cases n1 with | lst h a =>
        exact ⟨_, ns, rfl, by rw [← blsOf_dn a hn]; exact Same.seq hd_le h, q _ _ (Same.refl H) (.bl _)⟩
  · cases e
end
/-! ### sorted of a tuple -/
end PV
namespace PySem.W
open PySem PySem.Calls PyProof.Rows
section
variable {prog : Program} {w : World} {A : Around} {E : Value → Shared → Prop} {s : Shared}
theorem pv_collect_tup {l : Addr} {vs : List Value} {Q : List Value → Shared → Prop} (hl : IsTup s.heap l vs.toArray)
    (h : Q vs { s with heap := (s.heap.push (seqObj "list" #[] 0)).update s.heap.objs.size (Obj.mapSeq (· ++ vs.toArray)) }) (hsz : vs.length ≤ sizeLine) :
    wpAny (model prog w) A (collect (.ref l)) Q E s := by
  obtain ⟨o, ho, hc, n, hd⟩ := id hl
  unfold collect
  refine wpAny_bind (wpAny_runValue (codeAny_builtin entry_proto_collect' ?_))
  show wpAny _ _ (do again (.builtin "list.__iadd__" ⟨[← newList [], .ref l], []⟩)) _ _ s
  refine wpAny_bind (wpAny_newList (wpAny_pure ⟨Code.quiet_builtin _ (by decide +kernel), codeAny_builtin entry_list_iadd' ?_⟩))
  show wpAny _ _ (Builtin.List.listExtendWith (.ref s.heap.objs.size) (.ref l) (.ref s.heap.objs.size)) _ _ { s with heap := s.heap.push (seqObj "list" #[] 0) }
  unfold Builtin.List.listExtendWith
  have ho' : (s.heap.push (seqObj "list" #[] 0)).get? l = some o := Heap.get?_push_of_some _ ho
  refine wpAny_bind (wpAny_typeOf (T := "tuple") ⟨o, ho', hc⟩ ?_)
  have ht : (Value.type "tuple" == Value.type "tuple") = true := by rfl
  rw [if_pos (by rw [ht]; simp)]
  refine wpAny_bind (listItems_at ho' hd ?_)
  refine wpAny_bind (listItems_at (xs := #[]) (n := 0) (Heap.get?_push_size _ rfl) rfl ?_)
  rw [if_neg (by simp)]
  refine wpAny_bind (listUpdate_at (xs := #[]) (n := 0) (Heap.get?_push_size _ rfl) rfl ?_ (Nat.zero_le _) (by show (#[] ++ vs.toArray).size ≤ sizeLine + 1; simp only [Array.size_append, List.size_toArray, List.length_nil]; omega))
  refine wpAny_pure ?_
  show wpAny (model prog w) A (do
      let o ← load s.heap.objs.size
      match o.data with
      | .seq xs _ => pure xs.toList
      | _ => unsupported "internal:collect") Q E { s with heap := (s.heap.push (seqObj "list" #[] 0)).update s.heap.objs.size (Obj.mapSeq (· ++ vs.toArray)) }
  refine wpAny_bind (wpAny_load (get?_update_seq (Heap.get?_push_size _ rfl) _) ?_)
  show wpAny _ _ (pure ((#[] : Array Value) ++ vs.toArray).toList) Q E _
  rw [show ((#[] : Array Value) ++ vs.toArray).toList = vs by simp]
  exact wpAny_pure h
theorem pv_sorted_of_sort {l : Addr} {vs : List Value} {Q : Value → Shared → Prop} (hl : IsTup s.heap l vs.toArray) (hL : vs.length ≤ sizeLine) (ha1 : argsOk "sorted" ⟨[.ref l], []⟩) (ha2 : ∀ x, argsOk "list.sort" ⟨[.ref x], []⟩)
    (body : ∀ E' : Value → Shared → Prop, wpAny (model prog w) A.in1.in1 (Builtin.«list.sort» ⟨[.ref (s.heap.objs.size + 1)], []⟩) (fun f s' => f = .done (.ret .none) ∧ Q (.ref (s.heap.objs.size + 1)) s') E' { s with heap := copyHeap s.heap vs }) :
    wpAny (model prog w) A (call (.builtin "sorted") [.ref l]) Q E s := by
  refine call_function_entry_kw (kw := []) kind_sorted plain_sorted entry_sorted ha1 ?_
  unfold Builtin.«sorted»
  refine wpAny_bind (m := checkCount "sorted" 1 1 _) (wpAny_pure ?_)
  refine wpAny_bind (pv_collect_tup hl ?_ hL)
  refine wpAny_bind (wpAny_newList ?_ hL)
  have hsz : ((s.heap.push (seqObj "list" #[] 0)).update s.heap.objs.size (Obj.mapSeq (· ++ vs.toArray))).objs.size = s.heap.objs.size + 1 := by
    rw [Heap.size_update, size_push']
  show wpAny _ _ _ _ _ { s with heap := copyHeap s.heap vs }
  rw [hsz]
  refine wpAny_bind (wpAny_holding (wpAny_call_entry_kw slot_list_sort ⟨_, copyHeap_at s.heap vs, rfl⟩ entry_list_sort ?body (ha2 _)))
  case body =>
    show wpAny (model prog w) A.in1.in1 (Builtin.«list.sort» ⟨[.ref (s.heap.objs.size + 1)], []⟩) _ _ _
    refine wpAny_mono (body _) (fun f s' hf => ?_) fun _ _ e => e
    obtain ⟨rfl, hq⟩ := hf
    exact ⟨_, rfl, wpAny_pure ⟨_, rfl, hq⟩⟩
theorem pv_sorted_tup {β : Type} {R : Value → β → Prop} {enc : β → PyData} {vs : List Value} {bs : List β} {l : Addr} {Q : Value → Shared → Prop} (hl : IsTup s.heap l vs.toArray) (e : EachIs R vs bs) (er : EachIs (fun v b => ∃ as, Reads s.heap v (enc b) as) vs bs) (hal : AllAlike (bs.map enc)) (hk : Sortable (bs.map enc)) (hL : bs.length ≤ sizeLine)
    (hu : ∀ b, b ∈ bs → A.units + 2 + (enc b).depth < cLine) (h : ∀ out, out.length = bs.length → EachIs R out (bs.mergeSort (dataLe false enc)) → Q (.ref (s.heap.objs.size + 1)) { s with heap := sortedAll s.heap vs (List.toArray out) }) :
    wpAny (model prog w) A (call (.builtin "sorted") [.ref l]) Q E s := by
  have er' : EachIs (fun v b => ∃ as, Reads (sortingHeap (copyHeap s.heap vs) (s.heap.objs.size + 1) vs) v (enc b) as) vs bs := er.mono fun _ _ ⟨as, r⟩ => ⟨as, PyProof.Rows.Reads.keeps (fun _ _ => sorting_copy_old) r⟩
  exact pv_sorted_of_sort hl (by rw [e.length]; exact hL) (args_sorted1 _) (fun _ => args_list_sort _) fun _ => list_sort_vals (s := { s with heap := copyHeap s.heap vs }) (copyHeap_at s.heap vs)
    (SortsAt.data (s := { s with heap := sortingHeap (copyHeap s.heap vs) (s.heap.objs.size + 1) vs }) (each_map (R := fun v d => ∃ as, Reads (sortingHeap (copyHeap s.heap vs) (s.heap.objs.size + 1) vs) v d as) enc er') hal hk (bound_map hu)) (by rw [e.length]; exact hL)
    ⟨rfl, h _ (by rw [sortVals_length false rfl]; exact e.length) (sortVals_data false e er' hal)⟩
end
end PySem.W
namespace PV
open PySem PySem.Spec PyProof.Rows L2
section
variable {X : Cx}
def rSortT (K : PySem.W.Frag) : List V → Hp → VK → Prop := fun xs H Q => ∃ (a : Addr) (ys : List V) (ds : List D) (G : Hp), xs = [.ref a] ∧ SqT K H a ys ∧ Same G H ∧ DnA K G ys ds ∧ alikeOk ds = true ∧ sortOk ds = true ∧ ds.length ≤ 16777216 ∧
  ∀ p zs, H p = none → DnA K G zs (ds.mergeSort (PySem.W.dataLe false id)) → Q (.ref p) (upd H p (.lst zs))
theorem cr_sortT' {k : Nat} (hr : Room k X.A) : CallR X (.builtin "sorted") (rSortT X.K) := by
  intro pins s σ H xs us Q I r h
  obtain ⟨a, ys, ds, G, rfl, hs, sm, n, ok, ok2, hz, q⟩ := h
  obtain ⟨its, rv, hl, _⟩ := I.tuple hs
  rw [Vals.ref1 r]
  obtain ⟨h1, h2, h3⟩ := alikeOk_all ok
  obtain ⟨as, ra⟩ := reads_dn I sm n rv h2
  have hu := hr.units
  have er := PySem.W.readsAll_each (h := s.heap) (id : D → D) (vs := its) (bs := ds) (as := as) (by simpa using ra)
  refine PySem.W.pv_sorted_tup (enc := id) hl (each_of n rv) er (by simpa using h1) (by simpa using sortOk_all ok2) (by rw [line_eq]; exact hz) (fun b hb => by have := h3 b hb; show X.A.units + 2 + b.depth < cLine; omega) fun out hlen he => ?_
  obtain ⟨zs, hv, hn⟩ := of_each he
  obtain ⟨ep, he'⟩ := PyProof.Rows.sortedAll_at s.heap its out.toArray
  refine ⟨.ref _, upd H (s.heap.objs.size + 1) (.lst zs), I.laid (t' := s.toks) (fun _ _ => PyProof.Rows.sortedAll_old) (Nat.le_succ _) ⟨?_, out, ep, hv, he'⟩, rfl, q _ zs (I.hok.fresh (Nat.le_succ _)) hn⟩
  rw [hv.length, hlen, line_eq]; exact hz
/-! ### min, max, sum of a tuple -/
def rMinT (K : PySem.W.Frag) : List V → Hp → VK → Prop := fun xs H Q => ∃ (a : Addr) (ys : List V) (x : D) (ds : List D) (G : Hp), xs = [.ref a] ∧ SqT K H a ys ∧ Same G H ∧ DnA K G ys (x :: ds) ∧ alikeOk (x :: ds) = true ∧ someOk (x :: ds) = true ∧
  ∀ v, Dn K G v (PySem.W.minD x ds) → Q v H
def rMaxT (K : PySem.W.Frag) : List V → Hp → VK → Prop := fun xs H Q => ∃ (a : Addr) (ys : List V) (x : D) (ds : List D) (G : Hp), xs = [.ref a] ∧ SqT K H a ys ∧ Same G H ∧ DnA K G ys (x :: ds) ∧ alikeOk (x :: ds) = true ∧ someOk (x :: ds) = true ∧
  ∀ v, Dn K G v (PySem.W.maxD x ds) → Q v H
theorem alikeOk_lay {ds : List D} (ok : alikeOk ds = true) {d : D} (hm : d ∈ ds) : d.canLay0 = true := by
  unfold alikeOk at ok
  rw [Bool.and_eq_true] at ok
  have := List.all_eq_true.mp ok.2 d hm
  rw [Bool.and_eq_true] at this
  exact this.1
theorem cr_minT {k : Nat} (hr : Room k X.A) (hc : X.calm = true) : CallR X (.builtin "min") (rMinT X.K) := by
  intro pins s σ H xs us Q I r h
  obtain ⟨a, ys, x, ds, G, rfl, hs, sm, n, ok, ok2, q⟩ := h
  obtain ⟨its, rv, hl, _⟩ := I.tuple hs
  rw [Vals.ref1 r]
  obtain ⟨h1, h2, h3⟩ := alikeOk_all ok
  obtain ⟨as, ra⟩ := reads_dn I sm n rv h2
  have hu := hr.units
  have hdp := depthAll_le h3
  refine PySem.W.min_tuple_data (I.ok.hd hc) hl (by simpa using ra) ⟨fun x hx y hy => h1 x hx y hy, someOk_all ok2⟩ (by omega) fun i v h' tk bs hv rd hk => ?_
  have hv' : its[i]? = some v := by simpa using hv
  obtain ⟨w, hw, rw'⟩ := vals_getI rv hv'
  obtain ⟨d, hd', nd⟩ := n.getv hw
  have hm : d ∈ x :: ds := List.mem_of_getElem? hd'
  have e : d = PySem.W.minD x ds := dp_alike I (nd.mono sm) rw' (alikeOk_lay ok hm) (h1 d hm _ (minD_mem x ds)) rd hk
  subst e
  exact ⟨w, H, I.kept hk, rw', q w nd⟩
theorem cr_maxT {k : Nat} (hr : Room k X.A) (hc : X.calm = true) : CallR X (.builtin "max") (rMaxT X.K) := by
  intro pins s σ H xs us Q I r h
  obtain ⟨a, ys, x, ds, G, rfl, hs, sm, n, ok, ok2, q⟩ := h
  obtain ⟨its, rv, hl, _⟩ := I.tuple hs
  rw [Vals.ref1 r]
  obtain ⟨h1, h2, h3⟩ := alikeOk_all ok
  obtain ⟨as, ra⟩ := reads_dn I sm n rv h2
  have hu := hr.units
  have hdp := depthAll_le h3
  refine PySem.W.max_tuple_data (I.ok.hd hc) hl (by simpa using ra) ⟨fun x hx y hy => h1 x hx y hy, someOk_all ok2⟩ (by omega) fun i v h' tk bs hv rd hk => ?_
  have hv' : its[i]? = some v := by simpa using hv
  obtain ⟨w, hw, rw'⟩ := vals_getI rv hv'
  obtain ⟨d, hd', nd⟩ := n.getv hw
  have hm : d ∈ x :: ds := List.mem_of_getElem? hd'
  have e : d = PySem.W.maxD x ds := dp_alike I (nd.mono sm) rw' (alikeOk_lay ok hm) (h1 d hm _ (maxD_mem x ds)) rd hk
  subst e
  exact ⟨w, H, I.kept hk, rw', q w nd⟩
def rSumT (K : PySem.W.Frag) : List V → Hp → VK → Prop := fun vs H Q => ∃ (a : Addr) (ns : List Int), vs = [V.ref a] ∧ SqT K H a (ns.map V.int) ∧ Q (.int ns.sum) H
theorem cr_sumT (hc : X.calm = true) : CallR X (.builtin "sum") (rSumT X.K) := by
  intro pins s σ H vs us Q I r h
  obtain ⟨a, ns, rfl, hs, q⟩ := h
  obtain ⟨its, rv, hl, _⟩ := I.tuple hs
  rw [Vals.ref1 r]
  obtain ⟨xs, e⟩ := rv.ints.allInts.items
  have hn : numsOf (intItems xs).toList = ns := by rw [← e]; exact rv.ints.numsOf
  rw [nums_intItems] at hn
  rw [e] at hl
  refine PySem.W.ktm_sumG (I.ok.hd hc) hl fun h' tk t' hk => ?_
  have e2 : preSum (numAt xs) xs.size = ns.sum := by rw [preSum_eq, List.take_of_length_le (by simp), hn]
  rw [e2]
  exact ⟨.int _, H, I.kept hk, ⟨_, rfl⟩, q⟩
end
def bMin2 : List D → Option D
  | [.tuple l] => vMin l
  | l => bMin l
def bMax2 : List D → Option D
  | [.tuple l] => vMax l
  | l => bMax l
def bSum2 : List D → Option D
  | [.tuple l] => (intsOf l).map fun ns => .int ns.sum
  | l => bSum l
def bSorted2 : List D → Option D
  | [.tuple l] => (vSort l).map .list
  | l => bSorted l
section
variable {K : PySem.W.Frag}
theorem vMin_some {l : List D} {d : D} (h : vMin l = some d) : ∃ y ys, l = y :: ys ∧ alikeOk (y :: ys) = true ∧ someOk (y :: ys) = true ∧ d = PySem.W.minD y ys := by
  cases l with
  | nil => cases h
  | cons y ys =>
    simp only [vMin] at h
    by_cases g : (alikeOk (y :: ys) && someOk (y :: ys)) = true
    · rw [if_pos g] at h
      cases h
      rw [Bool.and_eq_true] at g
      exact ⟨y, ys, rfl, g.1, g.2, rfl⟩
    · rw [if_neg g] at h; cases h
theorem vMax_some {l : List D} {d : D} (h : vMax l = some d) : ∃ y ys, l = y :: ys ∧ alikeOk (y :: ys) = true ∧ someOk (y :: ys) = true ∧ d = PySem.W.maxD y ys := by
  cases l with
  | nil => cases h
  | cons y ys =>
    simp only [vMax] at h
    by_cases g : (alikeOk (y :: ys) && someOk (y :: ys)) = true
    · rw [if_pos g] at h
      cases h
      rw [Bool.and_eq_true] at g
      exact ⟨y, ys, rfl, g.1, g.2, rfl⟩
    · rw [if_neg g] at h; cases h
theorem rn_min2 : RnD K (cOr (rMinA K) (rMinT K)) bMin2 := by
  intro O H x dx d Q hO n e q
  unfold bMin2 at e
  split at e
  · obtain ⟨y, ys, rfl, h1, h2, rfl⟩ := vMin_some e
    cases n with | cons n1 n2 =>
      cases n2
      cases n1 with | tup h a => exact .inr ⟨_, _, y, ys, hd O H, rfl, Same.seqT hd_le h.sq, hd_le, a, h1, h2, fun v nv => q _ _ (Same.refl H) nv⟩
  · exact .inl (rn_min O H x _ d Q hO n e q)
theorem rn_max2 : RnD K (cOr (rMaxA K) (rMaxT K)) bMax2 := by
  intro O H x dx d Q hO n e q
  unfold bMax2 at e
  split at e
  · obtain ⟨y, ys, rfl, h1, h2, rfl⟩ := vMax_some e
    cases n with | cons n1 n2 =>
      cases n2
      cases n1 with | tup h a => exact .inr ⟨_, _, y, ys, hd O H, rfl, Same.seqT hd_le h.sq, hd_le, a, h1, h2, fun v nv => q _ _ (Same.refl H) nv⟩
  · exact .inl (rn_max O H x _ d Q hO n e q)
theorem rn_sum2 : RnD K (cOr (rSum K) (rSumT K)) bSum2 := by
  intro O H x dx d Q hO n e q
  unfold bSum2 at e
  split at e
  · obtain ⟨ns, hn, e⟩ := Option.map_eq_some_iff.mp e
    subst e
    cases n with | cons n1 n2 =>
      cases n2
      cases n1 with | tup h a => exact .inr ⟨_, ns, rfl, by rw [← intsOf_dn a hn]; exact Same.seqT hd_le h.sq, q _ _ (Same.refl H) (.int _)⟩
  · exact .inl (rn_sum O H x _ d Q hO n e q)
theorem rn_sorted2 : RnD K (cOr (rSortD K) (rSortT K)) bSorted2 := by
  intro O H x dx d Q hO n e q
  unfold bSorted2 at e
  split at e
  · rename_i l
    obtain ⟨l', hl, e⟩ := Option.map_eq_some_iff.mp e
    subst e
    unfold vSort at hl
    split at hl
    · rename_i g
      cases hl
      rw [Bool.and_eq_true, Bool.and_eq_true] at g
      cases n with | cons n1 n2 =>
        cases n2
        cases n1 with | tup h a =>
          refine .inr ⟨_, _, l, hd O H, rfl, Same.seqT hd_le h.sq, hd_le, a, g.1.1, g.1.2, of_decide_eq_true g.2, fun p zs hp nz => ?_⟩
          obtain ⟨s, nn⟩ := new_lst (K := K) hO hp nz
          exact q _ _ s nn
    · cases hl
  · exact .inl (rn_sorted O H x _ d Q hO n e q)
end
section
variable {X : Cx} {k : Nat}
theorem c_min2 (hr : Room k X.A) (hc : X.calm = true) : CallR X (.builtin "min") (cOr (rMinA X.K) (rMinT X.K)) := CallR.or (c_min hr hc) (cr_minT hr hc)
theorem c_max2 (hr : Room k X.A) (hc : X.calm = true) : CallR X (.builtin "max") (cOr (rMaxA X.K) (rMaxT X.K)) := CallR.or (c_max hr hc) (cr_maxT hr hc)
theorem c_sum2 (hc : X.calm = true) : CallR X (.builtin "sum") (cOr (rSum X.K) (rSumT X.K)) := CallR.or (cr_sum hc) (cr_sumT hc)
theorem c_sorted2 (hr : Room k X.A) : CallR X (.builtin "sorted") (cOr (rSortD X.K) (rSortT X.K)) := CallR.or (cr_sortD hr) (cr_sortT' hr)
end
end PV
namespace PV
open PySem PySem.Spec PyProof.Rows L2
/-! ### unpacking a list -/
def hUnl (n : Nat) (hs : List D → Rho → Option Rho) : D → Rho → Option Rho := fun d ρ => match d with | .list l => if l.length = n then hs l ρ else none | _ => none
theorem dg_unl {K : PySem.W.Frag} {gs : TGs} {ts : List Nat} {n : Nat} {hs : List PV.D → Rho → Option Rho} (hg : DGs K gs ts hs) : DG K (gUnl K n gs) ts (hUnl n hs) := by
  intro B O σ H ρ v d ρ' Q R nn e q
  unfold hUnl at e
  split at e
  · split at e
    · rename_i l hl
      cases nn.f with
      | lst hq ha =>
        refine ⟨_, _, rfl, ?_, by rw [ha.len]; exact hl, hg B O σ H ρ _ _ ρ' _ R ha e q⟩
        exact Same.seq hd_le hq
    · cases e
  · cases e
section
variable {X : Cx} {es : List Expr} {ts : List Nat} {n : Nat} {hs : List PV.D → Rho → Option Rho} {pos : Pos}
theorem yg_unl {j : Nat} (hc : X.calm = true) (h1 : YGs X es ts hs) (hn : (assignEach es X.env).length = n := by rfl) (hst : (assignEach es X.env).findIdx? (·.1) = none := by rfl) : YG X (.Tuple es j pos) ts (hUnl n hs) :=
  let ⟨_, p1, d1⟩ := h1.ex; ⟨_, pg_unl hc p1 hn hst, dg_unl d1⟩
end
/-! ### sorted(set(a tuple of ints)) -/
def insS (k : Int) : List Int → List Int
  | [] => [k]
  | a :: l => if k < a then k :: a :: l else if k = a then a :: l else a :: insS k l
def sset (ns : List Int) : List Int := ns.foldr insS []
theorem mem_insS (k j : Int) : ∀ l : List Int, j ∈ insS k l ↔ j = k ∨ j ∈ l
  | [] => by simp [insS]
  | a :: l => by
    unfold insS
    split
    · simp
    · split
      · rename_i h
        subst h
        simp
      · rw [List.mem_cons, mem_insS k j l, List.mem_cons]
        constructor
        · rintro (h | h | h)
          · exact .inr (.inl h)
          · exact .inl h
          · exact .inr (.inr h)
        · rintro (h | h | h)
          · exact .inr (.inl h)
          · exact .inl h
          · exact .inr (.inr h)
theorem insS_sorted (k : Int) : ∀ l : List Int, l.Pairwise (· < ·) → (insS k l).Pairwise (· < ·)
  | [], _ => by simp [insS]
  | a :: l, h => by
    rw [List.pairwise_cons] at h
    unfold insS
    split
    · rename_i h1
      rw [List.pairwise_cons, List.pairwise_cons]
      refine ⟨fun b hb => ?_, h.1, h.2⟩
      rcases List.mem_cons.mp hb with rfl | hb
      · exact h1
      · have := h.1 b hb
        omega
    · split
      · rw [List.pairwise_cons]
        exact h
      · rename_i h1 h2
        rw [List.pairwise_cons]
        refine ⟨fun b hb => ?_, insS_sorted k l h.2⟩
        rcases (mem_insS k b l).mp hb with rfl | hb
        · omega
        · exact h.1 b hb
theorem mem_sset (j : Int) : ∀ ns : List Int, j ∈ sset ns ↔ j ∈ ns
  | [] => by simp [sset]
  | a :: ns => by
    show j ∈ insS a (sset ns) ↔ _
    rw [mem_insS, mem_sset j ns, List.mem_cons]
theorem sset_sorted : ∀ ns : List Int, (sset ns).Pairwise (· < ·)
  | [] => by simp [sset]
  | a :: ns => insS_sorted a _ (sset_sorted ns)
theorem sorted_eq {l m : List Int} (hl : l.Pairwise (· < ·)) (hm : m.Pairwise (· < ·)) (h : ∀ j, j ∈ l ↔ j ∈ m) : l = m := by
  have nd : ∀ {l : List Int}, l.Pairwise (· < ·) → l.Nodup := fun h => h.imp (by intro a b h; omega)
  refine List.Perm.eq_of_pairwise (le := fun a b => a < b) ?_ hl hm ((List.perm_ext_iff_of_nodup (nd hl) (nd hm)).mpr h)
  intro a b _ _ h1 h2
  omega
def bSortSet : List D → Option D
  | [.tuple l] => (intsOf l).bind fun ns => if ns.length < 64 then some (.list ((sset ns).map .int)) else none
  | _ => none
def rSetT (K : PySem.W.Frag) (w : World) : List V → Hp → VK → Prop := fun xs H Q => ∃ (p : Addr) (ns : List Int), xs = [.ref p] ∧ SqT K H p (ns.map V.int) ∧ ns.length < 64 ∧ ∀ a c, H a = none → c ≤ ns.length → Q (.ref a) (upd H a (SetO w a (fun j => decide (j ∈ ns)) c))
theorem ints_dn {K : PySem.W.Frag} {H : Hp} : ∀ ns : List Int, DnA K H (ns.map V.int) (ns.map .int)
  | [] => .nil
  | a :: ns => .cons (.int a) (ints_dn ns)
section
variable {X : Cx}
theorem cr_setT (hc : X.calm = true) : CallR X (.type "set") (rSetT X.K X.w) := by
  intro pins s σ H xs us Q I r h
  obtain ⟨p0, ns, rfl, hq, hl, q⟩ := h
  cases r with
  | cons r rr =>
    cases rr
    cases r
    obtain ⟨its, rv, pt, hz⟩ := I.tuple hq
    have hi : IntsAre its.toArray.toList ns := ints_of_vals rv
    have hd := I.ok.hd hc
    refine call_set_tupI ns hd (show s.heap.IsTuple p0 its.toArray from pt) hi (by unfold scanBound; omega) fun h' tk c R1 hcn k => ?_
    exact ⟨.ref _, upd H s.heap.objs.size (SetO X.w s.heap.objs.size (fun j => decide (j ∈ ns)) c), I.laid (t' := tk) k (Nat.le_refl _) (setO_new R1), rfl, q _ _ (I.hok.fresh (Nat.le_refl _)) hcn⟩
theorem de_sortset {K : PySem.W.Frag} {w : World} {ta : TA} {fa : Rho → Option (List PV.D)} (ha : DA K ta fa) : DE K (tCB (rSortedSet w) (tCons (tCB (rSetT K w) ta) tNil)) (fn bSortSet fa) := by
  intro B O σ H ρ d Q R e q
  obtain ⟨x, ex, e⟩ := Option.bind_eq_some_iff.mp e
  refine ha B O σ H ρ x _ R ex fun v H1 s1 n1 => ?_
  unfold bSortSet at e
  split at e
  · rename_i l
    obtain ⟨ns, hn, e⟩ := Option.bind_eq_some_iff.mp e
    split at e
    · rename_i hlt
      cases e
      cases n1 with | cons n1 n2 =>
        cases n2
        cases n1 with | tup h a =>
          have hv := intsOf_dn a hn
          subst hv
          have hO := (R.mono s1).dom
          refine ⟨_, ns, rfl, Same.seqT hd_le h.sq, hlt, fun p c hp hcn => ?_⟩
          refine ⟨p, _, c, rfl, upd_same, by omega, fun ms p' hs hm hl hp' => ?_⟩
          have es : ms = sset ns := sorted_eq hs (sset_sorted ns) fun j => by rw [hm, mem_sset]; simp
          subst es
          have s2 : Same H1 (upd H1 p (SetO w p (fun j => decide (j ∈ ns)) c)) := PV.same_upd hp
          have hO2 : ∀ a, O a → upd H1 p (SetO w p (fun j => decide (j ∈ ns)) c) a ≠ none := fun a h => by
            cases e : H1 a with
            | none => exact absurd e (hO a h)
            | some o => rw [s2 _ _ e]; exact fun h => nomatch h
          obtain ⟨s3, nn⟩ := new_lst (K := K) hO2 hp' (ints_dn (sset ns))
          exact q _ _ (s1.trans (s2.trans s3)) nn
    · cases e
  · cases e
theorem y_sortset {e : Expr} {fs : Rho → Option (List PV.D)} {n : Nat} {p p2 pos pos2 : Pos} (hc : X.calm = true) (hg : Gl X "sorted") (hm : X.mg "sorted" = none) (hg2 : Gl X "set") (hm2 : X.mg "set" = none) (ha : YAn X [e] n fs)
    (he : starEach [.Call (.Name "set" p2) [e] [] pos2] X.env = (false, eval (.Call (.Name "set" p2) [e] [] pos2) X.env) :: starEach [] X.env := by rfl) (hpl : (backTo pos (starEach [] X.env)).any (·.1) = false := by rfl)
    (he2 : starEach [e] X.env = (false, eval e X.env) :: starEach [] X.env := by rfl) (hpl2 : (backTo pos2 (starEach [] X.env)).any (·.1) = false := by rfl) : YE X (.Call (.Name "sorted" p) [.Call (.Name "set" p2) [e] [] pos2] [] pos) (fn bSortSet fs) := by
  obtain ⟨_, p1, d1⟩ := ha.ex
  have q1 := pe_callTy (pos := pos2) (p := p2) (cr_setT hc) hg2 hm2 (by decide +kernel) p1 (by decide) (by decide) he2 hpl2
  exact ⟨_, pe_callB (cr_sortedSet hc) hg hm (by decide +kernel) (pa_cons q1 pa_nil he) (by decide) (by decide) he hpl, de_sortset d1⟩
end
end PV
namespace PV
open PySem PySem.Spec PyProof.Rows L2
/-! ### dict(a tuple of pairs (text, value)) -/
def pairsK : List D → Option (List (Key × D))
  | [] => some []
  | .tuple [.str x, d] :: r => (pairsK r).map fun l => (.inr x, d) :: l
  | _ => none
def putG (kvs : List (Key × D)) (k : Key) (v : D) : List (Key × D) :=
  if (kvs.any fun kv => decide (kv.1 = k)) = true then kvs.map (fun kv => if kv.1 = k then (kv.1, v) else kv) else kvs ++ [(k, v)]
def mergeG (kvs more : List (Key × D)) : List (Key × D) := more.foldl (fun acc kv => putG acc kv.1 kv.2) kvs
def dictD (kvs : List (Key × D)) : D := .dict (kvs.map fun kv => (keyD kv.1, kv.2))
def bDict : List D → Option D
  | [.tuple l] => (pairsK l).map fun kvs => dictD (mergeG [] kvs)
  | _ => none
inductive RK (K : PySem.W.Frag) (H : Hp) : List (Key × V) → List (Key × D) → Prop
  | nil : RK K H [] []
  | cons {k : Key} {v : V} {d : D} {t : List (Key × V)} {u : List (Key × D)} : Dn K H v d → RK K H t u → RK K H ((k, v) :: t) ((k, d) :: u)
section
variable {K : PySem.W.Frag} {H : Hp}
theorem RK.dn : ∀ {t : List (Key × V)} {u : List (Key × D)}, RK K H t u → DnK K H t (u.map fun kv => (keyD kv.1, kv.2))
  | _, _, .nil => .nil
  | _, _, .cons h r => .cons h r.dn
theorem RK.any {t : List (Key × V)} {u : List (Key × D)} (r : RK K H t u) (k : Key) : (t.any fun kv => decide (kv.1 = k)) = (u.any fun kv => decide (kv.1 = k)) := by
  induction r with
  | nil => rfl
  | cons h r ih => rw [List.any_cons, List.any_cons, ih]
theorem RK.snoc {t : List (Key × V)} {u : List (Key × D)} {k : Key} {v : V} {d : D} (r : RK K H t u) (h : Dn K H v d) : RK K H (t ++ [(k, v)]) (u ++ [(k, d)]) := by
  induction r with
  | nil => exact .cons h .nil
  | cons h' r ih => exact .cons h' ih
theorem RK.map {t : List (Key × V)} {u : List (Key × D)} {k : Key} {v : V} {d : D} (r : RK K H t u) (h : Dn K H v d) : RK K H (t.map fun kv => if kv.1 = k then (kv.1, v) else kv) (u.map fun kv => if kv.1 = k then (kv.1, d) else kv) := by
  induction r with
  | nil => exact .nil
  | @cons k' v' d' t u h' r ih =>
    rw [List.map_cons, List.map_cons]
    by_cases e : k' = k
    · rw [if_pos e, if_pos e]
      exact .cons h ih
    · rw [if_neg e, if_neg e]
      exact .cons h' ih
theorem RK.put {t : List (Key × V)} {u : List (Key × D)} {k : Key} {v : V} {d : D} (r : RK K H t u) (h : Dn K H v d) : RK K H (putK t k v) (putG u k d) := by
  unfold putK putG
  rw [r.any k]
  split
  · exact r.map h
  · exact r.snoc h
theorem RK.merge {t : List (Key × V)} {u : List (Key × D)} {t2 : List (Key × V)} {u2 : List (Key × D)} (r : RK K H t u) (r2 : RK K H t2 u2) : RK K H (mergeK t t2) (mergeG u u2) := by
  induction r2 generalizing t u with
  | nil => exact r
  | cons h r2 ih => exact ih (r.put h)
theorem RK.mono {H' : Hp} (s : L2.Same H H') {t : List (Key × V)} {u : List (Key × D)} (r : RK K H t u) : RK K H' t u := by
  induction r with
  | nil => exact .nil
  | cons h r ih => exact .cons (h.mono s) ih
theorem pairs_dn : ∀ {xs : List V} {l : List D} {kvs : List (Key × D)}, DnA K H xs l → pairsK l = some kvs → ∃ (ps : List Addr) (kv : List (Key × V)), xs = ps.map V.ref ∧ Paired (fun p kv => FT H p [kV kv.1, kv.2]) ps kv ∧ RK K H kv kvs
  | _, [], _, .nil, e => by cases e; exact ⟨[], [], rfl, .nil, .nil⟩
  | _, d :: l, kvs, .cons h t, e => by
    unfold pairsK at e
    split at e
    · rename_i e0; cases e0
    · rename_i x d' r e0
      cases e0
      obtain ⟨kv', e1, rfl⟩ := Option.map_eq_some_iff.mp e
      obtain ⟨ps, kv, rfl, hp, hr⟩ := pairs_dn t e1
      cases h with
      | tup f a =>
        cases a with
        | cons a1 a2 =>
          cases a2 with
          | cons a2 a3 =>
            cases a3
            cases a1
            exact ⟨_ :: ps, (.inr x, _) :: kv, rfl, .cons f hp, .cons a2 hr⟩
    · cases e
end
section
variable {K : PySem.W.Frag}
def rDictF (K : PySem.W.Frag) : List V → Hp → VK → Prop := fun xs H Q => ∃ (a : Addr) (ps : List Addr) (kvs : List (Key × V)), xs = [.ref a] ∧ FT H a (ps.map V.ref) ∧ Paired (fun p kv => SqT K H p [kV kv.1, kv.2]) ps kvs ∧
    ∀ p, H p = none → Q (.ref p) (upd H p (.dK (mergeK [] kvs)))
theorem rn_dict : RnD K (rDictF K) bDict := by
  intro O H x dx d Q hO n e q
  unfold bDict at e
  split at e
  · rename_i l
    obtain ⟨kvs, e1, rfl⟩ := Option.map_eq_some_iff.mp e
    cases n with | cons n1 n2 =>
      cases n2
      cases n1 with | tup f a =>
        obtain ⟨ps, kv, rfl, hp, hr⟩ := pairs_dn a e1
        refine ⟨_, ps, kv, rfl, f.mono hd_le, by
          clear a hr e1 f
          induction hp with
          | nil => exact .nil
          | cons g _ ih => exact .cons (g.mono hd_le).sq ih, fun p hn => ?_⟩
        have s := PV.same_upd (o := .dK (mergeK [] kv)) hn
        exact q _ _ s (.dct (hd_new hO hn) ((RK.merge .nil hr).mono (same_hd s)).dn)
  · cases e
end
end PV
namespace PV
open PySem PySem.Spec PyProof.Rows L2
/-! ### range of three -/
def rngD3 (lo c : Int) (n : Nat) : List D := (List.range n).map fun i : Nat => .int (lo + (i : Int) * c)
theorem Wk.range3 {K : PySem.W.Frag} {B O : Addr → Prop} {H : Hp} {lo c : Int} {n : Nat} : Wk K B O H (Itc lo c n) (rngD3 lo c n) := by
  intro i O' H' hi t
  by_cases h : i < n
  · have e : (rngD3 lo c n)[i]? = some (.int (lo + (i : Int) * c)) := by simp [rngD3, h]
    rw [e]
    refine ⟨h, fun x H2 y => ?_⟩
    obtain ⟨rfl, rfl⟩ := y
    exact ⟨Same.refl _, .inl (.int _)⟩
  · have e : (rngD3 lo c n)[i]? = none := by simp [rngD3]; omega
    rw [e]
    exact Nat.le_of_not_lt h
def iRg3 (fa fb fc : Rho → Option D) : Rho → Option (List D) := fun ρ => (fa ρ).bind fun d => (fb ρ).bind fun e => (fc ρ).bind fun f => match d, e, f with
  | .int i, .int j, .int c => if c ≠ 0 ∧ c.natAbs < 1073741824 ∧ Builtin.Range.small i j c = true then some (rngD3 i c (Builtin.Range.rangeSize i j c).toNat) else none
  | _, _, _ => none
theorem di_rg3 {K : PySem.W.Frag} {ta tb tc : TE} {fa fb fc : Rho → Option D} (ha : DE K ta fa) (hb : DE K tb fb) (hc : DE K tc fc) : DI K (iRng3 (tCons ta (tCons tb (tCons tc tNil)))) (iRg3 fa fb fc) := by
  intro B O σ H ρ ds Q R e q
  obtain ⟨d, e1, e⟩ := Option.bind_eq_some_iff.mp e
  obtain ⟨d', e2, e⟩ := Option.bind_eq_some_iff.mp e
  obtain ⟨d'', e3, e⟩ := Option.bind_eq_some_iff.mp e
  refine ha B O σ H ρ d _ R e1 fun v H1 s1 n1 => ?_
  refine hb B O σ H1 ρ d' _ (R.mono s1) e2 fun v' H2 s2 n2 => ?_
  refine hc B O σ H2 ρ d'' _ ((R.mono s1).mono s2) e3 fun v'' H3 s3 n3 => ?_
  split at e
  · cases n1
    cases n2
    cases n3
    split at e
    · rename_i hj
      cases e
      exact ⟨_, _, _, _, rfl, ⟨hj.1, hj.2.1, hj.2.2, rangeSize_toNat _ _ _⟩, q _ _ ((s1.trans s2).trans s3) .range3⟩
    · cases e
  · cases e
section
variable {X : Cx} {tg a b c : Expr} {fa fb fc : Rho → Option D} {p pos : Pos}
theorem yi_rg3 (hg : Gl X "range") (hm : X.mg "range" = none) (ha : YE X a fa) (hb : YE X b fb) (hc : YE X c fc) (hs : starEach [a, b, c] X.env = (false, eval a X.env) :: starEach [b, c] X.env := by rfl) (hs2 : starEach [b, c] X.env = (false, eval b X.env) :: starEach [c] X.env := by rfl)
    (hs3 : starEach [c] X.env = (false, eval c X.env) :: starEach [] X.env := by rfl) (hpl : (backTo pos (starEach [b, c] X.env)).any (·.1) = false := by rfl) : YI X tg (.Call (.Name "range" p) [a, b, c] [] pos) (iRg3 fa fb fc) :=
  let ⟨_, p1, d1⟩ := ha.ex; let ⟨_, p2, d2⟩ := hb.ex; let ⟨_, p3, d3⟩ := hc.ex; ⟨_, pi_range3 hg hm (pa_cons p1 (pa_cons p2 (pa_cons p3 pa_nil hs3) hs2) hs) hs hpl, di_rg3 d1 d2 d3⟩
end
end PV
namespace PV
open PySem PySem.Spec PyProof.Rows L2
/-! ### str.split(sep), str.upper() -/
def mSplit : D → List D → Option D
  | .str a, [.str b] => if b.length ≠ 0 ∧ a.length + 2 ≤ 16777216 then some (.list ((Txt.split a b).map PyData.str)) else none
  | _, _ => none
section
variable {K : PySem.W.Frag}
theorem strs_dn {H : Hp} : ∀ ys : List Str, DnA K H (ys.map V.str) (ys.map PyData.str)
  | [] => .nil
  | y :: ys => .cons (.str y) (strs_dn ys)
theorem rm_split : RmD K "str" (fun x xs H Q => ∃ a b, x = .str a ∧ xs = [.str b] ∧ (b.length == 0) = false ∧ a.length + 2 ≤ sizeLine ∧ rNewStrs (Txt.split a b) H Q) mSplit := by
  refine ⟨fun H x dx dys n ⟨d, e⟩ => ?_, fun O H x ys dx dys d Q hO n1 n2 e q => ?_⟩
  · cases n <;> first | rfl | (simp [mSplit] at e; done)
  · unfold mSplit at e
    split at e
    · split at e
      · rename_i h
        cases e
        cases n1
        cases n2 with | cons m1 m2 =>
          cases m2
          cases m1
          refine ⟨_, _, rfl, rfl, by simpa using h.1, by rw [line_eq]; exact h.2, fun p hp => ?_⟩
          obtain ⟨s, nn⟩ := new_lst (K := K) hO hp (strs_dn (Txt.split _ _))
          exact q _ _ s nn
      · cases e
    · cases e
end
section
variable {X : Cx} {e : Expr} {fa : Rho → Option D} {fs : Rho → Option (List D)} {apos cpos : Pos}
theorem y_split {o : Expr} (ho : YE X o fa) (ha : YAn X [e] 1 fs) (hbase : attributeBase o "split" X.env (eval o X.env) = eval o X.env := by rfl)
    (hfew : ((backTo cpos (starEach [e] X.env)).all (fun x => !x.1) && (backToKw cpos (keywordEach [] X.env)).all (fun x => x.1.isSome)
      && decide ([e].length + ([] : List Keyword).length + (if ([] : List Keyword).isEmpty then 0 else 1) < 30)) = true := by rfl)
    (hline : (apos.endLine == cpos.line) = true := by rfl) (hs : starEach [e] X.env = (false, eval e X.env) :: starEach [] X.env := by rfl) (hplain : (backTo cpos (starEach [] X.env)).any (·.1) = false := by rfl) :
    YE X (.Call (.Attribute o "split" apos) [e] [] cpos) (fM mSplit fa fs) := y_m F.plainAttrs_str F.slot_str_split F.type_str_split mt_split rm_split ho ha hbase hfew hline hs hplain
end
end PV
namespace PV
open PySem PySem.Spec PyProof.Rows L2
/-! ### sorted(d.items()) -/
def itsD (l : List (D × D)) : List D := l.map fun p => .tuple [p.1, p.2]
def vSortIt : D → Option D
  | .dict l => (vSort (itsD l)).map .list
  | _ => none
/-- the view of a dict of ints and texts -/
def rItemsK : V → List V → Hp → VK → Prop := fun x xs H Q => ∃ (a : Addr) (kvs : List (Key × V)), x = .ref a ∧ xs = [] ∧ H a = some (.dK kvs) ∧ ∀ p, H p = none → Q (.ref p) (upd H p (DX.itemsO p a))
theorem raw_of {P : Program} {w : World} {h : Heap} {a : Addr} {vs : List (Key × Value)} (x : h.DictOf (mixKind P w) a vs) : ∃ es ep, DT.Raw h a es ep ∧ Pairs (mixKind P w) es.toList vs :=
  let ⟨o, es, ep, ho, hx, hd, _, hp, _⟩ := x
  ⟨es, ep, ⟨o, ho, hx, hd⟩, hp⟩
section
variable {X : Cx}
theorem mt_itemsK : MtR X "dict.items" rItemsK := by
  intro pins s σ H x xs v us Q I rx rxs h
  obtain ⟨a, kvs, rfl, rfl, ha, q⟩ := h
  cases rx
  cases rxs
  obtain ⟨z, hd, vs, rel, dd⟩ := dk_of I.hok ha
  obtain ⟨es, ep, hr, _⟩ := raw_of dd
  refine DT.callItems (es := es) (ep := ep) hd hr ?_
  have hf : H s.heap.objs.size = none := I.hok.fresh (Nat.le_refl _)
  exact ⟨.ref s.heap.objs.size, upd H s.heap.objs.size (DX.itemsO s.heap.objs.size a), I.laid (t' := s.toks) (fun b u e => Heap.get?_push_of_some _ e) (Nat.le_refl _) (DX.itemsO_ok (Heap.get?_push_size _ rfl)), rfl, q _ hf⟩
def rSortItK (K : PySem.W.Frag) : List V → Hp → VK → Prop := fun xs H Q => ∃ (O : Addr → Prop) (p a : Addr) (kvs : List (Key × V)) (ds : List (D × D)), xs = [.ref p] ∧ (∀ a, O a → H a ≠ none) ∧ H p = some (DX.itemsO p a) ∧ H a = some (.dK kvs) ∧
  DnK K (hd O H) kvs ds ∧ alikeOk (itsD ds) = true ∧ sortOk (itsD ds) = true ∧ (itsD ds).length ≤ 16777216 ∧
  ∀ v H', Same H H' → Dn K (hd O H') v (.list ((itsD ds).mergeSort (PySem.W.dataLe false id))) → Q v H'
theorem pairs_get {P : Program} {w : World} : ∀ {es : List DictEntry} {vs : List (Key × Value)} {j : Nat} {e : DictEntry}, Pairs (mixKind P w) es vs → es[j]? = some e → ∃ kv, vs[j]? = some kv ∧ (mixKind P w).is kv.1 e.key = true ∧ e.val = kv.2
  | _, _, _, _, .nil, h => by simp at h
  | _, _, 0, _, .cons h1 h2 _, h => by simp at h; subst h; exact ⟨_, rfl, h1, h2⟩
  | _, _, j + 1, e, .cons _ _ t, h => by
    obtain ⟨kv, a, b⟩ := pairs_get (j := j) (e := e) t (by simpa using h)
    exact ⟨kv, by simpa using a, b⟩
theorem dnK_len {K : PySem.W.Frag} {H : Hp} : ∀ {kvs : List (Key × V)} {ds : List (D × D)}, DnK K H kvs ds → kvs.length = ds.length
  | _, _, .nil => rfl
  | _, _, .cons _ t => by simp [dnK_len t]
theorem keyD_dn {K : PySem.W.Frag} {H : Hp} : ∀ k : Key, Dn K H (kV k) (keyD k)
  | .inl i => .int i
  | .inr x => .str x
/-- the pairs laid as tuples -/
theorem dn_its {K : PySem.W.Frag} {G H : Hp} : ∀ {as : List Addr} {kvs : List (Key × V)} {ds : List (D × D)}, as.length = kvs.length → DnK K G kvs ds → Same G H → (∀ (j : Nat) (b : Addr), as[j]? = some b → ∃ q : Key × V, kvs[j]? = some q ∧ FT H b [kV q.1, q.2]) → DnA K H (as.map V.ref) (itsD ds)
  | [], [], _, _, .nil, _, _ => .nil
  | a :: as, q :: kvs, _, hl, .cons h t, s, g => by
    obtain ⟨q', e1, e2⟩ := g 0 a rfl
    cases e1
    exact .cons (.tup e2 (.cons (keyD_dn _) (.cons (h.mono s) .nil))) (dn_its (by simpa using hl) t s fun j b e => g (j + 1) b (by simpa using e))
  | [], _ :: _, _, hl, _, _, _ => by simp at hl
  | _ :: _, [], _, hl, _, _, _ => by simp at hl
theorem takeF {pins : List (Addr × Obj)} {σ : L2.St} {H0 : Hp} {s : Shared} {h' : Heap} {tk : Nat} {P : Addr → List V → Prop} (I0 : Inv X pins σ H0 s) : ∀ (L : List Addr) (H1 : Hp), Inv X pins σ H1 { s with heap := h', toks := tk } → L.Nodup →
    (∀ a ∈ L, s.heap.objs.size ≤ a ∧ H1 a = none ∧ ∃ vs, P a vs ∧ ∃ ob : Obj, ob.dict = none ∧ ∀ H2, ObjOk X.prog X.w H2 h' a (.frz ob (.tup vs))) →
    ∃ H2, Inv X pins σ H2 { s with heap := h', toks := tk } ∧ (∀ b o, H1 b = some o → H2 b = some o) ∧ ∀ a ∈ L, ∃ vs, P a vs ∧ FT H2 a vs
  | [], H1, I1, _, _ => ⟨H1, I1, fun _ _ e => e, fun _ h => nomatch h⟩
  | a :: L, H1, I1, hn, h => by
    obtain ⟨hb, hnone, vs, hP, ob, hob, ok⟩ := h a (List.mem_cons_self ..)
    have I2 : Inv X pins σ (upd H1 a (.frz ob (.tup vs))) { s with heap := h', toks := tk } := I1.take (h' := h') (t' := tk) (fun b ob _ e => e) (I0.fpOk hb hnone) (ok _)
    rw [List.nodup_cons] at hn
    obtain ⟨H2, I3, g, q⟩ := takeF I0 L (upd H1 a (.frz ob (.tup vs))) I2 hn.2 fun c hc => by
      obtain ⟨c1, c2, c3⟩ := h c (List.mem_cons_of_mem _ hc)
      exact ⟨c1, by rw [upd_ne (fun z => hn.1 (by rw [← z]; exact hc))]; exact c2, c3⟩
    refine ⟨H2, I3, fun b o e => g b o (by rw [upd_ne (ne_of_none e hnone)]; exact e), fun c hc => ?_⟩
    rcases List.mem_cons.mp hc with rfl | hc
    · exact ⟨vs, hP, ob, hob, g _ _ upd_same⟩
    · exact q c hc
theorem cr_sortItK {k : Nat} (hr : Room k X.A) (hc : X.calm = true) : CallR X (.builtin "sorted") (rSortItK X.K) := by
  intro pins s σ H xs us Q I r h
  obtain ⟨O, p, a, kvs, ds, rfl, hO, hp, ha, hn, ok, ok2, hz, q⟩ := h
  obtain rfl := Vals.ref1 r
  have view : s.heap.IsItemsView p a := (show ObjOk X.prog X.w H s.heap p (DX.itemsO p a) from I.hok p _ hp).1
  obtain ⟨z, hd0, vs, rel, dd⟩ := dk_of I.hok ha
  obtain ⟨es, ep, hraw, hps⟩ := raw_of dd
  have l1 : kvs.length = vs.length := Paired.length rel
  have l2 : es.size = vs.length := by rw [← Array.length_toList]; exact hps.length
  have hh : X.A.handled = none := I.ok.hd hc
  have hu := hr.units
  refine DT.sortedI (es := es) (ep := ep) hh view hraw (by rw [l2, ← l1]; exact z) fun h' tk as hk hlt hl hG => ?_
  have lak : as.length = kvs.length := by omega
  have nd : as.Nodup := List.Pairwise.imp (fun h => Nat.ne_of_lt h) hG.rise
  have pr : ∀ (j : Nat) (b : Addr), as[j]? = some b → ∃ (e : Key × V) (ku u : Value), kvs[j]? = some e ∧ RelV (kV e.1) ku ∧ RelV e.2 u ∧ h'.get? b = some { cls := .type "tuple", data := .seq #[ku, u] } := by
    intro j b hj
    obtain ⟨en, he, hg⟩ := hG.pairs j b hj
    obtain ⟨kv, e1, e2, e3⟩ := pairs_get hps (by rw [Array.getElem?_toList]; exact he)
    obtain ⟨e, f1, f2, f3⟩ := DX.pget rel e1
    refine ⟨e, en.key, en.val, f1, ?_, by rw [e3]; exact f3, hg⟩
    rw [f2]
    exact relV_key (show keyIs kv.1 en.key = true from e2)
  -- the pairs are tracked
  have I1 : Inv X pins σ H { s with heap := h', toks := tk } := I.kept (t' := tk) hk
  obtain ⟨H2, I2, g2, qt⟩ := takeF (h' := h') (tk := tk) (P := fun b vs => ∃ (j : Nat) (e : Key × V), as[j]? = some b ∧ kvs[j]? = some e ∧ vs = [kV e.1, e.2]) I as H I1 nd fun b hb => by
    obtain ⟨j, hj⟩ := List.mem_iff_getElem?.mp hb
    obtain ⟨e, ku, u, he, r1, r2, hg⟩ := pr j b hj
    have hbl : s.heap.objs.size ≤ b := Nat.le_of_lt (hG.above b hb)
    exact ⟨hbl, I.hok.fresh hbl, [kV e.1, e.2], ⟨j, e, hj, he, rfl⟩, _, rfl, fun H3 => ⟨hg, (by rw [sizeLine_eq]; show 2 ≤ 16777216; omega), [ku, u], .cons r1 (.cons r2 .nil), ⟨_, hg, rfl, 0, rfl⟩⟩⟩
  have s02 : Same H H2 := g2
  have hnOas : ∀ b ∈ as, ¬ O b := fun b hb ho => hO b ho (I.hok.fresh (Nat.le_of_lt (hG.above b hb)))
  have n2 : DnA X.K (hd O H2) (as.map V.ref) (itsD ds) := dn_its (by omega) hn (same_hd s02) fun j b hj => by
    have hb : b ∈ as := List.mem_of_getElem? hj
    obtain ⟨vs', ⟨i, e, i1, i2, rfl⟩, e3⟩ := qt b hb
    have eij : i = j := (List.getElem?_inj (List.getElem?_eq_some_iff.mp i1).1 nd).mp (i1.trans hj.symm)
    subst eij
    obtain ⟨ob, o1, o2⟩ := e3
    exact ⟨e, i2, ob, o1, by rw [hd_of (hnOas b hb)]; exact o2⟩
  obtain ⟨h1, hc2, h3⟩ := alikeOk_all ok
  have rv : Vals (as.map V.ref) (as.map Value.ref) := LiI.vals_refs as
  obtain ⟨bs, rb⟩ := reads_dn I2 hd_le n2 rv hc2
  have er := PySem.W.readsAll_each (h := h') (id : D → D) (vs := as.map Value.ref) (bs := itsD ds) (as := bs) (by simpa using rb)
  have hal : PySem.W.AllAlike ((itsD ds).map id) := by simpa using h1
  have hob : (h'.push { cls := .type "list", data := .seq (as.map Value.ref).toArray }).get? h'.objs.size = some (PyProof.Rows.seqObj "list" (as.map Value.ref).toArray 0) := Heap.get?_push_size _ rfl
  have ka : ∀ b o, h'.get? b = some o → (h'.push { cls := .type "list", data := .seq (as.map Value.ref).toArray }).get? b = some o := fun b o e => Heap.get?_push_of_some _ e
  have ne0 : ∀ b o, h'.get? b = some o → b ≠ h'.objs.size := fun b o e => Nat.ne_of_lt (Heap.lt_size e)
  generalize hh2 : h'.push { cls := .type "list", data := .seq (as.map Value.ref).toArray } = h2 at hob ka ⊢
  have hn0 : H2 h'.objs.size = none := I2.hok.fresh (Nat.le_refl _)
  refine PySem.W.list_sort_data (s := { s with heap := h2, toks := tk }) (enc := id) hob (each_of n2 rv) (er.mono fun v b ⟨as', r⟩ => ⟨as', PyProof.Rows.Reads.keeps ka r, fun hm => let ⟨o, ho⟩ := PyProof.On.reads_mem_get r _ hm; ne0 _ _ ho rfl⟩) hal (by simpa using sortOk_all ok2) (by rw [line_eq]; exact hz) (fun b hb => by have := h3 b hb; show X.A.units + 1 + 1 + b.depth < cLine; omega) fun out hlen he => ?_
  obtain ⟨zs, hv, hn3⟩ := of_each he
  obtain ⟨ep', he'⟩ := PyProof.Rows.sortedHeap_at (vs := as.map Value.ref) (out := out.toArray) hob
  have kF : ∀ b o, h'.get? b = some o → (PyProof.Rows.sortedHeap h2 h'.objs.size (as.map Value.ref) out.toArray).get? b = some o := fun b o e => (PyProof.Rows.sortedHeap_old (ne0 _ _ e) (Heap.lt_size (ka _ _ e))).trans (ka _ _ e)
  have hO2 : ∀ a, O a → H2 a ≠ none := fun a h z => hO a h (s02.free z)
  obtain ⟨sm, nn⟩ := new_lst (K := X.K) hO2 hn0 hn3
  refine ⟨.ref h'.objs.size, upd H2 h'.objs.size (.lst zs), I2.laid (a := h'.objs.size) (o := .lst zs) (t' := tk) kF (Nat.le_refl _) ⟨?_, out, ep', hv, he'⟩, rfl, q _ _ (s02.trans sm) nn⟩
  rw [hv.length, hlen, line_eq]; exact hz
theorem de_sortIt {te : TE} {fa : Rho → Option D} (h : DE X.K te fa) : DE X.K (tCB (rSortItK X.K) (tCons (tBM0 X.K "dict" rItemsK te) tNil)) (f1 vSortIt fa) := by
  intro B O σ H ρ d Q R e q
  obtain ⟨x, ex, e⟩ := Option.bind_eq_some_iff.mp e
  cases x <;> try (cases e; done)
  rename_i l
  obtain ⟨l', hl, e⟩ := Option.map_eq_some_iff.mp e
  subst e
  unfold vSort at hl
  split at hl
  · rename_i g
    cases hl
    rw [Bool.and_eq_true, Bool.and_eq_true] at g
    refine h B O σ H ρ _ _ R ex fun v H1 s1 n1 => ?_
    cases n1 with
    | dct ha hk =>
      rename_i a kvs
      obtain ⟨ha1, ha2⟩ := hd_some ha
      refine ⟨.inr (.inr (.inl ⟨rfl, .inl ⟨_, ha2⟩⟩)), _, _, rfl, rfl, ha2, fun p hp => ?_⟩
      have hO := (R.mono s1).dom
      have s2 : Same H1 (upd H1 p (DX.itemsO p a)) := PV.same_upd hp
      refine ⟨O, p, a, _, l, rfl, fun b hb z => hO b hb (s2.free z), upd_same, s2 _ _ ha2, DnK.mono (same_hd s2) hk, g.1.1, g.1.2, of_decide_eq_true g.2, fun v H' s3 n3 => q _ _ (s1.trans (s2.trans s3)) n3⟩
  · cases hl
theorem y_sortIt {e : Expr} {fa : Rho → Option D} {k : Nat} {p pos apos cpos : Pos} (hr : Room k X.A) (hc : X.calm = true) (hg : Gl X "sorted") (hm : X.mg "sorted" = none) (ho : YE X e fa)
    (hbase : attributeBase e "items" X.env (eval e X.env) = eval e X.env := by rfl) (hline : (apos.endLine == cpos.line) = true := by rfl)
    (he : starEach [.Call (.Attribute e "items" apos) [] [] cpos] X.env = (false, eval (.Call (.Attribute e "items" apos) [] [] cpos) X.env) :: starEach [] X.env := by rfl) (hpl : (backTo pos (starEach [] X.env)).any (·.1) = false := by rfl) :
    YE X (.Call (.Name "sorted" p) [.Call (.Attribute e "items" apos) [] [] cpos] [] pos) (f1 vSortIt fa) := by
  obtain ⟨t, q1, d1⟩ := ho.ex
  exact ⟨_, pe_callB (cr_sortItK hr hc) hg hm (by decide +kernel) (pa_cons (pe_bm0 F.plainAttrs_dict F.slot_dict_items F.type_dict_items mt_itemsK q1 hbase hline) pa_nil he) (by decide) (by decide) he hpl, de_sortIt d1⟩
end
/-! ### sorted(d): its keys -/
def strLe (x y : Str) : Bool := !ltCps y.cps.toList x.cps.toList
theorem strLe_iff {x y : Str} : strLe x y = true ↔ x.cps.toList ≤ y.cps.toList := by
  unfold strLe
  rw [PyProof.Rows.ltCps_eq]
  simp
theorem strLe_trans {x y z : Str} (h1 : strLe x y = true) (h2 : strLe y z = true) : strLe x z = true := strLe_iff.mpr (List.le_trans (strLe_iff.mp h1) (strLe_iff.mp h2))
theorem strLe_total (x y : Str) : (strLe x y || strLe y x) = true := by
  rw [Bool.or_eq_true, strLe_iff, strLe_iff]
  exact List.le_total _ _
theorem str_ext {x y : Str} (h : x.cps.toList = y.cps.toList) : x = y := by
  cases x; cases y
  congr
  exact Array.ext' h
theorem strLe_anti {x y : Str} (h1 : strLe x y = true) (h2 : strLe y x = true) : x = y := str_ext (List.le_antisymm (strLe_iff.mp h1) (strLe_iff.mp h2))
def strSort (l : List Str) : List Str := l.mergeSort strLe
theorem rising_pw : ∀ (l : List Str) (p : Str), risingS p l = true → (p :: l).Pairwise fun a b => strLe a b = true
  | [], p, _ => by simp
  | x :: r, p, h => by
    unfold risingS at h
    rw [Bool.and_eq_true] at h
    have ih := rising_pw r x h.2
    rw [List.pairwise_cons]
    refine ⟨fun b hb => ?_, ih⟩
    have hpx : strLe p x = true := h.1
    rcases List.mem_cons.mp hb with rfl | hb
    · exact hpx
    · exact strLe_trans hpx ((List.pairwise_cons.mp ih).1 b hb)
theorem strSort_eq {l ys : List Str} (hp : ys.Perm l) (hs : sortedS ys = true) : ys = strSort l := by
  have hpw : ys.Pairwise fun a b => strLe a b = true := by
    cases ys with
    | nil => exact .nil
    | cons x r => exact rising_pw r x hs
  refine List.Perm.eq_of_pairwise (le := fun a b => strLe a b = true) (fun a b _ _ h1 h2 => strLe_anti h1 h2) hpw (List.pairwise_mergeSort (le := strLe) (fun _ _ _ h1 h2 => strLe_trans h1 h2) strLe_total l) (hp.trans (List.mergeSort_perm _ _).symm)
def vSortK : D → Option D
  | .dict l => (strsOf (l.map (·.1))).bind fun ks => if ks.length < 64 then some (.list ((strSort ks).map .str)) else none
  | _ => none
def rSortK : List V → Hp → VK → Prop := fun xs H Q => ∃ (a : Addr) (kvs : List (Key × V)) (ks : List Str), xs = [.ref a] ∧ Rd H a (.dK kvs) ∧ kvs.map (·.1) = ks.map Sum.inr ∧ ks.length < 64 ∧
    ∀ ys p, ys.Perm ks → sortedS ys = true → H p = none → Q (.ref p) (upd H p (.lst (ys.map V.str)))
def bSortK : List D → Option D
  | [d] => vSortK d
  | _ => none
theorem keys_of {K : PySem.W.Frag} {H : Hp} : ∀ {kvs : List (Key × V)} {l : List (D × D)} {ks : List Str}, DnK K H kvs l → strsOf (l.map (·.1)) = some ks → kvs.map (·.1) = ks.map Sum.inr
  | _, _, _, .nil, e => by cases e; rfl
  | (.inl i, _) :: _, _, _, .cons h t, e => by cases e
  | (.inr x, _) :: _, _, _, .cons h t, e => by
    obtain ⟨r, er, rfl⟩ := Option.map_eq_some_iff.mp e
    rw [List.map_cons, List.map_cons, keys_of t er]
theorem rn_sortK {K : PySem.W.Frag} : RnD K rSortK bSortK := by
  intro O H x dx d Q hO n e q
  unfold bSortK at e
  split at e
  · rename_i d0
    cases n with | cons n1 n2 =>
      cases n2
      cases d0 <;> try (cases e; done)
      rename_i l
      obtain ⟨ks, ek, e⟩ := Option.bind_eq_some_iff.mp e
      split at e
      · rename_i hl
        cases e
        cases n1 with
        | dct ha hk =>
          refine ⟨_, _, ks, rfl, .inl (hd_le _ _ ha), keys_of hk ek, hl, fun ys p hp hs hpn => ?_⟩
          obtain rfl := strSort_eq hp hs
          obtain ⟨s, nn⟩ := new_lst (K := K) hO hpn (strs_dn (strSort ks))
          exact q _ _ s nn
      · cases e
  · cases e
theorem y_sortK {X : Cx} {e : Expr} {n : Nat} {fs : Rho → Option (List D)} {p pos : Pos} (hc : X.calm = true) (hg : Gl X "sorted") (hm : X.mg "sorted" = none) (ha : YAn X [e] n fs)
    (he : starEach [e] X.env = (false, eval e X.env) :: starEach [] X.env := by rfl) (hpl : (backTo pos (starEach [] X.env)).any (·.1) = false := by rfl) : YE X (.Call (.Name "sorted" p) [e] [] pos) (fn bSortK fs) :=
  y_bi (call_sortedD hc) rn_sortK hg hm (by decide +kernel) ha (by decide) (by decide) he hpl
end PV
namespace PV
open PySem PySem.Spec PyProof.Rows L2
/-! ## the layer with a store: variables and a store of objects that change -/
inductive AV where
  | d (x : D)
  | loc (n : Nat)
  | tup (l : List AV)
inductive Ob where
  | lst (l : List AV)
  | dct (l : List (Key × AV))
  | ins (l : List (Str × AV))
  | dead
abbrev Tb := List (Addr × Str)
abbrev Nm := List (Addr × Bool)
abbrev Ro := List (Option AV)
abbrev Mu := List Ob
/-- what is hidden from all others: the store's living objects, the tables of code -/
def hidA (T : Tb) (L : Nm) : Addr → Prop := fun a => (a, true) ∈ L ∨ ∃ q, (a, q) ∈ T
section
variable (K : PySem.W.Frag) (mg : Str → Option Value) (T : Tb) (L : Nm) (H : Hp)
mutual
inductive AvR : V → AV → Prop
  | d {v : V} {x : D} : Dn K (hd (hidA T L) H) v x → AvR v (.d x)
  | loc {n : Nat} {a : Addr} {b : Bool} : L[n]? = some (a, b) → AvR (.ref a) (.loc n)
  | tup {a : Addr} {xs : List V} {l : List AV} : SqT K (hd (hidA T L) H) a xs → AvA xs l → AvR (.ref a) (.tup l)
inductive AvA : List V → List AV → Prop
  | nil : AvA [] []
  | cons {v : V} {vs : List V} {a : AV} {as : List AV} : AvR v a → AvA vs as → AvA (v :: vs) (a :: as)
end
inductive AvK : List (Key × V) → List (Key × AV) → Prop
  | nil : AvK [] []
  | cons {k : Key} {v : V} {vs : List (Key × V)} {a : AV} {as : List (Key × AV)} : AvR K T L H v a → AvK vs as → AvK ((k, v) :: vs) ((k, a) :: as)
inductive AvF : List (Str × V) → List (Str × AV) → Prop
  | nil : AvF [] []
  | cons {k : Str} {v : V} {vs : List (Str × V)} {a : AV} {as : List (Str × AV)} : AvR K T L H v a → AvF vs as → AvF ((k, v) :: vs) ((k, a) :: as)
def ObR (a : Addr) : Ob → Prop
  | .lst l => ∃ xs, H a = some (.lst xs) ∧ AvA K T L H xs l
  | .dct l => ∃ xs, H a = some (.dK xs) ∧ AvK K T L H xs l
  | .ins l => ∃ C dx fs, mg "Player" = some (.ref C) ∧ H a = some (.ins C dx fs) ∧ H dx = some (.own a) ∧ AvF K T L H fs l
  | .dead => False
structure SR (M : Mu) : Prop where
  len : L.length = M.length
  nd : (L.map Prod.fst).Nodup
  al : ∀ p ∈ L, H p.1 ≠ none
  ob : ∀ (n : Nat) (a : Addr) (o : Ob), L[n]? = some (a, true) → M[n]? = some o → ObR K mg T L H a o
  de : ∀ (n : Nat) (a : Addr), L[n]? = some (a, false) → M[n]? = some .dead
  tab : LamX.Tabs T H
  sep : ∀ p ∈ L, ∀ q, (p.1, q) ∉ T
structure ER (σ : L2.St) (R : Ro) : Prop where
  len : σ.length = R.length
  get : ∀ (i : Nat) (av : AV), R[i]? = some (some av) → ∃ v, σ[i]? = some (some v) ∧ AvR K T L H v av
end
structure Tx (T : Tb) (L : Nm) (H : Hp) (L' : Nm) (H' : Hp) : Prop where
  pre : ∀ (n : Nat) (a : Addr) (b : Bool), L[n]? = some (a, b) → ∃ b', L'[n]? = some (a, b')
  same : Same (hd (hidA T L) H) (hd (hidA T L') H')
section
variable {K : PySem.W.Frag} {mg : Str → Option Value} {T : Tb} {L L' L3 : Nm} {H H' H2 : Hp} {M : Mu} {R : Ro} {σ : L2.St}
theorem Tx.refl : Tx T L H L H := ⟨fun _ _ b e => ⟨b, e⟩, Same.refl _⟩
theorem Tx.trans (a : Tx T L H L' H') (b : Tx T L' H' L3 H2) : Tx T L H L3 H2 :=
  ⟨fun n x c e => let ⟨_, e1⟩ := a.pre n x c e; b.pre n x _ e1, a.same.trans b.same⟩
theorem Tx.of (s : Same H H') : Tx T L H L H' := ⟨fun _ _ b e => ⟨b, e⟩, same_hd s⟩
theorem Same.sqT {K : PySem.W.Frag} {H H' : Hp} {a : Addr} {xs : List V} (s : Same H H') (h : SqT K H a xs) : SqT K H' a xs := by
  rcases h with (h | ⟨o, h⟩) | h
  · exact .inl (.inl (s _ _ h))
  · exact .inl (.inr ⟨o, s _ _ h⟩)
  · exact .inr h
mutual
theorem AvR.mono (t : Tx T L H L' H') : ∀ {v : V} {av : AV}, AvR K T L H v av → AvR K T L' H' v av
  | _, _, .d h => .d (Dn.mono t.same h)
  | _, _, .loc e => let ⟨_, e'⟩ := t.pre _ _ _ e; .loc e'
  | _, _, .tup h a => .tup (Same.sqT t.same h) (AvA.mono t a)
theorem AvA.mono (t : Tx T L H L' H') : ∀ {vs : List V} {as : List AV}, AvA K T L H vs as → AvA K T L' H' vs as
  | _, _, .nil => .nil
  | _, _, .cons h r => .cons (AvR.mono t h) (AvA.mono t r)
end
theorem AvR.dn {v : V} {x : D} (h : AvR K T L H v (.d x)) : Dn K (hd (hidA T L) H) v x := by cases h; assumption
theorem AvK.mono (t : Tx T L H L' H') {vs : List (Key × V)} {as : List (Key × AV)} (h : AvK K T L H vs as) : AvK K T L' H' vs as := by
  induction h with
  | nil => exact .nil
  | cons h _ ih => exact .cons (h.mono t) ih
theorem AvF.mono (t : Tx T L H L' H') {vs : List (Str × V)} {as : List (Str × AV)} (h : AvF K T L H vs as) : AvF K T L' H' vs as := by
  induction h with
  | nil => exact .nil
  | cons h _ ih => exact .cons (h.mono t) ih
theorem ER.mono (t : Tx T L H L' H') (h : ER K T L H σ R) : ER K T L' H' σ R := ⟨h.len, fun i av e => let ⟨v, h1, h2⟩ := h.get i av e; ⟨v, h1, h2.mono t⟩⟩
/-- the parts of an object in a larger world -/
theorem ObR.mono (t : Tx T L H L' H') (s : ∀ a o, H a = some o → H' a = some o) {a : Addr} : ∀ {o : Ob}, ObR K mg T L H a o → ObR K mg T L' H' a o
  | .lst _, ⟨xs, e, h⟩ => ⟨xs, s _ _ e, h.mono t⟩
  | .dct _, ⟨xs, e, h⟩ => ⟨xs, s _ _ e, h.mono t⟩
  | .ins _, ⟨C, dx, fs, m, e, e2, h⟩ => ⟨C, dx, fs, m, s _ _ e, s _ _ e2, h.mono t⟩
theorem SR.mono (s : Same H H') (h : SR K mg T L H M) : SR K mg T L H' M :=
  ⟨h.len, h.nd, fun p hp z => h.al p hp (s.free z), fun n a o e1 e2 => (h.ob n a o e1 e2).mono (Tx.of s) fun _ _ e => s _ _ e, h.de, h.tab.ext fun b o e => s b o e, h.sep⟩
theorem SR.dom (h : SR K mg T L H M) : ∀ a, hidA T L a → H a ≠ none := by
  rintro a (ha | ⟨q, hq⟩)
  · exact h.al _ ha
  · obtain ⟨ps, e, _⟩ := h.tab _ hq
    rw [e]
    exact fun z => nomatch z
/-- a living object -/
theorem SR.get (h : SR K mg T L H M) {v : V} {n : Nat} {o : Ob} (r : AvR K T L H v (.loc n)) (e : M[n]? = some o) (ho : o ≠ .dead) : ∃ a, v = .ref a ∧ L[n]? = some (a, true) ∧ ObR K mg T L H a o := by
  cases r with
  | @loc _ a b e1 =>
    cases b with
    | true => exact ⟨a, rfl, e1, h.ob n a o e1 e⟩
    | false =>
      have := h.de n a e1
      rw [e] at this
      exact absurd (Option.some.inj this) ho
theorem nodup_get {L : Nm} (nd : (L.map Prod.fst).Nodup) {i j : Nat} {a : Addr} {b c : Bool} (h1 : L[i]? = some (a, b)) (h2 : L[j]? = some (a, c)) : i = j := by
  have e1 : (L.map Prod.fst)[i]? = some a := by rw [List.getElem?_map, h1]; rfl
  have e2 : (L.map Prod.fst)[j]? = some a := by rw [List.getElem?_map, h2]; rfl
  exact (List.getElem?_inj (List.getElem?_eq_some_iff.mp e1).1 nd).mp (e1.trans e2.symm)
/-- the pure part of the variables -/
def pr (R : Ro) : Rho := R.map fun o => match o with
  | some (.d x) => some (.val x)
  | _ => none
theorem pr_get {i : Nat} {s : Sl} (h : (pr R)[i]? = some (some s)) : ∃ x, s = .val x ∧ R[i]? = some (some (.d x)) := by
  unfold pr at h
  rw [List.getElem?_map] at h
  cases e : R[i]? with
  | none => rw [e] at h; cases h
  | some o =>
    rw [e] at h
    cases o with
    | none => cases h
    | some av =>
      cases av with
      | d x => cases h; exact ⟨x, rfl, rfl⟩
      | loc n => cases h
      | tup l => cases h
theorem ER.rel (s : SR K mg T L H M) (e : ER K T L H σ R) (B : Addr → Prop) (hB : ∀ a, B a → hidA T L a) : Rel K B (hidA T L) σ H (pr R) where
  len := by unfold pr; rw [List.length_map]; exact e.len
  dom := s.dom
  sub := hB
  get := fun i x h => by
    obtain ⟨d, rfl, hd⟩ := pr_get h
    obtain ⟨v, h1, h2⟩ := e.get i _ hd
    exact ⟨v, h1, h2.dn⟩
  inj := fun i j l l' v h _ _ _ => by
    obtain ⟨d, hd, _⟩ := pr_get h
    cases hd
end
/-- what comes of a part: a thing, or an exception -/
inductive RR (α : Type) where
  | ok (a : α) (M : Mu)
  | er (x : Str) (M : Mu)
def rb {α β : Type} (o : Option (RR α)) (k : α → Mu → Option (RR β)) : Option (RR β) := match o with
  | none => none
  | some (.ok a M) => k a M
  | some (.er x M) => some (.er x M)
theorem rb_some {α β : Type} {o : Option (RR α)} {k : α → Mu → Option (RR β)} {r : RR β} (h : rb o k = some r) : (∃ a M, o = some (.ok a M) ∧ k a M = some r) ∨ ∃ x M, o = some (.er x M) ∧ r = .er x M := by
  cases o with
  | none => cases h
  | some z =>
    cases z with
    | ok a M => exact .inl ⟨a, M, rfl, h⟩
    | er x M => cases h; exact .inr ⟨x, M, rfl, rfl⟩
section
variable (K : PySem.W.Frag) (mg : Str → Option Value) (T : Tb) (W : WX)
/-- what an exception is to grant -/
def erG (σ : L2.St) (L : Nm) (H : Hp) (x : Str) (M' : Mu) : Prop := ∀ cls d L' H', mg x = some cls → Tx T L H L' H' → SR K mg T L' H' M' → W cls d σ H'
def AE (t : TE) (f : Ro → Mu → Option (RR AV)) : Prop := ∀ L σ H R M r Q, SR K mg T L H M → ER K T L H σ R → f R M = some r →
  (∀ av M', r = .ok av M' → ∀ v L' H', Tx T L H L' H' → SR K mg T L' H' M' → AvR K T L' H' v av → Q v H') → (∀ x M', r = .er x M' → erG K mg T W σ L H x M') → t σ H Q
def AA (t : TA) (f : Ro → Mu → Option (RR (List AV))) : Prop := ∀ L σ H R M r Q, SR K mg T L H M → ER K T L H σ R → f R M = some r →
  (∀ av M', r = .ok av M' → ∀ v L' H', Tx T L H L' H' → SR K mg T L' H' M' → AvA K T L' H' v av → Q v H') → (∀ x M', r = .er x M' → erG K mg T W σ L H x M') → t σ H Q
def AT (t : TT) (f : Ro → Mu → Option (RR Bool)) : Prop := ∀ L σ H R M r Q, SR K mg T L H M → ER K T L H σ R → f R M = some r →
  (∀ av M', r = .ok av M' → ∀ L' H', Tx T L H L' H' → SR K mg T L' H' M' → Q av H') → (∀ x M', r = .er x M' → erG K mg T W σ L H x M') → t σ H Q
inductive OutA where
  | nx (R : Ro) (M : Mu) | rt (v : AV) (M : Mu) | bk (R : Ro) (M : Mu) | ct (R : Ro) (M : Mu) | er (x : Str) (R : Ro) (M : Mu)
def postA (L : Nm) (H : Hp) (D : Ends) : OutA → Prop
  | .nx R' M' => ∀ L' σ' H', Tx T L H L' H' → SR K mg T L' H' M' → ER K T L' H' σ' R' → D.nx σ' H'
  | .rt av M' => ∀ v L' H', Tx T L H L' H' → SR K mg T L' H' M' → AvR K T L' H' v av → D.rt v H'
  | .bk R' M' => ∀ L' σ' H', Tx T L H L' H' → SR K mg T L' H' M' → ER K T L' H' σ' R' → D.bk σ' H'
  | .ct R' M' => ∀ L' σ' H', Tx T L H L' H' → SR K mg T L' H' M' → ER K T L' H' σ' R' → D.ct σ' H'
  | .er x R' M' => ∀ cls d L' σ' H', mg x = some cls → Tx T L H L' H' → SR K mg T L' H' M' → ER K T L' H' σ' R' → W cls d σ' H'
def AS (t : TS) (g : Ro → Mu → Option OutA) : Prop := ∀ L σ H R M o D, SR K mg T L H M → ER K T L H σ R → g R M = some o → postA K mg T W L H D o → t D σ H
end
section
variable {K : PySem.W.Frag} {mg : Str → Option Value} {T : Tb} {W : WX}
theorem erG.mono {σ : L2.St} {L L' : Nm} {H H' : Hp} {x : Str} {M : Mu} (t : Tx T L H L' H') (h : erG K mg T W σ L H x M) : erG K mg T W σ L' H' x M := fun cls d L2 H2 m t2 s => h cls d L2 H2 m (t.trans t2) s
theorem postA.mono {L L' : Nm} {H H' : Hp} {D : Ends} {o : OutA} (t : Tx T L H L' H') (h : postA K mg T W L H D o) : postA K mg T W L' H' D o := by
  cases o with
  | nx R M => exact fun L2 σ' H2 t2 s e => h L2 σ' H2 (t.trans t2) s e
  | rt v M => exact fun v L2 H2 t2 s e => h v L2 H2 (t.trans t2) s e
  | bk R M => exact fun L2 σ' H2 t2 s e => h L2 σ' H2 (t.trans t2) s e
  | ct R M => exact fun L2 σ' H2 t2 s e => h L2 σ' H2 (t.trans t2) s e
  | er x R M => exact fun cls d L2 σ' H2 m t2 s e => h cls d L2 σ' H2 m (t.trans t2) s e
/-! ### lifted -/
def lE (f : Rho → Option D) : Ro → Mu → Option (RR AV) := fun R M => (f (pr R)).map fun d => .ok (.d d) M
def lT (f : Rho → Option Bool) : Ro → Mu → Option (RR Bool) := fun R M => (f (pr R)).map fun d => .ok d M
theorem ae_lift {t : TE} {f : Rho → Option D} (h : DE K t f) : AE K mg T W t (lE f) := by
  intro L σ H R M r Q s e er q _
  obtain ⟨x, ex, rfl⟩ := Option.map_eq_some_iff.mp er
  exact h _ _ σ H (pr R) x Q (e.rel s _ fun _ h => h) ex fun v H' sm n => q _ _ rfl v L H' (Tx.of sm) (s.mono sm) (.d n)
theorem at_lift {t : TT} {f : Rho → Option Bool} (h : DT K t f) : AT K mg T W t (lT f) := by
  intro L σ H R M r Q s e er q _
  obtain ⟨x, ex, rfl⟩ := Option.map_eq_some_iff.mp er
  exact h _ _ σ H (pr R) x Q (e.rel s _ fun _ h => h) ex fun H' sm => q _ _ rfl L H' (Tx.of sm) (s.mono sm)
/-! ### names, arguments -/
def aVar (i : Nat) : Ro → Mu → Option (RR AV) := fun R M => match R[i]? with
  | some (some av) => some (.ok av M)
  | _ => none
theorem ae_var (i : Nat) : AE K mg T W (tVar i) (aVar i) := by
  intro L σ H R M r Q s e er q _
  unfold aVar at er
  split at er
  · rename_i av h
    cases er
    obtain ⟨v, h1, h2⟩ := e.get i _ h
    exact ⟨v, h1, q _ _ rfl v L H Tx.refl s h2⟩
  · cases er
def bNil : Ro → Mu → Option (RR (List AV)) := fun _ M => some (.ok [] M)
def bCons (f : Ro → Mu → Option (RR AV)) (g : Ro → Mu → Option (RR (List AV))) : Ro → Mu → Option (RR (List AV)) := fun R M => rb (f R M) fun a M1 => rb (g R M1) fun r M2 => some (.ok (a :: r) M2)
theorem aa_nil : AA K mg T W tNil bNil := by
  intro L σ H R M r Q s e er q _
  cases er
  exact q _ _ rfl [] L H Tx.refl s .nil
theorem aa_cons {ta : TE} {tr : TA} {f : Ro → Mu → Option (RR AV)} {g : Ro → Mu → Option (RR (List AV))} (ha : AE K mg T W ta f) (hr : AA K mg T W tr g) : AA K mg T W (tCons ta tr) (bCons f g) := by
  intro L σ H R M r Q s e er q qe
  rcases rb_some er with ⟨a, M1, e1, er⟩ | ⟨x, M1, e1, rfl⟩
  · refine ha L σ H R M _ _ s e e1 (fun av M' h v L1 H1 t1 s1 n1 => ?_) (fun x M' h => nomatch h)
    cases h
    rcases rb_some er with ⟨b, M2, e2, er⟩ | ⟨x, M2, e2, rfl⟩
    · cases er
      refine hr L1 σ H1 R M1 _ _ s1 (e.mono t1) e2 (fun av M' h vs L2 H2 t2 s2 n2 => ?_) (fun x M' h => nomatch h)
      cases h
      exact q _ _ rfl _ L2 H2 (t1.trans t2) s2 (.cons (n1.mono t2) n2)
    · exact hr L1 σ H1 R M1 _ _ s1 (e.mono t1) e2 (fun av M' h => nomatch h) (fun x M' h => by cases h; exact (qe _ _ rfl).mono t1)
  · exact ha L σ H R M _ _ s e e1 (fun av M' h => nomatch h) (fun x M' h => by cases h; exact qe _ _ rfl)
/-! ### operators on pure things -/
def dOf : AV → Option D
  | .d x => some x
  | _ => none
def a2 (g : D → D → Option D) (fa fb : Ro → Mu → Option (RR AV)) : Ro → Mu → Option (RR AV) := fun R M => rb (fa R M) fun a M1 => rb (fb R M1) fun b M2 => (dOf a).bind fun x => (dOf b).bind fun y => (g x y).map fun z => .ok (.d z) M2
def a1 (g : D → Option D) (fa : Ro → Mu → Option (RR AV)) : Ro → Mu → Option (RR AV) := fun R M => rb (fa R M) fun a M1 => (dOf a).bind fun x => (g x).map fun z => .ok (.d z) M1
theorem ae_op {r2 : R2} {g : D → D → Option D} {ta tb : TE} {fa fb : Ro → Mu → Option (RR AV)} (hr : R2D K r2 g) (ha : AE K mg T W ta fa) (hb : AE K mg T W tb fb) : AE K mg T W (tOp r2 ta tb) (a2 g fa fb) := by
  intro L σ H R M r Q s e er q qe
  rcases rb_some er with ⟨a, M1, e1, er⟩ | ⟨x, M1, e1, rfl⟩
  · refine ha L σ H R M _ _ s e e1 (fun av M' h v L1 H1 t1 s1 n1 => ?_) (fun x M' h => nomatch h)
    cases h
    rcases rb_some er with ⟨b, M2, e2, er⟩ | ⟨x, M2, e2, rfl⟩
    · obtain ⟨x, ex, er⟩ := Option.bind_eq_some_iff.mp er
      obtain ⟨y, ey, er⟩ := Option.bind_eq_some_iff.mp er
      obtain ⟨z, ez, rfl⟩ := Option.map_eq_some_iff.mp er
      refine hb L1 σ H1 R M1 _ _ s1 (e.mono t1) e2 (fun av M' h u L2 H2 t2 s2 n2 => ?_) (fun x M' h => nomatch h)
      cases h
      cases a <;> cases ex
      cases b <;> cases ey
      exact hr (hidA T L2) H2 v u _ _ z Q s2.dom (AvR.dn (n1.mono t2)) n2.dn ez fun v3 H3 s3 n3 => q _ _ rfl v3 L2 H3 ((t1.trans t2).trans (Tx.of s3)) (s2.mono s3) (.d n3)
    · exact hb L1 σ H1 R M1 _ _ s1 (e.mono t1) e2 (fun av M' h => nomatch h) (fun x M' h => by cases h; exact (qe _ _ rfl).mono t1)
  · exact ha L σ H R M _ _ s e e1 (fun av M' h => nomatch h) (fun x M' h => by cases h; exact qe _ _ rfl)
theorem ae_un {r1 : V → Hp → VK → Prop} {g : D → Option D} {ta : TE} {fa : Ro → Mu → Option (RR AV)} (hr : R1D K r1 g) (ha : AE K mg T W ta fa) : AE K mg T W (tUn r1 ta) (a1 g fa) := by
  intro L σ H R M r Q s e er q qe
  rcases rb_some er with ⟨a, M1, e1, er⟩ | ⟨x, M1, e1, rfl⟩
  · refine ha L σ H R M _ _ s e e1 (fun av M' h v L1 H1 t1 s1 n1 => ?_) (fun x M' h => nomatch h)
    cases h
    obtain ⟨x, ex, er⟩ := Option.bind_eq_some_iff.mp er
    obtain ⟨z, ez, rfl⟩ := Option.map_eq_some_iff.mp er
    cases a <;> cases ex
    exact hr (hidA T L1) H1 v _ z Q s1.dom n1.dn ez fun v3 H3 s3 n3 => q _ _ rfl v3 L1 H3 (t1.trans (Tx.of s3)) (s1.mono s3) (.d n3)
  · exact ha L σ H R M _ _ s e e1 (fun av M' h => nomatch h) (fun x M' h => by cases h; exact qe _ _ rfl)
def dsOf : List AV → Option (List D)
  | [] => some []
  | .d x :: r => (dsOf r).map (x :: ·)
  | _ => none
theorem dsOf_r {L : Nm} {H : Hp} : ∀ {vs : List V} {as : List AV} {ds : List D}, AvA K T L H vs as → dsOf as = some ds → DnA K (hd (hidA T L) H) vs ds
  | _, [], _, .nil, e => by cases e; exact .nil
  | _, a :: as, ds, .cons h t, e => by
    cases a with
    | loc n => cases e
    | tup l => cases e
    | d x =>
      obtain ⟨r, er, rfl⟩ := Option.map_eq_some_iff.mp e
      exact .cons h.dn (dsOf_r t er)
def aN (g : List D → Option D) (fa : Ro → Mu → Option (RR (List AV))) : Ro → Mu → Option (RR AV) := fun R M => rb (fa R M) fun a M1 => (dsOf a).bind fun x => (g x).map fun z => .ok (.d z) M1
theorem ae_cb {rn : List V → Hp → VK → Prop} {g : List D → Option D} {ta : TA} {fa : Ro → Mu → Option (RR (List AV))} (hr : RnD K rn g) (ha : AA K mg T W ta fa) : AE K mg T W (tCB rn ta) (aN g fa) := by
  intro L σ H R M r Q s e er q qe
  rcases rb_some er with ⟨a, M1, e1, er⟩ | ⟨x, M1, e1, rfl⟩
  · refine ha L σ H R M _ _ s e e1 (fun av M' h v L1 H1 t1 s1 n1 => ?_) (fun x M' h => nomatch h)
    cases h
    obtain ⟨x, ex, er⟩ := Option.bind_eq_some_iff.mp er
    obtain ⟨z, ez, rfl⟩ := Option.map_eq_some_iff.mp er
    exact hr (hidA T L1) H1 v _ z Q s1.dom (dsOf_r n1 ex) ez fun v3 H3 s3 n3 => q _ _ rfl v3 L1 H3 (t1.trans (Tx.of s3)) (s1.mono s3) (.d n3)
  · exact ha L σ H R M _ _ s e e1 (fun av M' h => nomatch h) (fun x M' h => by cases h; exact qe _ _ rfl)
def mkTA (l : List AV) : AV := match dsOf l with
  | some ds => .d (.tuple ds)
  | none => .tup l
theorem AvA.len {L : Nm} {H : Hp} : ∀ {vs : List V} {as : List AV}, AvA K T L H vs as → vs.length = as.length
  | _, _, .nil => rfl
  | _, _, .cons _ t => by simp [AvA.len t]
def aTup (fa : Ro → Mu → Option (RR (List AV))) : Ro → Mu → Option (RR AV) := fun R M => rb (fa R M) fun a M1 => if a.length ≤ 16777216 then some (.ok (mkTA a) M1) else none
theorem ae_tup {ta : TA} {fa : Ro → Mu → Option (RR (List AV))} (ha : AA K mg T W ta fa) : AE K mg T W (tTupF ta) (aTup fa) := by
  intro L σ H R M r Q s e er q qe
  rcases rb_some er with ⟨a, M1, e1, er⟩ | ⟨x, M1, e1, rfl⟩
  · refine ha L σ H R M _ _ s e e1 (fun av M' h v L1 H1 t1 s1 n1 => ?_) (fun x M' h => nomatch h)
    cases h
    split at er
    · rename_i hl
      cases er
      refine ⟨by rw [n1.len, line_eq]; exact hl, fun p ob hob hp => ?_⟩
      have sm : Same H1 (upd H1 p (.frz ob (.tup v))) := PV.same_upd hp
      refine q _ _ rfl _ L1 _ (t1.trans (Tx.of sm)) (s1.mono sm) ?_
      unfold mkTA
      cases eds : dsOf a with
      | some ds => exact .d (new_tup (K := K) hob s1.dom hp (dsOf_r n1 eds)).2
      | none => exact .tup (.inl (.inr ⟨ob, hd_new s1.dom hp⟩)) (n1.mono (Tx.of sm))
    · cases er
  · exact ha L σ H R M _ _ s e e1 (fun av M' h => nomatch h) (fun x M' h => by cases h; exact qe _ _ rfl)
/-! ### tests -/
def bT1 (fa : Ro → Mu → Option (RR AV)) : Ro → Mu → Option (RR Bool) := fun R M => rb (fa R M) fun a M1 => match a with
  | .d (.bool b) => some (.ok b M1)
  | _ => none
theorem at_b {ta : TE} {fa : Ro → Mu → Option (RR AV)} (ha : AE K mg T W ta fa) : AT K mg T W (tB ta) (bT1 fa) := by
  intro L σ H R M r Q s e er q qe
  rcases rb_some er with ⟨a, M1, e1, er⟩ | ⟨x, M1, e1, rfl⟩
  · refine ha L σ H R M _ _ s e e1 (fun av M' h v L1 H1 t1 s1 n1 => ?_) (fun x M' h => nomatch h)
    cases h
    split at er
    · cases er
      cases n1.dn
      exact ⟨_, rfl, q _ _ rfl L1 H1 t1 s1⟩
    · cases er
  · exact ha L σ H R M _ _ s e e1 (fun av M' h => nomatch h) (fun x M' h => by cases h; exact qe _ _ rfl)
theorem at_test {ta : TE} {fa : Ro → Mu → Option (RR AV)} (ha : AE K mg T W ta fa) : AT K mg T W (tTest ta) (bT1 fa) := by
  intro L σ H R M r Q s e er q qe
  rcases rb_some er with ⟨a, M1, e1, er⟩ | ⟨x, M1, e1, rfl⟩
  · refine ha L σ H R M _ _ s e e1 (fun av M' h v L1 H1 t1 s1 n1 => ?_) (fun x M' h => nomatch h)
    cases h
    split at er
    · cases er
      cases n1.dn
      exact ⟨_, rfl, q _ _ rfl L1 H1 t1 s1⟩
    · cases er
  · exact ha L σ H R M _ _ s e e1 (fun av M' h => nomatch h) (fun x M' h => by cases h; exact qe _ _ rfl)
def bAnd (fa fb : Ro → Mu → Option (RR Bool)) : Ro → Mu → Option (RR Bool) := fun R M => rb (fa R M) fun c M1 => if c = true then fb R M1 else some (.ok false M1)
def bOr (fa fb : Ro → Mu → Option (RR Bool)) : Ro → Mu → Option (RR Bool) := fun R M => rb (fa R M) fun c M1 => if c = true then some (.ok true M1) else fb R M1
def bNot (fa : Ro → Mu → Option (RR Bool)) : Ro → Mu → Option (RR Bool) := fun R M => rb (fa R M) fun c M1 => some (.ok (!c) M1)
theorem at_and {ta tb : TT} {fa fb : Ro → Mu → Option (RR Bool)} (ha : AT K mg T W ta fa) (hb : AT K mg T W tb fb) : AT K mg T W (tAnd ta tb) (bAnd fa fb) := by
  intro L σ H R M r Q s e er q qe
  rcases rb_some er with ⟨a, M1, e1, er⟩ | ⟨x, M1, e1, rfl⟩
  · refine ha L σ H R M _ _ s e e1 (fun av M' h L1 H1 t1 s1 => ?_) (fun x M' h => nomatch h)
    cases h
    cases a with
    | true =>
      refine iteT (hb L1 σ H1 R M1 r _ s1 (e.mono t1) er (fun av M' h L2 H2 t2 s2 => q _ _ h L2 H2 (t1.trans t2) s2) (fun x M' h => (qe _ _ h).mono t1))
    | false => cases er; exact iteF (q _ _ rfl L1 H1 t1 s1)
  · exact ha L σ H R M _ _ s e e1 (fun av M' h => nomatch h) (fun x M' h => by cases h; exact qe _ _ rfl)
theorem at_or {ta tb : TT} {fa fb : Ro → Mu → Option (RR Bool)} (ha : AT K mg T W ta fa) (hb : AT K mg T W tb fb) : AT K mg T W (tOr ta tb) (bOr fa fb) := by
  intro L σ H R M r Q s e er q qe
  rcases rb_some er with ⟨a, M1, e1, er⟩ | ⟨x, M1, e1, rfl⟩
  · refine ha L σ H R M _ _ s e e1 (fun av M' h L1 H1 t1 s1 => ?_) (fun x M' h => nomatch h)
    cases h
    cases a with
    | false =>
      refine iteF (hb L1 σ H1 R M1 r _ s1 (e.mono t1) er (fun av M' h L2 H2 t2 s2 => q _ _ h L2 H2 (t1.trans t2) s2) (fun x M' h => (qe _ _ h).mono t1))
    | true => cases er; exact iteT (q _ _ rfl L1 H1 t1 s1)
  · exact ha L σ H R M _ _ s e e1 (fun av M' h => nomatch h) (fun x M' h => by cases h; exact qe _ _ rfl)
theorem at_not {ta : TT} {fa : Ro → Mu → Option (RR Bool)} (ha : AT K mg T W ta fa) : AT K mg T W (tNot ta) (bNot fa) := by
  intro L σ H R M r Q s e er q qe
  rcases rb_some er with ⟨a, M1, e1, er⟩ | ⟨x, M1, e1, rfl⟩
  · cases er
    refine ha L σ H R M _ _ s e e1 (fun av M' h L1 H1 t1 s1 => ?_) (fun x M' h => nomatch h)
    cases h
    exact q _ _ rfl L1 H1 t1 s1
  · exact ha L σ H R M _ _ s e e1 (fun av M' h => nomatch h) (fun x M' h => by cases h; exact qe _ _ rfl)
/-! ### statements -/
def zNext : Ro → Mu → Option OutA := fun R M => some (.nx R M)
def zSeq (g h : Ro → Mu → Option OutA) : Ro → Mu → Option OutA := fun R M => (g R M).bind fun o => match o with
  | .nx R1 M1 => h R1 M1
  | x => some x
def oe {α : Type} (R : Ro) (o : Option (RR α)) (k : α → Mu → Option OutA) : Option OutA := match o with
  | none => none
  | some (.ok a M) => k a M
  | some (.er x M) => some (.er x R M)
theorem oe_some {α : Type} {R : Ro} {o : Option (RR α)} {k : α → Mu → Option OutA} {r : OutA} (h : oe R o k = some r) : (∃ a M, o = some (.ok a M) ∧ k a M = some r) ∨ ∃ x M, o = some (.er x M) ∧ r = .er x R M := by
  cases o with
  | none => cases h
  | some z =>
    cases z with
    | ok a M => exact .inl ⟨a, M, rfl, h⟩
    | er x M => cases h; exact .inr ⟨x, M, rfl, rfl⟩
theorem postA.erG {L : Nm} {H : Hp} {D : Ends} {x : Str} {R : Ro} {M : Mu} {σ : L2.St} (e : ER K T L H σ R) (h : postA K mg T W L H D (.er x R M)) : erG K mg T W σ L H x M := fun cls d L' H' m t s => h cls d L' σ H' m t s (e.mono t)
def zIf (fc : Ro → Mu → Option (RR Bool)) (g h : Ro → Mu → Option OutA) : Ro → Mu → Option OutA := fun R M => oe R (fc R M) fun c M1 => if c = true then g R M1 else h R M1
def zRet (fa : Ro → Mu → Option (RR AV)) : Ro → Mu → Option OutA := fun R M => oe R (fa R M) fun a M1 => some (.rt a M1)
def zRetN : Ro → Mu → Option OutA := fun _ M => some (.rt (.d .none) M)
def zBrk : Ro → Mu → Option OutA := fun R M => some (.bk R M)
def zCnt : Ro → Mu → Option OutA := fun R M => some (.ct R M)
def zDrop (fa : Ro → Mu → Option (RR AV)) : Ro → Mu → Option OutA := fun R M => oe R (fa R M) fun _ M1 => some (.nx R M1)
def zSet (i : Nat) (fa : Ro → Mu → Option (RR AV)) : Ro → Mu → Option OutA := fun R M => oe R (fa R M) fun a M1 => some (.nx (R.set i (some a)) M1)
theorem as_next : AS K mg T W tNext zNext := by
  intro L σ H R M o D s e er q
  cases er
  exact q L σ H Tx.refl s e
theorem as_brk : AS K mg T W tBreak zBrk := by
  intro L σ H R M o D s e er q
  cases er
  exact q L σ H Tx.refl s e
theorem as_cnt : AS K mg T W tCont zCnt := by
  intro L σ H R M o D s e er q
  cases er
  exact q L σ H Tx.refl s e
theorem as_seq {t u : TS} {g h : Ro → Mu → Option OutA} (ht : AS K mg T W t g) (hu : AS K mg T W u h) : AS K mg T W (tSeq t u) (zSeq g h) := by
  intro L σ H R M o D s e er q
  obtain ⟨o1, e1, er⟩ := Option.bind_eq_some_iff.mp er
  refine ht L σ H R M o1 _ s e e1 ?_
  cases o1 with
  | nx R1 M1 => exact fun L' σ' H' t' s' e' => hu L' σ' H' R1 M1 o D s' e' er (q.mono t')
  | rt d M1 => cases er; exact q
  | bk R1 M1 => cases er; exact q
  | ct R1 M1 => cases er; exact q
  | er x R1 M1 => cases er; exact q
theorem as_if {tc : TT} {t u : TS} {fc : Ro → Mu → Option (RR Bool)} {g h : Ro → Mu → Option OutA} (hc : AT K mg T W tc fc) (ht : AS K mg T W t g) (hu : AS K mg T W u h) : AS K mg T W (tIfS tc t u) (zIf fc g h) := by
  intro L σ H R M o D s e er q
  rcases oe_some er with ⟨c, M1, e1, er⟩ | ⟨x, M1, e1, rfl⟩
  · refine hc L σ H R M _ _ s e e1 (fun av M' h L1 H1 t1 s1 => ?_) (fun x M' h => nomatch h)
    cases h
    cases c with
    | true => exact iteT (ht L1 σ H1 R M1 o D s1 (e.mono t1) er (q.mono t1))
    | false => exact iteF (hu L1 σ H1 R M1 o D s1 (e.mono t1) er (q.mono t1))
  · exact hc L σ H R M _ _ s e e1 (fun av M' h => nomatch h) (fun x M' h => by cases h; exact q.erG e)
theorem as_ret {ta : TE} {fa : Ro → Mu → Option (RR AV)} (ha : AE K mg T W ta fa) : AS K mg T W (tRet ta) (zRet fa) := by
  intro L σ H R M o D s e er q
  rcases oe_some er with ⟨c, M1, e1, er⟩ | ⟨x, M1, e1, rfl⟩
  · cases er
    exact ha L σ H R M _ _ s e e1 (fun av M' h v L1 H1 t1 s1 n1 => by cases h; exact q v L1 H1 t1 s1 n1) (fun x M' h => nomatch h)
  · exact ha L σ H R M _ _ s e e1 (fun av M' h => nomatch h) (fun x M' h => by cases h; exact q.erG e)
theorem as_retN : AS K mg T W tRetN zRetN := by
  intro L σ H R M o D s e er q
  cases er
  exact q .non L H Tx.refl s (.d .non)
theorem as_drop {ta : TE} {fa : Ro → Mu → Option (RR AV)} (ha : AE K mg T W ta fa) : AS K mg T W (tDrop ta) (zDrop fa) := by
  intro L σ H R M o D s e er q
  rcases oe_some er with ⟨c, M1, e1, er⟩ | ⟨x, M1, e1, rfl⟩
  · cases er
    exact ha L σ H R M _ _ s e e1 (fun av M' h v L1 H1 t1 s1 n1 => by cases h; exact q L1 σ H1 t1 s1 (e.mono t1)) (fun x M' h => nomatch h)
  · exact ha L σ H R M _ _ s e e1 (fun av M' h => nomatch h) (fun x M' h => by cases h; exact q.erG e)
theorem ER.set {L : Nm} {H : Hp} {σ : L2.St} {R : Ro} (e : ER K T L H σ R) (i : Nat) {v : V} {av : AV} (h : AvR K T L H v av) : ER K T L H (σ.set i (some v)) (R.set i (some av)) where
  len := by simp [e.len]
  get := fun j s hs => by
    by_cases hj : i = j
    · subst hj
      by_cases hl : i < R.length
      · rw [List.getElem?_set_self hl] at hs
        cases hs
        exact ⟨v, List.getElem?_set_self (by rw [e.len]; exact hl), h⟩
      · rw [List.getElem?_eq_none (by simpa using hl)] at hs; cases hs
    · rw [List.getElem?_set_ne hj] at hs ⊢
      exact e.get j s hs
theorem as_set (i : Nat) {ta : TE} {fa : Ro → Mu → Option (RR AV)} (ha : AE K mg T W ta fa) : AS K mg T W (tAsg ta (gName i)) (zSet i fa) := by
  intro L σ H R M o D s e er q
  rcases oe_some er with ⟨c, M1, e1, er⟩ | ⟨x, M1, e1, rfl⟩
  · cases er
    exact ha L σ H R M _ _ s e e1 (fun av M' h v L1 H1 t1 s1 n1 => by cases h; exact q L1 _ H1 t1 s1 ((e.mono t1).set i n1)) (fun x M' h => nomatch h)
  · exact ha L σ H R M _ _ s e e1 (fun av M' h => nomatch h) (fun x M' h => by cases h; exact q.erG e)
end
end PV
namespace PV
open PySem PySem.Spec PyProof.Rows L2
section
variable {K : PySem.W.Frag} {mg : Str → Option Value} {T : Tb} {L L' : Nm} {H H' : Hp} {M : Mu} {R : Ro} {σ : L2.St}
/-! ### changes of the store -/
theorem hd_updO {O : Addr → Prop} {H : Hp} {a : Addr} {o : HO} (h : O a) : hd O (upd H a o) = hd O H := by
  funext b
  by_cases hb : O b
  · rw [hd_none hb, hd_none hb]
  · rw [hd_of hb, hd_of hb, upd_ne (fun z => hb (by rw [z]; exact h))]
theorem hid_of {n : Nat} {a : Addr} (h : L[n]? = some (a, true)) : hidA T L a := .inl (List.mem_of_getElem? h)
theorem Tx.upd {n : Nat} {a : Addr} {o : HO} (h : L[n]? = some (a, true)) : Tx T L H L (L2.upd H a o) := ⟨fun _ _ b e => ⟨b, e⟩, by rw [hd_updO (hid_of h)]; exact Same.refl _⟩
def isObj : HO → Prop
  | .lst _ => True
  | .dK _ => True
  | .ins _ _ _ => True
  | _ => False
/-- a living object is changed -/
theorem SR.upd (s : SR K mg T L H M) {n : Nat} {a : Addr} {o : Ob} {ho : HO} (h : L[n]? = some (a, true)) {h0 : HO} (ha : H a = some h0) (hk : isObj h0) (hr : ObR K mg T L (L2.upd H a ho) a o) : SR K mg T L (L2.upd H a ho) (M.set n o) := by
  have tx : Tx T L H L (L2.upd H a ho) := Tx.upd h
  have nT : ∀ q, (a, q) ∉ T := s.sep _ (List.mem_of_getElem? h)
  have hne : ∀ b, H a ≠ some (.own b) := fun b e => by rw [ha] at e; cases e; exact hk
  refine ⟨by rw [s.len, List.length_set], s.nd, fun p hp => ?_, fun m b o' e1 e2 => ?_, fun m b e => ?_, fun p hp => ?_, s.sep⟩
  · by_cases hb : p.1 = a
    · rw [hb, upd_same]; exact fun z => nomatch z
    · rw [upd_ne hb]; exact s.al p hp
  · by_cases hm : n = m
    · subst hm
      rw [h] at e1
      cases e1
      have hl : n < M.length := by rw [← s.len]; exact (List.getElem?_eq_some_iff.mp h).1
      rw [List.getElem?_set_self hl] at e2
      cases e2
      exact hr
    · rw [List.getElem?_set_ne hm] at e2
      have hba : b ≠ a := fun z => hm (nodup_get s.nd h (by rw [z] at e1; exact e1))
      have q := s.ob m b o' e1 e2
      cases o' with
      | lst l => obtain ⟨xs, x1, x2⟩ := q; exact ⟨xs, by rw [upd_ne hba]; exact x1, x2.mono tx⟩
      | dct l => obtain ⟨xs, x1, x2⟩ := q; exact ⟨xs, by rw [upd_ne hba]; exact x1, x2.mono tx⟩
      | ins l => obtain ⟨C, dx, fs, x1, x2, x3, x4⟩ := q; exact ⟨C, dx, fs, x1, by rw [upd_ne hba]; exact x2, by rw [upd_ne (fun z => hne b (by rw [← z]; exact x3))]; exact x3, x4.mono tx⟩
      | dead => exact q
  · have hm : n ≠ m := fun z => by
      subst z
      rw [h] at e
      cases e
    rw [List.getElem?_set_ne hm]
    exact s.de m b e
  · have q := s.tab p hp
    obtain ⟨ps, e1, e2⟩ := q
    refine ⟨ps, by rw [upd_ne (fun z => nT p.2 (by rw [← z]; exact hp))]; exact e1, e2.1, fun pos cv ec => ?_⟩
    obtain ⟨c, c1, c2⟩ := e2.2 pos cv ec
    refine ⟨c, c1, ?_⟩
    rw [upd_ne (fun z => by rw [z, ha] at c2; cases c2; exact hk)]
    exact c2
theorem Tx.new {p : Addr} {c : Bool} (hp : H p = none) (sm : Same H H') : Tx T L H (L ++ [(p, c)]) H' := by
  refine ⟨fun n a b e => ⟨b, by rw [List.getElem?_append_left (List.getElem?_eq_some_iff.mp e).1]; exact e⟩, fun a o e => ?_⟩
  obtain ⟨n, e⟩ := hd_some e
  have hap : a ≠ p := fun z => by rw [z, hp] at e; cases e
  rw [hd_of]
  · exact sm _ _ e
  · rintro (z | z)
    · rw [List.mem_append] at z
      rcases z with z | z
      · exact n (.inl z)
      · simp at z; exact hap z.1
    · exact n (.inr z)
/-- a new object -/
theorem SR.new (s : SR K mg T L H M) {p : Addr} {o : Ob} (hp : H p = none) (sm : Same H H') (hr : ObR K mg T (L ++ [(p, true)]) H' p o) : SR K mg T (L ++ [(p, true)]) H' (M ++ [o]) := by
  have tx : Tx T L H (L ++ [(p, true)]) H' := Tx.new hp sm
  have h2 : H' p ≠ none := by
    cases o with
    | lst l => obtain ⟨_, e, _⟩ := hr; rw [e]; exact fun z => nomatch z
    | dct l => obtain ⟨_, e, _⟩ := hr; rw [e]; exact fun z => nomatch z
    | ins l => obtain ⟨_, _, _, _, e, _⟩ := hr; rw [e]; exact fun z => nomatch z
    | dead => exact hr.elim
  have hl := s.len
  refine ⟨by simp [s.len], ?_, fun q hq => ?_, fun m b o' e1 e2 => ?_, fun m b e => ?_, s.tab.ext fun b o e => sm b o e, fun q hq r hr' => ?_⟩
  · rw [List.map_append, List.nodup_append]
    refine ⟨s.nd, by simp, fun a ha b hb => ?_⟩
    obtain ⟨q, hq, rfl⟩ := List.mem_map.mp ha
    simp at hb
    subst hb
    exact fun z => s.al q hq (by rw [z]; exact hp)
  · rcases List.mem_append.mp hq with hq | hq
    · exact fun z => s.al q hq (sm.free z)
    · simp at hq; subst hq; exact h2
  · rw [List.getElem?_append] at e1 e2
    rw [← hl] at e2
    split at e1
    · rename_i hlt
      rw [if_pos hlt] at e2
      exact (s.ob m b o' e1 e2).mono tx fun a o e => sm a o e
    · rename_i hlt
      rw [if_neg hlt] at e2
      have : m - L.length = 0 := by
        cases em : m - L.length with
        | zero => rfl
        | succ k => rw [em] at e1; simp at e1
      rw [this] at e1 e2
      simp at e1 e2
      subst e2
      rw [← e1]
      exact hr
  · rw [List.getElem?_append] at e
    split at e
    · rename_i hlt
      rw [List.getElem?_append_left (by rw [← hl]; exact hlt)]
      exact s.de m b e
    · rename_i hlt
      cases em : m - L.length with
      | zero => rw [em] at e; simp at e
      | succ k => rw [em] at e; simp at e
  · rcases List.mem_append.mp hq with hq | hq
    · exact s.sep q hq r hr'
    · simp at hq; subst hq
      obtain ⟨ps, e, _⟩ := s.tab _ hr'
      rw [hp] at e; cases e
theorem AvR.new (s : SR K mg T L H M) {p : Addr} : AvR K T (L ++ [(p, true)]) H' (.ref p) (.loc M.length) := .loc (b := true) (by rw [← s.len]; simp)
/-! ### pure things from here: an object is changed no more -/
theorem hid_dead (nd : (L.map Prod.fst).Nodup) {n : Nat} {a : Addr} (h : L[n]? = some (a, true)) {b : Addr} : (b, true) ∈ L.set n (a, false) ↔ (b, true) ∈ L ∧ b ≠ a := by
  constructor
  · intro hb
    obtain ⟨m, hm⟩ := List.mem_iff_getElem?.mp hb
    by_cases e : n = m
    · subst e
      rw [List.getElem?_set_self (List.getElem?_eq_some_iff.mp h).1] at hm
      cases hm
    · rw [List.getElem?_set_ne e] at hm
      exact ⟨List.mem_of_getElem? hm, fun z => e (nodup_get nd h (by rw [z] at hm; exact hm))⟩
  · rintro ⟨hb, hne⟩
    obtain ⟨m, hm⟩ := List.mem_iff_getElem?.mp hb
    by_cases e : n = m
    · subst e
      rw [h] at hm
      cases hm
      exact absurd rfl hne
    · exact List.mem_of_getElem? (i := m) (by rw [List.getElem?_set_ne e]; exact hm)
theorem Tx.dead (nd : (L.map Prod.fst).Nodup) {n : Nat} {a : Addr} (h : L[n]? = some (a, true)) : Tx T L H (L.set n (a, false)) H := by
  refine ⟨fun m b c e => ?_, hd_sub fun b hb => ?_⟩
  · by_cases em : n = m
    · subst em
      rw [h] at e
      cases e
      exact ⟨false, List.getElem?_set_self (List.getElem?_eq_some_iff.mp h).1⟩
    · exact ⟨c, by rw [List.getElem?_set_ne em]; exact e⟩
  · rcases hb with hb | hb
    · exact .inl ((hid_dead nd h).mp hb).1
    · exact .inr hb
theorem map_set_fst {L : Nm} {n : Nat} {a : Addr} {b c : Bool} (h : L[n]? = some (a, b)) : (L.set n (a, c)).map Prod.fst = L.map Prod.fst := by
  refine List.ext_getElem? fun i => ?_
  rw [List.getElem?_map, List.getElem?_map]
  by_cases e : n = i
  · subst e
    rw [List.getElem?_set_self (List.getElem?_eq_some_iff.mp h).1, h]
    all_goals rfl
  · rw [List.getElem?_set_ne e]
theorem SR.dead (s : SR K mg T L H M) {n : Nat} {a : Addr} (h : L[n]? = some (a, true)) : SR K mg T (L.set n (a, false)) H (M.set n .dead) := by
  have tx : Tx T L H (L.set n (a, false)) H := Tx.dead s.nd h
  have mem : ∀ p ∈ L.set n (a, false), ∃ q ∈ L, q.1 = p.1 := fun p hp => by
    rcases List.mem_or_eq_of_mem_set hp with hp | hp
    · exact ⟨p, hp, rfl⟩
    · subst hp; exact ⟨_, List.mem_of_getElem? h, rfl⟩
  refine ⟨by simp [s.len], by rw [map_set_fst h]; exact s.nd, fun p hp => ?_, fun m b o e1 e2 => ?_, fun m b e => ?_, s.tab, fun p hp q hq => ?_⟩
  · obtain ⟨q, hq, e⟩ := mem p hp
    rw [← e]; exact s.al q hq
  · by_cases em : n = m
    · subst em
      rw [List.getElem?_set_self (List.getElem?_eq_some_iff.mp h).1] at e1
      cases e1
    · rw [List.getElem?_set_ne em] at e1 e2
      exact (s.ob m b o e1 e2).mono tx fun _ _ e => e
  · by_cases em : n = m
    · subst em
      exact List.getElem?_set_self (by rw [← s.len]; exact (List.getElem?_eq_some_iff.mp h).1)
    · rw [List.getElem?_set_ne em] at e ⊢
      exact s.de m b e
  · obtain ⟨r, hr, e⟩ := mem p hp
    rw [← e] at hq; exact s.sep r hr q hq
/-- what is dead is seen -/
theorem seen (s : SR K mg T L H M) {n : Nat} {a : Addr} (h : L[n]? = some (a, true)) : ¬ hidA T (L.set n (a, false)) a := by
  rintro (z | ⟨q, z⟩)
  · exact ((hid_dead s.nd h).mp z).2 rfl
  · exact s.sep _ (List.mem_of_getElem? h) q z
def mapA (f : AV → Mu → Option (D × Mu)) : List AV → Mu → Option (List D × Mu)
  | [], M => some ([], M)
  | a :: l, M => (f a M).bind fun x => (mapA f l x.2).map fun r => (x.1 :: r.1, r.2)
def mapK (f : AV → Mu → Option (D × Mu)) : List (Key × AV) → Mu → Option (List (D × D) × Mu)
  | [], M => some ([], M)
  | a :: l, M => (f a.2 M).bind fun x => (mapK f l x.2).map fun r => ((keyD a.1, x.1) :: r.1, r.2)
/-- a thing and all that it holds, made pure -/
def fzV : Nat → AV → Mu → Option (D × Mu)
  | _, .d x, M => some (x, M)
  | 0, _, _ => none
  | k + 1, .loc n, M => match M[n]? with
    | some (.lst l) => (mapA (fzV k) l (M.set n .dead)).map fun r => (.list r.1, r.2)
    | some (.dct l) => (mapK (fzV k) l (M.set n .dead)).map fun r => (.dict r.1, r.2)
    | _ => none
  | _ + 1, .tup _, _ => none
def FzOk (K : PySem.W.Frag) (mg : Str → Option Value) (T : Tb) (f : AV → Mu → Option (D × Mu)) : Prop := ∀ (L : Nm) (H : Hp) (M M' : Mu) (v : V) (av : AV) (x : D), SR K mg T L H M → AvR K T L H v av → f av M = some (x, M') → ∃ L', Tx T L H L' H ∧ SR K mg T L' H M' ∧ Dn K (hd (hidA T L') H) v x
theorem mapA_ok {f : AV → Mu → Option (D × Mu)} (hf : FzOk K mg T f) : ∀ {vs : List V} {l : List AV} {L : Nm} {M M' : Mu} {ds : List D}, SR K mg T L H M → AvA K T L H vs l → mapA f l M = some (ds, M') → ∃ L', Tx T L H L' H ∧ SR K mg T L' H M' ∧ DnA K (hd (hidA T L') H) vs ds
  | _, _, _, _, _, _, s, .nil, e => by cases e; exact ⟨_, Tx.refl, s, .nil⟩
  | _, _, _, _, _, _, s, .cons h t, e => by
    obtain ⟨⟨x, M1⟩, e1, e⟩ := Option.bind_eq_some_iff.mp e
    obtain ⟨⟨r, M2⟩, e2, e⟩ := Option.map_eq_some_iff.mp e
    cases e
    obtain ⟨L1, t1, s1, n1⟩ := hf _ _ _ _ _ _ _ s h e1
    obtain ⟨L2, t2, s2, n2⟩ := mapA_ok hf s1 (t.mono t1) e2
    exact ⟨L2, t1.trans t2, s2, .cons (n1.mono t2.same) n2⟩
theorem mapK_ok {f : AV → Mu → Option (D × Mu)} (hf : FzOk K mg T f) : ∀ {vs : List (Key × V)} {l : List (Key × AV)} {L : Nm} {M M' : Mu} {ds : List (D × D)}, SR K mg T L H M → AvK K T L H vs l → mapK f l M = some (ds, M') → ∃ L', Tx T L H L' H ∧ SR K mg T L' H M' ∧ DnK K (hd (hidA T L') H) vs ds
  | _, _, _, _, _, _, s, .nil, e => by cases e; exact ⟨_, Tx.refl, s, .nil⟩
  | _, _, _, _, _, _, s, .cons h t, e => by
    obtain ⟨⟨x, M1⟩, e1, e⟩ := Option.bind_eq_some_iff.mp e
    obtain ⟨⟨r, M2⟩, e2, e⟩ := Option.map_eq_some_iff.mp e
    cases e
    obtain ⟨L1, t1, s1, n1⟩ := hf _ _ _ _ _ _ _ s h e1
    obtain ⟨L2, t2, s2, n2⟩ := mapK_ok hf s1 (t.mono t1) e2
    exact ⟨L2, t1.trans t2, s2, .cons (n1.mono t2.same) n2⟩
theorem fzV_ok : ∀ k : Nat, FzOk K mg T (fzV k)
  | 0 => by
    intro L H M M' v av x s r e
    cases av with
    | d y => cases e; exact ⟨L, Tx.refl, s, r.dn⟩
    | loc n => cases e
    | tup l => cases e
  | k + 1 => by
    intro L H M M' v av x s r e
    cases av with
    | d y => cases e; exact ⟨L, Tx.refl, s, r.dn⟩
    | tup l => cases e
    | loc n =>
      unfold fzV at e
      split at e
      · rename_i l el
        obtain ⟨⟨ds, M1⟩, e1, e⟩ := Option.map_eq_some_iff.mp e
        cases e
        obtain ⟨a, rfl, ha, xs, hx, hn⟩ := s.get r el (fun z => nomatch z)
        obtain ⟨L1, t1, s1, n1⟩ := mapA_ok (fzV_ok k) (s.dead ha) (hn.mono (Tx.dead s.nd ha)) e1
        exact ⟨L1, (Tx.dead s.nd ha).trans t1, s1, .lst (.inl (.inl (t1.same _ _ (by rw [hd_of (seen s ha)]; exact hx)))) n1⟩
      · rename_i l el
        obtain ⟨⟨ds, M1⟩, e1, e⟩ := Option.map_eq_some_iff.mp e
        cases e
        obtain ⟨a, rfl, ha, xs, hx, hn⟩ := s.get r el (fun z => nomatch z)
        obtain ⟨L1, t1, s1, n1⟩ := mapK_ok (fzV_ok k) (s.dead ha) (hn.mono (Tx.dead s.nd ha)) e1
        exact ⟨L1, (Tx.dead s.nd ha).trans t1, s1, .dct (t1.same _ _ (by rw [hd_of (seen s ha)]; exact hx)) n1⟩
      · cases e
variable {W : WX}
/-- an expression's thing, made pure -/
def aFz (k : Nat) (fa : Ro → Mu → Option (RR AV)) : Ro → Mu → Option (RR AV) := fun R M => rb (fa R M) fun a M1 => (fzV k a M1).map fun x => .ok (.d x.1) x.2
theorem ae_fz {ta : TE} {fa : Ro → Mu → Option (RR AV)} (k : Nat) (ha : AE K mg T W ta fa) : AE K mg T W ta (aFz k fa) := by
  intro L σ H R M r Q s e er q qe
  rcases rb_some er with ⟨a, M1, e1, er⟩ | ⟨x, M1, e1, rfl⟩
  · refine ha L σ H R M _ _ s e e1 (fun av M' h v L1 H1 t1 s1 n1 => ?_) (fun x M' h => nomatch h)
    cases h
    obtain ⟨⟨x, M2⟩, ex, rfl⟩ := Option.map_eq_some_iff.mp er
    obtain ⟨L2, t2, s2, n2⟩ := fzV_ok k _ _ _ _ _ _ _ s1 n1 ex
    exact q _ _ rfl v L2 H1 (t1.trans t2) s2 (.d n2)
  · exact ha L σ H R M _ _ s e e1 (fun av M' h => nomatch h) (fun x M' h => by cases h; exact qe _ _ rfl)
/-- a name's thing, made pure ahead of a statement -/
def zFz (k i : Nat) (g : Ro → Mu → Option OutA) : Ro → Mu → Option OutA := fun R M => match R[i]? with
  | some (some av) => (fzV k av M).bind fun x => g (R.set i (some (.d x.1))) x.2
  | _ => none
theorem ER.setA {σ : L2.St} (e : ER K T L H σ R) (i : Nat) {v : V} {av : AV} (hv : σ[i]? = some (some v)) (h : AvR K T L H v av) : ER K T L H σ (R.set i (some av)) where
  len := by simp [e.len]
  get := fun j s hs => by
    by_cases hj : i = j
    · subst hj
      by_cases hl : i < R.length
      · rw [List.getElem?_set_self hl] at hs
        cases hs
        exact ⟨v, hv, h⟩
      · rw [List.getElem?_eq_none (by simpa using hl)] at hs; cases hs
    · rw [List.getElem?_set_ne hj] at hs
      exact e.get j s hs
theorem as_fz {t : TS} {g : Ro → Mu → Option OutA} (k i : Nat) (h : AS K mg T W t g) : AS K mg T W t (zFz k i g) := by
  intro L σ H R M o D s e er q
  unfold zFz at er
  split at er
  · rename_i av ev
    obtain ⟨⟨x, M1⟩, ex, er⟩ := Option.bind_eq_some_iff.mp er
    obtain ⟨v, h1, h2⟩ := e.get i _ ev
    obtain ⟨L2, t2, s2, n2⟩ := fzV_ok k _ _ _ _ _ _ _ s h2 ex
    exact h L2 σ H _ M1 o D s2 ((e.mono t2).setA i h1 (.d n2)) er (q.mono t2)
  · cases er
end
end PV
namespace PV
open PySem PySem.Spec PyProof.Rows L2
section
variable {K : PySem.W.Frag} {mg : Str → Option Value} {T : Tb} {W : WX}
/-! ### own lists and dicts -/
theorem avA_d {L : Nm} {H : Hp} : ∀ {xs : List V} {ds : List D}, DnA K (hd (hidA T L) H) xs ds → AvA K T L H xs (ds.map .d)
  | _, _, .nil => .nil
  | _, _, .cons h t => .cons (.d h) (avA_d t)
theorem hid_snoc {L : Nm} {p a : Addr} (h : hidA T (L ++ [(p, true)]) a) : hidA T L a ∨ a = p := by
  rcases h with h | h
  · rw [List.mem_append] at h
    rcases h with h | h
    · exact .inl (.inl h)
    · simp at h; exact .inr h
  · exact .inl (.inr h)
def aOwn (g : Rho → Option (List D)) : Ro → Mu → Option (RR AV) := fun R M => (g (pr R)).map fun ds => .ok (.loc M.length) (M ++ [.lst (ds.map .d)])
theorem ae_own {t : TE} {g : Rho → Option (List D)} (h : DF K t g) : AE K mg T W t (aOwn g) := by
  intro L σ H R M r Q s e er q _
  obtain ⟨ds, ex, rfl⟩ := Option.map_eq_some_iff.mp er
  refine h (hidA T L) (hidA T L) σ H (pr R) ds Q (e.rel s _ fun _ h => h) ex fun p xs H' hp _ sm e1 n => ?_
  have n' : DnA K (hd (hidA T (L ++ [(p, true)])) H') xs ds := n.mono (hd_sub fun a ha => hid_snoc ha)
  exact q _ _ rfl _ (L ++ [(p, true)]) H' (Tx.new hp sm) (s.new hp sm ⟨xs, e1, avA_d n'⟩) (AvR.new s)
def aLst (fa : Ro → Mu → Option (RR (List AV))) : Ro → Mu → Option (RR AV) := fun R M => rb (fa R M) fun a M1 => if a.length ≤ 16777216 then some (.ok (.loc M1.length) (M1 ++ [.lst a])) else none
theorem ae_lst {ta : TA} {fa : Ro → Mu → Option (RR (List AV))} (ha : AA K mg T W ta fa) : AE K mg T W (tLst ta) (aLst fa) := by
  intro L σ H R M r Q s e er q qe
  rcases rb_some er with ⟨a, M1, e1, er⟩ | ⟨x, M1, e1, rfl⟩
  · refine ha L σ H R M _ _ s e e1 (fun av M' h v L1 H1 t1 s1 n1 => ?_) (fun x M' h => nomatch h)
    cases h
    split at er
    · rename_i hl
      cases er
      refine ⟨by rw [n1.len, line_eq]; exact hl, fun p hp => ?_⟩
      have sm : Same H1 (upd H1 p (.lst v)) := PV.same_upd hp
      have tx := Tx.new (T := T) (L := L1) (c := true) hp sm
      exact q _ _ rfl _ _ _ (t1.trans tx) (s1.new hp sm ⟨v, upd_same, n1.mono tx⟩) (AvR.new s1)
    · cases er
  · exact ha L σ H R M _ _ s e e1 (fun av M' h => nomatch h) (fun x M' h => by cases h; exact qe _ _ rfl)
def aDct0 : Ro → Mu → Option (RR AV) := fun _ M => some (.ok (.loc M.length) (M ++ [.dct []]))
theorem ae_dct0 : AE K mg T W tDNewK aDct0 := by
  intro L σ H R M r Q s e er q _
  cases er
  intro p hp
  have sm : Same H (upd H p (.dK [])) := PV.same_upd hp
  exact q _ _ rfl _ _ _ (Tx.new hp sm) (s.new hp sm ⟨[], upd_same, .nil⟩) (AvR.new s)
theorem avK_of {L : Nm} {H : Hp} {t : List (Key × V)} {u : List (Key × D)} (r : RK K (hd (hidA T L) H) t u) : AvK K T L H t (u.map fun kv => (kv.1, .d kv.2)) := by
  induction r with
  | nil => exact .nil
  | cons h _ ih => exact .cons (.d h) ih
def rDictP (K : PySem.W.Frag) : List V → Hp → VK → Prop := fun xs H Q => ∃ (a : Addr) (ps : List Addr) (kvs : List (Key × V)), xs = [.ref a] ∧ SqL K H a (ps.map V.ref) ∧ Paired (fun p kv => SqT K H p [kV kv.1, kv.2]) ps kvs ∧
    ∀ p, H p = none → Q (.ref p) (upd H p (.dK (mergeK [] kvs)))
theorem c_dict {X : Cx} (hc : X.calm = true) : CallR X (.type "dict") (cOr (rDictF X.K) (rDictP X.K)) := CallR.or (call_dictF hc) (call_dictP hc)
def aDict (fa : Ro → Mu → Option (RR (List AV))) : Ro → Mu → Option (RR AV) := fun R M => rb (fa R M) fun a M1 => match a with
  | [.d (.tuple l)] => (pairsK l).map fun kvs => .ok (.loc M1.length) (M1 ++ [.dct ((mergeG [] kvs).map fun kv => (kv.1, .d kv.2))])
  | [.d (.list l)] => (pairsK l).map fun kvs => .ok (.loc M1.length) (M1 ++ [.dct ((mergeG [] kvs).map fun kv => (kv.1, .d kv.2))])
  | _ => none
theorem ae_dict {ta : TA} {fa : Ro → Mu → Option (RR (List AV))} (ha : AA K mg T W ta fa) : AE K mg T W (tCB (cOr (rDictF K) (rDictP K)) ta) (aDict fa) := by
  intro L σ H R M r Q s e er q qe
  rcases rb_some er with ⟨a, M1, e1, er⟩ | ⟨x, M1, e1, rfl⟩
  · refine ha L σ H R M _ _ s e e1 (fun av M' h v L1 H1 t1 s1 n1 => ?_) (fun x M' h => nomatch h)
    cases h
    have fin : ∀ kvs kv, r = .ok (.loc M1.length) (M1 ++ [.dct ((mergeG [] kvs).map fun kv => (kv.1, .d kv.2))]) → RK K (hd (hidA T L1) H1) kv kvs → ∀ p, H1 p = none → Q (.ref p) (upd H1 p (.dK (mergeK [] kv))) := fun kvs kv er rk p hp => by
      have sm : Same H1 (upd H1 p (.dK (mergeK [] kv))) := PV.same_upd hp
      have tx := Tx.new (T := T) (L := L1) (c := true) hp sm
      have rk2 : RK K (hd (hidA T L1) H1) (mergeK [] kv) (mergeG [] kvs) := RK.merge .nil rk
      exact q _ _ er _ _ _ (t1.trans tx) (s1.new hp sm ⟨_, upd_same, (avK_of rk2).mono tx⟩) (AvR.new s1)
    split at er
    · rename_i l
      obtain ⟨kvs, ek, rfl⟩ := Option.map_eq_some_iff.mp er
      cases n1 with | cons n1 n2 =>
        cases n2
        cases n1.dn with | tup h a =>
          obtain ⟨ps, kv, rfl, hp, hr⟩ := pairs_dn a ek
          exact .inl ⟨_, ps, kv, rfl, h.mono hd_le, Paired.mapP hp fun _ _ f => Same.sqT hd_le f.sq, fin kvs kv rfl hr⟩
    · rename_i l
      obtain ⟨kvs, ek, rfl⟩ := Option.map_eq_some_iff.mp er
      cases n1 with | cons n1 n2 =>
        cases n2
        cases n1.dn with | lst h a =>
          obtain ⟨ps, kv, rfl, hp, hr⟩ := pairs_dn a ek
          exact .inr ⟨_, ps, kv, rfl, Same.seq hd_le h, Paired.mapP hp fun _ _ f => Same.sqT hd_le f.sq, fin kvs kv rfl hr⟩
    · cases er
  · exact ha L σ H R M _ _ s e e1 (fun av M' h => nomatch h) (fun x M' h => by cases h; exact qe _ _ rfl)
/-! ### reading them -/
def keyOf : AV → Option Key
  | .d (.int i) => some (.inl i)
  | .d (.str x) => some (.inr x)
  | _ => none
theorem keyOf_r {L : Nm} {H : Hp} {v : V} {a : AV} {k : Key} (r : AvR K T L H v a) (e : keyOf a = some k) : v = kV k := by
  unfold keyOf at e
  split at e
  · cases e; cases r.dn; rfl
  · cases e; cases r.dn; rfl
  · cases e
def getA (l : List (Key × AV)) (k : Key) : Option AV := (l.find? fun kv => decide (kv.1 = k)).map (·.2)
def putA (l : List (Key × AV)) (k : Key) (v : AV) : List (Key × AV) := if (l.any fun kv => decide (kv.1 = k)) = true then l.map (fun kv => if kv.1 = k then (kv.1, v) else kv) else l ++ [(k, v)]
theorem AvK.len {L : Nm} {H : Hp} {xs : List (Key × V)} {l : List (Key × AV)} (h : AvK K T L H xs l) : xs.length = l.length := by
  induction h with
  | nil => rfl
  | cons _ _ ih => simp [ih]
theorem AvK.get {L : Nm} {H : Hp} {xs : List (Key × V)} {l : List (Key × AV)} (h : AvK K T L H xs l) (k : Key) : match getA l k with
    | some a => ∃ v, valV xs k = some v ∧ AvR K T L H v a
    | none => valV xs k = none := by
  unfold getA valV
  induction h with
  | nil => rfl
  | @cons k' v vs a as h t ih =>
    rw [List.find?_cons, List.find?_cons]
    by_cases e : k' = k
    · simp only [e, decide_true]
      exact ⟨v, rfl, h⟩
    · simp only [e, decide_false]
      exact ih
theorem AvK.put {L : Nm} {H : Hp} {xs : List (Key × V)} {l : List (Key × AV)} (h : AvK K T L H xs l) (k : Key) {v : V} {a : AV} (r : AvR K T L H v a) : AvK K T L H (putK xs k v) (putA l k a) := by
  have any : (xs.any fun kv => decide (kv.1 = k)) = (l.any fun kv => decide (kv.1 = k)) := by
    clear r
    induction h with
    | nil => rfl
    | cons _ _ ih => rw [List.any_cons, List.any_cons, ih]
  unfold putK putA
  rw [any]
  split
  · rename_i g
    clear g any
    induction h with
    | nil => exact .nil
    | @cons k' v' vs a' as h' t ih =>
      rw [List.map_cons, List.map_cons]
      by_cases e : k' = k
      · simp only [e, if_true]
        exact .cons r ih
      · simp only [e, if_false]
        exact .cons h' ih
  · rename_i g
    clear g any
    induction h with
    | nil => exact .cons r .nil
    | cons h' _ ih => exact .cons h' ih
theorem AvA.at_ {L : Nm} {H : Hp} : ∀ {xs : List V} {l : List AV} {i : Nat} {a : AV}, AvA K T L H xs l → l[i]? = some a → ∃ v, xs[i]? = some v ∧ AvR K T L H v a
  | _, _, _, _, .nil, e => by simp at e
  | _, _, 0, _, .cons h _, e => by simp at e; subst e; exact ⟨_, rfl, h⟩
  | _, _, i + 1, a, .cons _ t, e => by
    obtain ⟨v, h1, h2⟩ := AvA.at_ (i := i) (a := a) t (by simpa using e)
    exact ⟨v, by simpa using h1, h2⟩
theorem AvA.ix {L : Nm} {H : Hp} {xs : List V} {l : List AV} {i : Int} {a : AV} (h : AvA K T L H xs l) (e : atI l i = some a) : ∃ v, atI xs i = some v ∧ AvR K T L H v a := by
  unfold atI at e ⊢
  obtain ⟨j, e1, e2⟩ := Option.bind_eq_some_iff.mp e
  obtain ⟨v, h1, h2⟩ := h.at_ e2
  exact ⟨v, by rw [h.len, e1]; exact h1, h2⟩
theorem AvA.snoc {L : Nm} {H : Hp} {v : V} {a : AV} (r : AvR K T L H v a) : ∀ {xs : List V} {l : List AV}, AvA K T L H xs l → AvA K T L H (xs ++ [v]) (l ++ [a])
  | _, _, .nil => .cons r .nil
  | _, _, .cons h t => .cons h (AvA.snoc r t)
theorem AvA.app {L : Nm} {H : Hp} {ys : List V} {m : List AV} (r : AvA K T L H ys m) : ∀ {xs : List V} {l : List AV}, AvA K T L H xs l → AvA K T L H (xs ++ ys) (l ++ m)
  | _, _, .nil => r
  | _, _, .cons h t => .cons h (AvA.app r t)
theorem AvA.set {L : Nm} {H : Hp} {v : V} {a : AV} (r : AvR K T L H v a) : ∀ {xs : List V} {l : List AV} (i : Nat), AvA K T L H xs l → AvA K T L H (xs.set i v) (l.set i a)
  | _, _, _, .nil => .nil
  | _, _, 0, .cons _ t => .cons r t
  | _, _, i + 1, .cons h t => .cons h (AvA.set r i t)
def dctAt (M : Mu) (n : Nat) : Option (List (Key × AV)) := match M[n]? with
  | some (.dct l) => some l
  | _ => none
theorem dctAt_eq {M : Mu} {n : Nat} {l : List (Key × AV)} (h : dctAt M n = some l) : M[n]? = some (.dct l) := by
  unfold dctAt at h
  split at h
  · rename_i l' e; cases h; exact e
  · cases h
def lstAt (M : Mu) (n : Nat) : Option (List AV) := match M[n]? with
  | some (.lst l) => some l
  | _ => none
theorem lstAt_eq {M : Mu} {n : Nat} {l : List AV} (h : lstAt M n = some l) : M[n]? = some (.lst l) := by
  unfold lstAt at h
  split at h
  · rename_i l' e; cases h; exact e
  · cases h
def ixI (l : List AV) : AV → Option AV
  | .d (.int i) => atI l i
  | _ => none
theorem ixI_eq {l : List AV} {b c : AV} (h : ixI l b = some c) : ∃ i, b = .d (.int i) ∧ atI l i = some c := by
  unfold ixI at h
  split at h
  · exact ⟨_, rfl, h⟩
  · cases h
def ixL (n : Nat) (b : AV) (M : Mu) : Option AV := match dctAt M n with
  | some l => (keyOf b).bind (getA l)
  | none => (lstAt M n).bind fun l => ixI l b
/-- a[b] -/
def ixA (a b : AV) (M : Mu) : Option AV := match a with
  | .d x => (dOf b).bind fun y => (vIx x y).map .d
  | .tup l => ixI l b
  | .loc n => ixL n b M
def aIx (fa fb : Ro → Mu → Option (RR AV)) : Ro → Mu → Option (RR AV) := fun R M => rb (fa R M) fun a M1 => rb (fb R M1) fun b M2 => (ixA a b M2).map fun c => .ok c M2
def isDD : D → Bool
  | .dict _ => true
  | _ => false
/-- what a[b] is, dict or sequence -/
theorem ix_lawD {x y : D} {z : D} {H : Hp} {O : Addr → Prop} {v u : V} (hd' : isDD x = true) (n1 : Dn K (hd O H) v x) (n2 : Dn K (hd O H) u y) (e : vIx x y = some z) : ∃ a w, v = .ref a ∧ DGet H a u (some w) ∧ Dn K (hd O H) w z := by
  cases n1 with
  | @dct a kv kvs h1 h2 =>
    have key : ∀ k : Key, u = kV k → y = keyD k → ∃ a' v', V.ref a = .ref a' ∧ DGet H a' u (some v') ∧ Dn K (hd O H) v' z := fun k e1 e2 => by
      subst e1
      have e3 : (kvs.find? fun kv => PyData.eqv kv.1 (keyD k)).map (·.2) = some z := by
        subst e2
        cases k <;> exact e
      obtain ⟨v', hv, hn⟩ := h2.find k z e3
      exact ⟨a, v', rfl, hv ▸ DGet.k (hd_le _ _ h1), hn⟩
    cases n2 with
    | int i => exact key (.inl i) rfl rfl
    | str x => exact key (.inr x) rfl rfl
    | non => cases e
    | bl _ => cases e
    | lst _ _ => cases e
    | tup _ _ => cases e
    | dct _ _ => cases e
  | lst h a => cases hd'
  | tup h a => cases hd'
  | str z => cases hd'
  | non => cases hd'
  | bl _ => cases hd'
  | int _ => cases hd'
theorem ix_lawS {x y : D} {z : D} {H : Hp} {O : Addr → Prop} {v u : V} {Q : VK} (hd' : isDD x = false) (n1 : Dn K (hd O H) v x) (n2 : Dn K (hd O H) u y) (e : vIx x y = some z) (q : ∀ w, Dn K (hd O H) w z → Q w H) : rIx K v u H Q := by
  cases n1 with
  | lst h a =>
    cases n2 with
    | int i =>
      obtain ⟨w, hw, nw⟩ := a.at_ (show atI _ i = some z from e)
      exact .inl ⟨_, _, i, w, rfl, rfl, Same.seq hd_le h, hw, q _ nw⟩
    | _ => cases e
  | tup h a =>
    cases n2 with
    | int i =>
      obtain ⟨w, hw, nw⟩ := a.at_ (show atI _ i = some z from e)
      exact .inr (.inl ⟨_, _, i, w, rfl, rfl, Same.seqT hd_le h.sq, hw, q _ nw⟩)
    | _ => cases e
  | str z' =>
    cases n2 with
    | int i =>
      have e' : (if z'.length ≤ 16777216 then (atI z'.cps.toList i).map fun c => PyData.str ⟨#[c]⟩ else none) = some z := e
      split at e'
      · rename_i hz
        obtain ⟨c, hc, e'⟩ := Option.map_eq_some_iff.mp e'
        subst e'
        exact .inr (.inr ⟨z', i, c, rfl, rfl, by rw [line_eq]; exact hz, hc, q _ (.str _)⟩)
      · cases e'
    | _ => cases e
  | dct h a => cases hd'
  | non => cases e
  | bl _ => cases e
  | int _ => cases e
def isDA (a : AV) (M : Mu) : Bool := match a with
  | .d x => isDD x
  | .tup _ => false
  | .loc n => (dctAt M n).isSome
theorem ixA_D {L : Nm} {H : Hp} {M : Mu} {a b c : AV} {v u : V} (s : SR K mg T L H M) (hd' : isDA a M = true) (n1 : AvR K T L H v a) (n2 : AvR K T L H u b) (e : ixA a b M = some c) : ∃ d w, v = .ref d ∧ DGet H d u (some w) ∧ AvR K T L H w c := by
  cases a with
  | d x =>
    obtain ⟨y, ey, e⟩ := Option.bind_eq_some_iff.mp e
    obtain ⟨z, ez, rfl⟩ := Option.map_eq_some_iff.mp e
    cases b <;> cases ey
    obtain ⟨d, w, h1, h2, h3⟩ := ix_lawD hd' n1.dn n2.dn ez
    exact ⟨d, w, h1, h2, .d h3⟩
  | tup l => cases hd'
  | loc n =>
    have hd2 : (dctAt M n).isSome = true := hd'
    have e2 : ixL n b M = some c := e
    obtain ⟨l, el⟩ := Option.isSome_iff_exists.mp hd2
    unfold ixL at e2
    rw [el] at e2
    obtain ⟨k, ek, e2⟩ := Option.bind_eq_some_iff.mp e2
    obtain ⟨d, rfl, hl, xs, hx, hn⟩ := s.get n1 (dctAt_eq el) (fun z => nomatch z)
    have g := hn.get k
    rw [e2] at g
    obtain ⟨w, hw, hr⟩ := g
    rw [keyOf_r n2 ek]
    exact ⟨d, w, rfl, hw ▸ DGet.k hx, hr⟩
theorem ixA_S {L : Nm} {H : Hp} {M : Mu} {a b c : AV} {v u : V} {Q : VK} (s : SR K mg T L H M) (hd' : isDA a M = false) (n1 : AvR K T L H v a) (n2 : AvR K T L H u b) (e : ixA a b M = some c) (q : ∀ w, AvR K T L H w c → Q w H) : rIx K v u H Q := by
  cases a with
  | d x =>
    obtain ⟨y, ey, e⟩ := Option.bind_eq_some_iff.mp e
    obtain ⟨z, ez, rfl⟩ := Option.map_eq_some_iff.mp e
    cases b <;> cases ey
    exact ix_lawS hd' n1.dn n2.dn ez fun w h => q w (.d h)
  | tup l =>
    obtain ⟨i, rfl, e2⟩ := ixI_eq (show ixI l b = some c from e)
    cases n1 with | tup h a =>
      obtain ⟨w, hw, nw⟩ := a.ix e2
      cases n2.dn
      exact .inr (.inl ⟨_, _, i, w, rfl, rfl, Same.sqT hd_le h, hw, q _ nw⟩)
  | loc n =>
    have hd2 : (dctAt M n).isSome = false := hd'
    have e2 : ixL n b M = some c := e
    unfold ixL at e2
    rw [Option.isSome_eq_false_iff.mp hd2 |> Option.isNone_iff_eq_none.mp] at e2
    obtain ⟨l, el, e2⟩ := Option.bind_eq_some_iff.mp e2
    obtain ⟨i, rfl, e2⟩ := ixI_eq e2
    obtain ⟨d, rfl, hl, xs, hx, hn⟩ := s.get n1 (lstAt_eq el) (fun z => nomatch z)
    obtain ⟨w, hw, nw⟩ := hn.ix e2
    cases n2.dn
    exact .inl ⟨_, _, i, w, rfl, rfl, .inl (.inl hx), hw, q _ nw⟩
theorem ae_ix {ta tb : TE} {fa fb : Ro → Mu → Option (RR AV)} (ha : AE K mg T W ta fa) (hb : AE K mg T W tb fb) : AE K mg T W (tOrE (tOp (rIx K) ta tb) (tDGet ta tb)) (aIx fa fb) := by
  intro L σ H R M r Q s e er q qe
  rcases rb_some er with ⟨a, M1, e1, er⟩ | ⟨x, M1, e1, rfl⟩
  · rcases rb_some er with ⟨b, M2, e2, er⟩ | ⟨x, M2, e2, rfl⟩
    · obtain ⟨c, ec, rfl⟩ := Option.map_eq_some_iff.mp er
      cases hdc : isDA a M2 with
      | true =>
        refine .inr (ha L σ H R M _ _ s e e1 (fun av M' h v L1 H1 t1 s1 n1 => ?_) (fun x M' h => nomatch h))
        cases h
        refine hb L1 σ H1 R M1 _ _ s1 (e.mono t1) e2 (fun av M' h u L2 H2 t2 s2 n2 => ?_) (fun x M' h => nomatch h)
        cases h
        obtain ⟨d, w, h1, h2, h3⟩ := ixA_D s2 hdc (n1.mono t2) n2 ec
        exact ⟨d, w, h1, h2, q _ _ rfl _ L2 H2 (t1.trans t2) s2 h3⟩
      | false =>
        refine .inl (ha L σ H R M _ _ s e e1 (fun av M' h v L1 H1 t1 s1 n1 => ?_) (fun x M' h => nomatch h))
        cases h
        refine hb L1 σ H1 R M1 _ _ s1 (e.mono t1) e2 (fun av M' h u L2 H2 t2 s2 n2 => ?_) (fun x M' h => nomatch h)
        cases h
        exact ixA_S s2 hdc (n1.mono t2) n2 ec fun w h3 => q _ _ rfl _ L2 H2 (t1.trans t2) s2 h3
    · refine .inl (ha L σ H R M _ _ s e e1 (fun av M' h v L1 H1 t1 s1 n1 => ?_) (fun x M' h => nomatch h))
      cases h
      exact hb L1 σ H1 R M1 _ _ s1 (e.mono t1) e2 (fun av M' h => nomatch h) (fun x M' h => by cases h; exact (qe _ _ rfl).mono t1)
  · exact .inl (ha L σ H R M _ _ s e e1 (fun av M' h => nomatch h) (fun x M' h => by cases h; exact qe _ _ rfl))
theorem SR.dctG {L : Nm} {H : Hp} {M : Mu} (s : SR K mg T L H M) {v : V} {n : Nat} {l : List (Key × AV)} (r : AvR K T L H v (.loc n)) (e : dctAt M n = some l) : ∃ a xs, v = .ref a ∧ L[n]? = some (a, true) ∧ H a = some (.dK xs) ∧ AvK K T L H xs l :=
  let ⟨a, h1, h2, xs, h3, h4⟩ := s.get r (dctAt_eq e) (fun z => nomatch z)
  ⟨a, xs, h1, h2, h3, h4⟩
theorem SR.lstG {L : Nm} {H : Hp} {M : Mu} (s : SR K mg T L H M) {v : V} {n : Nat} {l : List AV} (r : AvR K T L H v (.loc n)) (e : lstAt M n = some l) : ∃ a xs, v = .ref a ∧ L[n]? = some (a, true) ∧ H a = some (.lst xs) ∧ AvA K T L H xs l :=
  let ⟨a, h1, h2, xs, h3, h4⟩ := s.get r (lstAt_eq e) (fun z => nomatch z)
  ⟨a, xs, h1, h2, h3, h4⟩
/-- d.get(k, x) -/
def aGet2 (fd fk fx : Ro → Mu → Option (RR AV)) : Ro → Mu → Option (RR AV) := fun R M => rb (fd R M) fun a M1 => match a with
  | .loc n => (dctAt M1 n).bind fun _ => rb (fk R M1) fun b M2 => rb (fx R M2) fun c M3 => (dctAt M3 n).bind fun l => (keyOf b).map fun k => .ok ((getA l k).getD c) M3
  | _ => none
theorem ae_get2 {td tk tx : TE} {fd fk fx : Ro → Mu → Option (RR AV)} (hd' : AE K mg T W td fd) (hk : AE K mg T W tk fk) (hx : AE K mg T W tx fx) : AE K mg T W (tDGet2 td tk tx) (aGet2 fd fk fx) := by
  intro L σ H R M r Q s e er q qe
  rcases rb_some er with ⟨a, M1, e1, er⟩ | ⟨x, M1, e1, rfl⟩
  · refine hd' L σ H R M _ _ s e e1 (fun av M' h v L1 H1 t1 s1 n1 => ?_) (fun x M' h => nomatch h)
    cases h
    cases a with
    | d x => cases er
    | tup l => cases er
    | loc n =>
      obtain ⟨l0, el0, er⟩ := Option.bind_eq_some_iff.mp er
      obtain ⟨d, xs0, rfl, hl0, hx0, hn0⟩ := s1.dctG n1 el0
      refine ⟨d, rfl, .inl ⟨xs0, .inl hx0⟩, ?_⟩
      rcases rb_some er with ⟨b, M2, e2, er⟩ | ⟨x, M2, e2, rfl⟩
      · refine hk L1 σ H1 R M1 _ _ s1 (e.mono t1) e2 (fun av M' h u L2 H2 t2 s2 n2 => ?_) (fun x M' h => nomatch h)
        cases h
        rcases rb_some er with ⟨c, M3, e3, er⟩ | ⟨x, M3, e3, rfl⟩
        · refine hx L2 σ H2 R M2 _ _ s2 ((e.mono t1).mono t2) e3 (fun av M' h w L3 H3 t3 s3 n3 => ?_) (fun x M' h => nomatch h)
          cases h
          obtain ⟨l, el, er⟩ := Option.bind_eq_some_iff.mp er
          obtain ⟨k, ek, rfl⟩ := Option.map_eq_some_iff.mp er
          obtain ⟨d', xs, hdd, hl, hxs, hn⟩ := s3.dctG ((n1.mono t2).mono t3) el
          cases hdd
          rw [keyOf_r n2 ek]
          refine ⟨valV xs k, DGet.k hxs, ?_⟩
          have g := hn.get k
          refine q _ _ rfl _ L3 H3 ((t1.trans t2).trans t3) s3 ?_
          cases eg : getA l k with
          | none => rw [eg] at g; rw [g]; exact n3
          | some a =>
            rw [eg] at g
            obtain ⟨w', hw, hr⟩ := g
            rw [hw]
            exact hr
        · exact hx L2 σ H2 R M2 _ _ s2 ((e.mono t1).mono t2) e3 (fun av M' h => nomatch h) (fun x M' h => by cases h; exact (qe _ _ rfl).mono (t1.trans t2))
      · exact hk L1 σ H1 R M1 _ _ s1 (e.mono t1) e2 (fun av M' h => nomatch h) (fun x M' h => by cases h; exact (qe _ _ rfl).mono t1)
  · exact hd' L σ H R M _ _ s e e1 (fun av M' h => nomatch h) (fun x M' h => by cases h; exact qe _ _ rfl)
/-- d.setdefault(k, x) -/
def aSetd (fd fk fx : Ro → Mu → Option (RR AV)) : Ro → Mu → Option (RR AV) := fun R M => rb (fd R M) fun a M1 => match a with
  | .loc n => (dctAt M1 n).bind fun _ => rb (fk R M1) fun b M2 => rb (fx R M2) fun c M3 => (dctAt M3 n).bind fun l => (keyOf b).bind fun k => if l.length < 16777216 then (match getA l k with
    | some v => some (.ok v M3)
    | none => some (.ok c (M3.set n (.dct (putA l k c))))) else none
  | _ => none
theorem ae_setd {td tk tx : TE} {fd fk fx : Ro → Mu → Option (RR AV)} (hd' : AE K mg T W td fd) (hk : AE K mg T W tk fk) (hx : AE K mg T W tx fx) : AE K mg T W (tDSetd td tk tx) (aSetd fd fk fx) := by
  intro L σ H R M r Q s e er q qe
  rcases rb_some er with ⟨a, M1, e1, er⟩ | ⟨x, M1, e1, rfl⟩
  · refine hd' L σ H R M _ _ s e e1 (fun av M' h v L1 H1 t1 s1 n1 => ?_) (fun x M' h => nomatch h)
    cases h
    cases a with
    | d x => cases er
    | tup l => cases er
    | loc n =>
      obtain ⟨l0, el0, er⟩ := Option.bind_eq_some_iff.mp er
      obtain ⟨d, xs0, rfl, hl0, hx0, hn0⟩ := s1.dctG n1 el0
      refine ⟨d, rfl, .inl ⟨xs0, .inl hx0⟩, ?_⟩
      rcases rb_some er with ⟨b, M2, e2, er⟩ | ⟨x, M2, e2, rfl⟩
      · refine hk L1 σ H1 R M1 _ _ s1 (e.mono t1) e2 (fun av M' h u L2 H2 t2 s2 n2 => ?_) (fun x M' h => nomatch h)
        cases h
        rcases rb_some er with ⟨c, M3, e3, er⟩ | ⟨x, M3, e3, rfl⟩
        · refine hx L2 σ H2 R M2 _ _ s2 ((e.mono t1).mono t2) e3 (fun av M' h w L3 H3 t3 s3 n3 => ?_) (fun x M' h => nomatch h)
          cases h
          obtain ⟨l, el, er⟩ := Option.bind_eq_some_iff.mp er
          obtain ⟨k, ek, er⟩ := Option.bind_eq_some_iff.mp er
          split at er
          case isFalse => cases er
          rename_i hz
          obtain ⟨d', xs, hdd, hl, hxs, hn⟩ := s3.dctG ((n1.mono t2).mono t3) el
          cases hdd
          have g := hn.get k
          refine ⟨xs, k, hxs, keyOf_r n2 ek, by rw [hn.len, line_eq]; exact hz, fun v hv => ?_, fun hv => ?_⟩
          · cases eg : getA l k with
            | none => rw [eg] at g; rw [g] at hv; cases hv
            | some a =>
              rw [eg] at g er
              cases er
              obtain ⟨w', hw, hr⟩ := g
              rw [hw] at hv
              cases hv
              exact q _ _ rfl _ L3 H3 ((t1.trans t2).trans t3) s3 hr
          · cases eg : getA l k with
            | some a =>
              rw [eg] at g
              obtain ⟨w', hw, hr⟩ := g
              rw [hw] at hv; cases hv
            | none =>
              rw [eg] at er
              cases er
              have tx := Tx.upd (T := T) (H := H3) (o := .dK (putK xs k w)) hl
              exact q _ _ rfl _ L3 _ (((t1.trans t2).trans t3).trans tx) (s3.upd hl hxs trivial ⟨_, upd_same, (hn.put k n3).mono tx⟩) (n3.mono tx)
        · exact hx L2 σ H2 R M2 _ _ s2 ((e.mono t1).mono t2) e3 (fun av M' h => nomatch h) (fun x M' h => by cases h; exact (qe _ _ rfl).mono (t1.trans t2))
      · exact hk L1 σ H1 R M1 _ _ s1 (e.mono t1) e2 (fun av M' h => nomatch h) (fun x M' h => by cases h; exact (qe _ _ rfl).mono t1)
  · exact hd' L σ H R M _ _ s e e1 (fun av M' h => nomatch h) (fun x M' h => by cases h; exact qe _ _ rfl)
/-! ### writing them -/
/-- xs.append(x) -/
def zApp (fo fa : Ro → Mu → Option (RR AV)) : Ro → Mu → Option OutA := fun R M => oe R (fo R M) fun a M1 => match a with
  | .loc n => (lstAt M1 n).bind fun _ => oe R (fa R M1) fun b M2 => (lstAt M2 n).bind fun l => if l.length < 16777216 then some (.nx R (M2.set n (.lst (l ++ [b])))) else none
  | _ => none
theorem as_app {to ta : TE} {fo fa : Ro → Mu → Option (RR AV)} (ho : AE K mg T W to fo) (ha : AE K mg T W ta fa) : AS K mg T W (tDrop (tBM K "list" rAppend to (tCons ta tNil))) (zApp fo fa) := by
  intro L σ H R M o D s e er q
  rcases oe_some er with ⟨a, M1, e1, er⟩ | ⟨x, M1, e1, rfl⟩
  · refine ho L σ H R M _ _ s e e1 (fun av M' h v L1 H1 t1 s1 n1 => ?_) (fun x M' h => nomatch h)
    cases h
    cases a with
    | d x => cases er
    | tup l => cases er
    | loc n =>
      obtain ⟨l0, el0, er⟩ := Option.bind_eq_some_iff.mp er
      obtain ⟨d, xs0, rfl, hl0, hx0, hn0⟩ := s1.lstG n1 el0
      refine ⟨.inl ⟨rfl, xs0, .inl (.inl hx0)⟩, ?_⟩
      rcases oe_some er with ⟨b, M2, e2, er⟩ | ⟨x, M2, e2, rfl⟩
      · refine ha L1 σ H1 R M1 _ _ s1 (e.mono t1) e2 (fun av M' h u L2 H2 t2 s2 n2 => ?_) (fun x M' h => nomatch h)
        cases h
        obtain ⟨l, el, er⟩ := Option.bind_eq_some_iff.mp er
        split at er
        case isFalse => cases er
        rename_i hz
        cases er
        obtain ⟨d', xs, hdd, hl, hxs, hn⟩ := s2.lstG (n1.mono t2) el
        cases hdd
        have tx := Tx.upd (T := T) (H := H2) (o := .lst (xs ++ [u])) hl
        refine ⟨d, xs, u, rfl, rfl, hxs, by rw [hn.len, line_eq]; exact hz, ?_⟩
        exact q L2 σ _ ((t1.trans t2).trans tx) (s2.upd hl hxs trivial ⟨_, upd_same, (AvA.snoc n2 hn).mono tx⟩) (((e.mono t1).mono t2).mono tx)
      · exact ha L1 σ H1 R M1 _ _ s1 (e.mono t1) e2 (fun av M' h => nomatch h) (fun x M' h => by cases h; exact (q.erG e).mono t1)
  · exact ho L σ H R M _ _ s e e1 (fun av M' h => nomatch h) (fun x M' h => by cases h; exact q.erG e)
/-- d[k] = v -/
def zPutD (fd fk fv : Ro → Mu → Option (RR AV)) : Ro → Mu → Option OutA := fun R M => oe R (fv R M) fun c M1 => oe R (fd R M1) fun a M2 => oe R (fk R M2) fun b M3 => match a with
  | .loc n => (dctAt M3 n).bind fun l => (keyOf b).bind fun k => if l.length < 16777216 then some (.nx R (M3.set n (.dct (putA l k c)))) else none
  | _ => none
theorem as_putD {td tk tv : TE} {fd fk fv : Ro → Mu → Option (RR AV)} (hd' : AE K mg T W td fd) (hk : AE K mg T W tk fk) (hv : AE K mg T W tv fv) : AS K mg T W (sDPut td tk tv) (zPutD fd fk fv) := by
  intro L σ H R M o D s e er q
  rcases oe_some er with ⟨c, M1, e1, er⟩ | ⟨x, M1, e1, rfl⟩
  · refine hv L σ H R M _ _ s e e1 (fun av M' h v L1 H1 t1 s1 n1 => ?_) (fun x M' h => nomatch h)
    cases h
    rcases oe_some er with ⟨a, M2, e2, er⟩ | ⟨x, M2, e2, rfl⟩
    · refine hd' L1 σ H1 R M1 _ _ s1 (e.mono t1) e2 (fun av M' h u L2 H2 t2 s2 n2 => ?_) (fun x M' h => nomatch h)
      cases h
      rcases oe_some er with ⟨b, M3, e3, er⟩ | ⟨x, M3, e3, rfl⟩
      · refine hk L2 σ H2 R M2 _ _ s2 ((e.mono t1).mono t2) e3 (fun av M' h w L3 H3 t3 s3 n3 => ?_) (fun x M' h => nomatch h)
        cases h
        cases a with
        | d x => cases er
        | tup l => cases er
        | loc n =>
          obtain ⟨l, el, er⟩ := Option.bind_eq_some_iff.mp er
          obtain ⟨k, ek, er⟩ := Option.bind_eq_some_iff.mp er
          split at er
          case isFalse => cases er
          rename_i hz
          cases er
          obtain ⟨d, xs, rfl, hl, hxs, hn⟩ := s3.dctG (n2.mono t3) el
          have tx := Tx.upd (T := T) (H := H3) (o := .dK (putK xs k v)) hl
          refine ⟨d, _, rfl, by rw [keyOf_r n3 ek]; exact DPut.k hxs (by rw [hn.len, line_eq]; exact hz), ?_⟩
          exact q L3 σ _ (((t1.trans t2).trans t3).trans tx) (s3.upd hl hxs trivial ⟨_, upd_same, (hn.put k ((n1.mono t2).mono t3)).mono tx⟩) ((((e.mono t1).mono t2).mono t3).mono tx)
      · exact hk L2 σ H2 R M2 _ _ s2 ((e.mono t1).mono t2) e3 (fun av M' h => nomatch h) (fun x M' h => by cases h; exact (q.erG e).mono (t1.trans t2))
    · exact hd' L1 σ H1 R M1 _ _ s1 (e.mono t1) e2 (fun av M' h => nomatch h) (fun x M' h => by cases h; exact (q.erG e).mono t1)
  · exact hv L σ H R M _ _ s e e1 (fun av M' h => nomatch h) (fun x M' h => by cases h; exact q.erG e)
/-- xs[i] = v -/
def zPutL (fo fi fv : Ro → Mu → Option (RR AV)) : Ro → Mu → Option OutA := fun R M => oe R (fv R M) fun c M1 => oe R (fo R M1) fun a M2 => oe R (fi R M2) fun b M3 => match a, b with
  | .loc n, .d (.int i) => (lstAt M3 n).bind fun l => (ixN l.length i).map fun j => .nx R (M3.set n (.lst (l.set j c)))
  | _, _ => none
theorem as_putL {to ti tv : TE} {fo fi fv : Ro → Mu → Option (RR AV)} (ho : AE K mg T W to fo) (hi : AE K mg T W ti fi) (hv : AE K mg T W tv fv) : AS K mg T W (tAsg tv (gSub to ti rSetL)) (zPutL fo fi fv) := by
  intro L σ H R M o D s e er q
  rcases oe_some er with ⟨c, M1, e1, er⟩ | ⟨x, M1, e1, rfl⟩
  · refine hv L σ H R M _ _ s e e1 (fun av M' h v L1 H1 t1 s1 n1 => ?_) (fun x M' h => nomatch h)
    cases h
    rcases oe_some er with ⟨a, M2, e2, er⟩ | ⟨x, M2, e2, rfl⟩
    · refine ho L1 σ H1 R M1 _ _ s1 (e.mono t1) e2 (fun av M' h u L2 H2 t2 s2 n2 => ?_) (fun x M' h => nomatch h)
      cases h
      rcases oe_some er with ⟨b, M3, e3, er⟩ | ⟨x, M3, e3, rfl⟩
      · refine hi L2 σ H2 R M2 _ _ s2 ((e.mono t1).mono t2) e3 (fun av M' h w L3 H3 t3 s3 n3 => ?_) (fun x M' h => nomatch h)
        cases h
        split at er
        · rename_i n ii _
          obtain ⟨l, el, er⟩ := Option.bind_eq_some_iff.mp er
          obtain ⟨j, ej, rfl⟩ := Option.map_eq_some_iff.mp er
          obtain ⟨d, xs, rfl, hl, hxs, hn⟩ := s3.lstG (n2.mono t3) el
          cases n3.dn
          have tx := Tx.upd (T := T) (H := H3) (o := .lst (xs.set j v)) hl
          refine ⟨d, xs, _, j, rfl, rfl, hxs, by rw [hn.len]; exact ej, ?_⟩
          exact q L3 σ _ (((t1.trans t2).trans t3).trans tx) (s3.upd hl hxs trivial ⟨_, upd_same, (AvA.set ((n1.mono t2).mono t3) j hn).mono tx⟩) ((((e.mono t1).mono t2).mono t3).mono tx)
        · cases er
      · exact hi L2 σ H2 R M2 _ _ s2 ((e.mono t1).mono t2) e3 (fun av M' h => nomatch h) (fun x M' h => by cases h; exact (q.erG e).mono (t1.trans t2))
    · exact ho L1 σ H1 R M1 _ _ s1 (e.mono t1) e2 (fun av M' h => nomatch h) (fun x M' h => by cases h; exact (q.erG e).mono t1)
  · exact hv L σ H R M _ _ s e e1 (fun av M' h => nomatch h) (fun x M' h => by cases h; exact q.erG e)
end
end PV
namespace PV
open PySem PySem.Spec PyProof.Rows L2
section
variable {K : PySem.W.Frag} {mg : Str → Option Value} {T : Tb} {W : WX}
/-! ### targets -/
def AvW (K : PySem.W.Frag) (T : Tb) (w : Bool) (L : Nm) (H : Hp) (v : V) (av : AV) : Prop := AvR K T L H v av ∨ (w = true ∧ ∃ a xs ds, v = .ref a ∧ av = .d (.tuple ds) ∧ SqT K (hd (hidA T L) H) a xs ∧ DnA K (hd (hidA T L) H) xs ds)
theorem AvW.r {L : Nm} {H : Hp} {v : V} {av : AV} (h : AvW K T false L H v av) : AvR K T L H v av := h.elim id fun z => nomatch z.1
def AG (K : PySem.W.Frag) (T : Tb) (w : Bool) (g : TG) (h : AV → Ro → Option Ro) : Prop := ∀ L σ H R v av R' Q, ER K T L H σ R → AvW K T w L H v av → h av R = some R' → (∀ σ', ER K T L H σ' R' → Q σ' H) → g v σ H Q
def AGs (K : PySem.W.Frag) (T : Tb) (g : TGs) (h : List AV → Ro → Option Ro) : Prop := ∀ L σ H R v as R' Q, ER K T L H σ R → AvA K T L H v as → h as R = some R' → (∀ σ', ER K T L H σ' R' → Q σ' H) → g v σ H Q
def hN (i : Nat) : AV → Ro → Option Ro := fun a R => some (R.set i (some a))
def hNl : List AV → Ro → Option Ro
  | [], R => some R
  | _, _ => none
def hC (h : AV → Ro → Option Ro) (hs : List AV → Ro → Option Ro) : List AV → Ro → Option Ro
  | a :: l, R => (h a R).bind (hs l)
  | _, _ => none
def itemsOf : AV → Option (List AV)
  | .d (.tuple ds) => some (ds.map .d)
  | .tup l => some l
  | _ => none
def hT (n : Nat) (hs : List AV → Ro → Option Ro) : AV → Ro → Option Ro := fun a R => (itemsOf a).bind fun l => if l.length = n then hs l R else none
theorem ag_name (i : Nat) {w : Bool} (hw : w = false) : AG K T w (gName i) (hN i) := by
  intro L σ H R v av R' Q e n er q
  cases er
  subst hw
  exact q _ (e.set i n.r)
theorem ags_nil : AGs K T gNil hNl := by
  intro L σ H R v as R' Q e n er q
  cases n with
  | nil => cases er; exact ⟨rfl, q σ e⟩
  | cons _ _ => cases er
theorem ags_cons {g : TG} {gs : TGs} {h : AV → Ro → Option Ro} {hs : List AV → Ro → Option Ro} (hg : AG K T false g h) (hgs : AGs K T gs hs) : AGs K T (gCons g gs) (hC h hs) := by
  intro L σ H R v as R' Q e n er q
  cases n with
  | nil => cases er
  | cons n1 n2 =>
    obtain ⟨R1, e1, er⟩ := Option.bind_eq_some_iff.mp er
    exact ⟨_, _, rfl, hg L σ H R _ _ R1 _ e (.inl n1) e1 fun σ1 e1' => hgs L σ1 H R1 _ _ R' _ e1' n2 er q⟩
theorem ag_tup {gs : TGs} {n : Nat} {hs : List AV → Ro → Option Ro} (hg : AGs K T gs hs) {w : Bool} : AG K T w (gTup K n gs) (hT n hs) := by
  intro L σ H R v av R' Q e nn er q
  obtain ⟨l, el, er⟩ := Option.bind_eq_some_iff.mp er
  split at er
  case isFalse => cases er
  rename_i hl
  rcases nn with nn | ⟨_, a, xs, ds, rfl, rfl, hq, ha⟩
  · cases nn with
    | d h =>
      cases h with
      | tup hq ha =>
        cases el
        exact ⟨_, _, rfl, Same.sqT hd_le hq.sq, by rw [ha.len]; simpa using hl, hg L σ H R _ _ R' _ e (avA_d ha) er q⟩
      | non => cases el
      | bl _ => cases el
      | int _ => cases el
      | str _ => cases el
      | lst _ _ => cases el
      | dct _ _ => cases el
    | loc e1 => cases el
    | tup hq ha =>
      have el' := Option.some.inj el
      subst el'
      exact ⟨_, _, rfl, Same.sqT hd_le hq, by rw [ha.len]; exact hl, hg L σ H R _ _ R' _ e ha er q⟩
  · cases el
    exact ⟨_, _, rfl, Same.sqT hd_le hq, by rw [ha.len]; simpa using hl, hg L σ H R _ _ R' _ e (avA_d ha) er q⟩
def zAsg (fa : Ro → Mu → Option (RR AV)) (h : AV → Ro → Option Ro) : Ro → Mu → Option OutA := fun R M => oe R (fa R M) fun a M1 => (h a R).map fun R1 => .nx R1 M1
theorem as_asg {ta : TE} {g : TG} {fa : Ro → Mu → Option (RR AV)} {h : AV → Ro → Option Ro} (ha : AE K mg T W ta fa) (hg : AG K T false g h) : AS K mg T W (tAsg ta g) (zAsg fa h) := by
  intro L σ H R M o D s e er q
  rcases oe_some er with ⟨c, M1, e1, er⟩ | ⟨x, M1, e1, rfl⟩
  · obtain ⟨R1, eR, rfl⟩ := Option.map_eq_some_iff.mp er
    exact ha L σ H R M _ _ s e e1 (fun av M' h v L1 H1 t1 s1 n1 => by
      cases h
      exact hg L1 σ H1 R v _ R1 _ (e.mono t1) (.inl n1) eR fun σ' e' => q L1 σ' H1 t1 s1 e') (fun x M' h => nomatch h)
  · exact ha L σ H R M _ _ s e e1 (fun av M' h => nomatch h) (fun x M' h => by cases h; exact q.erG e)
/-! ### walks -/
def WkA (K : PySem.W.Frag) (T : Tb) (L : Nm) (H : Hp) (J : It) (l : List AV) (w : Bool) : Prop := ∀ (i : Nat) L' H', i ≤ l.length → Tx T L H L' H' → (∀ a, hidA T L' a → H' a ≠ none) →
  match l[i]? with
  | some a => J.go i H' ∧ ∀ x H2, J.yld i H' x H2 → Same H' H2 ∧ AvW K T w L' H2 x a
  | none => J.stop i H'
def AI (K : PySem.W.Frag) (mg : Str → Option Value) (T : Tb) (W : WX) (w : Bool) (t : TI) (f : Ro → Mu → Option (RR (List AV))) : Prop := ∀ L σ H R M r Rq, SR K mg T L H M → ER K T L H σ R → f R M = some r →
  (∀ l M', r = .ok l M' → ∀ J L' H', Tx T L H L' H' → SR K mg T L' H' M' → WkA K T L' H' J l w → Rq J H') → (∀ x M', r = .er x M' → erG K mg T W σ L H x M') → t σ H Rq
def lI (f : Rho → Option (List D)) : Ro → Mu → Option (RR (List AV)) := fun R M => (f (pr R)).map fun ds => .ok (ds.map .d) M
theorem ai_lift {t : TI} {f : Rho → Option (List D)} {w : Bool} (h : DI K t f w) : AI K mg T W w t (lI f) := by
  intro L σ H R M r Rq s e er q _
  obtain ⟨ds, ex, rfl⟩ := Option.map_eq_some_iff.mp er
  refine h (fun _ => False) (hidA T L) σ H (pr R) ds Rq (e.rel s _ fun _ h => h.elim) ex fun J H1 s1 wk => ?_
  refine q _ _ rfl J L H1 (Tx.of s1) (s.mono s1) fun i L' H' hi tx dm => ?_
  have k := wk i (hidA T L') H' (by simpa using hi) ⟨tx.same, fun _ h => h.elim, fun _ h => h.elim, dm⟩
  rw [List.getElem?_map]
  cases ed : ds[i]? with
  | none => rw [ed] at k; exact k
  | some d =>
    rw [ed] at k
    refine ⟨k.1, fun x H2 hy => ?_⟩
    obtain ⟨a, b⟩ := k.2 x H2 hy
    refine ⟨a, ?_⟩
    rcases b with b | ⟨b1, a', xs, ds', b2, b3, b4, b5⟩
    · exact .inl (.d b)
    · exact .inr ⟨b1, a', xs, ds', b2, by rw [b3], b4, b5⟩
/-- a thing that is not changed any more, at its end -/
def tFrzE (t : TE) : TE := fun σ H Q => t σ H fun x H1 => ∃ d u, x = .ref d ∧ H1 d = some u ∧ Mut (some u) ∧ ∀ od, Q x (upd H1 d (.frz od u))
theorem pe_frz {X : Cx} {e : Expr} {t : TE} (h : PE X e t) : PE X e (tFrzE t) := by
  refine ⟨fun pins s σ H Q I hw => ?_⟩
  refine thn (h.run pins s σ H _ I hw) fun v s1 ⟨x, H1, I1, r, d, u, ex, hd, mu, q⟩ => ?_
  obtain ⟨od, I2⟩ := I1.lock hd mu
  exact ⟨x, _, I2, r, q od⟩
theorem Tx.lock {L : Nm} {H : Hp} (nd : (L.map Prod.fst).Nodup) {n : Nat} {a : Addr} {o : HO} (h : L[n]? = some (a, true)) : Tx T L H (L.set n (a, false)) (L2.upd H a o) := by
  refine ⟨(Tx.dead (T := T) (H := H) nd h).pre, fun b x e => ?_⟩
  obtain ⟨n1, e⟩ := hd_some e
  have hb : b ≠ a := fun z => n1 (by rw [z]; exact hid_of h)
  rw [hd_of (fun z => n1 (z.elim (fun z => .inl ((hid_dead nd h).mp z).1) .inr)), upd_ne hb]
  exact e
theorem SR.lock {L : Nm} {H : Hp} {M : Mu} (s : SR K mg T L H M) {n : Nat} {a : Addr} {ho h0 : HO} (h : L[n]? = some (a, true)) (ha : H a = some h0) (hk : isObj h0) : SR K mg T (L.set n (a, false)) (L2.upd H a ho) (M.set n .dead) := by
  have s1 := s.dead h
  have tx : Tx T L H (L.set n (a, false)) (L2.upd H a ho) := Tx.lock s.nd h
  have hne : ∀ b, H a ≠ some (.own b) := fun b e => by rw [ha] at e; cases e; exact hk
  have nT : ∀ q, (a, q) ∉ T := s.sep _ (List.mem_of_getElem? h)
  refine ⟨s1.len, s1.nd, fun p hp => ?_, fun m b o' e1 e2 => ?_, s1.de, fun p hp => ?_, s1.sep⟩
  · by_cases hb : p.1 = a
    · rw [hb, upd_same]; exact fun z => nomatch z
    · rw [upd_ne hb]; exact s1.al p hp
  · have hm : n ≠ m := fun z => by
      subst z
      rw [List.getElem?_set_self (List.getElem?_eq_some_iff.mp h).1] at e1
      cases e1
    rw [List.getElem?_set_ne hm] at e1 e2
    have hba : b ≠ a := fun z => hm (nodup_get s.nd h (by rw [z] at e1; exact e1))
    have q := s.ob m b o' e1 e2
    cases o' with
    | lst l => obtain ⟨xs, x1, x2⟩ := q; exact ⟨xs, by rw [upd_ne hba]; exact x1, x2.mono tx⟩
    | dct l => obtain ⟨xs, x1, x2⟩ := q; exact ⟨xs, by rw [upd_ne hba]; exact x1, x2.mono tx⟩
    | ins l => obtain ⟨C, dx, fs, x1, x2, x3, x4⟩ := q; exact ⟨C, dx, fs, x1, by rw [upd_ne hba]; exact x2, by rw [upd_ne (fun z => hne b (by rw [← z]; exact x3))]; exact x3, x4.mono tx⟩
    | dead => exact q
  · have q := s.tab p hp
    obtain ⟨ps, e1, e2⟩ := q
    refine ⟨ps, by rw [upd_ne (fun z => nT p.2 (by rw [← z]; exact hp))]; exact e1, e2.1, fun pos cv ec => ?_⟩
    obtain ⟨c, c1, c2⟩ := e2.2 pos cv ec
    refine ⟨c, c1, ?_⟩
    rw [upd_ne (fun z => by rw [z, ha] at c2; cases c2; exact hk)]
    exact c2
/-- d.items() of an own dict that is not used again -/
def iItm (fd : Ro → Mu → Option (RR AV)) : Ro → Mu → Option (RR (List AV)) := fun R M => rb (fd R M) fun a M1 => match a with
  | .loc n => (dctAt M1 n).map fun l => .ok (l.map fun kv => .tup [.d (keyD kv.1), kv.2]) (M1.set n .dead)
  | _ => none
theorem kV_r {L : Nm} {H : Hp} (k : Key) : AvR K T L H (kV k) (.d (keyD k)) := .d (keyD_dn k)
theorem AvK.at_ {L : Nm} {H : Hp} {xs : List (Key × V)} {l : List (Key × AV)} (h : AvK K T L H xs l) {i : Nat} {k : Key} {v : V} (e : xs[i]? = some (k, v)) : ∃ a, l[i]? = some (k, a) ∧ AvR K T L H v a := by
  induction h generalizing i with
  | nil => simp at e
  | @cons k' v' vs a' as h t ih =>
    cases i with
    | zero => simp at e; obtain ⟨rfl, rfl⟩ := e; exact ⟨_, rfl, h⟩
    | succ i => obtain ⟨a, a1, a2⟩ := ih (i := i) (by simpa using e); exact ⟨a, by simpa using a1, a2⟩
theorem ai_items {td : TE} {fd : Ro → Mu → Option (RR AV)} (h : AE K mg T W td fd) : AI K mg T W false (iItems (tFrzE td)) (iItm fd) := by
  intro L σ H R M r Rq s e er q qe
  rcases rb_some er with ⟨a, M1, e1, er⟩ | ⟨x, M1, e1, rfl⟩
  · refine h L σ H R M _ _ s e e1 (fun av M' h v L1 H1 t1 s1 n1 => ?_) (fun x M' h => nomatch h)
    cases h
    cases a with
    | d x => cases er
    | tup l => cases er
    | loc n =>
      obtain ⟨l, el, rfl⟩ := Option.map_eq_some_iff.mp er
      obtain ⟨d, xs, rfl, hl, hx, hn⟩ := s1.dctG n1 el
      refine ⟨d, _, rfl, hx, trivial, fun od => ⟨d, od, xs, rfl, upd_same, ?_⟩⟩
      have tx := Tx.lock (T := T) (H := H1) (o := .frz od (.dK xs)) s1.nd hl
      refine q _ _ rfl _ (L1.set n (d, false)) _ (t1.trans tx) (s1.lock hl hx trivial) fun i L' H' hi t2 dm => ?_
      have hd2 : H' d = some (.frz od (.dK xs)) := hd_le _ _ (t2.same _ _ (by rw [hd_of (seen s1 hl)]; exact upd_same))
      have hn2 := (hn.mono tx).mono t2
      have ln := hn2.len
      rw [List.getElem?_map]
      cases ed : l[i]? with
      | none =>
        exact ⟨hd2, by rw [ln]; exact List.getElem?_eq_none_iff.mp ed⟩
      | some kv =>
        refine ⟨⟨hd2, by rw [ln]; exact (List.getElem?_eq_some_iff.mp ed).1⟩, fun x H2 hy => ?_⟩
        obtain ⟨p, k, v, ek, rfl, hp, rfl⟩ := hy
        obtain ⟨a, ea, ra⟩ := hn2.at_ ek
        rw [ed] at ea
        cases ea
        have sm : Same H' (L2.upd H' p (.tup [kV k, v])) := PV.same_upd hp
        refine ⟨sm, .inl (.tup (.inl (.inl (hd_new dm hp))) (.cons (kV_r k) (.cons (ra.mono (Tx.of sm)) .nil)))⟩
  · exact h L σ H R M _ _ s e e1 (fun av M' h => nomatch h) (fun x M' h => by cases h; exact qe _ _ rfl)
/-! ### loops -/
def forA (b : Ro → Mu → Option OutA) (h : AV → Ro → Option Ro) : List AV → Ro → Mu → Option OutA
  | [], R, M => some (.nx R M)
  | a :: l, R, M => (h a R).bind fun R1 => (b R1 M).bind fun o => match o with
    | .nx R2 M2 => forA b h l R2 M2
    | .ct R2 M2 => forA b h l R2 M2
    | .bk R2 M2 => some (.nx R2 M2)
    | .rt v M2 => some (.rt v M2)
    | .er x R2 M2 => some (.er x R2 M2)
def zFor (fi : Ro → Mu → Option (RR (List AV))) (h : AV → Ro → Option Ro) (b : Ro → Mu → Option OutA) : Ro → Mu → Option OutA := fun R M => oe R (fi R M) fun l M1 => forA b h l R M1
theorem as_for {wi : TI} {fi : Ro → Mu → Option (RR (List AV))} {g : TG} {h : AV → Ro → Option Ro} {t : TS} {b : Ro → Mu → Option OutA} {w : Bool} (hw : AI K mg T W w wi fi) (hg : AG K T w g h) (ht : AS K mg T W t b) : AS K mg T W (tFor wi g t) (zFor fi h b) := by
  intro L σ H R M o D s e er q
  rcases oe_some er with ⟨l, M1, e1, er⟩ | ⟨x, M1, e1, rfl⟩
  · refine hw L σ H R M _ _ s e e1 (fun l' M' hh J L1 H1 t1 s1 wk => ?_) (fun x M' h => nomatch h)
    cases hh
    refine ⟨fun i m σ2 H2 => m = l.length - i ∧ i ≤ l.length ∧ ∃ L2 R2 M2, Tx T L1 H1 L2 H2 ∧ SR K mg T L2 H2 M2 ∧ ER K T L2 H2 σ2 R2 ∧ forA b h (l.drop i) R2 M2 = some o,
      ⟨l.length, by simp, by simp, L1, R, M1, Tx.refl, s1, e.mono t1, er⟩, ?_⟩
    rintro i m σ2 H2 ⟨rfl, hi, L2, R2, M2, t2, s2, r2, e2⟩
    have k := wk i L2 H2 hi t2 s2.dom
    cases hd' : l[i]? with
    | none =>
      rw [hd'] at k
      have hl : l.length ≤ i := List.getElem?_eq_none_iff.mp hd'
      rw [List.drop_eq_nil_of_le hl] at e2
      cases e2
      exact .inl ⟨k, q L2 σ2 H2 (t1.trans t2) s2 r2⟩
    | some d =>
      rw [hd'] at k
      have hl : i < l.length := (List.getElem?_eq_some_iff.mp hd').1
      have hdd : l.drop i = d :: l.drop (i + 1) := by
        rw [List.drop_eq_getElem_cons hl]
        rw [(List.getElem?_eq_some_iff.mp hd').2]
      rw [hdd] at e2
      unfold forA at e2
      obtain ⟨R3, e3, e2⟩ := Option.bind_eq_some_iff.mp e2
      obtain ⟨o1, e4, e2⟩ := Option.bind_eq_some_iff.mp e2
      refine .inr ⟨k.1, fun σ3 H3 => ∃ L3 R4 M4, Tx T L1 H1 L3 H3 ∧ SR K mg T L3 H3 M4 ∧ ER K T L3 H3 σ3 R4 ∧ forA b h (l.drop (i + 1)) R4 M4 = some o, fun σ3 H3 hN => ?_, fun x H3 hy => ?_⟩
      · exact ⟨l.length - (i + 1), by omega, rfl, hl, hN⟩
      · obtain ⟨s3, n3⟩ := k.2 x H3 hy
        have r3 := r2.mono (Tx.of s3)
        refine hg L2 σ2 H3 R2 x d R3 _ r3 n3 e3 fun σ4 r4 => ?_
        refine ht L2 σ4 H3 R3 M2 o1 _ (s2.mono s3) r4 e4 ?_
        have t3 := t2.trans (Tx.of (T := T) (L := L2) s3)
        cases o1 with
        | nx R5 M5 => exact fun L' σ' H' t' s' r' => ⟨L', R5, M5, t3.trans t', s', r', e2⟩
        | ct R5 M5 => exact fun L' σ' H' t' s' r' => ⟨L', R5, M5, t3.trans t', s', r', e2⟩
        | bk R5 M5 => cases e2; exact fun L' σ' H' t' s' r' => q L' σ' H' ((t1.trans t3).trans t') s' r'
        | rt v M5 => cases e2; exact fun v L' H' t' s' r' => q v L' H' ((t1.trans t3).trans t') s' r'
        | er x R5 M5 => cases e2; exact fun cls d L' σ' H' m t' s' r' => q cls d L' σ' H' m ((t1.trans t3).trans t') s' r'
  · exact hw L σ H R M _ _ s e e1 (fun l' M' h => nomatch h) (fun x M' h => by cases h; exact q.erG e)
def whileA (fc : Ro → Mu → Option (RR Bool)) (b : Ro → Mu → Option OutA) : Nat → Ro → Mu → Option OutA
  | 0, _, _ => none
  | n + 1, R, M => oe R (fc R M) fun c M1 => if c = true then (b R M1).bind fun o => match o with
    | .nx R2 M2 => whileA fc b n R2 M2
    | .ct R2 M2 => whileA fc b n R2 M2
    | .bk R2 M2 => some (.nx R2 M2)
    | .rt v M2 => some (.rt v M2)
    | .er x R2 M2 => some (.er x R2 M2) else some (.nx R M1)
theorem as_while {n : Nat} {tc : TT} {fc : Ro → Mu → Option (RR Bool)} {t : TS} {b : Ro → Mu → Option OutA} (hc : AT K mg T W tc fc) (ht : AS K mg T W t b) : AS K mg T W (tWhile tc t) (whileA fc b n) := by
  intro L σ H R M o D s e er q
  refine ⟨fun m σ2 H2 => ∃ L2 R2 M2, Tx T L H L2 H2 ∧ SR K mg T L2 H2 M2 ∧ ER K T L2 H2 σ2 R2 ∧ whileA fc b m R2 M2 = some o, ⟨n, L, R, M, Tx.refl, s, e, er⟩, ?_⟩
  rintro m σ2 H2 ⟨L2, R2, M2, t2, s2, r2, e2⟩
  cases m with
  | zero => cases e2
  | succ m =>
    unfold whileA at e2
    rcases oe_some e2 with ⟨c, M3, e3, e2⟩ | ⟨x, M3, e3, rfl⟩
    · refine hc L2 σ2 H2 R2 M2 _ _ s2 r2 e3 (fun av M' h L3 H3 t3 s3 => ?_) (fun x M' h => nomatch h)
      cases h
      cases c with
      | false => cases e2; exact iteF (q L3 σ2 H3 (t2.trans t3) s3 (r2.mono t3))
      | true =>
        refine iteT ?_
        obtain ⟨o1, e4, e2⟩ := Option.bind_eq_some_iff.mp e2
        refine ⟨fun σ3 H3 => ∃ L3 R4 M4, Tx T L H L3 H3 ∧ SR K mg T L3 H3 M4 ∧ ER K T L3 H3 σ3 R4 ∧ whileA fc b m R4 M4 = some o, fun σ3 H3 hN => ⟨m, Nat.lt_succ_self m, hN⟩, ?_⟩
        refine ht L3 σ2 H3 R2 M3 o1 _ s3 (r2.mono t3) e4 ?_
        cases o1 with
        | nx R5 M5 => exact fun L' σ' H' t' s' r' => ⟨L', R5, M5, (t2.trans t3).trans t', s', r', e2⟩
        | ct R5 M5 => exact fun L' σ' H' t' s' r' => ⟨L', R5, M5, (t2.trans t3).trans t', s', r', e2⟩
        | bk R5 M5 => cases e2; exact fun L' σ' H' t' s' r' => q L' σ' H' ((t2.trans t3).trans t') s' r'
        | rt v M5 => cases e2; exact fun v L' H' t' s' r' => q v L' H' ((t2.trans t3).trans t') s' r'
        | er x R5 M5 => cases e2; exact fun cls d L' σ' H' m t' s' r' => q cls d L' σ' H' m ((t2.trans t3).trans t') s' r'
    · exact hc L2 σ2 H2 R2 M2 _ _ s2 r2 e3 (fun av M' h => nomatch h) (fun x M' h => by cases h; exact (q.mono t2).erG r2)
/-! ### defs -/
def startA (n : Nat) (as : List AV) : Ro := as.map some ++ List.replicate (n - as.length) none
def outA : OutA → Option (RR AV)
  | .rt v M => some (.ok v M)
  | .nx _ M => some (.ok (.d .none) M)
  | .er x _ M => some (.er x M)
  | _ => none
def runA (n : Nat) (g : Ro → Mu → Option OutA) (as : List AV) (M : Mu) : Option (RR AV) := (g (startA n as) M).bind outA
/-- its promise -/
def spA (K : PySem.W.Frag) (mg : Str → Option Value) (T : Tb) (m : Nat) (F : List AV → Mu → Option (RR AV)) : Sp := fun vs H Q E => ∃ (L : Nm) (M : Mu) (as : List AV) (r : RR AV), as.length = m ∧ SR K mg T L H M ∧ AvA K T L H vs as ∧ F as M = some r ∧
  (∀ av M', r = .ok av M' → ∀ v L' H', Tx T L H L' H' → SR K mg T L' H' M' → AvR K T L' H' v av → Q v H') ∧ (∀ x M', r = .er x M' → ∀ cls d L' H', mg x = some cls → Tx T L H L' H' → SR K mg T L' H' M' → E cls d H')
def aFn (F : List AV → Mu → Option (RR AV)) (fa : Ro → Mu → Option (RR (List AV))) : Ro → Mu → Option (RR AV) := fun R M => rb (fa R M) fun as M1 => F as M1
theorem ae_callA {m : Nat} {F : List AV → Mu → Option (RR AV)} {ta : TA} {fa : Ro → Mu → Option (RR (List AV))} (ha : AA K mg T W ta fa) (hm : ∀ R M as M', fa R M = some (.ok as M') → as.length = m) : AE K mg T W (tCallS (spA K mg T m F) (WE W) ta) (aFn F fa) := by
  intro L σ H R M r Q s e er q qe
  rcases rb_some er with ⟨as, M1, e1, er⟩ | ⟨x, M1, e1, rfl⟩
  · refine ha L σ H R M _ _ s e e1 (fun av M' h v L1 H1 t1 s1 n1 => ?_) (fun x M' h => nomatch h)
    cases h
    exact ⟨L1, M1, as, r, hm _ _ _ _ e1, s1, n1, er, fun av M' h v2 L2 H2 t2 s2 n2 => q av M' h v2 L2 H2 (t1.trans t2) s2 n2, fun x M' h cls d L2 H2 hx t2 s2 => qe x M' h cls d L2 H2 hx (t1.trans t2) s2⟩
  · exact ha L σ H R M _ _ s e e1 (fun av M' h => nomatch h) (fun x M' h => by cases h; exact qe _ _ rfl)
theorem ae_callP {m : Nat} {F : List D → Option D} {E : XK} {ta : TA} {fa : Ro → Mu → Option (RR (List AV))} (ha : AA K mg T W ta fa) (hm : ∀ R M as M', fa R M = some (.ok as M') → as.length = m) : AE K mg T W (tCall (spP K m F) [] E ta) (aN F fa) := by
  intro L σ H R M r Q s e er q qe
  rcases rb_some er with ⟨as, M1, e1, er⟩ | ⟨x, M1, e1, rfl⟩
  · refine ha L σ H R M _ _ s e e1 (fun av M' h v L1 H1 t1 s1 n1 => ?_) (fun x M' h => nomatch h)
    cases h
    obtain ⟨ds, ed, er⟩ := Option.bind_eq_some_iff.mp er
    obtain ⟨z, ez, rfl⟩ := Option.map_eq_some_iff.mp er
    rw [List.append_nil]
    have n2 := dsOf_r n1 ed
    refine ⟨hidA T L1, ds, z, ?_, s1.dom, n2, ez, fun v2 H2 s2 n2 => q _ _ rfl v2 L1 H2 (t1.trans (Tx.of s2)) (s1.mono s2) (.d n2)⟩
    rw [← n2.len, n1.len]
    exact hm _ _ _ _ e1
  · exact ha L σ H R M _ _ s e e1 (fun av M' h => nomatch h) (fun x M' h => by cases h; exact qe _ _ rfl)
theorem er_start {N : List Str} {L : Nm} {H : Hp} {vs : List V} {as : List AV} (n : AvA K T L H vs as) : ER K T L H (L2.start N vs) (startA N.length as) where
  len := by unfold L2.start startA; simp [n.len]
  get := fun i av e => by
    unfold startA at e
    rw [List.getElem?_append] at e
    split at e
    · rename_i hl
      rw [List.getElem?_map] at e
      rw [List.length_map] at hl
      cases ed : as[i]? with
      | none => rw [ed] at e; cases e
      | some d =>
        rw [ed] at e
        cases e
        obtain ⟨v, ev, nv⟩ := n.at_ ed
        refine ⟨v, ?_, nv⟩
        unfold L2.start
        rw [List.getElem?_append_left (by rw [List.length_map, n.len]; exact hl), List.getElem?_map, ev]
        all_goals rfl
    · rename_i hl
      obtain ⟨h1, h2⟩ := List.getElem?_eq_some_iff.mp e
      simp at h2
theorem spA_body {t : TS} {g : Ro → Mu → Option OutA} {N : List Str} {m : Nat} {vs : List V} {H : Hp} {Q : VK} {E : XK} (ht : AS K mg T (fun c d _ H => E c d H) t g) (h : spA K mg T m (runA N.length g) vs H Q E) : t { nx := fun _ H' => Q .non H', rt := Q } (L2.start N vs) H := by
  obtain ⟨L, M, as, r, _, s, n, er, q, qe⟩ := h
  obtain ⟨o, e1, e2⟩ := Option.bind_eq_some_iff.mp er
  refine ht L _ H _ M o _ s (er_start n) e1 ?_
  cases o with
  | rt v M' => cases e2; exact fun v L' H' t' s' n' => q _ _ rfl v L' H' t' s' n'
  | nx R' M' => cases e2; exact fun L' σ' H' t' s' e' => q _ _ rfl .non L' H' t' s' (.d .non)
  | er x R' M' => cases e2; exact fun cls d L' σ' H' hx t' s' e' => qe _ _ rfl cls d L' H' hx t' s'
  | bk R' M' => cases e2
  | ct R' M' => cases e2
theorem spA_len {m : Nat} {F : List AV → Mu → Option (RR AV)} {vs : List V} {H : Hp} {Q : VK} {E : XK} (h : spA K mg T m F vs H Q E) : vs.length = m := by
  obtain ⟨L, M, as, r, hl, s, n, _⟩ := h
  rw [n.len]; exact hl
end
end PV
namespace PV
open PySem PySem.Spec PyProof.Rows L2
/-! ### the store layer, with the text -/
section
variable (X : Cx) (T : Tb) (W : WX)
structure ZE (e : Expr) (f : Ro → Mu → Option (RR AV)) : Prop where
  ex : ∃ t, PE X e t ∧ AE X.K X.mg T W t f
structure ZA (es : List Expr) (n : Nat) (f : Ro → Mu → Option (RR (List AV))) : Prop where
  ex : ∃ t, PA X es t ∧ AA X.K X.mg T W t f
  len : ∀ R M as M', f R M = some (.ok as M') → as.length = n
structure ZT (e : Expr) (f : Ro → Mu → Option (RR Bool)) : Prop where
  ex : ∃ t, PT X e t ∧ AT X.K X.mg T W t f
structure ZW (e : Expr) (f : Ro → Mu → Option (RR Bool)) : Prop where
  ex : ∃ t, PW X e t ∧ AT X.K X.mg T W t f
structure ZS (s : Stmt) (f : Ro → Mu → Option OutA) : Prop where
  ex : ∃ t, PS X s t ∧ AS X.K X.mg T W t f
structure ZB (s : List Stmt) (f : Ro → Mu → Option OutA) : Prop where
  ex : ∃ t, PSs X s t ∧ AS X.K X.mg T W t f
structure ZG (w : Bool) (e : Expr) (h : AV → Ro → Option Ro) : Prop where
  ex : ∃ t, PG X e t ∧ AG X.K T w t h
structure ZGs (e : List Expr) (h : List AV → Ro → Option Ro) : Prop where
  ex : ∃ t, PGs X e t ∧ AGs X.K T t h
structure ZI (w : Bool) (tg e : Expr) (f : Ro → Mu → Option (RR (List AV))) : Prop where
  ex : ∃ t, PI X tg e t ∧ AI X.K X.mg T W w t f
end
/-- a def of the text that the store layer computes -/
structure FnA (P : Program) (w : World) (K : PySem.W.Frag) (mg : Str → Option Value) (base : Heap) (T : Tb) (k : Nat) (x : Str) (m : Nat) (F : List AV → Mu → Option (RR AV)) : Prop where
  ex : ∃ f fd ps, FnOk P w K mg base (L2.CX P w) k f fd ps (spA K mg T m F) ∧ mg x = some (.ref f) ∧ PySem.W.keepIn K (.ref f) = true ∧ Binds K fd ps []
section
variable {X : Cx} {T : Tb} {W : WX} {a b c e : Expr} {es : List Expr} {st : Stmt} {body rest : List Stmt} {fa fb fc : Ro → Mu → Option (RR AV)} {fs : Ro → Mu → Option (RR (List AV))} {ft fu : Ro → Mu → Option (RR Bool)} {g g' : Ro → Mu → Option OutA} {pos pos' p p2 apos cpos : Pos} {n k : Nat}
theorem z_lift {f : Rho → Option D} (h : YE X e f) : ZE X T W e (lE f) := let ⟨_, p, d⟩ := h.ex; ⟨_, p, ae_lift d⟩
theorem zt_lift {f : Rho → Option Bool} (h : YT X e f) : ZT X T W e (lT f) := let ⟨_, p, d⟩ := h.ex; ⟨_, p, at_lift d⟩
theorem z_own {f : Rho → Option (List D)} (h : YF X e f) : ZE X T W e (aOwn f) := let ⟨_, p, d⟩ := h.ex; ⟨_, p, ae_own d⟩
theorem z_fz (k : Nat) (h : ZE X T W e fa) : ZE X T W e (aFz k fa) := let ⟨_, p, d⟩ := h.ex; ⟨_, p, ae_fz k d⟩
theorem z_var (i : Nat) {x : Str} (hN : X.N[i]? = some x := by rfl) (hv : Vis X.env.scope x := by first | exact Or.inl rfl | exact Or.inr (Or.inl rfl) | exact Or.inr (Or.inr rfl)) (h1 : (x == ("__debug__" : Str)) = false := by decide) (h2 : (x == ("__classdict__" : Str)) = false := by decide) : ZE X T W (.Name x pos) (aVar i) :=
  ⟨_, pe_var hN hv h1 h2, ae_var i⟩
theorem za_nil : ZA X T W [] 0 bNil := ⟨⟨_, pa_nil, aa_nil⟩, fun _ _ _ _ e => by cases e; rfl⟩
theorem za_cons (ha : ZE X T W e fa) (hr : ZA X T W es n fs) (hs : starEach (e :: es) X.env = (false, eval e X.env) :: starEach es X.env := by rfl) : ZA X T W (e :: es) (n + 1) (bCons fa fs) :=
  let ⟨_, p1, d1⟩ := ha.ex; let ⟨_, p2, d2⟩ := hr.ex
  ⟨⟨_, pa_cons p1 p2 hs, aa_cons d1 d2⟩, fun R M as M' e => by
    rcases rb_some e with ⟨x, M1, ex, e⟩ | ⟨x, M1, _, h⟩
    · rcases rb_some e with ⟨r, M2, er, e⟩ | ⟨x, M2, _, h⟩
      · cases e
        rw [List.length_cons, hr.len _ _ r _ er]
      · cases h
    · cases h⟩
theorem z_op {op : Operator} {r : R2} {g : D → D → Option D} (ho : OpR X (binaryOp op) r) (hr : R2D X.K r g) (ha : ZE X T W a fa) (hb : ZE X T W b fb) : ZE X T W (.BinOp a op b pos) (a2 g fa fb) :=
  let ⟨_, p1, d1⟩ := ha.ex; let ⟨_, p2, d2⟩ := hb.ex; ⟨_, pe_op ho p1 p2, ae_op hr d1 d2⟩
theorem z_add (ha : ZE X T W a fa) (hb : ZE X T W b fb) : ZE X T W (.BinOp a .Add b pos) (a2 vAdd fa fb) := z_op (OpR.or op_add (OpR.or op_add_str (OpR.or op_catF op_catL))) r_add ha hb
theorem z_sub (ha : ZE X T W a fa) (hb : ZE X T W b fb) : ZE X T W (.BinOp a .Sub b pos) (a2 vSub fa fb) := z_op op_sub r_sub ha hb
theorem z_mul (ha : ZE X T W a fa) (hb : ZE X T W b fb) : ZE X T W (.BinOp a .Mult b pos) (a2 vMul fa fb) := z_op (OpR.or op_mul (OpR.or op_repS op_repL)) r_mul ha hb
theorem z_div (ha : ZE X T W a fa) (hb : ZE X T W b fb) : ZE X T W (.BinOp a .FloorDiv b pos) (a2 vDiv fa fb) := z_op op_fdivW r_div ha hb
theorem z_mod (ha : ZE X T W a fa) (hb : ZE X T W b fb) : ZE X T W (.BinOp a .Mod b pos) (a2 vMod fa fb) := z_op op_mod r_mod ha hb
theorem z_cmp {op : CmpOp} {r : R2} {g : D → D → Option D} (ho : OpR X (compareOp op) r) (hr : R2D X.K r g) (hm : behindInMarks op b = false) (ha : ZE X T W a fa) (hb : ZE X T W b fb) : ZE X T W (.Compare a [op] [b] pos) (a2 g fa fb) :=
  let ⟨_, p1, d1⟩ := ha.ex; let ⟨_, p2, d2⟩ := hb.ex; ⟨_, pe_cmpR ho p1 p2 hm, ae_op hr d1 d2⟩
theorem zt_cmp {op : CmpOp} {r : R2} {g : D → D → Option D} (ho : OpR X (compareOp op) r) (hr : R2D X.K r g) (hm : behindInMarks op b = false) (ha : ZE X T W a fa) (hb : ZE X T W b fb) : ZT X T W (.Compare a [op] [b] pos) (bT1 (a2 g fa fb)) :=
  let ⟨_, p1, d1⟩ := ha.ex; let ⟨_, p2, d2⟩ := hb.ex; ⟨_, pt_cmpR ho p1 p2 hm, at_test (ae_op hr d1 d2)⟩
theorem zt_val (ha : ZE X T W a fa) (he : ∀ whole, isTrue a X.env whole = (do let v ← whole; standAt a.pos; holding [v] (truthy v)) := by intro _; rfl) : ZT X T W a (bT1 fa) :=
  let ⟨_, p1, d1⟩ := ha.ex; ⟨_, pt_val p1 he, at_b d1⟩
theorem zw_and1 (ha : ZT X T W a ft) : ZW X T W (.BoolOp .And [a] pos) ft := let ⟨_, p1, d1⟩ := ha.ex; ⟨_, pw_and1 p1, d1⟩
theorem zw_or1 (ha : ZT X T W a ft) : ZW X T W (.BoolOp .Or [a] pos) ft := let ⟨_, p1, d1⟩ := ha.ex; ⟨_, pw_or1 p1, d1⟩
theorem zw_and (ha : ZT X T W a ft) (hb : ZW X T W (.BoolOp .And (b :: es) pos) fu) : ZW X T W (.BoolOp .And (a :: b :: es) pos) (bAnd ft fu) :=
  let ⟨_, p1, d1⟩ := ha.ex; let ⟨_, p2, d2⟩ := hb.ex; ⟨_, pw_and p1 p2, at_and d1 d2⟩
theorem zw_or (ha : ZT X T W a ft) (hb : ZW X T W (.BoolOp .Or (b :: es) pos) fu) : ZW X T W (.BoolOp .Or (a :: b :: es) pos) (bOr ft fu) :=
  let ⟨_, p1, d1⟩ := ha.ex; let ⟨_, p2, d2⟩ := hb.ex; ⟨_, pw_or p1 p2, at_or d1 d2⟩
theorem zt_w (ha : ZW X T W a ft) : ZT X T W a ft := let ⟨_, p1, d1⟩ := ha.ex; ⟨_, p1.pt, d1⟩
theorem zt_not (ha : ZT X T W a ft) : ZT X T W (.UnaryOp .Not a pos) (bNot ft) := let ⟨_, p1, d1⟩ := ha.ex; ⟨_, pt_not p1, at_not d1⟩
theorem z_tup {x1} (h : ZA X T W es n fs) : ZE X T W (.Tuple es x1 pos) (aTup fs) := let ⟨_, p1, d1⟩ := h.ex; ⟨_, pe_tupF p1, ae_tup d1⟩
theorem z_lst (h : ZA X T W es n fs) : ZE X T W (.List es pos) (aLst fs) := let ⟨_, p1, d1⟩ := h.ex; ⟨_, pe_lst p1, ae_lst d1⟩
theorem z_dct0 : ZE X T W (.Dict [] [] pos) aDct0 := ⟨_, pe_dnewK, ae_dct0⟩
theorem z_ix (hr : Room k X.A) (ha : ZE X T W a fa) (hb : ZE X T W b fb) (hs : PlainIx b := by exact fun _ _ => rfl) : ZE X T W (.Subscript a b pos) (aIx fa fb) :=
  let ⟨_, p1, d1⟩ := ha.ex; let ⟨_, p2, d2⟩ := hb.ex; ⟨_, pe_orE (pe_ix ix_seq p1 p2 hs) (pe_dget (hu_of hr) p1 p2 hs), ae_ix d1 d2⟩
/-! calls -/
theorem z_callA {x : Str} {m j : Nat} {F : List AV → Mu → Option (RR AV)} (Fc : FnA X.prog X.w X.K X.mg X.base T j x m F) (tk : Takes X W) (hr : Room k X.A) (hj : j ≤ k) (hg : Gl X x) (ha : ZA X T W (e :: es) m fs) (hdb : (x == ("__debug__" : Str)) = false := by decide)
    (he : starEach (e :: es) X.env = (false, eval e X.env) :: starEach es X.env := by rfl) (hpl : (backTo pos (starEach es X.env)).any (·.1) = false := by rfl) : ZE X T W (.Call (.Name x p) (e :: es) [] pos) (aFn F fs) :=
  let ⟨_, _, _, F1, hm, hk, hb⟩ := Fc.ex; let ⟨_, p1, d1⟩ := ha.ex
  ⟨_, pe_callS F1 (hr.mono hj) hg hm hk hb (fun σ => passAt tk σ) p1 hdb he hpl, ae_callA d1 ha.len⟩
theorem z_callP {x : Str} {m j : Nat} {F : List D → Option D} (Fc : Fn X.prog X.w X.K X.mg X.base j x m F) (hr : Room k X.A) (hj : j ≤ k) (hg : Gl X x) (ha : ZA X T W (e :: es) m fs) (hdb : (x == ("__debug__" : Str)) = false := by decide)
    (he : starEach (e :: es) X.env = (false, eval e X.env) :: starEach es X.env := by rfl) (hpl : (backTo pos (starEach es X.env)).any (·.1) = false := by rfl) : ZE X T W (.Call (.Name x p) (e :: es) [] pos) (aN F fs) :=
  let ⟨_, _, _, F1, hm, hk, hb⟩ := Fc.ex; let ⟨_, p1, d1⟩ := ha.ex
  ⟨_, pe_call F1 (hr.mono hj) hg hm hk hb .nil pass0 p1 hdb he hpl, ae_callP (E := E0) d1 ha.len⟩
theorem z_bi {x : Str} {id : String} {r : List V → Hp → VK → Prop} {g : List D → Option D} (hc : CallR X (.builtin id) r) (hn : RnD X.K r g) (hg : Gl X x) (hm : X.mg x = none) (hv : bootBuiltins x = some (.builtin id)) (ha : ZA X T W (e :: es) n fs)
    (h1 : x ≠ "__name__" := by decide) (hdb : (x == ("__debug__" : Str)) = false := by decide) (he : starEach (e :: es) X.env = (false, eval e X.env) :: starEach es X.env := by rfl) (hpl : (backTo pos (starEach es X.env)).any (·.1) = false := by rfl) : ZE X T W (.Call (.Name x p) (e :: es) [] pos) (aN g fs) :=
  let ⟨_, p1, d1⟩ := ha.ex; ⟨_, pe_callB hc hg hm hv p1 h1 hdb he hpl, ae_cb hn d1⟩
theorem z_ty {x : Str} {id : String} {r : List V → Hp → VK → Prop} {g : List D → Option D} (hc : CallR X (.type id) r) (hn : RnD X.K r g) (hg : Gl X x) (hm : X.mg x = none) (hv : bootBuiltins x = some (.type id)) (ha : ZA X T W (e :: es) n fs)
    (h1 : x ≠ "__name__" := by decide) (hdb : (x == ("__debug__" : Str)) = false := by decide) (he : starEach (e :: es) X.env = (false, eval e X.env) :: starEach es X.env := by rfl) (hpl : (backTo pos (starEach es X.env)).any (·.1) = false := by rfl) : ZE X T W (.Call (.Name x p) (e :: es) [] pos) (aN g fs) :=
  let ⟨_, p1, d1⟩ := ha.ex; ⟨_, pe_callTy hc hg hm hv p1 h1 hdb he hpl, ae_cb hn d1⟩
theorem z_dict (hc : X.calm = true) (hg : Gl X "dict") (hm : X.mg "dict" = none) (ha : ZA X T W [e] 1 fs) (he : starEach [e] X.env = (false, eval e X.env) :: starEach [] X.env := by rfl) (hpl : (backTo pos (starEach [] X.env)).any (·.1) = false := by rfl) : ZE X T W (.Call (.Name "dict" p) [e] [] pos) (aDict fs) :=
  let ⟨_, p1, d1⟩ := ha.ex; ⟨_, pe_callTy (c_dict hc) hg hm (by decide +kernel) p1 (by decide) (by decide) he hpl, ae_dict d1⟩
theorem z_get2 (hr : Room k X.A) (ha : ZE X T W a fa) (hb : ZE X T W b fb) (hc : ZE X T W c fc)
    (base : attributeBase a "get" X.env (eval a X.env) = eval a X.env := by rfl)
    (few : ((backTo cpos (starEach [b, c] X.env)).all (fun x => !x.1) && (backToKw cpos (keywordEach [] X.env)).all (fun x => x.1.isSome)
      && decide (([b, c] : List Expr).length + ([] : List Keyword).length + (if ([] : List Keyword).isEmpty then 0 else 1) < 30)) = true := by rfl)
    (line : (apos.endLine == cpos.line) = true := by rfl)
    (trees : backTo cpos (starEach [b, c] X.env) = [(false, eval b X.env), (false, eval c X.env)] := by rfl) : ZE X T W (.Call (.Attribute a "get" apos) [b, c] [] cpos) (aGet2 fa fb fc) :=
  let ⟨_, p1, d1⟩ := ha.ex; let ⟨_, p2, d2⟩ := hb.ex; let ⟨_, p3, d3⟩ := hc.ex; ⟨_, pe_dget2 (hu_of hr) p1 p2 p3 ⟨base, few, line, trees⟩, ae_get2 d1 d2 d3⟩
theorem z_setd (ha : ZE X T W a fa) (hb : ZE X T W b fb) (hc : ZE X T W c fc)
    (base : attributeBase a "setdefault" X.env (eval a X.env) = eval a X.env := by rfl)
    (few : ((backTo cpos (starEach [b, c] X.env)).all (fun x => !x.1) && (backToKw cpos (keywordEach [] X.env)).all (fun x => x.1.isSome)
      && decide (([b, c] : List Expr).length + ([] : List Keyword).length + (if ([] : List Keyword).isEmpty then 0 else 1) < 30)) = true := by rfl)
    (line : (apos.endLine == cpos.line) = true := by rfl)
    (trees : backTo cpos (starEach [b, c] X.env) = [(false, eval b X.env), (false, eval c X.env)] := by rfl) : ZE X T W (.Call (.Attribute a "setdefault" apos) [b, c] [] cpos) (aSetd fa fb fc) :=
  let ⟨_, p1, d1⟩ := ha.ex; let ⟨_, p2, d2⟩ := hb.ex; let ⟨_, p3, d3⟩ := hc.ex; ⟨_, pe_dsetd p1 p2 p3 ⟨base, few, line, trees⟩, ae_setd d1 d2 d3⟩
/-! targets, walks -/
variable {h : AV → Ro → Option Ro} {hs : List AV → Ro → Option Ro}
theorem zg_name (i : Nat) {x : Str} (hN : X.N.Nodup) (hi : X.N[i]? = some x) (hx : Loc X.env.scope x) (hf : X.fn x = true ∨ X.env.scope.names.lookup x = some .local := by first | exact .inl rfl | exact .inr rfl | assumption) : ZG X T false (.Name x pos) (PV.hN i) := ⟨_, pg_name hN hi hx hf, ag_name i rfl⟩
theorem zgs_nil : ZGs X T [] hNl := ⟨_, pgs_nil, ags_nil⟩
theorem zgs_cons (h1 : ZG X T false e h) (h2 : ZGs X T es hs) (hs' : (assignEach (e :: es) X.env).map (·.2) = assign e X.env :: (assignEach es X.env).map (·.2) := by rfl) : ZGs X T (e :: es) (hC h hs) :=
  let ⟨_, p1, d1⟩ := h1.ex; let ⟨_, p2, d2⟩ := h2.ex; ⟨_, pgs_cons p1 p2 hs', ags_cons d1 d2⟩
theorem zg_tup {j : Nat} (hc : X.calm = true) (h1 : ZGs X T es hs) (hn : (assignEach es X.env).length = n := by rfl) (hst : (assignEach es X.env).findIdx? (·.1) = none := by rfl) {w : Bool} : ZG X T w (.Tuple es j pos) (hT n hs) :=
  let ⟨_, p1, d1⟩ := h1.ex; ⟨_, pg_tup hc p1 hn hst, ag_tup d1⟩
theorem zi_lift {tg : Expr} {fi : Rho → Option (List D)} {w : Bool} (h : YI X tg e fi w) : ZI X T W w tg e (lI fi) := let ⟨_, p, d⟩ := h.ex; ⟨_, p, ai_lift d⟩
theorem zi_items {kk : Nat} {tpos : Pos} (h : ZE X T W e fa) (hbase : attributeBase e "items" X.env (eval e X.env) = eval e X.env := by rfl) (hline : (apos.endLine == cpos.line) = true := by rfl) : ZI X T W false (.Tuple es kk tpos) (.Call (.Attribute e "items" apos) [] [] cpos) (iItm fa) :=
  let ⟨_, p, d⟩ := h.ex; ⟨_, pi_items (pe_frz p) hbase hline, ai_items d⟩
/-! statements -/
theorem zb_nil : ZB X T W [] zNext := ⟨_, pss_nil, as_next⟩
theorem zb_one (h1 : ZS X T W st g) : ZB X T W [st] g := let ⟨_, p, d⟩ := h1.ex; ⟨_, pss_one p, d⟩
theorem zb_cons (h1 : ZS X T W st g) (h2 : ZB X T W rest g') : ZB X T W (st :: rest) (zSeq g g') := let ⟨_, p, d⟩ := h1.ex; let ⟨_, p2, d2⟩ := h2.ex; ⟨_, pss_cons p p2, as_seq d d2⟩
theorem zs_fz (k i : Nat) (h : ZS X T W st g) : ZS X T W st (zFz k i g) := let ⟨_, p, d⟩ := h.ex; ⟨_, p, as_fz k i d⟩
theorem zs_set (i : Nat) {x : Str} (hN : X.N.Nodup) (hi : X.N[i]? = some x) (hx : Loc X.env.scope x) (he : ZE X T W e fa) (hs : swapsWith e (some (.Name x pos')) pos.line X.env = pure false := by rfl) (hf : X.fn x = true ∨ X.env.scope.names.lookup x = some .local := by first | exact .inl rfl | exact .inr rfl | assumption) :
    ZS X T W (.Assign [.Name x pos'] e pos) (zSet i fa) := let ⟨_, p, d⟩ := he.ex; ⟨_, L2.ps_set hN hi hx p hs hf, as_set i d⟩
theorem zs_asg {tg : Expr} (he : ZE X T W e fa) (hg : ZG X T false tg h) (hs : swapsWithSole [tg] e pos.line X.env = pure false := by rfl) (hw : swappedStores [tg] e X.env = pure none := by rfl)
    (h1 : (assignEach [tg] X.env).map (·.2) = [assign tg X.env] := by rfl) : ZS X T W (.Assign [tg] e pos) (zAsg fa h) := let ⟨_, p, d⟩ := he.ex; let ⟨_, p2, d2⟩ := hg.ex; ⟨_, ps_asg p p2 hs hw h1, as_asg d d2⟩
theorem zs_if (hc : ZT X T W e ft) (ha : ZB X T W body g) (hb : ZB X T W rest g') : ZS X T W (.If e body rest pos) (zIf ft g g') := let ⟨_, p0, d0⟩ := hc.ex; let ⟨_, p, d⟩ := ha.ex; let ⟨_, p2, d2⟩ := hb.ex; ⟨_, ps_if p0 p p2, as_if d0 d d2⟩
theorem zs_ret (he : ZE X T W e fa) : ZS X T W (.Return (some e) pos) (zRet fa) := let ⟨_, p, d⟩ := he.ex; ⟨_, ps_ret p, as_ret d⟩
theorem zs_retN : ZS X T W (.Return none pos) zRetN := ⟨_, ps_retN, as_retN⟩
theorem zs_expr (he : ZE X T W e fa) (hs : swapsWith e none pos.line X.env = pure false := by rfl) : ZS X T W (.Expr e pos) (zDrop fa) := let ⟨_, p, d⟩ := he.ex; ⟨_, ps_expr p hs, as_drop d⟩
theorem zs_doc {x j} : ZS X T W (.Expr (.Constant (.str x) j pos) pos') zNext := ⟨_, ps_doc, as_next⟩
theorem zs_pass : ZS X T W (.Pass pos) zNext := ⟨_, ps_pass, as_next⟩
theorem zs_brk : ZS X T W (.Break pos) zBrk := ⟨_, ps_break, as_brk⟩
theorem zs_cnt : ZS X T W (.Continue pos) zCnt := ⟨_, ps_continue, as_cnt⟩
theorem zs_for {tg iter : Expr} {fi : Ro → Mu → Option (RR (List AV))} (hp : PassesOwn (model X.prog X.w) X.A X.env X.xe) (hc : X.calm = true) {w : Bool} (hi : ZI X T W w tg iter fi) (hg : ZG X T w tg h) (hb : ZB X T W body g) (hs : ∀ x, foldedSetIterable iter X.env x = pure x := by intro _; rfl) :
    ZS X T W (.For tg iter body [] pos) (zFor fi h g) := let ⟨_, p0, d0⟩ := hi.ex; let ⟨_, p, d⟩ := hg.ex; let ⟨_, p2, d2⟩ := hb.ex; ⟨_, ps_for hp hc p0 p p2 hs, as_for d0 d d2⟩
theorem zs_while (n : Nat) (hp : PassesOwn (model X.prog X.w) X.A X.env X.xe) (hc : ZT X T W e ft) (hb : ZB X T W body g) : ZS X T W (.While e body [] pos) (whileA ft g n) := let ⟨_, p, d⟩ := hc.ex; let ⟨_, p2, d2⟩ := hb.ex; ⟨_, ps_while hp p p2, as_while d d2⟩
theorem zs_app (ho : ZE X T W b fb) (ha : ZE X T W a fa) (hbase : attributeBase b "append" X.env (eval b X.env) = eval b X.env := by rfl)
    (hfew : ((backTo cpos (starEach [a] X.env)).all (fun x => !x.1) && (backToKw cpos (keywordEach [] X.env)).all (fun x => x.1.isSome)
      && decide ([a].length + ([] : List Keyword).length + (if ([] : List Keyword).isEmpty then 0 else 1) < 30)) = true := by rfl)
    (hline : (apos.endLine == cpos.line) = true := by rfl) (hs : starEach [a] X.env = (false, eval a X.env) :: starEach [] X.env := by rfl) (hplain : (backTo cpos (starEach [] X.env)).any (·.1) = false := by rfl)
    (hsw : swapsWith (.Call (.Attribute b "append" apos) [a] [] cpos) none pos.line X.env = pure false := by rfl) : ZS X T W (.Expr (.Call (.Attribute b "append" apos) [a] [] cpos) pos) (zApp fb fa) :=
  let ⟨_, p1, d1⟩ := ha.ex; let ⟨_, p2, d2⟩ := ho.ex; ⟨_, ps_expr (pe_bm PySem.F.plainAttrs_list PySem.F.slot_list_append PySem.F.type_list_append mt_append p2 (pa_cons p1 pa_nil hs) hbase hfew hline hs hplain) hsw, as_app d2 d1⟩
theorem zs_putD (hr : Room k X.A) (ho : ZE X T W a fa) (hi : ZE X T W b fb) (hv : ZE X T W c fc) (hs : swapsWith c (some (.Subscript a b pos')) pos.line X.env = pure false := by rfl) : ZS X T W (.Assign [.Subscript a b pos'] c pos) (zPutD fa fb fc) :=
  let ⟨_, p1, d1⟩ := ho.ex; let ⟨_, p2, d2⟩ := hi.ex; let ⟨_, p3, d3⟩ := hv.ex; ⟨_, ps_dput (hu_of hr) p1 p2 p3 hs, as_putD d1 d2 d3⟩
theorem zs_putL (ho : ZE X T W a fa) (hi : ZE X T W b fb) (hv : ZE X T W c fc)
    (hst : ∀ v, assign (.Subscript a b pos') X.env v = (do
      let ov ← holding [v] (eval a X.env)
      let iv ← holding [v, ov] (eval b X.env)
      standAt pos'
      holding [v, ov, iv] (setItem ov iv v)
      release [v, ov, iv] []) := by intro _; rfl)
    (hs : swapsWithSole [.Subscript a b pos'] c pos.line X.env = pure false := by rfl) (hw : swappedStores [.Subscript a b pos'] c X.env = pure none := by rfl)
    (h3 : (assignEach [.Subscript a b pos'] X.env).map (·.2) = [assign (.Subscript a b pos') X.env] := by rfl) : ZS X T W (.Assign [.Subscript a b pos'] c pos) (zPutL fa fb fc) :=
  let ⟨_, p1, d1⟩ := ho.ex; let ⟨_, p2, d2⟩ := hi.ex; let ⟨_, p3, d3⟩ := hv.ex; ⟨_, ps_asg p3 (pg_sub p1 p2 set_list hst) hs hw h3, as_putL d1 d2 d3⟩
end
section
variable {X : Cx} {T : Tb} {W : WX} {tg iter elt : Expr} {ifs : List Expr} {scope : Scope} {own : List (Str × Nat)} {fi : Rho → Option (List D)} {h : D → Rho → Option Rho} {ft : Rho → Option Bool} {fe : Rho → Option D} {ts vs : List Nat} {pos spos py : Pos}
theorem zs_setLc (i : Nat) {y : Str} (hc : X.calm = true) (hN : X.N.Nodup) (hy : X.N[i]? = some y) (hyl : X.env.scope.names.lookup y = some .local)
    (hsw : swapsWith (.ListComp elt [⟨tg, iter, ifs, 0⟩] scope pos) (some (.Name y py)) spos.line X.env = pure true) (ok : BlkOk X.N X.env.scope scope own) {wb : Bool} (hi : YI X tg iter fi wb)
    (hg : ∀ (s : Shared) (H : Hp) (C : Addr) (cl : List (Str × Addr)) (fp : List Addr), YG (X.blk s H scope (compEnvC scope cl C X.env) fp) tg ts h wb) (hsub : ∀ j ∈ ts, j ∈ vs)
    (ht : ∀ (s : Shared) (H : Hp) (C : Addr) (cl : List (Str × Addr)) (fp : List Addr), YTs (X.blk s H scope (compEnvC scope cl C X.env) fp) ifs ft)
    (he : ∀ (s : Shared) (H : Hp) (C : Addr) (cl : List (Str × Addr)) (fp : List Addr), YE (X.blk s H scope (compEnvC scope cl C X.env) fp) elt fe) (hs : ∀ x, foldedSetIterable iter X.env x = pure x := by intro _; rfl) (hv : own.map (·.2) = vs := by rfl) :
    ZS X T W (.Assign [.Name y py] (.ListComp elt [⟨tg, iter, ifs, 0⟩] scope pos) spos) (zSet i (lE (fOfF (gLc fi h ft fe vs)))) := by
  subst hv
  obtain ⟨wi, pi, di⟩ := hi.ex
  exact ⟨_, L2.ps_setLc hc hN hy hyl hsw pi ok (fun s H C cl fp => (hg s H C cl fp).pe) (fun s H C cl fp => (ht s H C cl fp).pe) (fun s H C cl fp => (he s H C cl fp).pe) hs, as_set i (ae_lift (de_f (df_lc di dg_tP hsub dt_tP de_tP)))⟩
theorem zs_setOwnLc (i : Nat) {y : Str} (hc : X.calm = true) (hN : X.N.Nodup) (hy : X.N[i]? = some y) (hyl : X.env.scope.names.lookup y = some .local)
    (hsw : swapsWith (.ListComp elt [⟨tg, iter, ifs, 0⟩] scope pos) (some (.Name y py)) spos.line X.env = pure true) (ok : BlkOk X.N X.env.scope scope own) {wb : Bool} (hi : YI X tg iter fi wb)
    (hg : ∀ (s : Shared) (H : Hp) (C : Addr) (cl : List (Str × Addr)) (fp : List Addr), YG (X.blk s H scope (compEnvC scope cl C X.env) fp) tg ts h wb) (hsub : ∀ j ∈ ts, j ∈ vs)
    (ht : ∀ (s : Shared) (H : Hp) (C : Addr) (cl : List (Str × Addr)) (fp : List Addr), YTs (X.blk s H scope (compEnvC scope cl C X.env) fp) ifs ft)
    (he : ∀ (s : Shared) (H : Hp) (C : Addr) (cl : List (Str × Addr)) (fp : List Addr), YE (X.blk s H scope (compEnvC scope cl C X.env) fp) elt fe) (hs : ∀ x, foldedSetIterable iter X.env x = pure x := by intro _; rfl) (hv : own.map (·.2) = vs := by rfl) :
    ZS X T W (.Assign [.Name y py] (.ListComp elt [⟨tg, iter, ifs, 0⟩] scope pos) spos) (zSet i (aOwn (gLc fi h ft fe vs))) := by
  subst hv
  obtain ⟨wi, pi, di⟩ := hi.ex
  exact ⟨_, L2.ps_setLc hc hN hy hyl hsw pi ok (fun s H C cl fp => (hg s H C cl fp).pe) (fun s H C cl fp => (ht s H C cl fp).pe) (fun s H C cl fp => (he s H C cl fp).pe) hs, as_set i (ae_own (df_lc di dg_tP hsub dt_tP de_tP))⟩
end
section
variable {P : Program} {w : World} {K : PySem.W.Frag} {mg : Str → Option Value} {base : Heap}
theorem fnA_ok {T : Tb} {x : Str} {st : Stmt} {f : Addr} {fd : FuncData} {N ps : List Str} {m k : Nat} {g : Ro → Mu → Option OutA} (Fd : FnP K x st f fd) (S : FnScope N ps (defScope st)) (hm : ps.length = m)
    (hb : ∀ (cdv : Value) (A : Around) (outer : List Env) (s : Shared) (H : Hp) (E : XK), Room k (A.deeper (envOfC x (defScope st) s.heap.objs.size f cdv)) →
      ZB (cxOf (L2.CX P w) P w K mg base N x (defScope st) f cdv A outer s H E) T (fun c d _ H => E c d H) (defBody st) g) : FnOk P w K mg base (L2.CX P w) (k + 1) f fd ps (spA K mg T m (runA N.length g)) := by
  refine Fd.ok S (fun vs H Q E h => (spA_len h).trans hm.symm) (fun cdv A outer s H vs Q E hr h => ?_)
  obtain ⟨t, p, d⟩ := (hb cdv A outer s H E hr).ex
  exact ⟨t, p, spA_body d h⟩
theorem fnA_mk {T : Tb} {x : Str} {st : Stmt} {f : Addr} {fd : FuncData} {N ps : List Str} {m k : Nat} {g : Ro → Mu → Option OutA} (Fd : FnP K x st f fd) (S : FnScope N ps (defScope st)) (hm : ps.length = m) (gx : mg x = some (.ref f))
    (hbind : ∀ (kV doc pm : Value) (an : Option Addr) (cdv ct : Value) (us : List Value), us.length = ps.length → bindArgs (PySem.W.fnOf x x (defArgs st) (defBody st) (defScope st) .none kV doc pm an cdv ct) ⟨us, []⟩ = pure (ps.zip us))
    (hb : ∀ (cdv : Value) (A : Around) (outer : List Env) (s : Shared) (H : Hp) (E : XK), Room k (A.deeper (envOfC x (defScope st) s.heap.objs.size f cdv)) →
      ZB (cxOf (L2.CX P w) P w K mg base N x (defScope st) f cdv A outer s H E) T (fun c d _ H => E c d H) (defBody st) g) : FnA P w K mg base T (k + 1) x m (runA N.length g) :=
  ⟨f, fd, ps, fnA_ok Fd S hm hb, gx, Fd.kp, Fd.bindsN hbind⟩
end
end PV
namespace PV
open PySem PySem.Spec PyProof.Rows L2
def zPar (i j : Nat) (fa : Ro → Mu → Option (RR (List AV))) : Ro → Mu → Option OutA := fun R M => oe R (fa R M) fun as M1 => match as with
  | [x, y] => some (.nx ((R.set i (some x)).set j (some y)) M1)
  | _ => none
theorem as_par {K : PySem.W.Frag} {mg : Str → Option Value} {T : Tb} {W : WX} {i j : Nat} {ta : TA} {fa : Ro → Mu → Option (RR (List AV))} (ha : AA K mg T W ta fa) : AS K mg T W (tPar i j ta) (zPar i j fa) := by
  intro L σ H R M o D s e er q
  rcases oe_some er with ⟨as, M1, e1, er⟩ | ⟨x, M1, e1, rfl⟩
  · refine ha L σ H R M _ _ s e e1 (fun av M' h vs L1 H1 t1 s1 n1 => ?_) (fun x M' h => nomatch h)
    cases h
    split at er
    · cases er
      cases n1 with | cons m1 m2 =>
        cases m2 with | cons m2 m3 =>
          cases m3
          exact ⟨_, _, rfl, q L1 _ H1 t1 s1 (((e.mono t1).set i m1).set j m2)⟩
    · cases er
  · exact ha L σ H R M _ _ s e e1 (fun av M' h => nomatch h) (fun x M' h => by cases h; exact q.erG e)
theorem zs_par {X : Cx} {T : Tb} {W : WX} {a b : Expr} {pos : Pos} (i j : Nat) {x y : Str} {px py pt : Pos} {kt k2 pt2} {fs : Ro → Mu → Option (RR (List AV))} (hc : X.calm = true) (hN : X.N.Nodup) (hi : X.N[i]? = some x) (hj : X.N[j]? = some y) (hij : i ≠ j)
    (hx : X.env.scope.names.lookup x = some .local) (hy : X.env.scope.names.lookup y = some .local) (ha : ZA X T W [a, b] 2 fs)
    (hw : swappedStores [.Tuple [.Name x px, .Name y py] kt pt] (.Tuple [a, b] k2 pt2) X.env = pure (some [x, y]) := by rfl)
    (hs : swapsWithSole [.Tuple [.Name x px, .Name y py] kt pt] (.Tuple [a, b] k2 pt2) pos.line X.env = pure false := by rfl) :
    ZS X T W (.Assign [.Tuple [.Name x px, .Name y py] kt pt] (.Tuple [a, b] k2 pt2) pos) (zPar i j fs) := let ⟨_, p, d⟩ := ha.ex; ⟨_, L2.ps_par hc hN hi hj hij hx hy p hw hs, as_par d⟩
theorem law_endA {K : PySem.W.Frag} {mg : Str → Option Value} {H : Hp} {a : Addr} {ns : List Int} {F : List AV → Mu → Option (RR AV)} (hS : SqL K H a (ns.map V.int)) (h : ∃ M', F [.d (.list (ns.map .int))] [] = some (.ok (.d (.bool true)) M')) : spA K mg [] 1 F [.ref a] H (fun v _ => v = .bl true) (fun _ _ _ => False) := by
  obtain ⟨M', h⟩ := h
  have e : hd (hidA [] []) H = H := by
    funext b
    exact hd_of fun z => z.elim (fun z => nomatch z) fun ⟨q, z⟩ => nomatch z
  refine ⟨[], [], [.d (.list (ns.map .int))], _, rfl, ⟨rfl, List.nodup_nil, (fun _ z => nomatch z), (fun n a o e1 e2 => by simp at e1), (fun n a e1 => by simp at e1), (fun _ z => nomatch z), (fun _ z => nomatch z)⟩, .cons (.d (by rw [e]; exact .lst hS (dn_ints ns))) .nil, h, fun av M2 h2 v L' H' _ _ n => ?_, fun x M2 h2 => nomatch h2⟩
  cases h2
  cases n.dn
  rfl
/-- what a law's own exceptions are: of any world -/
def CXw (P : Program) : CXT := fun outer H s E u s' => ∃ w, L2.CX P w outer H s E u s'
theorem fnOk_w {P : Program} {w : World} {K : PySem.W.Frag} {mg : Str → Option Value} {base : Heap} {k : Nat} {f : Addr} {fd : FuncData} {ps : List Str} {sp : Sp} (F : FnOk P w K mg base (L2.CX P w) k f fd ps sp) : FnOk P w K mg base (CXw P) k f fd ps sp := by
  refine ⟨F.len, fun A outer s H args us vs Q E hr he hb hv hs => codeAny_mono (F.run A outer s H args us vs Q E hr he hb hv hs) fun r s' h => ?_⟩
  cases r with
  | error e => exact ⟨w, h⟩
  | ok fl => cases fl <;> exact h
theorem cxw_end {P : Program} (H : Hp) (s : Shared) (e : Value) (s' : Shared) (h : CXw P [] H s (fun _ _ _ => False) e s') : False := by
  obtain ⟨w, _, _, _, _, _, _, _, _, _, _, _, _, z⟩ := h
  exact z
end PV
namespace WS
open PySem PySem.Spec PyProof.Rows L2 PV
def S_law_cell_at_0 : Rho → Option Out := (sIf (tB1 (f2 vLt (fVar 1) (fn bLen (aCons (fVar 0) aNil)))) (sRet (f2 vIx (fVar 0) (fVar 1))) sNext)
def S_law_cell_at_1 : Rho → Option Out := (sRet (fC (.int 0)))
def G_law_cell_at : Rho → Option Out := (sSeq S_law_cell_at_0 S_law_cell_at_1)
def F_law_cell_at : List D → Option D := runF 2 G_law_cell_at
def S_law_mixed_0 : Rho → Option Out := (sSetG (f2 vMod (f2 vMul (f2 vAdd (f2 vAdd (fn F_law_cell_at (aCons (fVar 0) (aCons (fVar 1) aNil))) (f2 vMul (fC (.int 7919)) (fVar 1))) (fC (.int 1))) (fC (.int 48271))) (fC (.int 2147483647))) (hName 2))
def S_law_mixed_1 : Rho → Option Out := (sRet (f2 vMod (f2 vAdd (f2 vAdd (f2 vMul (fVar 2) (fVar 2)) (f2 vMul (fC (.int 7)) (fVar 2))) (fVar 1)) (fC (.int 2147483629))))
def G_law_mixed : Rho → Option Out := (sSeq S_law_mixed_0 S_law_mixed_1)
def F_law_mixed : List D → Option D := runF 3 G_law_mixed
def S_law_drawn_0 : Rho → Option Out := (sSetG (f2 vMod (f2 vMul (f2 vAdd (f2 vAdd (fVar 0) (f2 vMul (fC (.int 104729)) (fVar 1))) (fC (.int 17))) (fC (.int 69621))) (fC (.int 2147483647))) (hName 2))
def S_law_drawn_1 : Rho → Option Out := (sRet (f2 vMod (f2 vAdd (f2 vAdd (f2 vMul (fVar 2) (fVar 2)) (f2 vMul (fC (.int 3)) (fVar 2))) (fVar 1)) (fC (.int 2147483629))))
def G_law_drawn : Rho → Option Out := (sSeq S_law_drawn_0 S_law_drawn_1)
def F_law_drawn : List D → Option D := runF 3 G_law_drawn
def S_law_marks_0 : Rho → Option Out := (sSetG (fC (.str "")) (hName 2))
def S_law_marks_1 : Rho → Option Out := (sFor (iRg1 (fVar 1)) (hName 3) (sSeq (sSetG (f2 vDiv (fn F_law_drawn (aCons (fVar 0) (aCons (fVar 3) aNil))) (fC (.int 4))) (hName 4))
    (sSetG (f2 vAdd (fVar 2) (f2 vIx (fC (.str "...xxX")) (f2 vMod (fVar 4) (fC (.int 6))))) (hName 2))))
def S_law_marks_2 : Rho → Option Out := (sRet (fVar 2))
def G_law_marks : Rho → Option Out := (sSeq S_law_marks_0 (sSeq S_law_marks_1 S_law_marks_2))
def F_law_marks : List D → Option D := runF 5 G_law_marks
def S_law_pattern_0 : Rho → Option Out := (sSetG (f2 vIx (fTup' (aCons (f2 vAdd (fC (.int 1)) (f2 vMod (f2 vDiv (fVar 0) (fC (.int 8))) (fC (.int 16)))) (aCons (fC (.int 4)) (aCons (fC (.int 8)) (aCons (f2 vAdd (fC (.int 1)) (f2 vMod (f2 vDiv (fVar 0) (fC (.int 8))) (fC (.int 6)))) aNil))))) (f2 vMod (fVar 0) (fC (.int 4)))) (hName 1))
def S_law_pattern_1 : Rho → Option Out := (sSetG (f2 vAdd (fC (.int 1)) (f2 vMod (f2 vDiv (fVar 0) (fC (.int 128))) (fC (.int 4)))) (hName 2))
def S_law_pattern_2 : Rho → Option Out := (sSetG (fTup' aNil) (hName 3))
def S_law_pattern_3 : Rho → Option Out := (sFor (iEnum1 (fTup' (aCons (fC (.str "a")) (aCons (fC (.str "h")) (aCons (fC (.str "k")) (aCons (fC (.str "s")) (aCons (fC (.str "z")) aNil))))))) (hTup 2 (hCons (hName 4) (hCons (hName 5) hNil))) (sSeq (sSetG (f2 vDiv (fn F_law_drawn (aCons (fVar 0) (aCons (f2 vAdd (fC (.int 30)) (fVar 4)) aNil))) (fC (.int 4))) (hName 6))
    (sIf (tB1 (f2 vLt (f2 vMod (fVar 6) (fC (.int 5))) (f2 vAdd (fC (.int 1)) (f2 vMod (f2 vDiv (fVar 0) (fC (.int 512))) (fC (.int 4)))))) (sSetG (f2 vAdd (fVar 3) (fTup' (aCons (fTup' (aCons (fVar 5) (aCons (fn F_law_marks (aCons (f2 vDiv (fVar 6) (fC (.int 8))) (aCons (fVar 1) aNil))) aNil))) aNil))) (hName 3)) sNext)))
def S_law_pattern_4 : Rho → Option Out := (sRet (fTup' (aCons (fVar 1) (aCons (fVar 2) (aCons (fVar 3) aNil)))))
def G_law_pattern : Rho → Option Out := (sSeq S_law_pattern_0 (sSeq S_law_pattern_1 (sSeq S_law_pattern_2 (sSeq S_law_pattern_3 S_law_pattern_4))))
def F_law_pattern : List D → Option D := runF 7 G_law_pattern
def S_law_book_0 : Rho → Option Out := (sSetG (f2 vIx (fTup' (aCons (fTup' (aCons (fC (.int 1)) (aCons (fC (.int 2)) aNil))) (aCons (fTup' (aCons (fC (.int 3)) (aCons (fC (.int 5)) aNil))) (aCons (fTup' (aCons (fC (.int 2)) (aCons (fC (.int 3)) aNil))) (aCons (fTup' (aCons (fC (.int 3)) (aCons (fC (.int 4)) aNil))) (aCons (fTup' (aCons (fC (.int 5)) (aCons (fC (.int 8)) aNil))) (aCons (fTup' (aCons (fC (.int 7)) (aCons (fC (.int 12)) aNil))) aNil))))))) (f2 vMod (fVar 0) (fC (.int 6)))) (hName 1))
def S_law_book_1 : Rho → Option Out := (sSetG (fOfF (gLc (iEnum1 (fTup' (aCons (fC (.str "a")) (aCons (fC (.str "b")) (aCons (fC (.str "bb")) (aCons (fC (.str "fill")) (aCons (fC (.str "q")) aNil))))))) (hTup 2 (hCons (hName 3) (hCons (hName 4) hNil))) (tB1 (f2 vEq (f2 vMod (f2 vDiv (fVar 0) (f2 vIx (fTup' (aCons (fC (.int 8)) (aCons (fC (.int 16)) (aCons (fC (.int 32)) (aCons (fC (.int 64)) (aCons (fC (.int 128)) aNil)))))) (fVar 3))) (fC (.int 2))) (fC (.int 1)))) (fVar 4) [3, 4])) (hName 2))
def S_law_book_2 : Rho → Option Out := (sSetG (fTup' aNil) (hName 5))
def S_law_book_3 : Rho → Option Out := (sFor (iEnum1 (f2 vAdd (fVar 2) (fOfF (gLst' (aCons (fC (.str "z")) aNil))))) (hTup 2 (hCons (hName 3) (hCons (hName 4) hNil))) (sSetG (f2 vAdd (fVar 5) (fTup' (aCons (fTup' (aCons (fVar 4) (aCons (fn F_law_pattern (aCons (f2 vDiv (fn F_law_drawn (aCons (fVar 0) (aCons (f2 vAdd (fC (.int 60)) (fVar 3)) aNil))) (fC (.int 4))) aNil)) aNil))) aNil))) (hName 5)))
def S_law_book_4 : Rho → Option Out := (sRet (fTup' (aCons (fVar 1) (aCons (fVar 5) aNil))))
def G_law_book : Rho → Option Out := (sSeq S_law_book_0 (sSeq S_law_book_1 (sSeq S_law_book_2 (sSeq S_law_book_3 S_law_book_4))))
def F_law_book : List D → Option D := runF 6 G_law_book
def S_law_chain_0 : Rho → Option Out := (sSetG (fTup' aNil) (hName 2))
def S_law_chain_1 : Rho → Option Out := (sFor (iRg1 (f2 vAdd (fC (.int 1)) (f2 vMod (fVar 1) (fC (.int 4))))) (hName 3) (sSeq (sSetG (f2 vDiv (fn F_law_drawn (aCons (fVar 1) (aCons (f2 vAdd (fC (.int 80)) (fVar 3)) aNil))) (fC (.int 4))) (hName 4))
    (sSeq (sSetG (f2 vIx (f2 vIx (f2 vIx (fVar 0) (fC (.int 1))) (f2 vMod (fVar 4) (fn bLen (aCons (f2 vIx (fVar 0) (fC (.int 1))) aNil)))) (fC (.int 0))) (hName 5))
    (sSetG (f2 vAdd (fVar 2) (fTup' (aCons (fTup' (aCons (fVar 5) (aCons (f2 vAdd (fC (.int 1)) (f2 vMod (f2 vDiv (fVar 4) (fC (.int 8))) (f2 vIx (fTup' (aCons (fC (.int 1)) (aCons (fC (.int 3)) (aCons (fC (.int 9)) aNil)))) (f2 vMod (f2 vDiv (fVar 4) (fC (.int 256))) (fC (.int 3)))))) aNil))) aNil))) (hName 2)))))
def S_law_chain_2 : Rho → Option Out := (sRet (fVar 2))
def G_law_chain : Rho → Option Out := (sSeq S_law_chain_0 (sSeq S_law_chain_1 S_law_chain_2))
def F_law_chain : List D → Option D := runF 6 G_law_chain
def S_divisor_0 : Rho → Option Out := (sWhile fuel (tB1 (f2 vNe (fVar 1) (fC (.int 0)))) (sPar 0 1 (aCons (fVar 1) (aCons (f2 vMod (fVar 0) (fVar 1)) aNil))))
def S_divisor_1 : Rho → Option Out := (sRet (fVar 0))
def G_divisor : Rho → Option Out := (sSeq S_divisor_0 S_divisor_1)
def F_divisor : List D → Option D := runF 2 G_divisor
def G_is_less : Rho → Option Out := (sRet (f2 vLt (f2 vMul (f2 vIx (fVar 0) (fC (.int 0))) (f2 vIx (fVar 1) (fC (.int 1)))) (f2 vMul (f2 vIx (fVar 1) (fC (.int 0))) (f2 vIx (fVar 0) (fC (.int 1))))))
def F_is_less : List D → Option D := runF 2 G_is_less
def S_is_swing_0 : Rho → Option Out := (sIf (tOr1 (tNot1 (tB1 (f1 (vIsi "tuple") (fVar 0)))) (tB1 (f2 vNe (fn bLen (aCons (fVar 0) aNil)) (fC (.int 2))))) (sRet (fC (.bool false))) sNext)
def S_is_swing_1 : Rho → Option Out := (sIf (tNot1 (tB1 (fn bAll (aCons (fOfF (gLc (iF (fVar 0)) (hName 1) tYesF (fAnd (f1 (vIsi "int") (fVar 1)) (fAnd (fNot (f1 (vIsi "bool") (fVar 1))) (f2 vGt (fVar 1) (fC (.int 0))))) [1])) aNil)))) (sRet (fC (.bool false))) sNext)
def S_is_swing_2 : Rho → Option Out := (sIf (tB1 (f2 vNe (fn F_divisor (aCons (f2 vIx (fVar 0) (fC (.int 0))) (aCons (f2 vIx (fVar 0) (fC (.int 1))) aNil))) (fC (.int 1)))) (sRet (fC (.bool false))) sNext)
def S_is_swing_3 : Rho → Option Out := (sRet (fAnd (fNot (fn F_is_less (aCons (fVar 0) (aCons (fC (.tuple [.int 1, .int 2])) aNil)))) (fNot (fn F_is_less (aCons (fC (.tuple [.int 3, .int 4])) (aCons (fVar 0) aNil))))))
def G_is_swing : Rho → Option Out := (sSeq S_is_swing_0 (sSeq S_is_swing_1 (sSeq S_is_swing_2 S_is_swing_3)))
def F_is_swing : List D → Option D := runF 2 G_is_swing
def G_is_name : Rho → Option Out := (sRet (fAnd (f1 (vIsi "str") (fVar 0)) (fAnd (fChain vLe vLe (fC (.int 1)) (fn bLen (aCons (fVar 0) aNil)) (fC (.int 4))) (fn bAll (aCons (fOfF (gLc (iF (fVar 0)) (hName 1) tYesF (f2 vIn (fVar 1) (fC (.str "abcdefghijklmnopqrstuvwxyz"))) [1])) aNil)))))
def F_is_name : List D → Option D := runF 2 G_is_name
def G_is_whole : Rho → Option Out := (sRet (fAnd (f1 (vIsi "int") (fVar 0)) (fAnd (fNot (f1 (vIsi "bool") (fVar 0))) (fChain vLe vLe (fVar 1) (fVar 0) (fVar 2)))))
def F_is_whole : List D → Option D := runF 3 G_is_whole
def S_is_row_0 : Rho → Option Out := (sIf (tOr1 (tNot1 (tB1 (f1 (vIsi "str") (fVar 0)))) (tNot1 (tB1 (fChain vLe vLe (fC (.int 1)) (fn bLen (aCons (fVar 0) aNil)) (fC (.int 16)))))) (sRet (fC (.bool false))) sNext)
def S_is_row_1 : Rho → Option Out := (sRet (fn bAll (aCons (fOfF (gLc (iF (fVar 0)) (hName 1) tYesF (f2 vIn (fVar 1) (fC (.str ".xX"))) [1])) aNil)))
def G_is_row : Rho → Option Out := (sSeq S_is_row_0 S_is_row_1)
def F_is_row : List D → Option D := runF 2 G_is_row
def S_is_pad_0 : Rho → Option Out := (sIf (tOr1 (tNot1 (tB1 (f1 (vIsi "tuple") (fVar 0)))) (tOr1 (tB1 (f2 vNe (fn bLen (aCons (fVar 0) aNil)) (fC (.int 2)))) (tOr1 (tNot1 (tB1 (f1 (vIsi "str") (f2 vIx (fVar 0) (fC (.int 0)))))) (tB1 (f2 vNe (fn bLen (aCons (f2 vIx (fVar 0) (fC (.int 0))) aNil)) (fC (.int 1))))))) (sRet (fC (.bool false))) sNext)
def S_is_pad_1 : Rho → Option Out := (sRet (fAnd (f2 vIn (f2 vIx (fVar 0) (fC (.int 0))) (fC (.str "abcdefghijklmnopqrstuvwxyz"))) (fAnd (fn F_is_row (aCons (f2 vIx (fVar 0) (fC (.int 1))) aNil)) (f2 vEq (fn bLen (aCons (f2 vIx (fVar 0) (fC (.int 1))) aNil)) (fVar 1)))))
def G_is_pad : Rho → Option Out := (sSeq S_is_pad_0 S_is_pad_1)
def F_is_pad : List D → Option D := runF 2 G_is_pad
def G_rises : Rho → Option Out := (sRet (fn bAll (aCons (fOfF (gLc (iZip2 (fSl (fVar 0) pNo (pSome (f1 vNeg (fC (.int 1))))) (fSl (fVar 0) (pSome (fC (.int 1))) pNo)) (hTup 2 (hCons (hName 1) (hCons (hName 2) hNil))) tYesF (f2 vLt (fVar 1) (fVar 2)) [1, 2])) aNil)))
def F_rises : List D → Option D := runF 3 G_rises
def S_is_pattern_0 : Rho → Option Out := (sIf (tOr1 (tNot1 (tB1 (f1 (vIsi "tuple") (fVar 0)))) (tOr1 (tB1 (f2 vNe (fn bLen (aCons (fVar 0) aNil)) (fC (.int 3)))) (tNot1 (tB1 (fn F_is_whole (aCons (f2 vIx (fVar 0) (fC (.int 0))) (aCons (fC (.int 1)) (aCons (fC (.int 16)) aNil)))))))) (sRet (fC (.bool false))) sNext)
def S_is_pattern_1 : Rho → Option Out := (sIf (tOr1 (tNot1 (tB1 (fn F_is_whole (aCons (f2 vIx (fVar 0) (fC (.int 1))) (aCons (fC (.int 1)) (aCons (fC (.int 4)) aNil)))))) (tOr1 (tNot1 (tB1 (f1 (vIsi "tuple") (f2 vIx (fVar 0) (fC (.int 2)))))) (tB1 (f2 vGt (fn bLen (aCons (f2 vIx (fVar 0) (fC (.int 2))) aNil)) (fC (.int 5)))))) (sRet (fC (.bool false))) sNext)
def S_is_pattern_2 : Rho → Option Out := (sRet (fAnd (fn bAll (aCons (fOfF (gLc (iF (f2 vIx (fVar 0) (fC (.int 2)))) (hName 1) tYesF (fn F_is_pad (aCons (fVar 1) (aCons (f2 vIx (fVar 0) (fC (.int 0))) aNil))) [1])) aNil)) (fn F_rises (aCons (fOfF (gLc (iF (f2 vIx (fVar 0) (fC (.int 2)))) (hName 1) tYesF (f2 vIx (fVar 1) (fC (.int 0))) [1])) aNil))))
def G_is_pattern : Rho → Option Out := (sSeq S_is_pattern_0 (sSeq S_is_pattern_1 S_is_pattern_2))
def F_is_pattern : List D → Option D := runF 2 G_is_pattern
def S_is_book_0 : Rho → Option Out := (sIf (tOr1 (tNot1 (tB1 (f1 (vIsi "tuple") (fVar 0)))) (tOr1 (tB1 (f2 vNe (fn bLen (aCons (fVar 0) aNil)) (fC (.int 2)))) (tNot1 (tB1 (fn F_is_swing (aCons (f2 vIx (fVar 0) (fC (.int 0))) aNil)))))) (sRet (fC (.bool false))) sNext)
def S_is_book_1 : Rho → Option Out := (sIf (tOr1 (tNot1 (tB1 (f1 (vIsi "tuple") (f2 vIx (fVar 0) (fC (.int 1)))))) (tNot1 (tB1 (fChain vLe vLe (fC (.int 1)) (fn bLen (aCons (f2 vIx (fVar 0) (fC (.int 1))) aNil)) (fC (.int 6)))))) (sRet (fC (.bool false))) sNext)
def S_is_book_2 : Rho → Option Out := (sFor (iF (f2 vIx (fVar 0) (fC (.int 1)))) (hName 1) (sIf (tOr1 (tNot1 (tB1 (f1 (vIsi "tuple") (fVar 1)))) (tOr1 (tB1 (f2 vNe (fn bLen (aCons (fVar 1) aNil)) (fC (.int 2)))) (tOr1 (tNot1 (tB1 (fn F_is_name (aCons (f2 vIx (fVar 1) (fC (.int 0))) aNil)))) (tNot1 (tB1 (fn F_is_pattern (aCons (f2 vIx (fVar 1) (fC (.int 1))) aNil))))))) (sRet (fC (.bool false))) sNext))
def S_is_book_3 : Rho → Option Out := (sRet (fn F_rises (aCons (fOfF (gLc (iF (f2 vIx (fVar 0) (fC (.int 1)))) (hName 1) tYesF (f2 vIx (fVar 1) (fC (.int 0))) [1])) aNil)))
def G_is_book : Rho → Option Out := (sSeq S_is_book_0 (sSeq S_is_book_1 (sSeq S_is_book_2 S_is_book_3)))
def F_is_book : List D → Option D := runF 2 G_is_book
def S_is_chain_0 : Rho → Option Out := (sIf (tOr1 (tNot1 (tB1 (f1 (vIsi "tuple") (fVar 1)))) (tNot1 (tB1 (fChain vLe vLe (fC (.int 1)) (fn bLen (aCons (fVar 1) aNil)) (fC (.int 8)))))) (sRet (fC (.bool false))) sNext)
def S_is_chain_1 : Rho → Option Out := (sFor (iF (fVar 1)) (hName 2) (sSeq (sIf (tOr1 (tNot1 (tB1 (f1 (vIsi "tuple") (fVar 2)))) (tOr1 (tB1 (f2 vNe (fn bLen (aCons (fVar 2) aNil)) (fC (.int 2)))) (tNot1 (tB1 (f1 (vIsi "str") (f2 vIx (fVar 2) (fC (.int 0)))))))) (sRet (fC (.bool false))) sNext)
    (sIf (tOr1 (tB1 (f2 vNotIn (f2 vIx (fVar 2) (fC (.int 0))) (fn bDict (aCons (f2 vIx (fVar 0) (fC (.int 1))) aNil)))) (tNot1 (tB1 (fn F_is_whole (aCons (f2 vIx (fVar 2) (fC (.int 1))) (aCons (fC (.int 1)) (aCons (fC (.int 9)) aNil))))))) (sRet (fC (.bool false))) sNext)))
def S_is_chain_2 : Rho → Option Out := (sRet (fC (.bool true)))
def G_is_chain : Rho → Option Out := (sSeq S_is_chain_0 (sSeq S_is_chain_1 S_is_chain_2))
def F_is_chain : List D → Option D := runF 3 G_is_chain
def S_spread_0 : Rho → Option Out := (sSetG (fOfF (gLc (iRg1 (fVar 0)) (hName 3) tYesF (f2 vDiv (f2 vMul (fVar 3) (fVar 1)) (fVar 0)) [3])) (hName 2))
def S_spread_1 : Rho → Option Out := (sRet (fM mJoin (fC (.str "")) (aCons (fOfF (gLc (iRg1 (fVar 1)) (hName 4) tYesF (f2 vIx (fOfF (gLst' (aCons (fC (.str ".")) (aCons (fC (.str "x")) aNil)))) (fn bInt (aCons (f2 vIn (fVar 4) (fVar 2)) aNil))) [4])) aNil)))
def G_spread : Rho → Option Out := (sSeq S_spread_0 S_spread_1)
def F_spread : List D → Option D := runF 5 G_spread
def G_struck : Rho → Option Out := (sRet (fn bTuple (aCons (fOfF (gLc (iEnum1 (fVar 0)) (hTup 2 (hCons (hName 1) (hCons (hName 2) hNil))) (tB1 (f2 vNe (fVar 2) (fC (.str ".")))) (fVar 1) [1, 2])) aNil)))
def F_struck : List D → Option D := runF 3 G_struck
def S_gaps_0 : Rho → Option Out := (sSetG (fn F_struck (aCons (fVar 0) aNil)) (hName 1))
def S_gaps_1 : Rho → Option Out := (sSetG (fTup' aNil) (hName 2))
def S_gaps_2 : Rho → Option Out := (sFor (iZip2 (fVar 1) (f2 vAdd (fSl (fVar 1) (pSome (fC (.int 1))) pNo) (fSl (fVar 1) pNo (pSome (fC (.int 1)))))) (hTup 2 (hCons (hName 3) (hCons (hName 4) hNil))) (sSeq (sSetG (f2 vMod (f2 vSub (fVar 4) (fVar 3)) (fn bLen (aCons (fVar 0) aNil))) (hName 5))
    (sSeq (sIf (tB1 (f2 vEq (fVar 5) (fC (.int 0)))) (sSetG (fn bLen (aCons (fVar 0) aNil)) (hName 5)) sNext)
    (sSetG (f2 vAdd (fVar 2) (fTup' (aCons (fVar 5) aNil))) (hName 2)))))
def S_gaps_3 : Rho → Option Out := (sRet (fVar 2))
def G_gaps : Rho → Option Out := (sSeq S_gaps_0 (sSeq S_gaps_1 (sSeq S_gaps_2 S_gaps_3)))
def F_gaps : List D → Option D := runF 6 G_gaps
def S_turned_0 : Rho → Option Out := (sSetG (f2 vMod (f2 vSub (fC (.int 0)) (fVar 1)) (fn bLen (aCons (fVar 0) aNil))) (hName 2))
def S_turned_1 : Rho → Option Out := (sRet (f2 vAdd (fSl (fVar 0) (pSome (fVar 2)) pNo) (fSl (fVar 0) pNo (pSome (fVar 2)))))
def G_turned : Rho → Option Out := (sSeq S_turned_0 S_turned_1)
def F_turned : List D → Option D := runF 3 G_turned
def G_least_turn : Rho → Option Out := (sRet (fn bMin2 (aCons (fOfF (gLc (iRg1 (fn bLen (aCons (fVar 0) aNil))) (hName 1) tYesF (fn F_turned (aCons (fVar 0) (aCons (fVar 1) aNil))) [1])) aNil)))
def F_least_turn : List D → Option D := runF 2 G_least_turn
def G_are_turns : Rho → Option Out := (sRet (fAnd (f2 vEq (fn bLen (aCons (fVar 0) aNil)) (fn bLen (aCons (fVar 1) aNil))) (f2 vEq (fn F_least_turn (aCons (fVar 0) aNil)) (fn F_least_turn (aCons (fVar 1) aNil)))))
def F_are_turns : List D → Option D := runF 2 G_are_turns
def S_turns_to_0 : Rho → Option Out := (sIf (tB1 (f2 vNe (fn bLen (aCons (fVar 0) aNil)) (fn bLen (aCons (fVar 1) aNil)))) (sRet (fC .none)) sNext)
def S_turns_to_1 : Rho → Option Out := (sFor (iRg1 (fn bLen (aCons (fVar 0) aNil))) (hName 2) (sIf (tB1 (f2 vEq (fn F_turned (aCons (fVar 0) (aCons (fVar 2) aNil))) (fVar 1))) (sRet (fVar 2)) sNext))
def S_turns_to_2 : Rho → Option Out := (sRet (fC .none))
def G_turns_to : Rho → Option Out := (sSeq S_turns_to_0 (sSeq S_turns_to_1 S_turns_to_2))
def F_turns_to : List D → Option D := runF 3 G_turns_to
def G_laid : Rho → Option Out := (sRet (fM mJoin (fC (.str "")) (aCons (fOfF (gLc (iZip2 (fVar 0) (fVar 1)) (hTup 2 (hCons (hName 2) (hCons (hName 3) hNil))) tYesF (f2 vIx (fC (.str ".xX")) (fn bMax2 (aCons (fM mIndex (fC (.str ".xX")) (aCons (fVar 2) aNil)) (aCons (fM mIndex (fC (.str ".xX")) (aCons (fVar 3) aNil)) aNil)))) [2, 3])) aNil)))
def F_laid : List D → Option D := runF 4 G_laid
def S_law_turns_right_0 : Rho → Option Out := (sSetG (fOfF (gLc (iRg1 (fVar 2)) (hName 4) tYesF (f2 vAdd (fSl (fVar 0) (pSome (fVar 4)) pNo) (fSl (fVar 0) pNo (pSome (fVar 4)))) [4])) (hName 3))
def S_law_turns_right_1 : Rho → Option Out := (sIf (tB1 (f2 vNe (fn F_least_turn (aCons (fVar 0) aNil)) (fn bMin2 (aCons (fVar 3) aNil)))) (sRet (fC (.bool false))) sNext)
def S_law_turns_right_2 : Rho → Option Out := (sSetG (f2 vIn (fVar 1) (fVar 3)) (hName 5))
def S_law_turns_right_3 : Rho → Option Out := (sSetG (fn F_are_turns (aCons (fVar 0) (aCons (fVar 1) aNil))) (hName 6))
def S_law_turns_right_4 : Rho → Option Out := (sIf (tOr1 (tNot1 (tB1 (f1 (vIsi "bool") (fVar 6)))) (tOr1 (tB1 (f2 vNe (fVar 6) (fVar 5))) (tB1 (f2 vIsNot (fn F_are_turns (aCons (fVar 0) (aCons (f2 vAdd (fVar 1) (fC (.str "."))) aNil))) (fC (.bool false)))))) (sRet (fC (.bool false))) sNext)
def S_law_turns_right_5 : Rho → Option Out := (sSetG (fC .none) (hName 7))
def S_law_turns_right_6 : Rho → Option Out := (sIf (tB1 (fVar 5)) (sSetG (f2 vIx (fOfF (gLc (iRg1 (fVar 2)) (hName 4) (tB1 (f2 vEq (f2 vAdd (fSl (fVar 0) (pSome (f2 vSub (fVar 2) (fVar 4))) pNo) (fSl (fVar 0) pNo (pSome (f2 vSub (fVar 2) (fVar 4))))) (fVar 1))) (fVar 4) [4])) (fC (.int 0))) (hName 7)) sNext)
def S_law_turns_right_7 : Rho → Option Out := (sIf (tOr1 (tB1 (f2 vNe (fn F_turns_to (aCons (fVar 0) (aCons (fVar 1) aNil))) (fVar 7))) (tB1 (f2 vIsNot (fn F_turns_to (aCons (fVar 0) (aCons (f2 vAdd (fVar 0) (fC (.str "."))) aNil))) (fC .none)))) (sRet (fC (.bool false))) sNext)
def S_law_turns_right_8 : Rho → Option Out := (sSetG (fOfF (gLc (iZip2 (fVar 0) (fVar 1)) (hTup 2 (hCons (hName 9) (hCons (hName 10) hNil))) tYesF (f2 vSub (fM mIndex (fC (.str ".xX")) (aCons (fVar 9) aNil)) (fM mIndex (fC (.str ".xX")) (aCons (fVar 10) aNil))) [9, 10])) (hName 8))
def S_law_turns_right_9 : Rho → Option Out := (sRet (f2 vEq (fn F_laid (aCons (fVar 0) (aCons (fVar 1) aNil))) (fM mJoin (fC (.str "")) (aCons (fOfF (gLc (iZip3 (fVar 0) (fVar 1) (fVar 8)) (hTup 3 (hCons (hName 9) (hCons (hName 10) (hCons (hName 11) hNil)))) tYesF (f2 vIx (fOfF (gLst' (aCons (fVar 10) (aCons (fVar 9) aNil)))) (fn bInt (aCons (f2 vGt (fVar 11) (fC (.int 0))) aNil))) [9, 10, 11])) aNil))))
def G_law_turns_right : Rho → Option Out := (sSeq S_law_turns_right_0 (sSeq S_law_turns_right_1 (sSeq S_law_turns_right_2 (sSeq S_law_turns_right_3 (sSeq S_law_turns_right_4 (sSeq S_law_turns_right_5 (sSeq S_law_turns_right_6 (sSeq S_law_turns_right_7 (sSeq S_law_turns_right_8 S_law_turns_right_9)))))))))
def F_law_turns_right : List D → Option D := runF 12 G_law_turns_right
def S_law_finer_0 : Rho → Option Out := (sSetG (fVar 0) (hTup 3 (hCons (hName 2) (hCons (hName 3) (hCons (hName 4) hNil)))))
def S_law_finer_1 : Rho → Option Out := (sSetG (f2 vMul (fC (.str ".")) (f2 vSub (fVar 1) (fC (.int 1)))) (hName 5))
def S_law_finer_2 : Rho → Option Out := (sRet (fTup' (aCons (f2 vMul (fVar 2) (fVar 1)) (aCons (f2 vMul (fVar 3) (fVar 1)) (aCons (fn bTuple (aCons (fOfF (gLc (iF (fVar 4)) (hTup 2 (hCons (hName 6) (hCons (hName 7) hNil))) tYesF (fTup' (aCons (fVar 6) (aCons (f2 vAdd (fM mJoin (fVar 5) (aCons (fn bList (aCons (fVar 7) aNil)) aNil)) (fVar 5)) aNil))) [6, 7])) aNil)) aNil)))))
def G_law_finer : Rho → Option Out := (sSeq S_law_finer_0 (sSeq S_law_finer_1 S_law_finer_2))
def F_law_finer : List D → Option D := runF 8 G_law_finer
def S_finer_0 : Rho → Option Out := (sSetG (fVar 0) (hTup 3 (hCons (hName 2) (hCons (hName 3) (hCons (hName 4) hNil)))))
def S_finer_1 : Rho → Option Out := (sSetG (f2 vMul (fC (.str ".")) (f2 vSub (fVar 1) (fC (.int 1)))) (hName 5))
def S_finer_2 : Rho → Option Out := (sSetG (fn bTuple (aCons (fOfF (gLc (iF (fVar 4)) (hTup 2 (hCons (hName 8) (hCons (hName 9) hNil))) tYesF (fTup' (aCons (fVar 8) (aCons (fM mJoin (fC (.str "")) (aCons (fOfF (gLc (iF (fVar 9)) (hName 7) tYesF (f2 vAdd (fVar 7) (fVar 5)) [7])) aNil)) aNil))) [8, 9])) aNil)) (hName 6))
def S_finer_3 : Rho → Option Out := (sRet (fTup' (aCons (f2 vMul (fVar 2) (fVar 1)) (aCons (f2 vMul (fVar 3) (fVar 1)) (aCons (fVar 6) aNil)))))
def G_finer : Rho → Option Out := (sSeq S_finer_0 (sSeq S_finer_1 (sSeq S_finer_2 S_finer_3)))
def F_finer : List D → Option D := runF 10 G_finer
def S_is_finer_0 : Rho → Option Out := (sSetG (fVar 0) (hTup 3 (hCons (hName 2) (hCons (hName 3) (hCons (hName 4) hNil)))))
def S_is_finer_1 : Rho → Option Out := (sIf (tOr1 (tB1 (f2 vNe (f2 vMod (fVar 2) (fVar 1)) (fC (.int 0)))) (tB1 (f2 vNe (f2 vMod (fVar 3) (fVar 1)) (fC (.int 0))))) (sRet (fC (.bool false))) sNext)
def S_is_finer_2 : Rho → Option Out := (sRet (fn bAll (aCons (fOfF (gLc (iF (fVar 4)) (hTup 2 (hCons (hName 7) (hCons (hName 8) hNil))) tYesF (fn bAll (aCons (fOfF (gLc (iEnum1 (fVar 8)) (hTup 2 (hCons (hName 5) (hCons (hName 6) hNil))) (tB1 (f2 vNe (f2 vMod (fVar 5) (fVar 1)) (fC (.int 0)))) (f2 vEq (fVar 6) (fC (.str "."))) [5, 6])) aNil)) [7, 8])) aNil)))
def G_is_finer : Rho → Option Out := (sSeq S_is_finer_0 (sSeq S_is_finer_1 S_is_finer_2))
def F_is_finer : List D → Option D := runF 9 G_is_finer
def S_coarser_0 : Rho → Option Out := (sSetG (fVar 0) (hTup 3 (hCons (hName 1) (hCons (hName 2) (hCons (hName 3) hNil)))))
def S_coarser_1 : Rho → Option Out := (sSetG (fn bMax2 (aCons (fOfF (gLc (iRg2 (fC (.int 1)) (f2 vAdd (fVar 1) (fC (.int 1)))) (hName 4) (tB1 (fn F_is_finer (aCons (fVar 0) (aCons (fVar 4) aNil)))) (fVar 4) [4])) aNil)) (hName 4))
def S_coarser_2 : Rho → Option Out := (sRet (fTup' (aCons (f2 vDiv (fVar 1) (fVar 4)) (aCons (f2 vDiv (fVar 2) (fVar 4)) (aCons (fn bTuple (aCons (fOfF (gLc (iF (fVar 3)) (hTup 2 (hCons (hName 5) (hCons (hName 6) hNil))) tYesF (fTup' (aCons (fVar 5) (aCons (f2 vStep (fVar 6) (fVar 4)) aNil))) [5, 6])) aNil)) aNil)))))
def G_coarser : Rho → Option Out := (sSeq S_coarser_0 (sSeq S_coarser_1 S_coarser_2))
def F_coarser : List D → Option D := runF 7 G_coarser
def S_law_coarser_0 : Rho → Option Out := (sSetG (fVar 0) (hTup 3 (hCons (hName 1) (hCons (hName 2) (hCons (hName 3) hNil)))))
def S_law_coarser_1 : Rho → Option Out := (sFor (iRg3 (fVar 1) (fC (.int 0)) (f1 vNeg (fC (.int 1)))) (hName 4) (sIf (tAnd1 (tB1 (f2 vEq (f2 vMod (fVar 1) (fVar 4)) (fC (.int 0)))) (tB1 (f2 vEq (f2 vMod (fVar 2) (fVar 4)) (fC (.int 0))))) (sSeq (sSetG (fOfF (gLst' aNil)) (hName 5))
    (sSeq (sFor (iF (fVar 3)) (hTup 2 (hCons (hName 6) (hCons (hName 7) hNil))) (sSetG (f2 vAdd (fVar 5) (fOfF (gLc (iRg1 (fVar 1)) (hName 8) (tAnd1 (tB1 (f2 vGt (f2 vMod (fVar 8) (fVar 4)) (fC (.int 0)))) (tB1 (f2 vNe (f2 vIx (fVar 7) (fVar 8)) (fC (.str "."))))) (fVar 8) [8]))) (hName 5)))
    (sIf (tB1 (f2 vEq (fVar 5) (fOfF (gLst' aNil)))) (sRet (fTup' (aCons (f2 vDiv (fVar 1) (fVar 4)) (aCons (f2 vDiv (fVar 2) (fVar 4)) (aCons (fn bTuple (aCons (fOfF (gLc (iF (fVar 3)) (hTup 2 (hCons (hName 6) (hCons (hName 7) hNil))) tYesF (fTup' (aCons (fVar 6) (aCons (f2 vStep (fVar 7) (fVar 4)) aNil))) [6, 7])) aNil)) aNil))))) sNext))) sNext))
def S_law_coarser_2 : Rho → Option Out := (sRet (fVar 0))
def G_law_coarser : Rho → Option Out := (sSeq S_law_coarser_0 (sSeq S_law_coarser_1 S_law_coarser_2))
def F_law_coarser : List D → Option D := runF 9 G_law_coarser
def G_shared_multiple : Rho → Option Out := (sRet (f2 vDiv (f2 vMul (fVar 0) (fVar 1)) (fn F_divisor (aCons (fVar 0) (aCons (fVar 1) aNil)))))
def F_shared_multiple : List D → Option D := runF 2 G_shared_multiple
def S_fitted_0 : Ro → Mu → Option OutA := (zSet 3 (lE (fn F_finer (aCons (fVar 0) (aCons (f2 vDiv (fVar 1) (f2 vIx (fVar 0) (fC (.int 1)))) aNil)))))
def S_fitted_1 : Ro → Mu → Option OutA := (zSet 4 (lE (f2 vDiv (fVar 2) (f2 vIx (fVar 3) (fC (.int 0))))))
def S_fitted_2 : Ro → Mu → Option OutA := (zRet (aDict (bCons (lE (fOfF (gLc (iF (f2 vIx (fVar 3) (fC (.int 2)))) (hTup 2 (hCons (hName 5) (hCons (hName 6) hNil))) tYesF (fTup' (aCons (fVar 5) (aCons (f2 vMul (fVar 6) (fVar 4)) aNil))) [5, 6]))) bNil)))
def G_fitted : Ro → Mu → Option OutA := (zSeq S_fitted_0 (zSeq S_fitted_1 S_fitted_2))
def F_fitted : List AV → Mu → Option (RR AV) := runA 7 G_fitted
def S_together_0 : Ro → Mu → Option OutA := (zSet 2 (lE (fn F_shared_multiple (aCons (f2 vIx (fVar 0) (fC (.int 1))) (aCons (f2 vIx (fVar 1) (fC (.int 1))) aNil)))))
def S_together_1 : Ro → Mu → Option OutA := (zSet 3 (lE (fn F_shared_multiple (aCons (f2 vMul (f2 vIx (fVar 0) (fC (.int 0))) (f2 vDiv (fVar 2) (f2 vIx (fVar 0) (fC (.int 1))))) (aCons (f2 vMul (f2 vIx (fVar 1) (fC (.int 0))) (f2 vDiv (fVar 2) (f2 vIx (fVar 1) (fC (.int 1))))) aNil)))))
def S_together_2 : Ro → Mu → Option OutA := (zSet 4 (aFn F_fitted (bCons (lE (fVar 0)) (bCons (lE (fVar 2)) (bCons (lE (fVar 3)) bNil)))))
def S_together_3 : Ro → Mu → Option OutA := (zFor (iItm (aFn F_fitted (bCons (lE (fVar 1)) (bCons (lE (fVar 2)) (bCons (lE (fVar 3)) bNil))))) (hT 2 (hC (hN 5) (hC (hN 6) hNl))) (zPutD (aVar 4) (lE (fVar 5)) (aN F_laid (bCons (aGet2 (aVar 4) (lE (fVar 5)) (lE (f2 vMul (fC (.str ".")) (fVar 3)))) (bCons (lE (fVar 6)) bNil)))))
def S_together_4 : Ro → Mu → Option OutA := (zFz 3 4 (zRet (lE (fTup' (aCons (fVar 3) (aCons (fVar 2) (aCons (fn bTuple (aCons (f1 vSortIt (fVar 4)) aNil)) aNil)))))))
def G_together : Ro → Mu → Option OutA := (zSeq S_together_0 (zSeq S_together_1 (zSeq S_together_2 (zSeq S_together_3 S_together_4))))
def F_together : List AV → Mu → Option (RR AV) := runA 7 G_together
def S_fraction_0 : Rho → Option Out := (sSetG (fn F_divisor (aCons (fn bAbs (aCons (fVar 0) aNil)) (aCons (fVar 1) aNil))) (hName 2))
def S_fraction_1 : Rho → Option Out := (sRet (fTup' (aCons (f2 vDiv (fVar 0) (fVar 2)) (aCons (f2 vDiv (fVar 1) (fVar 2)) aNil))))
def G_fraction : Rho → Option Out := (sSeq S_fraction_0 S_fraction_1)
def F_fraction : List D → Option D := runF 3 G_fraction
def G_beats : Rho → Option Out := (sRet (fn F_fraction (aCons (f2 vIx (fVar 0) (fC (.int 0))) (aCons (f2 vIx (fVar 0) (fC (.int 1))) aNil))))
def F_beats : List D → Option D := runF 1 G_beats
def S_loudness_0 : Rho → Option Out := (sSetG (fM mJoin (fC (.str "")) (aCons (fOfF (gLc (iF (f2 vIx (fVar 0) (fC (.int 2)))) (hTup 2 (hCons (hName 2) (hCons (hName 3) hNil))) tYesF (fVar 3) [2, 3])) aNil)) (hName 1))
def S_loudness_1 : Rho → Option Out := (sSetG (fM mCount (fVar 1) (aCons (fC (.str "x")) aNil)) (hName 4))
def S_loudness_2 : Rho → Option Out := (sRet (fTup' (aCons (fVar 4) (aCons (f2 vSub (f2 vSub (fn bLen (aCons (fVar 1) aNil)) (fVar 4)) (fM mCount (fVar 1) (aCons (fC (.str ".")) aNil))) aNil))))
def G_loudness : Rho → Option Out := (sSeq S_loudness_0 (sSeq S_loudness_1 S_loudness_2))
def F_loudness : List D → Option D := runF 5 G_loudness
def G_times : Rho → Option Out := (sRet (fn F_fraction (aCons (f2 vMul (fVar 0) (f2 vIx (fVar 1) (fC (.int 0)))) (aCons (f2 vIx (fVar 1) (fC (.int 1))) aNil))))
def F_times : List D → Option D := runF 2 G_times
def G_added : Rho → Option Out := (sRet (fn F_fraction (aCons (f2 vAdd (f2 vMul (f2 vIx (fVar 0) (fC (.int 0))) (f2 vIx (fVar 1) (fC (.int 1)))) (f2 vMul (f2 vIx (fVar 1) (fC (.int 0))) (f2 vIx (fVar 0) (fC (.int 1))))) (aCons (f2 vMul (f2 vIx (fVar 0) (fC (.int 1))) (f2 vIx (fVar 1) (fC (.int 1)))) aNil))))
def F_added : List D → Option D := runF 2 G_added
def S_step_time_0 : Rho → Option Out := (sSetG (fSl (fVar 1) pNo (pSome (fC (.int 2)))) (hTup 2 (hCons (hName 3) (hCons (hName 4) hNil))))
def S_step_time_1 : Rho → Option Out := (sSetG (fn F_times (aCons (f2 vDiv (fVar 2) (fVar 3)) (aCons (fn F_beats (aCons (fVar 1) aNil)) aNil))) (hName 5))
def S_step_time_2 : Rho → Option Out := (sSetG (f2 vMod (fVar 2) (fVar 3)) (hName 2))
def S_step_time_3 : Rho → Option Out := (sSetG (fn F_added (aCons (fVar 5) (aCons (fn F_fraction (aCons (f2 vSub (fVar 2) (f2 vMod (fVar 2) (fC (.int 2)))) (aCons (fVar 4) aNil))) aNil))) (hName 5))
def S_step_time_4 : Rho → Option Out := (sIf (tB1 (f2 vEq (f2 vMod (fVar 2) (fC (.int 2))) (fC (.int 1)))) (sSetG (fn F_added (aCons (fVar 5) (aCons (fn F_fraction (aCons (f2 vMul (fC (.int 2)) (f2 vIx (fVar 0) (fC (.int 0)))) (aCons (f2 vMul (f2 vIx (fVar 0) (fC (.int 1))) (fVar 4)) aNil))) aNil))) (hName 5)) sNext)
def S_step_time_5 : Rho → Option Out := (sRet (fVar 5))
def G_step_time : Rho → Option Out := (sSeq S_step_time_0 (sSeq S_step_time_1 (sSeq S_step_time_2 (sSeq S_step_time_3 (sSeq S_step_time_4 S_step_time_5)))))
def F_step_time : List D → Option D := runF 6 G_step_time
def S_strikes_of_0 : Rho → Option Out := (sSetOwn 2 (gLst' aNil))
def S_strikes_of_1 : Rho → Option Out := (sFor (iRg1 (f2 vIx (fVar 1) (fC (.int 0)))) (hName 3) (sSeq (sSetG (fn F_step_time (aCons (fVar 0) (aCons (fVar 1) (aCons (fVar 3) aNil)))) (hName 4))
    (sFor (iF (f2 vIx (fVar 1) (fC (.int 2)))) (hTup 2 (hCons (hName 5) (hCons (hName 6) hNil))) (sIf (tB1 (f2 vNe (f2 vIx (fVar 6) (fVar 3)) (fC (.str ".")))) (sAppend 2 (fTup' (aCons (fVar 4) (aCons (fVar 5) (aCons (f2 vEq (f2 vIx (fVar 6) (fVar 3)) (fC (.str "X"))) aNil))))) sNext))))
def S_strikes_of_2 : Rho → Option Out := (sFrz [2] (sRet (fn bTuple (aCons (fVar 2) aNil))))
def G_strikes_of : Rho → Option Out := (sSeq S_strikes_of_0 (sSeq S_strikes_of_1 S_strikes_of_2))
def F_strikes_of : List D → Option D := runF 7 G_strikes_of
def S_pattern_of_0 : Rho → Option Out := (sSetG (fn bDict (aCons (f2 vIx (fVar 0) (fC (.int 1))) aNil)) (hName 2))
def S_pattern_of_1 : Rho → Option Out := (sIf (tB1 (f2 vNotIn (fVar 1) (fVar 2))) sNever sNext)
def S_pattern_of_2 : Rho → Option Out := (sRet (f2 vIx (fVar 2) (fVar 1)))
def G_pattern_of : Rho → Option Out := (sSeq S_pattern_of_0 (sSeq S_pattern_of_1 S_pattern_of_2))
def F_pattern_of : List D → Option D := runF 3 G_pattern_of
def G_strikes : Rho → Option Out := (sRet (fn F_strikes_of (aCons (f2 vIx (fVar 0) (fC (.int 0))) (aCons (fn F_pattern_of (aCons (fVar 0) (aCons (fVar 1) aNil))) aNil))))
def F_strikes : List D → Option D := runF 2 G_strikes
def S_law_frac_0 : Rho → Option Out := (sPar 2 3 (aCons (fn bAbs (aCons (fVar 0) aNil)) (aCons (fVar 1) aNil)))
def S_law_frac_1 : Rho → Option Out := (sWhile fuel (tB1 (f2 vNe (fVar 3) (fC (.int 0)))) (sPar 2 3 (aCons (fVar 3) (aCons (f2 vMod (fVar 2) (fVar 3)) aNil))))
def S_law_frac_2 : Rho → Option Out := (sRet (fTup' (aCons (f2 vDiv (fVar 0) (fVar 2)) (aCons (f2 vDiv (fVar 1) (fVar 2)) aNil))))
def G_law_frac : Rho → Option Out := (sSeq S_law_frac_0 (sSeq S_law_frac_1 S_law_frac_2))
def F_law_frac : List D → Option D := runF 4 G_law_frac
def G_law_add : Rho → Option Out := (sRet (fn F_law_frac (aCons (f2 vAdd (f2 vMul (f2 vIx (fVar 0) (fC (.int 0))) (f2 vIx (fVar 1) (fC (.int 1)))) (f2 vMul (f2 vIx (fVar 1) (fC (.int 0))) (f2 vIx (fVar 0) (fC (.int 1))))) (aCons (f2 vMul (f2 vIx (fVar 0) (fC (.int 1))) (f2 vIx (fVar 1) (fC (.int 1)))) aNil))))
def F_law_add : List D → Option D := runF 2 G_law_add
def G_pattern_turned : Rho → Option Out := (sRet (f2 vAdd (fSl (fVar 0) pNo (pSome (fC (.int 2)))) (fTup' (aCons (fn bTuple (aCons (fOfF (gLc (iF (f2 vIx (fVar 0) (fC (.int 2)))) (hTup 2 (hCons (hName 2) (hCons (hName 3) hNil))) tYesF (fTup' (aCons (fVar 2) (aCons (fn F_turned (aCons (fVar 3) (aCons (fVar 1) aNil))) aNil))) [2, 3])) aNil)) aNil))))
def F_pattern_turned : List D → Option D := runF 4 G_pattern_turned
def G_only : Rho → Option Out := (sRet (f2 vAdd (fSl (fVar 0) pNo (pSome (fC (.int 2)))) (fTup' (aCons (fn bTuple (aCons (fOfF (gLc (iF (f2 vIx (fVar 0) (fC (.int 2)))) (hName 2) (tB1 (f2 vIn (f2 vIx (fVar 2) (fC (.int 0))) (fVar 1))) (fVar 2) [2])) aNil)) aNil))))
def F_only : List D → Option D := runF 3 G_only
def S_rounds_0 : Rho → Option Out := (sSetOwn 1 (gLst' aNil))
def S_rounds_1 : Rho → Option Out := (sFor (iF (fVar 0)) (hTup 2 (hCons (hName 2) (hCons (hName 3) hNil))) (sExtend 1 (gRep (fOfF (gLst' (aCons (fVar 2) aNil))) (fVar 3))))
def S_rounds_2 : Rho → Option Out := (sFrz [1] (sRet (fVar 1)))
def G_rounds : Rho → Option Out := (sSeq S_rounds_0 (sSeq S_rounds_1 S_rounds_2))
def F_rounds : List D → Option D := runF 4 G_rounds
def S_length_0 : Rho → Option Out := (sSetG (fTup' (aCons (fC (.int 0)) (aCons (fC (.int 1)) aNil))) (hName 2))
def S_length_1 : Rho → Option Out := (sFor (iF (fn F_rounds (aCons (fVar 1) aNil))) (hName 3) (sSetG (fn F_added (aCons (fVar 2) (aCons (fn F_beats (aCons (fn F_pattern_of (aCons (fVar 0) (aCons (fVar 3) aNil))) aNil)) aNil))) (hName 2)))
def S_length_2 : Rho → Option Out := (sRet (fVar 2))
def G_length : Rho → Option Out := (sSeq S_length_0 (sSeq S_length_1 S_length_2))
def F_length : List D → Option D := runF 4 G_length
def S_law_rounds_0 : Rho → Option Out := (sPar 2 3 (aCons (fn F_beats (aCons (fVar 0) aNil)) (aCons (fn F_beats (aCons (fVar 1) aNil)) aNil)))
def S_law_rounds_1 : Rho → Option Out := (sRet (fn F_law_frac (aCons (f2 vMul (f2 vIx (fVar 2) (fC (.int 0))) (f2 vIx (fVar 3) (fC (.int 1)))) (aCons (f2 vMul (f2 vIx (fVar 2) (fC (.int 1))) (f2 vIx (fVar 3) (fC (.int 0)))) aNil))))
def G_law_rounds : Rho → Option Out := (sSeq S_law_rounds_0 S_law_rounds_1)
def F_law_rounds : List D → Option D := runF 4 G_law_rounds
def S_law_step_0 : Rho → Option Out := (sSetG (fSl (fVar 1) pNo (pSome (fC (.int 2)))) (hTup 2 (hCons (hName 3) (hCons (hName 4) hNil))))
def S_law_step_1 : Rho → Option Out := (sSetG (f2 vDiv (fVar 2) (fVar 3)) (hName 5))
def S_law_step_2 : Rho → Option Out := (sSetG (f2 vMod (fVar 2) (fVar 3)) (hName 6))
def S_law_step_3 : Rho → Option Out := (sSetG (fn F_law_frac (aCons (f2 vSub (f2 vAdd (f2 vMul (fVar 5) (fVar 3)) (fVar 6)) (f2 vMod (fVar 6) (fC (.int 2)))) (aCons (fVar 4) aNil))) (hName 7))
def S_law_step_4 : Rho → Option Out := (sIf (tB1 (f2 vEq (f2 vMod (fVar 6) (fC (.int 2))) (fC (.int 1)))) (sSetG (fn F_law_add (aCons (fVar 7) (aCons (fn F_law_frac (aCons (f2 vMul (fC (.int 2)) (f2 vIx (fVar 0) (fC (.int 0)))) (aCons (f2 vMul (f2 vIx (fVar 0) (fC (.int 1))) (fVar 4)) aNil))) aNil))) (hName 7)) sNext)
def S_law_step_5 : Rho → Option Out := (sRet (fVar 7))
def G_law_step : Rho → Option Out := (sSeq S_law_step_0 (sSeq S_law_step_1 (sSeq S_law_step_2 (sSeq S_law_step_3 (sSeq S_law_step_4 S_law_step_5)))))
def F_law_step : List D → Option D := runF 8 G_law_step
def S_law_strikes_0 : Rho → Option Out := (sSetOwn 3 (gLst' aNil))
def S_law_strikes_1 : Rho → Option Out := (sFor (iRg1 (f2 vIx (fVar 1) (fC (.int 0)))) (hName 4) (sSeq (sSetG (fn F_law_add (aCons (fVar 2) (aCons (fn F_law_step (aCons (fVar 0) (aCons (fVar 1) (aCons (fVar 4) aNil)))) aNil))) (hName 5))
    (sFor (iF (f2 vIx (fVar 1) (fC (.int 2)))) (hTup 2 (hCons (hName 6) (hCons (hName 7) hNil))) (sIf (tB1 (f2 vNe (f2 vIx (fVar 7) (fVar 4)) (fC (.str ".")))) (sAppend 3 (fTup' (aCons (fVar 5) (aCons (fVar 6) (aCons (f2 vEq (f2 vIx (fVar 7) (fVar 4)) (fC (.str "X"))) aNil))))) sNext))))
def S_law_strikes_2 : Rho → Option Out := (sFrz [3] (sRet (fVar 3)))
def G_law_strikes : Rho → Option Out := (sSeq S_law_strikes_0 (sSeq S_law_strikes_1 S_law_strikes_2))
def F_law_strikes : List D → Option D := runF 8 G_law_strikes
def G_law_under : Rho → Option Out := (sRet (f2 vLt (f2 vMul (f2 vIx (fVar 0) (fC (.int 0))) (f2 vIx (fVar 1) (fC (.int 1)))) (f2 vMul (f2 vIx (fVar 1) (fC (.int 0))) (f2 vIx (fVar 0) (fC (.int 1))))))
def F_law_under : List D → Option D := runF 2 G_law_under
def G_moved : Rho → Option Out := (sRet (fn bTuple (aCons (fOfF (gLc (iF (fVar 0)) (hTup 3 (hCons (hName 2) (hCons (hName 3) (hCons (hName 4) hNil)))) tYesF (fTup' (aCons (fn F_added (aCons (fVar 1) (aCons (fVar 2) aNil))) (aCons (fVar 3) (aCons (fVar 4) aNil)))) [2, 3, 4])) aNil)))
def F_moved : List D → Option D := runF 5 G_moved
def S_played_0 : Rho → Option Out := (sSetG (fTup' (aCons (fC (.int 0)) (aCons (fC (.int 1)) aNil))) (hName 2))
def S_played_1 : Rho → Option Out := (sSetG (fTup' aNil) (hName 3))
def S_played_2 : Rho → Option Out := (sFor (iF (fn F_rounds (aCons (fVar 1) aNil))) (hName 4) (sSeq (sSetG (f2 vAdd (fVar 3) (fn F_moved (aCons (fn F_strikes (aCons (fVar 0) (aCons (fVar 4) aNil))) (aCons (fVar 2) aNil)))) (hName 3))
    (sSetG (fn F_added (aCons (fVar 2) (aCons (fn F_beats (aCons (fn F_pattern_of (aCons (fVar 0) (aCons (fVar 4) aNil))) aNil)) aNil))) (hName 2))))
def S_played_3 : Rho → Option Out := (sRet (fVar 3))
def G_played : Rho → Option Out := (sSeq S_played_0 (sSeq S_played_1 (sSeq S_played_2 S_played_3)))
def F_played : List D → Option D := runF 5 G_played
def G_in_ticks : Rho → Option Out := (sRet (fn bTuple (aCons (fOfF (gLc (iF (fVar 0)) (hTup 3 (hCons (hName 2) (hCons (hName 3) (hCons (hName 4) hNil)))) tYesF (fTup' (aCons (f2 vDiv (f2 vAdd (f2 vMul (f2 vMul (fC (.int 2)) (fVar 1)) (f2 vIx (fVar 2) (fC (.int 0)))) (f2 vIx (fVar 2) (fC (.int 1)))) (f2 vMul (fC (.int 2)) (f2 vIx (fVar 2) (fC (.int 1))))) (aCons (fVar 3) (aCons (fVar 4) aNil)))) [2, 3, 4])) aNil)))
def F_in_ticks : List D → Option D := runF 5 G_in_ticks
def G_law_scaled : Rho → Option Out := (sRet (fn F_law_frac (aCons (f2 vMul (f2 vIx (fVar 0) (fC (.int 0))) (fVar 1)) (aCons (f2 vIx (fVar 0) (fC (.int 1))) aNil))))
def F_law_scaled : List D → Option D := runF 2 G_law_scaled
def G_law_later : Rho → Option Out := (sRet (fn bTuple (aCons (fOfF (gLc (iF (fVar 0)) (hTup 3 (hCons (hName 2) (hCons (hName 3) (hCons (hName 4) hNil)))) tYesF (fTup' (aCons (fn F_law_add (aCons (fVar 1) (aCons (fVar 2) aNil))) (aCons (fVar 3) (aCons (fVar 4) aNil)))) [2, 3, 4])) aNil)))
def F_law_later : List D → Option D := runF 5 G_law_later
def S_law_nearest_0 : Rho → Option Out := (sSetG (f2 vIx (fVar 1) (fC (.int 0))) (hName 3))
def S_law_nearest_1 : Rho → Option Out := (sSetG (fn bMax2 (aCons (fC (.int 0)) (aCons (f2 vMul (f2 vSub (f2 vDiv (f2 vDiv (f2 vMul (f2 vIx (fVar 2) (fC (.int 0))) (f2 vIx (fVar 1) (fC (.int 1)))) (f2 vIx (fVar 2) (fC (.int 1)))) (fVar 3)) (fC (.int 1))) (fVar 3)) aNil))) (hName 4))
def S_law_nearest_2 : Rho → Option Out := (sSetG (fC .none) (hName 5))
def S_law_nearest_3 : Rho → Option Out := (sFor (iRg2 (fVar 4) (f2 vAdd (f2 vAdd (fVar 4) (f2 vMul (fC (.int 4)) (fVar 3))) (fC (.int 1)))) (hName 6) (sSeq (sSetG (fn F_law_step (aCons (fVar 0) (aCons (fVar 1) (aCons (fVar 6) aNil)))) (hName 7))
    (sSeq (sSetG (fn F_law_add (aCons (fVar 2) (aCons (fTup' (aCons (f2 vSub (fC (.int 0)) (f2 vIx (fVar 7) (fC (.int 0)))) (aCons (f2 vIx (fVar 7) (fC (.int 1))) aNil))) aNil))) (hName 8))
    (sSeq (sSetG (fTup' (aCons (fn bAbs (aCons (f2 vIx (fVar 8) (fC (.int 0))) aNil)) (aCons (f2 vIx (fVar 8) (fC (.int 1))) aNil))) (hName 9))
    (sIf (tOr1 (tB1 (f2 vIs (fVar 5) (fC .none))) (tB1 (fn F_law_under (aCons (fVar 9) (aCons (f2 vIx (fVar 5) (fC (.int 0))) aNil))))) (sSetG (fTup' (aCons (fVar 9) (aCons (fVar 6) (aCons (fVar 8) aNil)))) (hName 5)) sNext)))))
def S_law_nearest_4 : Rho → Option Out := (sRet (fTup' (aCons (f2 vIx (fVar 5) (fC (.int 1))) (aCons (f2 vIx (fVar 5) (fC (.int 2))) aNil))))
def G_law_nearest : Rho → Option Out := (sSeq S_law_nearest_0 (sSeq S_law_nearest_1 (sSeq S_law_nearest_2 (sSeq S_law_nearest_3 S_law_nearest_4))))
def F_law_nearest : List D → Option D := runF 10 G_law_nearest
def G_whole_part : Rho → Option Out := (sRet (f2 vDiv (f2 vIx (fVar 0) (fC (.int 0))) (f2 vIx (fVar 0) (fC (.int 1)))))
def F_whole_part : List D → Option D := runF 1 G_whole_part
def G_less : Rho → Option Out := (sRet (fn F_added (aCons (fVar 0) (aCons (fTup' (aCons (f2 vSub (fC (.int 0)) (f2 vIx (fVar 1) (fC (.int 0)))) (aCons (f2 vIx (fVar 1) (fC (.int 1))) aNil))) aNil))))
def F_less : List D → Option D := runF 2 G_less
def G_size : Rho → Option Out := (sRet (fTup' (aCons (fn bAbs (aCons (f2 vIx (fVar 0) (fC (.int 0))) aNil)) (aCons (f2 vIx (fVar 0) (fC (.int 1))) aNil))))
def F_size : List D → Option D := runF 1 G_size
def S_nearest_0 : Rho → Option Out := (sSetG (fn F_beats (aCons (fVar 1) aNil)) (hName 3))
def S_nearest_1 : Rho → Option Out := (sSetG (fn F_whole_part (aCons (fTup' (aCons (f2 vMul (f2 vIx (fVar 2) (fC (.int 0))) (f2 vIx (fVar 3) (fC (.int 1)))) (aCons (f2 vMul (f2 vIx (fVar 2) (fC (.int 1))) (f2 vIx (fVar 3) (fC (.int 0)))) aNil))) aNil)) (hName 4))
def S_nearest_2 : Rho → Option Out := (sSetG (fC .none) (hName 5))
def S_nearest_3 : Rho → Option Out := (sFor (iRg2 (f2 vMul (fVar 4) (f2 vIx (fVar 1) (fC (.int 0)))) (f2 vAdd (f2 vMul (f2 vAdd (fVar 4) (fC (.int 1))) (f2 vIx (fVar 1) (fC (.int 0)))) (fC (.int 1)))) (hName 6) (sSeq (sSetG (fn F_less (aCons (fVar 2) (aCons (fn F_step_time (aCons (fVar 0) (aCons (fVar 1) (aCons (fVar 6) aNil)))) aNil))) (hName 7))
    (sIf (tOr1 (tB1 (f2 vIs (fVar 5) (fC .none))) (tB1 (fn F_is_less (aCons (fn F_size (aCons (fVar 7) aNil)) (aCons (fn F_size (aCons (f2 vIx (fVar 5) (fC (.int 1))) aNil)) aNil))))) (sSetG (fTup' (aCons (fVar 6) (aCons (fVar 7) aNil))) (hName 5)) sNext)))
def S_nearest_4 : Rho → Option Out := (sRet (fVar 5))
def G_nearest : Rho → Option Out := (sSeq S_nearest_0 (sSeq S_nearest_1 (sSeq S_nearest_2 (sSeq S_nearest_3 S_nearest_4))))
def F_nearest : List D → Option D := runF 8 G_nearest
def S_put_right_0 : Ro → Mu → Option OutA := (zSet 5 (lE (fTup' (aCons (fVar 1) (aCons (fVar 2) (aCons (fTup' aNil) aNil))))))
def S_put_right_1 : Ro → Mu → Option OutA := (zSet 6 aDct0)
def S_put_right_2 : Ro → Mu → Option OutA := (zSet 7 (lE (fTup' aNil)))
def S_put_right_3 : Ro → Mu → Option OutA := (zFor (lI (iF (fVar 3))) (hN 8) (zSeq (zAsg (lE (fn F_nearest (aCons (fVar 0) (aCons (fVar 5) (aCons (f2 vIx (fVar 8) (fC (.int 0))) aNil))))) (hT 2 (hC (hN 9) (hC (hN 10) hNl))))
    (zIf (lT (tB1 (fn F_is_less (aCons (fVar 4) (aCons (fn F_size (aCons (fVar 10) aNil)) aNil))))) (zSet 7 (lE (f2 vAdd (fVar 7) (fTup' (aCons (fVar 8) aNil))))) (zSeq (zSet 11 (aSetd (aVar 6) (lE (f2 vIx (fVar 8) (fC (.int 1)))) (aOwn (gRep (fOfF (gLst' (aCons (fC (.str ".")) aNil))) (fVar 1)))))
    (zIf (lT (tB1 (f2 vIx (fVar 8) (fC (.int 2))))) (zPutL (aVar 11) (lE (f2 vMod (fVar 9) (fVar 1))) (lE (fC (.str "X")))) (zIf (bT1 (a2 vEq (aIx (aVar 11) (lE (f2 vMod (fVar 9) (fVar 1)))) (lE (fC (.str "."))))) (zPutL (aVar 11) (lE (f2 vMod (fVar 9) (fVar 1))) (lE (fC (.str "x")))) zNext))))))
def S_put_right_4 : Ro → Mu → Option OutA := (zFz 3 6 (zRet (lE (fTup' (aCons (fTup' (aCons (fVar 1) (aCons (fVar 2) (aCons (fn bTuple (aCons (fOfF (gLc (iF (fn bSortK (aCons (fVar 6) aNil))) (hName 12) tYesF (fTup' (aCons (fVar 12) (aCons (fM mJoin (fC (.str "")) (aCons (f2 vIx (fVar 6) (fVar 12)) aNil)) aNil))) [12])) aNil)) aNil)))) (aCons (fVar 7) aNil))))))
def G_put_right : Ro → Mu → Option OutA := (zSeq S_put_right_0 (zSeq S_put_right_1 (zSeq S_put_right_2 (zSeq S_put_right_3 S_put_right_4))))
def F_put_right : List AV → Mu → Option (RR AV) := runA 13 G_put_right
def S_pattern_text_0 : Rho → Option Out := (sSetG (f2 vAdd (fOfF (gLst' (aCons (fn bStr (aCons (f2 vIx (fVar 0) (fC (.int 0))) aNil)) (aCons (fC (.str "by")) (aCons (fn bStr (aCons (f2 vIx (fVar 0) (fC (.int 1))) aNil)) aNil))))) (fOfF (gLc (iF (f2 vIx (fVar 0) (fC (.int 2)))) (hTup 2 (hCons (hName 2) (hCons (hName 3) hNil))) tYesF (f2 vAdd (f2 vAdd (fVar 2) (fC (.str "="))) (fVar 3)) [2, 3]))) (hName 1))
def S_pattern_text_1 : Rho → Option Out := (sRet (fM mJoin (fC (.str " ")) (aCons (fVar 1) aNil)))
def G_pattern_text : Rho → Option Out := (sSeq S_pattern_text_0 S_pattern_text_1)
def F_pattern_text : List D → Option D := runF 4 G_pattern_text
def S_number_of_0 : Rho → Option Out := (sIf (tOr1 (tNot1 (tB1 (fChain vLe vLe (fC (.int 1)) (fn bLen (aCons (fVar 0) aNil)) (fC (.int 2))))) (tNot1 (tB1 (fn bAll (aCons (fOfF (gLc (iF (fVar 0)) (hName 1) tYesF (f2 vIn (fVar 1) (fC (.str "0123456789"))) [1])) aNil))))) sNever sNext)
def S_number_of_1 : Rho → Option Out := (sRet (fn bInt (aCons (fVar 0) aNil)))
def G_number_of : Rho → Option Out := (sSeq S_number_of_0 S_number_of_1)
def F_number_of : List D → Option D := runF 2 G_number_of
def S_read_pattern_0 : Rho → Option Out := (sSetG (fM mSplit (fVar 0) (aCons (fC (.str " ")) aNil)) (hName 1))
def S_read_pattern_1 : Rho → Option Out := (sIf (tB1 (f2 vLt (fn bLen (aCons (fVar 1) aNil)) (fC (.int 3)))) sNever sNext)
def S_read_pattern_2 : Rho → Option Out := (sSetG (fn bTuple (aCons (fOfF (gLc (iF (fSl (fVar 1) (pSome (fC (.int 3))) pNo)) (hName 3) tYesF (fTup' (aCons (fSl (fVar 3) pNo (pSome (fC (.int 1)))) (aCons (fSl (fVar 3) (pSome (fC (.int 2))) pNo) aNil))) [3])) aNil)) (hName 2))
def S_read_pattern_3 : Rho → Option Out := (sSetG (fTup' (aCons (fn F_number_of (aCons (f2 vIx (fVar 1) (fC (.int 0))) aNil)) (aCons (fn F_number_of (aCons (f2 vIx (fVar 1) (fC (.int 2))) aNil)) (aCons (fVar 2) aNil)))) (hName 4))
def S_read_pattern_4 : Rho → Option Out := (sIf (tOr1 (tNot1 (tB1 (fn F_is_pattern (aCons (fVar 4) aNil)))) (tB1 (f2 vNe (fn F_pattern_text (aCons (fVar 4) aNil)) (fVar 0)))) sNever sNext)
def S_read_pattern_5 : Rho → Option Out := (sRet (fVar 4))
def G_read_pattern : Rho → Option Out := (sSeq S_read_pattern_0 (sSeq S_read_pattern_1 (sSeq S_read_pattern_2 (sSeq S_read_pattern_3 (sSeq S_read_pattern_4 S_read_pattern_5)))))
def F_read_pattern : List D → Option D := runF 5 G_read_pattern
def G_chain_text : Rho → Option Out := (sRet (fM mJoin (fC (.str " ")) (aCons (fOfF (gLc (iF (fVar 0)) (hTup 2 (hCons (hName 1) (hCons (hName 2) hNil))) tYesF (f2 vAdd (fVar 1) (f2 vMul (fn bStr (aCons (fVar 2) aNil)) (fn bInt (aCons (f2 vGt (fVar 2) (fC (.int 1))) aNil)))) [1, 2])) aNil)))
def F_chain_text : List D → Option D := runF 3 G_chain_text
def S_link_of_0 : Rho → Option Out := (sIf (tAnd1 (tB1 (f2 vNe (fSl (fVar 0) (pSome (f1 vNeg (fC (.int 1)))) pNo) (fC (.str "")))) (tB1 (f2 vIn (f2 vIx (fVar 0) (f1 vNeg (fC (.int 1)))) (fC (.str "0123456789"))))) (sRet (fTup' (aCons (fSl (fVar 0) pNo (pSome (f1 vNeg (fC (.int 1))))) (aCons (fn bInt (aCons (f2 vIx (fVar 0) (f1 vNeg (fC (.int 1)))) aNil)) aNil)))) sNext)
def S_link_of_1 : Rho → Option Out := (sRet (fTup' (aCons (fVar 0) (aCons (fC (.int 1)) aNil))))
def G_link_of : Rho → Option Out := (sSeq S_link_of_0 S_link_of_1)
def F_link_of : List D → Option D := runF 1 G_link_of
def S_read_chain_0 : Rho → Option Out := (sSetG (fn bTuple (aCons (fOfF (gLc (iF (fM mSplit (fVar 1) (aCons (fC (.str " ")) aNil))) (hName 3) tYesF (fn F_link_of (aCons (fVar 3) aNil)) [3])) aNil)) (hName 2))
def S_read_chain_1 : Rho → Option Out := (sIf (tOr1 (tNot1 (tB1 (fn F_is_chain (aCons (fVar 0) (aCons (fVar 2) aNil))))) (tB1 (f2 vNe (fn F_chain_text (aCons (fVar 2) aNil)) (fVar 1)))) sNever sNext)
def S_read_chain_2 : Rho → Option Out := (sRet (fVar 2))
def G_read_chain : Rho → Option Out := (sSeq S_read_chain_0 (sSeq S_read_chain_1 S_read_chain_2))
def F_read_chain : List D → Option D := runF 4 G_read_chain
def S_law_changed_0 : Rho → Option Out := (sSetG (f2 vMod (f2 vDiv (fVar 1) (fC (.int 16))) (f2 vAdd (fn bLen (aCons (fVar 0) aNil)) (fC (.int 1)))) (hName 2))
def S_law_changed_1 : Rho → Option Out := (sSetG (f2 vIx (fC (.str " .xX=0129abz")) (f2 vMod (f2 vDiv (fVar 1) (fC (.int 4096))) (fC (.int 12)))) (hName 3))
def S_law_changed_2 : Rho → Option Out := (sIf (tB1 (f2 vEq (f2 vMod (fVar 1) (fC (.int 4))) (fC (.int 0)))) (sRet (f2 vAdd (f2 vAdd (fSl (fVar 0) pNo (pSome (fVar 2))) (fVar 3)) (fSl (fVar 0) (pSome (fVar 2)) pNo))) sNext)
def S_law_changed_3 : Rho → Option Out := (sIf (tB1 (f2 vEq (f2 vMod (fVar 1) (fC (.int 4))) (fC (.int 1)))) (sRet (f2 vAdd (fSl (fVar 0) pNo (pSome (fVar 2))) (fSl (fVar 0) (pSome (f2 vAdd (fVar 2) (fC (.int 1)))) pNo))) sNext)
def S_law_changed_4 : Rho → Option Out := (sIf (tB1 (f2 vEq (f2 vMod (fVar 1) (fC (.int 4))) (fC (.int 2)))) (sRet (f2 vAdd (f2 vAdd (fSl (fVar 0) pNo (pSome (fVar 2))) (fVar 3)) (fSl (fVar 0) (pSome (f2 vAdd (fVar 2) (fC (.int 1)))) pNo))) sNext)
def S_law_changed_5 : Rho → Option Out := (sRet (f2 vAdd (fSl (fVar 0) pNo (pSome (fVar 2))) (fSl (fVar 0) (pSome (f2 vAdd (fVar 2) (f2 vMod (f2 vDiv (fVar 1) (fC (.int 64))) (fC (.int 9))))) pNo)))
def G_law_changed : Rho → Option Out := (sSeq S_law_changed_0 (sSeq S_law_changed_1 (sSeq S_law_changed_2 (sSeq S_law_changed_3 (sSeq S_law_changed_4 S_law_changed_5)))))
def F_law_changed : List D → Option D := runF 4 G_law_changed
def S_law_all_0 : Ro → Mu → Option OutA := (zSet 4 (lE (fn F_played (aCons (fVar 0) (aCons (fSl (fVar 1) pNo (pSome (fC (.int 1)))) aNil)))))
def S_law_all_1 : Ro → Mu → Option OutA := (zSet 5 (aTup (bCons (lE (fVar 4)) (bCons (lE (fn F_length (aCons (fVar 0) (aCons (fVar 1) aNil)))) (bCons (lE (fn F_in_ticks (aCons (fVar 4) (aCons (fC (.int 24)) aNil)))) (bCons (aFn F_together (bCons (lE (fVar 2)) (bCons (lE (fVar 3)) bNil))) bNil))))))
def S_law_all_2 : Ro → Mu → Option OutA := (zSet 5 (lE (f2 vAdd (fVar 5) (fTup' (aCons (fn F_coarser (aCons (fVar 2) aNil)) (aCons (fn F_finer (aCons (fVar 3) (aCons (fC (.int 2)) aNil))) (aCons (fn F_nearest (aCons (f2 vIx (fVar 0) (fC (.int 0))) (aCons (fVar 2) (aCons (fTup' (aCons (fC (.int 7)) (aCons (fC (.int 3)) aNil))) aNil)))) aNil)))))))
def S_law_all_3 : Ro → Mu → Option OutA := (zSet 5 (a2 vAdd (lE (fVar 5)) (aTup (bCons (aFn F_put_right (bCons (lE (f2 vIx (fVar 0) (fC (.int 0)))) (bCons (lE (f2 vIx (fVar 2) (fC (.int 0)))) (bCons (lE (f2 vIx (fVar 2) (fC (.int 1)))) (bCons (lE (fVar 4)) (bCons (lE (fTup' (aCons (fC (.int 1)) (aCons (fC (.int 9)) aNil)))) bNil)))))) bNil))))
def S_law_all_4 : Ro → Mu → Option OutA := (zSet 5 (lE (f2 vAdd (fVar 5) (fTup' (aCons (fn F_spread (aCons (fn bMin2 (aCons (fC (.int 3)) (aCons (f2 vIx (fVar 2) (fC (.int 0))) aNil))) (aCons (f2 vIx (fVar 2) (fC (.int 0))) aNil))) aNil)))))
def S_law_all_5 : Ro → Mu → Option OutA := (zFor (lI (iF (f2 vIx (fVar 2) (fC (.int 2))))) (hT 2 (hC (hN 6) (hC (hN 7) hNl))) (zSet 5 (lE (f2 vAdd (fVar 5) (fTup' (aCons (fn F_gaps (aCons (fVar 7) aNil)) (aCons (fn F_least_turn (aCons (fVar 7) aNil)) (aCons (fn F_turned (aCons (fVar 7) (aCons (fC (.int 5)) aNil))) aNil))))))))
def S_law_all_6 : Ro → Mu → Option OutA := (zSet 5 (lE (f2 vAdd (fVar 5) (fTup' (aCons (fn F_read_chain (aCons (fVar 0) (aCons (fn F_chain_text (aCons (fVar 1) aNil)) aNil))) (aCons (fn F_read_pattern (aCons (fn F_pattern_text (aCons (fVar 3) aNil)) aNil)) aNil))))))
def S_law_all_7 : Ro → Mu → Option OutA := (zRet (lE (f2 vAdd (fVar 5) (fTup' (aCons (fn F_strikes (aCons (fVar 0) (aCons (f2 vIx (f2 vIx (fVar 1) (fC (.int 0))) (fC (.int 0))) aNil))) aNil)))))
def G_law_all : Ro → Mu → Option OutA := (zSeq S_law_all_0 (zSeq S_law_all_1 (zSeq S_law_all_2 (zSeq S_law_all_3 (zSeq S_law_all_4 (zSeq S_law_all_5 (zSeq S_law_all_6 S_law_all_7)))))))
def F_law_all : List AV → Mu → Option (RR AV) := runA 8 G_law_all
def S_law_bent_0 : Rho → Option Out := (sSetG (f2 vMod (fVar 1) (f2 vAdd (fn bLen (aCons (fVar 0) aNil)) (fC (.int 1)))) (hName 2))
def S_law_bent_1 : Rho → Option Out := (sSetG (f2 vIx (fC (.str "0129 by=xX.ahz")) (f2 vMod (f2 vDiv (fVar 1) (fC (.int 512))) (fC (.int 14)))) (hName 3))
def S_law_bent_2 : Rho → Option Out := (sSetG (fM mSplit (fVar 0) (aCons (fC (.str " ")) aNil)) (hName 4))
def S_law_bent_3 : Rho → Option Out := (sSetG (f2 vMod (f2 vDiv (fVar 1) (fC (.int 16384))) (fn bLen (aCons (fVar 4) aNil))) (hName 5))
def S_law_bent_4 : Rho → Option Out := (sPar 6 7 (aCons (fSl (fVar 0) pNo (pSome (fVar 2))) (aCons (fSl (fVar 0) (pSome (f2 vAdd (fVar 2) (fC (.int 1)))) pNo) aNil)))
def S_law_bent_5 : Rho → Option Out := (sSetOwn 8 (gLst' (aCons (f2 vAdd (f2 vAdd (fVar 6) (fVar 3)) (fSl (fVar 0) (pSome (fVar 2)) pNo)) (aCons (f2 vAdd (fVar 6) (fVar 7)) (aCons (f2 vAdd (f2 vAdd (fVar 6) (fVar 3)) (fVar 7)) aNil)))))
def S_law_bent_6 : Rho → Option Out := (sSetG (f2 vAdd (f2 vAdd (fSl (fVar 4) pNo (pSome (fVar 5))) (fSl (fVar 4) (pSome (fVar 5)) (pSome (f2 vAdd (fVar 5) (fC (.int 1)))))) (fSl (fVar 4) (pSome (fVar 5)) pNo)) (hName 9))
def S_law_bent_7 : Rho → Option Out := (sAppend 8 (fM mJoin (fC (.str " ")) (aCons (fVar 9) aNil)))
def S_law_bent_8 : Rho → Option Out := (sAppend 8 (fM mJoin (fC (.str " ")) (aCons (f2 vAdd (fSl (fVar 4) pNo (pSome (fVar 5))) (fSl (fVar 4) (pSome (f2 vAdd (fVar 5) (fC (.int 1)))) pNo)) aNil)))
def S_law_bent_9 : Rho → Option Out := (sFrz [8] (sRet (f2 vIx (fVar 8) (f2 vMod (f2 vDiv (fVar 1) (fC (.int 1048576))) (fC (.int 5))))))
def G_law_bent : Rho → Option Out := (sSeq S_law_bent_0 (sSeq S_law_bent_1 (sSeq S_law_bent_2 (sSeq S_law_bent_3 (sSeq S_law_bent_4 (sSeq S_law_bent_5 (sSeq S_law_bent_6 (sSeq S_law_bent_7 (sSeq S_law_bent_8 S_law_bent_9)))))))))
def F_law_bent : List D → Option D := runF 10 G_law_bent
end WS
namespace PM
open PySem PySem.Spec PyProof.Rows L2 PV
/-- a text by its signs -/
def S (l : List Nat) : Str := ⟨l.toArray⟩
theorem S_len (l : List Nat) : (S l).length = l.length := by simp [S, Str.length]
theorem S_list (l : List Nat) : (S l).cps.toList = l := by simp [S]
theorem S_inj {a b : List Nat} : S a = S b ↔ a = b := by
  constructor
  · intro h
    have := congrArg (fun z : Str => z.cps.toList) h
    simpa [S] using this
  · intro h; rw [h]
theorem S_mk (c : Nat) : (⟨#[c]⟩ : Str) = S [c] := rfl
theorem S_app (a b : List Nat) : S a ++ S b = S (a ++ b) := by
  show (⟨_⟩ : Str) = _
  simp [S]
abbrev T (l : List Nat) : D := .str (S l)
/-! the combinators, told -/
@[simp] theorem nth_0 {α : Type} (a : α) (l : List α) : (a :: l)[0]? = some a := rfl
@[simp] theorem nth_s {α : Type} (a : α) (l : List α) (n : Nat) : (a :: l)[n + 1]? = l[n]? := rfl
def getV : Option (Option Sl) → Option D
  | some (some (.val d)) => some d
  | _ => none
@[simp] theorem getV_v (d : D) : getV (some (some (.val d))) = some d := rfl
def boolK : D → Option Bool
  | .bool b => some b
  | _ => none
@[simp] theorem boolK_b (b : Bool) : boolK (.bool b) = some b := rfl
def intK : D → Option (Option Int)
  | .int b => some (some b)
  | _ => none
@[simp] theorem intK_i (b : Int) : intK (.int b) = some (some b) := rfl
def seqK (g : Rho → Option Out) : Out → Option Out
  | .nx ρ => g ρ
  | x => some x
@[simp] theorem seqK_n (g : Rho → Option Out) (ρ : Rho) : seqK g (.nx ρ) = g ρ := rfl
@[simp] theorem seqK_r (g : Rho → Option Out) (d : D) : seqK g (.rt d) = some (.rt d) := rfl
def andK (o : Option D) : D → Option D
  | .bool c => if c = true then o else some (.bool false)
  | _ => none
@[simp] theorem andK_b (o : Option D) (c : Bool) : andK o (.bool c) = if c = true then o else some (.bool false) := rfl
def orK (o : Option D) : D → Option D
  | .bool c => if c = true then some (.bool true) else o
  | _ => none
@[simp] theorem orK_b (o : Option D) (c : Bool) : orK o (.bool c) = if c = true then some (.bool true) else o := rfl
def notK : D → Option D
  | .bool c => some (.bool !c)
  | _ => none
@[simp] theorem notK_b (c : Bool) : notK (.bool c) = some (.bool !c) := rfl
section
variable (ρ : Rho)
@[simp] theorem fVar_ev (i : Nat) : fVar i ρ = getV ρ[i]? := rfl
@[simp] theorem fC_ev (d : D) : fC d ρ = some d := rfl
@[simp] theorem f1_ev (g : D → Option D) (fa : Rho → Option D) : f1 g fa ρ = (fa ρ).bind g := rfl
@[simp] theorem f2_ev (g : D → D → Option D) (fa fb : Rho → Option D) : f2 g fa fb ρ = (fa ρ).bind fun x => (fb ρ).bind fun y => g x y := rfl
@[simp] theorem fn_ev (g : List D → Option D) (fa : Rho → Option (List D)) : fn g fa ρ = (fa ρ).bind g := rfl
@[simp] theorem fM_ev (g : D → List D → Option D) (fa : Rho → Option D) (fb : Rho → Option (List D)) : fM g fa fb ρ = (fa ρ).bind fun x => (fb ρ).bind fun y => g x y := rfl
@[simp] theorem aNil_ev : aNil ρ = some [] := rfl
@[simp] theorem aCons_ev (fa : Rho → Option D) (fr : Rho → Option (List D)) : aCons fa fr ρ = (fa ρ).bind fun x => (fr ρ).bind fun r => some (x :: r) := rfl
@[simp] theorem fTup_ev (fa : Rho → Option (List D)) : fTup' fa ρ = (fa ρ).map .tuple := rfl
@[simp] theorem fOfF_ev (fa : Rho → Option (List D)) : fOfF fa ρ = (fa ρ).map .list := rfl
@[simp] theorem gLst_ev (fa : Rho → Option (List D)) : gLst' fa ρ = fa ρ := rfl
@[simp] theorem tB1_ev (fa : Rho → Option D) : tB1 fa ρ = (fa ρ).bind boolK := rfl
@[simp] theorem tAnd1_ev (fa fb : Rho → Option Bool) : tAnd1 fa fb ρ = (fa ρ).bind fun c => if c = true then fb ρ else some false := rfl
@[simp] theorem tOr1_ev (fa fb : Rho → Option Bool) : tOr1 fa fb ρ = (fa ρ).bind fun c => if c = true then some true else fb ρ := rfl
@[simp] theorem tNot1_ev (fa : Rho → Option Bool) : tNot1 fa ρ = (fa ρ).bind fun c => some (!c) := rfl
@[simp] theorem fIf_ev (fc : Rho → Option Bool) (fa fb : Rho → Option D) : fIf fc fa fb ρ = (fc ρ).bind fun c => if c = true then fa ρ else fb ρ := rfl
@[simp] theorem fAnd_ev (fa fb : Rho → Option D) : fAnd fa fb ρ = (fa ρ).bind (andK (fb ρ)) := by
  unfold fAnd
  cases fa ρ with
  | none => rfl
  | some d => cases d <;> rfl
@[simp] theorem fOr_ev (fa fb : Rho → Option D) : fOr fa fb ρ = (fa ρ).bind (orK (fb ρ)) := by
  unfold fOr
  cases fa ρ with
  | none => rfl
  | some d => cases d <;> rfl
@[simp] theorem fNot_ev (fa : Rho → Option D) : fNot fa ρ = (fa ρ).bind notK := rfl
@[simp] theorem sNext_ev : sNext ρ = some (.nx ρ) := rfl
@[simp] theorem sIf_ev (fc : Rho → Option Bool) (g h : Rho → Option Out) : sIf fc g h ρ = (fc ρ).bind fun c => if c = true then g ρ else h ρ := rfl
@[simp] theorem sRet_ev (fa : Rho → Option D) : sRet fa ρ = (fa ρ).map .rt := rfl
@[simp] theorem sSetG_ev (fa : Rho → Option D) (h : D → Rho → Option Rho) : sSetG fa h ρ = (fa ρ).bind fun d => (h d ρ).map .nx := rfl
@[simp] theorem hName_ev (i : Nat) (d : D) : hName i d ρ = some (ρ.set i (some (.val d))) := rfl
@[simp] theorem hNil_ev : hNil [] ρ = some ρ := rfl
@[simp] theorem hCons_ev (h : D → Rho → Option Rho) (hs : List D → Rho → Option Rho) (d : D) (r : List D) : hCons h hs (d :: r) ρ = (h d ρ).bind (hs r) := rfl
@[simp] theorem hTup_ev (n : Nat) (hs : List D → Rho → Option Rho) (l : List D) : hTup n hs (.tuple l) ρ = if l.length = n then hs l ρ else none := rfl
@[simp] theorem pNo_ev : pNo ρ = some none := rfl
@[simp] theorem pSome_ev (fa : Rho → Option D) : pSome fa ρ = (fa ρ).bind intK := rfl
@[simp] theorem fSl_ev (fa : Rho → Option D) (fl fh : Rho → Option (Option Int)) : fSl fa fl fh ρ = (fa ρ).bind fun d => (fl ρ).bind fun l => (fh ρ).bind fun h => vSl d l h := rfl
@[simp] theorem tYes_ev : tYesF ρ = some true := rfl
@[simp] theorem iF_ev (fa : Rho → Option D) : iF fa ρ = (fa ρ).bind itemsD := rfl
@[simp] theorem iEnum_ev (fa : Rho → Option D) : iEnum1 fa ρ = (fa ρ).bind fun d => (itemsD d).map enumD := rfl
@[simp] theorem sFor_ev (fi : Rho → Option (List D)) (h : D → Rho → Option Rho) (g : Rho → Option Out) : sFor fi h g ρ = (fi ρ).bind fun ds => forF g h ds ρ := rfl
@[simp] theorem sFrz_ev (is : List Nat) (g : Rho → Option Out) : sFrz is g ρ = g (frz is ρ) := rfl
theorem seq_nx {g g' : Rho → Option Out} {ρ ρ1 : Rho} (h : g ρ = some (.nx ρ1)) : sSeq g g' ρ = g' ρ1 := by simp [sSeq, h]
theorem seq_rt {g g' : Rho → Option Out} {ρ : Rho} {d : D} (h : g ρ = some (.rt d)) : sSeq g g' ρ = some (.rt d) := by simp [sSeq, h]
@[simp] theorem sSeq_ev (g g' : Rho → Option Out) : sSeq g g' ρ = (g ρ).bind (seqK g') := by
  unfold sSeq
  cases g ρ with
  | none => rfl
  | some o => cases o <;> rfl
end
@[simp] theorem out_rt (d : D) : outD (.rt d) = some d := rfl
@[simp] theorem out_nx (ρ : Rho) : outD (.nx ρ) = some .none := rfl
/-! numbers -/
@[simp] theorem vAdd_i (i j : Int) : vAdd (.int i) (.int j) = some (.int (i + j)) := rfl
@[simp] theorem vSub_i (i j : Int) : vSub (.int i) (.int j) = some (.int (i - j)) := rfl
theorem vMul_i {i j : Int} (h : (-18446744073709551616 < i ∧ i < 18446744073709551616) ∨ (-18446744073709551616 < j ∧ j < 18446744073709551616)) : vMul (.int i) (.int j) = some (.int (i * j)) := by
  show (if mulOk i j then _ else _) = _
  exact if_pos h
theorem vDiv_i {i j : Int} (h : 0 < j ∧ j < 18446744073709551616) : vDiv (.int i) (.int j) = some (.int (i / j)) := by
  show (if _ then _ else _) = _
  exact if_pos h
theorem vMod_i {i j : Int} (h : 0 < j) : vMod (.int i) (.int j) = some (.int (i % j)) := by
  show (if _ then _ else _) = _
  exact if_pos h
@[simp] theorem vEq_i (i j : Int) : vEq (.int i) (.int j) = some (.bool (decide (i = j))) := rfl
@[simp] theorem vNe_i (i j : Int) : vNe (.int i) (.int j) = some (.bool (!decide (i = j))) := rfl
@[simp] theorem vLt_i (i j : Int) : vLt (.int i) (.int j) = some (.bool (decide (i < j))) := rfl
@[simp] theorem vGt_i (i j : Int) : vGt (.int i) (.int j) = some (.bool (decide (j < i))) := rfl
@[simp] theorem vLe_i (i j : Int) : vLe (.int i) (.int j) = some (.bool (!decide (j < i))) := rfl
@[simp] theorem vGe_i (i j : Int) : vGe (.int i) (.int j) = some (.bool (!decide (i < j))) := rfl
/-! texts -/
theorem vEq_S (a b : List Nat) : vEq (.str (S a)) (.str (S b)) = some (.bool (decide (a = b))) := by
  show some (PyData.bool (decide (S a = S b))) = _
  congr 3
  exact propext S_inj
theorem vNe_S (a b : List Nat) : vNe (.str (S a)) (.str (S b)) = some (.bool (!decide (a = b))) := by
  show some (PyData.bool (!decide (S a = S b))) = _
  congr 4
  exact propext S_inj
theorem vAdd_S {a b : List Nat} (h : a.length + b.length ≤ 16777216) : vAdd (.str (S a)) (.str (S b)) = some (.str (S (a ++ b))) := by
  show (if (S a).length + (S b).length ≤ 16777216 then _ else _) = _
  rw [S_len, S_len, if_pos h, S_app]
theorem bLen_S {a : List Nat} (h : a.length ≤ 16777216) : bLen [.str (S a)] = some (.int a.length) := by
  show (if (S a).length ≤ 16777216 then _ else _) = _
  rw [S_len, if_pos h]
@[simp] theorem bLen_l (l : List D) : bLen [.list l] = some (.int l.length) := rfl
@[simp] theorem bLen_t (l : List D) : bLen [.tuple l] = some (.int l.length) := rfl
theorem items_S (a : List Nat) : itemsD (.str (S a)) = some (a.map fun c => .str (S [c])) := by
  show some (strD (S a)) = _
  unfold strD
  rw [S_list]
  rfl
@[simp] theorem items_l (a : List D) : itemsD (.list a) = some a := rfl
@[simp] theorem items_t (a : List D) : itemsD (.tuple a) = some a := rfl
theorem atI_nat' {α : Type} {xs : List α} {i : Int} {x : α} (h0 : 0 ≤ i) (h : xs[i.toNat]? = some x) : atI xs i = some x := by
  obtain ⟨n, rfl⟩ := Int.eq_ofNat_of_zero_le h0
  exact atI_nat h
theorem vIx_S {a : List Nat} {i : Int} {c : Nat} (hl : a.length ≤ 16777216) (h0 : 0 ≤ i) (h : a[i.toNat]? = some c) : vIx (.str (S a)) (.int i) = some (.str (S [c])) := by
  show (if (S a).length ≤ 16777216 then (atI (S a).cps.toList i).map _ else _) = _
  rw [S_len, if_pos hl, S_list, atI_nat' h0 h]
  rfl
theorem vIx_l {a : List D} {i : Int} {c : D} (h0 : 0 ≤ i) (h : a[i.toNat]? = some c) : vIx (.list a) (.int i) = some c := atI_nat' h0 h
theorem vIx_t {a : List D} {i : Int} {c : D} (h0 : 0 ≤ i) (h : a[i.toNat]? = some c) : vIx (.tuple a) (.int i) = some c := atI_nat' h0 h
theorem sIx_pos {n d : Nat} {i : Int} (h0 : 0 ≤ i) : HT.sIx n d (some i) = min i.toNat n := by
  unfold HT.sIx
  have : ¬ i < 0 := by omega
  simp [this]
theorem drop_min {α : Type} (l : List α) (k : Nat) : l.drop (min k l.length) = l.drop k := by
  by_cases h : k ≤ l.length
  · rw [Nat.min_eq_left h]
  · rw [Nat.min_eq_right (by omega), List.drop_length, List.drop_eq_nil_of_le (by omega)]
theorem take_min {α : Type} (l : List α) (k : Nat) : l.take (min k l.length) = l.take k := by
  by_cases h : k ≤ l.length
  · rw [Nat.min_eq_left h]
  · rw [Nat.min_eq_right (by omega), List.take_length, List.take_of_length_le (by omega)]
/-- a cut from i on -/
theorem vSl_from {a : List Nat} {i : Int} (hl : a.length ≤ 16777216) (h0 : 0 ≤ i) : vSl (.str (S a)) (some i) none = some (.str (S (a.drop i.toNat))) := by
  show (if (S a).length ≤ 16777216 then _ else _) = _
  rw [S_len, if_pos hl]
  unfold cutS
  rw [S_len, S_list, sIx_pos h0, drop_min]
  congr 2
  unfold S HT.sIx
  rw [List.take_of_length_le]
  simp
  omega
theorem vSl_to {a : List Nat} {i : Int} (hl : a.length ≤ 16777216) (h0 : 0 ≤ i) : vSl (.str (S a)) none (some i) = some (.str (S (a.take i.toNat))) := by
  show (if (S a).length ≤ 16777216 then _ else _) = _
  rw [S_len, if_pos hl]
  unfold cutS
  rw [S_len, S_list, sIx_pos h0]
  unfold HT.sIx
  rw [Nat.sub_zero, List.drop_zero, take_min]
  rfl
theorem cut_from {a : List D} {i : Int} (h0 : 0 ≤ i) : PV.cutD a (some i) none = a.drop i.toNat := by
  unfold PV.cutD
  rw [sIx_pos h0, drop_min]
  unfold HT.sIx
  rw [List.take_of_length_le]
  simp
  omega
theorem cut_to {a : List D} {i : Int} (h0 : 0 ≤ i) : PV.cutD a none (some i) = a.take i.toNat := by
  unfold PV.cutD
  rw [sIx_pos h0]
  unfold HT.sIx
  rw [Nat.sub_zero, List.drop_zero, take_min]
theorem vSl_lfrom {a : List D} {i : Int} (h0 : 0 ≤ i) : vSl (.list a) (some i) none = some (.list (a.drop i.toNat)) := congrArg (fun x => some (PyData.list x)) (cut_from h0)
theorem vSl_lto {a : List D} {i : Int} (h0 : 0 ≤ i) : vSl (.list a) none (some i) = some (.list (a.take i.toNat)) := congrArg (fun x => some (PyData.list x)) (cut_to h0)
theorem vSl_tfrom {a : List D} {i : Int} (h0 : 0 ≤ i) : vSl (.tuple a) (some i) none = some (.tuple (a.drop i.toNat)) := congrArg (fun x => some (PyData.tuple x)) (cut_from h0)
theorem vSl_tto {a : List D} {i : Int} (h0 : 0 ≤ i) : vSl (.tuple a) none (some i) = some (.tuple (a.take i.toNat)) := congrArg (fun x => some (PyData.tuple x)) (cut_to h0)
theorem vAdd_t {a b : List D} (h : a.length + b.length ≤ 16777216) : vAdd (.tuple a) (.tuple b) = some (.tuple (a ++ b)) := if_pos h
theorem vAdd_l {a b : List D} (h : a.length + b.length ≤ 16777216) : vAdd (.list a) (.list b) = some (.list (a ++ b)) := if_pos h
/-! ranges -/
theorem iRg1_ev {fa : Rho → Option D} {ρ : Rho} {j : Int} (h : fa ρ = some (.int j)) (hj : j < 4611686018427387904) (hj' : -4611686018427387904 ≤ j) : iRg1 fa ρ = some ((List.range j.toNat).map fun i : Nat => .int (i : Int)) := by
  unfold iRg1
  rw [h]
  show (if _ then _ else _) = _
  rw [if_pos ⟨hj, hj'⟩]
  unfold rngD
  simp
/-! comprehensions, loops -/
theorem lcF_map {α : Type} {h : D → Rho → Option Rho} {ft : Rho → Option Bool} {fe : Rho → Option D} {ρ : Rho} {g : α → D} {p : α → Bool} {e : α → D} : ∀ (xs : List α),
    (∀ x ∈ xs, ∃ ρ1, h (g x) ρ = some ρ1 ∧ ft ρ1 = some (p x) ∧ (p x = true → fe ρ1 = some (e x))) →
    lcF h ft fe ρ (xs.map g) = some ((xs.filter p).map e)
  | [], _ => rfl
  | x :: xs, hh => by
    obtain ⟨ρ1, h1, h2, h3⟩ := hh x (by simp)
    have ih := lcF_map xs (fun y hy => hh y (by simp [hy]))
    rw [List.map_cons]
    unfold lcF
    rw [h1]
    simp only [Option.bind_some]
    rw [h2]
    simp only [Option.bind_some]
    rw [ih]
    by_cases hp : p x = true
    · rw [if_pos hp, h3 hp, List.filter_cons_of_pos hp]
      rfl
    · rw [if_neg hp, List.filter_cons_of_neg hp]
theorem gLc_map {α : Type} {fi : Rho → Option (List D)} {h : D → Rho → Option Rho} {ft : Rho → Option Bool} {fe : Rho → Option D} {vs : List Nat} {ρ : Rho} {g : α → D} {xs : List α} (p : α → Bool) (e : α → D)
    (hi : fi ρ = some (xs.map g)) (hl : xs.length ≤ 16777216)
    (hh : ∀ x ∈ xs, ∃ ρ1, h (g x) (wipeR ρ vs) = some ρ1 ∧ ft ρ1 = some (p x) ∧ (p x = true → fe ρ1 = some (e x))) :
    gLc fi h ft fe vs ρ = some ((xs.filter p).map e) := by
  unfold gLc
  rw [hi]
  show (if _ then _ else _) = _
  rw [if_pos (by simpa using hl)]
  exact lcF_map xs hh
/-- all of them -/
theorem gLc_all {α : Type} {fi : Rho → Option (List D)} {h : D → Rho → Option Rho} {ft : Rho → Option Bool} {fe : Rho → Option D} {vs : List Nat} {ρ : Rho} {g : α → D} {xs : List α} (e : α → D)
    (hi : fi ρ = some (xs.map g)) (hl : xs.length ≤ 16777216)
    (hh : ∀ x ∈ xs, ∃ ρ1, h (g x) (wipeR ρ vs) = some ρ1 ∧ ft ρ1 = some true ∧ fe ρ1 = some (e x)) :
    gLc fi h ft fe vs ρ = some (xs.map e) := by
  rw [gLc_map (fun _ => true) e hi hl (fun x hx => by
    obtain ⟨ρ1, a, b, c⟩ := hh x hx
    exact ⟨ρ1, a, b, fun _ => c⟩)]
  rw [List.filter_eq_self.mpr (by simp)]
/-- a loop without an early end -/
theorem forF_fold {α β : Type} {b : Rho → Option Out} {h : D → Rho → Option Rho} {g : α → D} {env : β → Rho} {step : β → α → β} (I : β → Prop) : ∀ (xs : List α) (st : β), I st →
    (∀ x ∈ xs, ∀ st, I st → I (step st x) ∧ ∃ ρ1, h (g x) (env st) = some ρ1 ∧ b ρ1 = some (.nx (env (step st x)))) →
    forF b h (xs.map g) (env st) = some (.nx (env (xs.foldl step st)))
  | [], _, _, _ => rfl
  | x :: xs, st, hI, hh => by
    obtain ⟨i1, ρ1, h1, h2⟩ := hh x (by simp) st hI
    have ih := forF_fold I xs (step st x) i1 (fun y hy => hh y (by simp [hy]))
    rw [List.map_cons]
    unfold forF
    rw [h1]
    simp only [Option.bind_some]
    rw [h2]
    simp only [Option.bind_some]
    exact ih
/-- a loop by what holds ahead of each turn -/
theorem forF_inv {b : Rho → Option Out} {h : D → Rho → Option Rho} (Q : Nat → Rho → Prop) : ∀ (ds : List D) (j : Nat) (ρ : Rho), Q j ρ →
    (∀ k d ρ, ds[k]? = some d → Q (j + k) ρ → ∃ ρ1, h d ρ = some ρ1 ∧ ∃ ρ2, b ρ1 = some (.nx ρ2) ∧ Q (j + k + 1) ρ2) →
    ∃ ρ', forF b h ds ρ = some (.nx ρ') ∧ Q (j + ds.length) ρ'
  | [], j, ρ, q, _ => ⟨ρ, rfl, q⟩
  | d :: ds, j, ρ, q, hh => by
    obtain ⟨ρ1, h1, ρ2, h2, q2⟩ := hh 0 d ρ rfl q
    obtain ⟨ρ', e, q'⟩ := forF_inv Q ds (j + 1) ρ2 q2 (fun k d ρ hk q => by
      have := hh (k + 1) d ρ hk (by rw [show j + (k + 1) = j + 1 + k by omega]; exact q)
      rw [show j + (k + 1) + 1 = j + 1 + k + 1 by omega] at this
      exact this)
    refine ⟨ρ', ?_, by rw [List.length_cons, show j + (ds.length + 1) = j + 1 + ds.length by omega]; exact q'⟩
    unfold forF
    rw [h1]
    simp only [Option.bind_some]
    rw [h2]
    simp only [Option.bind_some]
    exact e
theorem sFor_inv {fi : Rho → Option (List D)} {b : Rho → Option Out} {h : D → Rho → Option Rho} {ρ : Rho} {ds : List D} (Q : Nat → Rho → Prop) (hi : fi ρ = some ds) (h0 : Q 0 ρ)
    (hh : ∀ k d ρ, ds[k]? = some d → Q k ρ → ∃ ρ1, h d ρ = some ρ1 ∧ ∃ ρ2, b ρ1 = some (.nx ρ2) ∧ Q (k + 1) ρ2) :
    ∃ ρ', sFor fi h b ρ = some (.nx ρ') ∧ Q ds.length ρ' := by
  obtain ⟨ρ', e, q⟩ := forF_inv Q ds 0 ρ h0 (fun k d ρ hk q => by
    rw [Nat.zero_add] at q ⊢
    exact hh k d ρ hk q)
  refine ⟨ρ', ?_, by rw [Nat.zero_add] at q; exact q⟩
  simp [hi, e]
theorem sFor_range {fa : Rho → Option D} {b : Rho → Option Out} {h : D → Rho → Option Rho} {ρ : Rho} {n : Int} (Q : Nat → Rho → Prop) (hi : fa ρ = some (.int n)) (hn : 0 ≤ n ∧ n < 4611686018427387904) (h0 : Q 0 ρ)
    (hh : ∀ (k : Nat) ρ, (k : Int) < n → Q k ρ → ∃ ρ1, h (.int k) ρ = some ρ1 ∧ ∃ ρ2, b ρ1 = some (.nx ρ2) ∧ Q (k + 1) ρ2) :
    ∃ ρ', sFor (iRg1 fa) h b ρ = some (.nx ρ') ∧ Q n.toNat ρ' := by
  have := sFor_inv (b := b) (h := h) Q (iRg1_ev hi (by omega) (by omega)) h0 (fun k d ρ hk q => by
    rw [List.getElem?_map] at hk
    obtain ⟨i, hi, rfl⟩ := Option.map_eq_some_iff.mp hk
    obtain ⟨hlt, rfl⟩ := List.getElem?_eq_some_iff.mp hi
    have hlt' : k < n.toNat := by simpa using hlt
    simp only [List.getElem_range]
    exact hh k ρ (by omega) q)
  simpa using this
end PM
namespace PM
open PySem PySem.Spec PyProof.Rows L2 PV WS
/-! the script's numbers -/
theorem cell_ok (ns : List Int) (k : Nat) : ∃ c, F_law_cell_at [.list (ns.map .int), .int k] = some (.int c) := by
  by_cases hk : k < ns.length
  · refine ⟨ns[k], ?_⟩
    have e : vIx (.list (ns.map .int)) (.int (k : Int)) = some (.int ns[k]) := vIx_l (by omega) (by simp [hk])
    simp [F_law_cell_at, G_law_cell_at, S_law_cell_at_0, S_law_cell_at_1, runF, startR, hk, e]
  · refine ⟨0, ?_⟩
    simp [F_law_cell_at, G_law_cell_at, S_law_cell_at_0, S_law_cell_at_1, runF, startR, hk]
theorem mixed_ok (ns : List Int) (k : Nat) (hk : k < 1000) : ∃ m : Int, (0 ≤ m ∧ m < 2147483629) ∧ F_law_mixed [.list (ns.map .int), .int k] = some (.int m) := by
  obtain ⟨c, h⟩ := cell_ok ns k
  refine ⟨(((c + 7919 * k + 1) * 48271 % 2147483647) * ((c + 7919 * k + 1) * 48271 % 2147483647) + 7 * ((c + 7919 * k + 1) * 48271 % 2147483647) + k) % 2147483629, by omega, ?_⟩
  simp (disch := omega) [F_law_mixed, G_law_mixed, S_law_mixed_0, S_law_mixed_1, runF, startR, h, vMul_i, vMod_i]
/-- a number drawn from a number -/
def drw (m : Int) (k : Nat) : Int := (((m + 104729 * k + 17) * 69621 % 2147483647) * ((m + 104729 * k + 17) * 69621 % 2147483647) + 3 * ((m + 104729 * k + 17) * 69621 % 2147483647) + k) % 2147483629
theorem drw_r (m : Int) (k : Nat) : 0 ≤ drw m k ∧ drw m k < 2147483629 := by unfold drw; omega
theorem drawn_ok (m : Int) (k : Nat) (hk : k < 1000) : F_law_drawn [.int m, .int k] = some (.int (drw m k)) := by
  unfold drw
  simp (disch := omega) [F_law_drawn, G_law_drawn, S_law_drawn_0, S_law_drawn_1, runF, startR, vMul_i, vMod_i]
/-- a mark -/
def Mk (c : Nat) : Prop := c = 46 ∨ c = 120 ∨ c = 88
instance (c : Nat) : Decidable (Mk c) := by unfold Mk; infer_instance
def mkAt (m : Int) (k : Nat) : Nat := [46, 46, 46, 120, 120, 88].getD (drw m k / 4 % 6).toNat 46
def mrk (m : Int) (n : Nat) : List Nat := (List.range n).map (mkAt m)
theorem mkAt_mk (m : Int) (k : Nat) : Mk (mkAt m k) := by
  unfold mkAt
  have h1 : (drw m k / 4 % 6).toNat < 6 := by omega
  generalize (drw m k / 4 % 6).toNat = j at h1
  have : j = 0 ∨ j = 1 ∨ j = 2 ∨ j = 3 ∨ j = 4 ∨ j = 5 := by omega
  rcases this with rfl | rfl | rfl | rfl | rfl | rfl <;> decide
theorem mrk_mk (m : Int) (n : Nat) : ∀ c ∈ mrk m n, Mk c := by
  intro c hc
  obtain ⟨k, _, rfl⟩ := List.mem_map.mp hc
  exact mkAt_mk m k
@[simp] theorem mrk_len (m : Int) (n : Nat) : (mrk m n).length = n := by simp [mrk]
theorem lit_marks : (Str.ofString "...xxX") = S [46, 46, 46, 120, 120, 88] := by decide +kernel
theorem lit_e : (Str.ofString "") = S [] := by decide +kernel
theorem lit_dot : (Str.ofString ".") = S [46] := by decide +kernel
theorem lit_x : (Str.ofString "x") = S [120] := by decide +kernel
theorem lit_X : (Str.ofString "X") = S [88] := by decide +kernel
theorem lit_3 : (Str.ofString ".xX") = S [46, 120, 88] := by decide +kernel
theorem foldl_range_map {α : Type} (f : Nat → α) : ∀ (n : Nat) (a : List α), (List.range n).foldl (fun l k => l ++ [f k]) a = a ++ (List.range n).map f
  | 0, a => by simp
  | n + 1, a => by simp [List.range_succ, foldl_range_map f n a]
theorem marks_ix (m : Int) (k : Nat) : vIx (.str (Str.ofString "...xxX")) (.int (drw m k / 4 % 6)) = some (T [mkAt m k]) := by
  have h1 : 0 ≤ drw m k / 4 % 6 ∧ drw m k / 4 % 6 < 6 := by omega
  rw [lit_marks]
  refine vIx_S (by simp) h1.1 ?_
  unfold mkAt
  rw [List.getD_eq_getElem?_getD]
  rw [List.getElem?_eq_getElem (by simp; omega)]
  rfl
theorem mrk_succ (m : Int) (k : Nat) : mrk m (k + 1) = mrk m k ++ [mkAt m k] := by simp [mrk, List.range_succ]
theorem marks_loop (m : Int) (n : Nat) (hn : n < 1000) : ∃ a b, S_law_marks_1 [some (.val (.int m)), some (.val (.int n)), some (.val (T [])), none, none] = some (.nx [some (.val (.int m)), some (.val (.int n)), some (.val (T (mrk m n))), a, b]) := by
  have := sFor_range (fa := fVar 1) (h := hName 3) (b := (sSeq (sSetG (f2 vDiv (fn F_law_drawn (aCons (fVar 0) (aCons (fVar 3) aNil))) (fC (.int 4))) (hName 4))
    (sSetG (f2 vAdd (fVar 2) (f2 vIx (fC (.str "...xxX")) (f2 vMod (fVar 4) (fC (.int 6))))) (hName 2)))) (ρ := [some (.val (.int m)), some (.val (.int n)), some (.val (T [])), none, none]) (n := n)
    (fun k ρ => ∃ a b, ρ = [some (.val (.int m)), some (.val (.int n)), some (.val (T (mrk m k))), a, b]) (by simp) (by omega) ⟨none, none, rfl⟩ (by
      rintro k ρ hk ⟨a, b, rfl⟩
      refine ⟨_, rfl, _, ?_, some (.val (.int k)), some (.val (.int (drw m k / 4))), rfl⟩
      have h4 := drawn_ok m k (by omega)
      rw [mrk_succ]
      simp (disch := first | omega | (simp; omega)) [h4, vDiv_i, vMod_i, marks_ix, vAdd_S])
  obtain ⟨ρ', e, a, b, rfl⟩ := this
  exact ⟨a, b, by simpa [S_law_marks_1] using e⟩
theorem marks_ok (m : Int) (n : Nat) (hn : n < 1000) : F_law_marks [.int m, .int n] = some (T (mrk m n)) := by
  obtain ⟨a, b, e⟩ := marks_loop m n hn
  have e0 : S_law_marks_0 [some (.val (.int m)), some (.val (.int n)), none, none, none] = some (.nx [some (.val (.int m)), some (.val (.int n)), some (.val (T [])), none, none]) := by
    unfold S_law_marks_0
    rw [lit_e]
    simp
  have : G_law_marks [some (.val (.int m)), some (.val (.int n)), none, none, none] = some (.rt (T (mrk m n))) := by
    unfold G_law_marks
    rw [seq_nx e0, seq_nx e]
    simp [S_law_marks_2]
  show (G_law_marks [some (.val (.int m)), some (.val (.int n)), none, none, none]).bind outD = _
  rw [this]
  rfl
end PM
namespace PM
open PySem PySem.Spec PyProof.Rows L2 PV WS
/-! rows turned -/
def rot (r : List Nat) (k : Nat) : List Nat := r.drop k ++ r.take k
def tn (r : List Nat) (b : Int) : List Nat := rot r (((0 - b) % (r.length : Int)).toNat)
/-- the sign at a place, going round -/
def cy (r : List Nat) (i : Int) : Nat := r.getD (i % (r.length : Int)).toNat 0
theorem rot_len {r : List Nat} {k : Nat} (h : k ≤ r.length) : (rot r k).length = r.length := by simp [rot]; omega
theorem tn_k {r : List Nat} (b : Int) (h : r ≠ []) : (((0 - b) % (r.length : Int)).toNat) < r.length := by
  have : 0 < r.length := List.length_pos_iff.mpr h
  have h1 := Int.emod_nonneg (0 - b) (b := (r.length : Int)) (by omega)
  have h2 := Int.emod_lt_of_pos (0 - b) (b := (r.length : Int)) (by omega)
  omega
theorem tn_len (r : List Nat) (b : Int) : (tn r b).length = r.length := by
  by_cases h : r = []
  · subst h; simp [tn, rot]
  · exact rot_len (Nat.le_of_lt (tn_k b h))
theorem tn_ne {r : List Nat} {b : Int} (h : r ≠ []) : tn r b ≠ [] := by
  intro h'
  have := tn_len r b
  rw [h'] at this
  exact h (List.eq_nil_of_length_eq_zero this.symm)
theorem cy_nat {r : List Nat} {i : Nat} (h : i < r.length) : cy r i = r[i] := by
  unfold cy
  have : ((i : Int) % (r.length : Int)).toNat = i := by
    rw [Int.emod_eq_of_lt (by omega) (by omega)]; omega
  rw [this, List.getD_eq_getElem?_getD, List.getElem?_eq_getElem h]
  rfl
theorem cy_emod (r : List Nat) (i : Int) : cy r (i % (r.length : Int)) = cy r i := by
  unfold cy
  rw [Int.emod_emod]
theorem cy_congr {r : List Nat} {i j : Int} (h : i % (r.length : Int) = j % (r.length : Int)) : cy r i = cy r j := by
  unfold cy
  rw [h]
theorem row_ext {a b : List Nat} (hl : a.length = b.length) (h : ∀ i : Nat, i < a.length → cy a i = cy b i) : a = b := by
  apply List.ext_getElem hl
  intro i h1 h2
  have := h i h1
  rwa [cy_nat h1, cy_nat h2] at this
theorem rot_get {r : List Nat} {k i : Nat} (hk : k < r.length) (hi : i < r.length) : (rot r k)[i]? = some (cy r ((i : Int) + k)) := by
  unfold rot
  rw [List.getElem?_append]
  by_cases h : i < r.length - k
  · rw [if_pos (by simpa using h), List.getElem?_drop]
    have hk2 : i + k < r.length := by omega
    rw [show ((i : Int) + k) = ((i + k : Nat) : Int) by omega, cy_nat hk2, List.getElem?_eq_getElem (by omega)]
    congr 1
    congr 1
    omega
  · rw [if_neg (by simpa using h)]
    have e : (r.drop k).length = r.length - k := by simp
    rw [e, List.getElem?_take, if_pos (by omega)]
    have h2 : i - (r.length - k) < r.length := by omega
    rw [List.getElem?_eq_getElem h2]
    have e2 : cy r ((i : Int) + k) = cy r ((i - (r.length - k) : Nat) : Int) := by
      apply cy_congr
      have : ((i : Int) + k) = ((i - (r.length - k) : Nat) : Int) + r.length := by omega
      rw [this, Int.add_emod_right]
    rw [e2, cy_nat h2]
theorem cy_tn (r : List Nat) (b i : Int) (h : r ≠ []) : cy (tn r b) i = cy r (i - b) := by
  have hp : 0 < r.length := List.length_pos_iff.mpr h
  have h0 := Int.emod_nonneg i (b := (r.length : Int)) (by omega)
  have h1 := Int.emod_lt_of_pos i (b := (r.length : Int)) (by omega)
  have e1 : cy (tn r b) i = cy (tn r b) ((i % (r.length : Int)).toNat : Int) := by
    apply cy_congr
    rw [tn_len, show ((i % (r.length : Int)).toNat : Int) = i % (r.length : Int) by omega, Int.emod_emod]
  have hl : (i % (r.length : Int)).toNat < r.length := by omega
  have hl' : (i % (r.length : Int)).toNat < (tn r b).length := by rw [tn_len]; exact hl
  rw [e1, cy_nat hl']
  have := rot_get (tn_k b h) hl
  rw [show rot r (((0 - b) % (r.length : Int)).toNat) = tn r b from rfl, List.getElem?_eq_getElem hl'] at this
  rw [Option.some.inj this]
  apply cy_congr
  have hb0 := Int.emod_nonneg (0 - b) (b := (r.length : Int)) (by omega)
  rw [show ((i % (r.length : Int)).toNat : Int) = i % (r.length : Int) by omega, show (((0 - b) % (r.length : Int)).toNat : Int) = (0 - b) % (r.length : Int) by omega]
  rw [← Int.add_emod]
  congr 1
  omega
theorem tn_tn (r : List Nat) (a b : Int) : tn (tn r a) b = tn r (a + b) := by
  by_cases h : r = []
  · subst h; simp [tn, rot]
  apply row_ext (by simp [tn_len])
  intro i _
  rw [cy_tn _ _ _ (tn_ne h), cy_tn _ _ _ h, cy_tn _ _ _ h]
  congr 1
  omega
theorem tn_mod (r : List Nat) (a b : Int) (h : a % (r.length : Int) = b % (r.length : Int)) : tn r a = tn r b := by
  by_cases hr : r = []
  · subst hr; simp [tn, rot]
  apply row_ext (by simp [tn_len])
  intro i _
  rw [cy_tn _ _ _ hr, cy_tn _ _ _ hr]
  apply cy_congr
  rw [Int.sub_emod, h, ← Int.sub_emod]
theorem tn_zero (r : List Nat) : tn r 0 = r := by simp [tn, rot]
theorem tn_full (r : List Nat) : tn r r.length = r := by
  rw [tn_mod r _ 0 (by simp), tn_zero]
theorem tn_back (r : List Nat) (b : Int) : tn (tn r b) (0 - b) = r := by
  rw [tn_tn, show b + (0 - b) = 0 by omega, tn_zero]
theorem mem_cy {r : List Nat} (h : r ≠ []) (i : Int) : cy r i ∈ r := by
  have hp : 0 < r.length := List.length_pos_iff.mpr h
  have h0 := Int.emod_nonneg i (b := (r.length : Int)) (by omega)
  have h1 := Int.emod_lt_of_pos i (b := (r.length : Int)) (by omega)
  rw [← cy_emod, show i % (r.length : Int) = ((i % (r.length : Int)).toNat : Int) by omega, cy_nat (by omega)]
  exact List.getElem_mem _
theorem mem_tn {r : List Nat} {b : Int} {c : Nat} : c ∈ tn r b ↔ c ∈ r := by
  unfold tn rot
  rw [List.mem_append]
  constructor
  · rintro (h | h)
    · exact List.mem_of_mem_drop h
    · exact List.mem_of_mem_take h
  · intro h
    rw [← List.take_append_drop (((0 - b) % (r.length : Int)).toNat) r, List.mem_append] at h
    exact h.symm
theorem turned_ok (r : List Nat) (b : Int) (h : r ≠ []) (hl : r.length ≤ 1000000) : F_turned [.str (S r), .int b] = some (T (tn r b)) := by
  have hk := tn_k b h
  have hp : 0 < r.length := List.length_pos_iff.mpr h
  have h0 := Int.emod_nonneg (0 - b) (b := (r.length : Int)) (by omega)
  have h1 := Int.emod_lt_of_pos (0 - b) (b := (r.length : Int)) (by omega)
  have e0 : S_turned_0 [some (.val (T r)), some (.val (.int b)), none] = some (.nx [some (.val (T r)), some (.val (.int b)), some (.val (.int ((0 - b) % (r.length : Int))))]) := by
    simp (disch := omega) [S_turned_0, bLen_S, vMod_i]
  show (G_turned [some (.val (T r)), some (.val (.int b)), none]).bind outD = _
  unfold G_turned
  rw [seq_nx e0]
  have e1 := vSl_from (a := r) (i := (0 - b) % (r.length : Int)) (by omega) h0
  have e2 := vSl_to (a := r) (i := (0 - b) % (r.length : Int)) (by omega) h0
  have e3 := vAdd_S (a := r.drop ((0 - b) % (r.length : Int)).toNat) (b := r.take ((0 - b) % (r.length : Int)).toNat) (by simp; omega)
  unfold tn rot
  have e4 : S_turned_1 [some (.val (T r)), some (.val (.int b)), some (.val (.int ((0 - b) % (r.length : Int))))] = some (.rt (T (r.drop ((0 - b) % (r.length : Int)).toNat ++ r.take ((0 - b) % (r.length : Int)).toNat))) := by
    unfold S_turned_1
    generalize (0 - b) % (r.length : Int) = k at e1 e2 e3 ⊢
    simp [e1, e2, e3]
  rw [show S_turned_1 _ = _ from e4]
  rfl
end PM
namespace PM
open PySem PySem.Spec PyProof.Rows L2 PV WS
theorem run_of {n : Nat} {g : Rho → Option Out} {ds : List D} {ρ : Rho} {d : D} (h : startR n ds = ρ) (h2 : g ρ = some (.rt d)) : runF n g ds = some d := by
  unfold runF
  rw [h, h2]
  rfl
/-! texts put together -/
theorem join_S (ls : List (List Nat)) : Txt.join (S []) (ls.map S) = S ls.flatten := by
  rw [TL.join_eq]
  induction ls with
  | nil => rfl
  | cons a as ih =>
    cases as with
    | nil => simp [Str.join]
    | cons b bs =>
      rw [List.map_cons, List.map_cons] at *
      rw [Str.join, ih, S_app, S_app]
      · simp
      · simp
theorem strsOf_T (ls : List (List Nat)) : strsOf (ls.map T) = some (ls.map S) := by
  induction ls with
  | nil => rfl
  | cons a as ih =>
    rw [List.map_cons]
    unfold strsOf
    rw [ih]
    rfl
theorem mJoin_l (ls : List (List Nat)) (h : (ls.map (·.length)).sum ≤ 16777216) : mJoin (.str (S [])) [.list (ls.map T)] = some (T ls.flatten) := by
  show (strsOf (ls.map T)).bind _ = _
  rw [strsOf_T]
  simp only [Option.bind_some]
  rw [if_pos]
  · rw [join_S]
  · rw [List.map_map, show ((fun x : Str => x.length) ∘ S) = (fun x : List Nat => x.length) from funext fun x => S_len x, S_len]
    simpa using h
/-- one sign each -/
theorem mJoin_1 {α : Type} (f : α → Nat) (ls : List α) (h : ls.length ≤ 16777216) : mJoin (.str (S [])) [.list (ls.map fun x => T [f x])] = some (T (ls.map f)) := by
  have e : (ls.map fun x => T [f x]) = (ls.map fun x => [f x]).map T := by simp [List.map_map, Function.comp_def]
  rw [e, mJoin_l]
  · congr 2
    clear h e
    induction ls with
    | nil => rfl
    | cons a as ih => simp_all
  · have : ((ls.map fun x => [f x]).map (·.length)).sum = ls.length := by
      induction ls with
      | nil => rfl
      | cons a as ih => simp_all; omega
    rw [this]
    exact h
/-! the struck steps -/
def spots (r : List Nat) : List Nat := (List.range r.length).filter fun i : Nat => !decide (cy r (i : Nat) = 46)
theorem zipIdx_cy (r : List Nat) : r.zipIdx = (List.range r.length).map fun i : Nat => (cy r (i : Nat), i) := by
  apply List.ext_getElem (by simp)
  intro i h1 h2
  have h : i < r.length := by simpa using h1
  rw [List.getElem_zipIdx, List.getElem_map]
  simp [cy_nat h]
theorem enum_S (r : List Nat) : enumD (r.map fun c => .str (S [c])) = (List.range r.length).map fun i : Nat => .tuple [.int (i : Int), T [cy r (i : Nat)]] := by
  unfold enumD
  rw [List.zipIdx_map, zipIdx_cy, List.map_map, List.map_map]
  rfl
theorem struck_ok (r : List Nat) (hl : r.length ≤ 1000000) : F_struck [.str (S r)] = some (.tuple ((spots r).map fun i : Nat => .int (i : Int))) := by
  refine run_of (ρ := [some (.val (T r)), none, none]) rfl ?_
  have e := gLc_map (fi := iEnum1 (fVar 0)) (h := hTup 2 (hCons (hName 1) (hCons (hName 2) hNil))) (ft := tB1 (f2 vNe (fVar 2) (fC (.str ".")))) (fe := fVar 1) (vs := [1, 2]) (ρ := [some (.val (T r)), none, none]) (g := fun i : Nat => .tuple [.int (i : Int), T [cy r (i : Nat)]]) (xs := List.range r.length) (fun i => !decide (cy r (i : Nat) = 46)) (fun i => .int i) (by simp [items_S, enum_S]) (by simp; omega) (by
    intro i hi
    refine ⟨[some (.val (T r)), some (.val (.int i)), some (.val (T [cy r i]))], by simp [wipeR], ?_, fun _ => by simp⟩
    rw [lit_dot]
    simp [vNe_S])
  simp [G_struck, e, bTuple, spots]
/-! laid over one another -/
def rk (c : Nat) : Nat := if c = 88 then 2 else if c = 120 then 1 else 0
def mx (c d : Nat) : Nat := if rk c < rk d then d else c
def lay (a b : List Nat) : List Nat := (a.zip b).map fun p => mx p.1 p.2
theorem mIndex_3 (c : Nat) (h : Mk c) : mIndex (.str (S [46, 120, 88])) [T [c]] = some (.int (rk c)) := by
  rcases h with rfl | rfl | rfl <;> kernel_rfl
theorem vIx_3 (c d : Nat) (h : Mk c) (h' : Mk d) : vIx (.str (S [46, 120, 88])) (.int (if rk c < rk d then rk d else rk c)) = some (T [mx c d]) := by
  rcases h with rfl | rfl | rfl <;> rcases h' with rfl | rfl | rfl <;> kernel_rfl
theorem mx_mk {c d : Nat} (h : Mk c) (h' : Mk d) : Mk (mx c d) := by
  unfold mx
  split <;> assumption
theorem zipD_map {α β : Type} (f : α → D) (g : β → D) (a : List α) (b : List β) : zipD (a.map f) (b.map g) = (a.zip b).map fun p => .tuple [f p.1, g p.2] := by
  unfold zipD
  rw [List.zipWith_map, List.zip, List.map_zipWith]
theorem laid_ok (a b : List Nat) (ha : ∀ c ∈ a, Mk c) (hb : ∀ c ∈ b, Mk c) (hl : a.length ≤ 1000000) : F_laid [.str (S a), .str (S b)] = some (T (lay a b)) := by
  refine run_of (ρ := [some (.val (T a)), some (.val (T b)), none, none]) rfl ?_
  have e := gLc_all (fi := iZip2 (fVar 0) (fVar 1)) (h := hTup 2 (hCons (hName 2) (hCons (hName 3) hNil))) (ft := tYesF) (fe := (f2 vIx (fC (.str ".xX")) (fn bMax2 (aCons (fM mIndex (fC (.str ".xX")) (aCons (fVar 2) aNil)) (aCons (fM mIndex (fC (.str ".xX")) (aCons (fVar 3) aNil)) aNil))))) (vs := [2, 3]) (ρ := [some (.val (T a)), some (.val (T b)), none, none]) (g := fun p : Nat × Nat => .tuple [.str (S [p.1]), .str (S [p.2])]) (xs := a.zip b) (fun p => T [mx p.1 p.2]) (by simp [iZip2, items_S, zipD_map]) (by rw [List.length_zip]; omega) (by
    intro p hp
    obtain ⟨h1, h2⟩ := List.of_mem_zip hp
    refine ⟨[some (.val (T a)), some (.val (T b)), some (.val (T [p.1])), some (.val (T [p.2]))], by simp [wipeR], by simp, ?_⟩
    have e1 := mIndex_3 p.1 (ha _ h1)
    have e2 := mIndex_3 p.2 (hb _ h2)
    have e3 := vIx_3 p.1 p.2 (ha _ h1) (hb _ h2)
    rw [lit_3]
    simp [e1, e2, bMax2, bMax]
    exact e3)
  have e2 := mJoin_1 (fun p : Nat × Nat => mx p.1 p.2) (a.zip b) (by rw [List.length_zip]; omega)
  unfold G_laid
  rw [lit_e]
  simp [e, e2, lay]
end PM
namespace PM
open PySem PySem.Spec PyProof.Rows L2 PV WS
/-! the least of texts -/
def minL (a : List Nat) (as : List (List Nat)) : List Nat := as.foldl (fun m y => if y < m then y else m) a
def minLL : List (List Nat) → List Nat
  | [] => []
  | a :: as => minL a as
theorem minL_spec : ∀ (as : List (List Nat)) (a : List Nat), (minL a as = a ∨ minL a as ∈ as) ∧ (minL a as ≤ a) ∧ ∀ y ∈ as, minL a as ≤ y
  | [], a => ⟨.inl rfl, List.le_refl a, fun _ h => nomatch h⟩
  | b :: as, a => by
    have ih := minL_spec as (if b < a then b else a)
    have e : minL a (b :: as) = minL (if b < a then b else a) as := rfl
    rw [e]
    by_cases h : b < a
    · rw [if_pos h] at ih ⊢
      refine ⟨.inr ?_, ?_, ?_⟩
      · rcases ih.1 with h | h
        · rw [h]; exact List.mem_cons_self
        · exact List.mem_cons_of_mem _ h
      · exact List.le_trans ih.2.1 (List.le_of_lt h)
      · intro y hy
        rcases List.mem_cons.mp hy with rfl | hy
        · exact ih.2.1
        · exact ih.2.2 y hy
    · rw [if_neg h] at ih ⊢
      refine ⟨?_, ih.2.1, ?_⟩
      · rcases ih.1 with h | h
        · exact .inl h
        · exact .inr (List.mem_cons_of_mem _ h)
      · intro y hy
        rcases List.mem_cons.mp hy with rfl | hy
        · exact List.le_trans ih.2.1 (List.not_lt.mp h)
        · exact ih.2.2 y hy
theorem minLL_mem {ls : List (List Nat)} (h : ls ≠ []) : minLL ls ∈ ls := by
  cases ls with
  | nil => exact absurd rfl h
  | cons a as =>
    rcases (minL_spec as a).1 with h | h
    · show minL a as ∈ _
      rw [h]; exact List.mem_cons_self
    · exact List.mem_cons_of_mem _ h
theorem minLL_le {ls : List (List Nat)} : ∀ y ∈ ls, minLL ls ≤ y := by
  cases ls with
  | nil => exact fun _ h => nomatch h
  | cons a as =>
    intro y hy
    rcases List.mem_cons.mp hy with rfl | hy
    · exact (minL_spec as y).2.1
    · exact (minL_spec as a).2.2 y hy
theorem minLL_eq {ls ms : List (List Nat)} (h : ∀ y, y ∈ ls ↔ y ∈ ms) : minLL ls = minLL ms := by
  by_cases hl : ls = []
  · subst hl
    cases ms with
    | nil => rfl
    | cons a as => exact nomatch (h a).mpr List.mem_cons_self
  · have hm : ms ≠ [] := by
      intro hm
      subst hm
      exact nomatch (h _).mp (minLL_mem hl)
    exact List.le_antisymm (minLL_le _ ((h _).mpr (minLL_mem hm))) (minLL_le _ ((h _).mp (minLL_mem hl)))
theorem minD_T (a : List Nat) : ∀ as : List (List Nat), PySem.W.minD (T a) (as.map T) = T (minL a as) := by
  intro as
  induction as generalizing a with
  | nil => rfl
  | cons b as ih =>
    have e1 : PySem.W.minD (T a) ((b :: as).map T) = PySem.W.minD (if PySem.W.dataLt (T b) (T a) = true then T b else T a) (as.map T) := rfl
    have e2 : minL a (b :: as) = minL (if b < a then b else a) as := rfl
    rw [e1, e2, PySem.W.dataLt_str, S_list, S_list]
    by_cases h : b < a
    · rw [if_pos (by simpa using h), if_pos h]; exact ih b
    · rw [if_neg (by simpa using h), if_neg h]; exact ih a
/-- signs that can be laid -/
def Sg (l : List Nat) : Prop := ∀ c ∈ l, c < 1114112
theorem sg_lay {l : List Nat} (h : Sg l) : PyData.strOk (S l) = true := by
  unfold PyData.strOk
  rw [Array.all_eq_true_iff_forall_mem]
  intro c hc
  have : c ∈ l := by simpa [S] using hc
  simpa using h c this
theorem mk_sg {l : List Nat} (h : ∀ c ∈ l, Mk c) : Sg l := by
  intro c hc
  rcases h c hc with rfl | rfl | rfl <;> decide
theorem alikeOk_T {ls : List (List Nat)} (h : ∀ l ∈ ls, Sg l) : alikeOk (ls.map T) = true := by
  unfold alikeOk
  rw [Bool.and_eq_true]
  constructor
  · rw [List.all_eq_true]
    intro x hx
    obtain ⟨l, _, rfl⟩ := List.mem_map.mp hx
    rw [List.all_eq_true]
    intro y hy
    obtain ⟨m, _, rfl⟩ := List.mem_map.mp hy
    rfl
  · rw [List.all_eq_true]
    intro x hx
    obtain ⟨l, hl, rfl⟩ := List.mem_map.mp hx
    have : (T l).canLay0 = true := sg_lay (h l hl)
    rw [this]
    rfl
theorem someOk_T (ls : List (List Nat)) : someOk (ls.map T) = true := by
  unfold someOk
  rw [List.all_eq_true]
  intro x hx
  obtain ⟨l, _, rfl⟩ := List.mem_map.mp hx
  rfl
theorem bMin_T {ls : List (List Nat)} (h : ls ≠ []) (hs : ∀ l ∈ ls, Sg l) : bMin2 [.list (ls.map T)] = some (T (minLL ls)) := by
  cases ls with
  | nil => exact absurd rfl h
  | cons a as =>
    show (if alikeOk ((a :: as).map T) && someOk ((a :: as).map T) then some (PySem.W.minD (T a) (as.map T)) else none) = _
    rw [alikeOk_T hs, someOk_T, minD_T]
    rfl
/-! the least turn -/
def lt (r : List Nat) : List Nat := minLL ((List.range r.length).map fun k : Nat => tn r k)
theorem mem_turns {r y : List Nat} (h : r ≠ []) : y ∈ ((List.range r.length).map fun k : Nat => tn r k) ↔ ∃ b : Int, y = tn r b := by
  have hp : 0 < r.length := List.length_pos_iff.mpr h
  constructor
  · intro hy
    obtain ⟨k, _, rfl⟩ := List.mem_map.mp hy
    exact ⟨k, rfl⟩
  · rintro ⟨b, rfl⟩
    have h0 := Int.emod_nonneg b (b := (r.length : Int)) (by omega)
    have h1 := Int.emod_lt_of_pos b (b := (r.length : Int)) (by omega)
    refine List.mem_map.mpr ⟨(b % (r.length : Int)).toNat, by simp; omega, ?_⟩
    apply tn_mod
    rw [show ((b % (r.length : Int)).toNat : Int) = b % (r.length : Int) by omega, Int.emod_emod]
theorem turns_ne {r : List Nat} (h : r ≠ []) : ((List.range r.length).map fun k : Nat => tn r k) ≠ [] := by
  have hp : 0 < r.length := List.length_pos_iff.mpr h
  intro h'
  have := congrArg List.length h'
  simp at this
  exact absurd this h
theorem lt_turn {r : List Nat} (h : r ≠ []) : ∃ b : Int, lt r = tn r b := (mem_turns h).mp (minLL_mem (turns_ne h))
theorem lt_le {r : List Nat} (h : r ≠ []) (b : Int) : lt r ≤ tn r b := minLL_le _ ((mem_turns h).mpr ⟨b, rfl⟩)
theorem lt_tn {r : List Nat} (b : Int) (h : r ≠ []) : lt (tn r b) = lt r := by
  refine minLL_eq fun y => ?_
  rw [mem_turns (tn_ne h), mem_turns h]
  constructor
  · rintro ⟨c, rfl⟩
    exact ⟨b + c, tn_tn r b c⟩
  · rintro ⟨c, rfl⟩
    exact ⟨c - b, by rw [tn_tn]; congr 1; omega⟩
theorem lt_len {r : List Nat} (h : r ≠ []) : (lt r).length = r.length := by
  obtain ⟨b, e⟩ := lt_turn h
  rw [e, tn_len]
theorem lt_eq_iff {a b : List Nat} (ha : a ≠ []) (hb : b ≠ []) : lt a = lt b ↔ ∃ k : Int, b = tn a k := by
  constructor
  · intro e
    obtain ⟨c, ec⟩ := lt_turn ha
    obtain ⟨d, ed⟩ := lt_turn hb
    refine ⟨c - d, ?_⟩
    have : tn (tn b d) (0 - d) = tn (tn a c) (0 - d) := by rw [← ed, ← ec, e]
    rw [tn_back, tn_tn] at this
    rw [this]
    congr 1
    omega
  · rintro ⟨k, rfl⟩
    exact (lt_tn k ha).symm
theorem sg_tn {r : List Nat} {b : Int} (h : Sg r) : Sg (tn r b) := fun c hc => h c (mem_tn.mp hc)
theorem sg_lt {r : List Nat} (hr : r ≠ []) (h : Sg r) : Sg (lt r) := by
  obtain ⟨b, e⟩ := lt_turn hr
  rw [e]; exact sg_tn h
theorem least_ok (r : List Nat) (h : r ≠ []) (hs : Sg r) (hl : r.length ≤ 1000000) : F_least_turn [.str (S r)] = some (T (lt r)) := by
  refine run_of (ρ := [some (.val (T r)), none]) rfl ?_
  have e := gLc_all (fi := iRg1 (fn bLen (aCons (fVar 0) aNil))) (h := hName 1) (ft := tYesF) (fe := fn F_turned (aCons (fVar 0) (aCons (fVar 1) aNil))) (vs := [1]) (ρ := [some (.val (T r)), none]) (g := fun i : Nat => .int (i : Int)) (xs := List.range r.length) (fun k : Nat => T (tn r k)) (by
      have := iRg1_ev (fa := fn bLen (aCons (fVar 0) aNil)) (ρ := [some (.val (T r)), none]) (j := r.length) (by simp (disch := omega) [bLen_S]) (by omega) (by omega)
      simpa using this) (by simp; omega) (fun k _ => ⟨_, rfl, rfl, by simp [wipeR, turned_ok r k h hl]⟩)
  have e2 : bMin2 [.list ((List.range r.length).map fun k : Nat => T (tn r k))] = some (T (lt r)) := by
    have := bMin_T (turns_ne h) (fun l hl => by
      obtain ⟨b, rfl⟩ := (mem_turns h).mp hl
      exact sg_tn hs)
    rw [List.map_map] at this
    exact this
  unfold G_least_turn
  simp [e, e2]
theorem are_ok (a b : List Nat) (ha : a ≠ []) (hb : b ≠ []) (sa : Sg a) (sb : Sg b) (la : a.length ≤ 1000000) (lb : b.length ≤ 1000000) :
    F_are_turns [.str (S a), .str (S b)] = some (.bool (decide (lt a = lt b))) := by
  refine run_of (ρ := [some (.val (T a)), some (.val (T b))]) rfl ?_
  unfold G_are_turns
  have e1 := least_ok a ha sa la
  have e2 := least_ok b hb sb lb
  simp (disch := omega) [bLen_S, e1, e2, vEq_S]
  intro h e
  apply h
  have := congrArg List.length e
  rw [lt_len ha, lt_len hb] at this
  exact_mod_cast this
/-! by how much -/
theorem forF_find {α : Type} {b : Rho → Option Out} {h : D → Rho → Option Rho} {g : α → D} (p : α → Bool) (e : α → D) (Q : Rho → Prop) : ∀ (xs : List α) (ρ : Rho), Q ρ →
    (∀ x ∈ xs, ∀ ρ, Q ρ → ∃ ρ1, h (g x) ρ = some ρ1 ∧ (p x = true → b ρ1 = some (.rt (e x))) ∧ (p x = false → ∃ ρ2, b ρ1 = some (.nx ρ2) ∧ Q ρ2)) →
    match xs.find? p with
    | some x => forF b h (xs.map g) ρ = some (.rt (e x))
    | none => ∃ ρ', forF b h (xs.map g) ρ = some (.nx ρ') ∧ Q ρ'
  | [], ρ, q, _ => ⟨ρ, rfl, q⟩
  | x :: xs, ρ, q, hh => by
    obtain ⟨ρ1, h1, h2, h3⟩ := hh x List.mem_cons_self ρ q
    cases hp : p x with
    | true =>
      rw [List.find?_cons_of_pos hp]
      rw [List.map_cons]
      show forF b h (g x :: xs.map g) ρ = _
      unfold forF
      rw [h1]
      simp only [Option.bind_some]
      rw [h2 hp]
      rfl
    | false =>
      obtain ⟨ρ2, h4, q2⟩ := h3 hp
      have ih := forF_find p e Q xs ρ2 q2 (fun y hy => hh y (List.mem_cons_of_mem _ hy))
      have e0 : forF b h ((x :: xs).map g) ρ = forF b h (xs.map g) ρ2 := by
        rw [List.map_cons]
        conv => lhs; unfold forF
        rw [h1]
        simp only [Option.bind_some]
        rw [h4]
        rfl
      rw [List.find?_cons_of_neg (by simp [hp]), e0]
      exact ih
def tt (a b : List Nat) : Option Nat := if a.length = b.length then (List.range a.length).find? fun k : Nat => decide (tn a k = b) else none
def noD {α : Type} (f : α → D) : Option α → D
  | some x => f x
  | none => .none
theorem turns_to_ok (a b : List Nat) (ha : a ≠ []) (la : a.length ≤ 1000000) (lb : b.length ≤ 1000000) :
    F_turns_to [.str (S a), .str (S b)] = some (noD (fun k : Nat => .int (k : Int)) (tt a b)) := by
  refine run_of (ρ := [some (.val (T a)), some (.val (T b)), none]) rfl ?_
  unfold G_turns_to tt
  by_cases hl : a.length = b.length
  · rw [if_pos hl]
    have e0 : S_turns_to_0 [some (.val (T a)), some (.val (T b)), none] = some (.nx [some (.val (T a)), some (.val (T b)), none]) := by
      unfold S_turns_to_0
      simp (disch := omega) [bLen_S, hl]
    rw [seq_nx e0]
    have er : iRg1 (fn bLen (aCons (fVar 0) aNil)) [some (.val (T a)), some (.val (T b)), none] = some ((List.range a.length).map fun k : Nat => .int (k : Int)) := by
      have := iRg1_ev (fa := fn bLen (aCons (fVar 0) aNil)) (ρ := [some (.val (T a)), some (.val (T b)), none]) (j := a.length) (by simp (disch := omega) [bLen_S]) (by omega) (by omega)
      simpa using this
    have := forF_find (b := (sIf (tB1 (f2 vEq (fn F_turned (aCons (fVar 0) (aCons (fVar 2) aNil))) (fVar 1))) (sRet (fVar 2)) sNext)) (h := hName 2) (g := fun k : Nat => .int (k : Int)) (fun k : Nat => decide (tn a k = b)) (fun k => .int k) (fun ρ => ∃ s, ρ = [some (.val (T a)), some (.val (T b)), s]) (List.range a.length) [some (.val (T a)), some (.val (T b)), none] ⟨none, rfl⟩ (by
      rintro k _ ρ ⟨s, rfl⟩
      have et := turned_ok a k ha la
      refine ⟨_, rfl, fun h => ?_, fun h => ⟨_, ?_, some (.val (.int k)), rfl⟩⟩
      · simp only [decide_eq_true_eq] at h
        simp [et, vEq_S, h]
      · simp only [decide_eq_false_iff_not] at h
        simp [et, vEq_S, h])
    have e1 : S_turns_to_1 [some (.val (T a)), some (.val (T b)), none] = forF (sIf (tB1 (f2 vEq (fn F_turned (aCons (fVar 0) (aCons (fVar 2) aNil))) (fVar 1))) (sRet (fVar 2)) sNext) (hName 2) ((List.range a.length).map fun k : Nat => .int (k : Int)) [some (.val (T a)), some (.val (T b)), none] := by
      unfold S_turns_to_1
      rw [sFor_ev, er]
      rfl
    cases hf : (List.range a.length).find? (fun k : Nat => decide (tn a k = b)) with
    | some k =>
      rw [hf] at this
      rw [seq_rt (e1.trans this)]
      rfl
    | none =>
      rw [hf] at this
      obtain ⟨ρ', e2, s, rfl⟩ := this
      rw [seq_nx (e1.trans e2)]
      rfl
  · rw [if_neg hl]
    have e0 : S_turns_to_0 [some (.val (T a)), some (.val (T b)), none] = some (.rt .none) := by
      unfold S_turns_to_0
      have : ¬ (a.length : Int) = b.length := by omega
      simp (disch := omega) [bLen_S, this]
    rw [seq_rt e0]
    rfl
end PM
namespace PM
open PySem PySem.Spec PyProof.Rows L2 PV WS
/-! gaps -/
theorem mem_spots {r : List Nat} {i : Nat} : i ∈ spots r ↔ i < r.length ∧ cy r i ≠ 46 := by
  unfold spots
  rw [List.mem_filter, List.mem_range]
  simp
theorem spots_lt {r : List Nat} {i j : Nat} (hi : i < (spots r).length) (hj : j < (spots r).length) (h : i < j) : (spots r)[i] < (spots r)[j] :=
  List.pairwise_iff_getElem.mp (List.Pairwise.filter _ List.pairwise_lt_range) i j hi hj h
theorem spots_le {r : List Nat} {i j : Nat} (hi : i < (spots r).length) (hj : j < (spots r).length) (h : i ≤ j) : (spots r)[i] ≤ (spots r)[j] := by
  rcases Nat.lt_or_ge i j with h' | h'
  · exact Nat.le_of_lt (spots_lt hi hj h')
  · have : i = j := by omega
    subst this
    exact Nat.le_refl _
def nxt (r : List Nat) (i : Int) (d : Nat) : Prop := 1 ≤ d ∧ d ≤ r.length ∧ cy r (i + d) ≠ 46 ∧ ∀ e : Nat, 1 ≤ e → e < d → cy r (i + e) = 46
def gf (r : List Nat) (i : Int) : Nat := ((List.range r.length).find? fun d : Nat => !decide (cy r (i + d + 1) = 46)).getD 0 + 1
theorem find_range {n : Nat} {p : Nat → Bool} {d : Nat} (hd : d < n) (hp : p d = true) (h : ∀ e, e < d → p e = false) : (List.range n).find? p = some d := by
  rw [List.find?_eq_some_iff_getElem]
  refine ⟨hp, d, by simpa using hd, by simp, fun j hj => ?_⟩
  simp [h j hj]
theorem gf_of_nxt {r : List Nat} {i : Int} {d : Nat} (h : nxt r i d) : gf r i = d := by
  obtain ⟨h1, h2, h3, h4⟩ := h
  unfold gf
  rw [find_range (d := d - 1) (by omega)]
  · simp; omega
  · have : i + ((d - 1 : Nat) : Int) + 1 = i + d := by omega
    rw [this]
    simpa using h3
  · intro e he
    have := h4 (e + 1) (by omega) (by omega)
    have e2 : i + ((e + 1 : Nat) : Int) = i + e + 1 := by omega
    rw [e2] at this
    simp [this]
theorem gap_next {r : List Nat} {k : Nat} (hk : k < (spots r).length) : nxt r ((spots r)[k] : Nat) (if h : k + 1 < (spots r).length then (spots r)[k + 1] - (spots r)[k] else (spots r)[0] + r.length - (spots r)[k]) := by
  have hm : ∀ l (hl : l < (spots r).length), (spots r)[l] < r.length ∧ cy r ((spots r)[l] : Nat) ≠ 46 := fun l hl => mem_spots.mp (List.getElem_mem hl)
  have hs : ∀ j : Nat, j < r.length → cy r j ≠ 46 → ∃ l, ∃ h : l < (spots r).length, (spots r)[l] = j := fun j h1 h2 => by
    obtain ⟨l, h, e⟩ := List.mem_iff_getElem.mp (mem_spots.mpr ⟨h1, h2⟩)
    exact ⟨l, h, e⟩
  have hkn := hm k hk
  split
  · rename_i h
    have hlt := spots_lt hk h (Nat.lt_succ_self k)
    have hn := hm (k + 1) h
    refine ⟨by omega, by omega, ?_, fun e h1 h2 => ?_⟩
    · rw [show (((spots r)[k] : Nat) : Int) + (((spots r)[k + 1] - (spots r)[k] : Nat) : Int) = ((spots r)[k + 1] : Nat) by omega]
      exact hn.2
    · apply Classical.byContradiction
      intro hc
      rw [show (((spots r)[k] : Nat) : Int) + (e : Int) = (((spots r)[k] + e : Nat) : Int) by omega] at hc
      obtain ⟨l, hl, el⟩ := hs _ (by omega) hc
      rcases Nat.lt_or_ge k l with h3 | h3
      · have := spots_le h hl h3
        omega
      · have := spots_le hl hk h3
        omega
  · rename_i h
    have h0 : 0 < (spots r).length := by omega
    have hle := spots_le h0 hk (Nat.zero_le k)
    have hn := hm 0 h0
    refine ⟨by omega, by omega, ?_, fun e h1 h2 => ?_⟩
    · have : cy r ((((spots r)[k] : Nat) : Int) + (((spots r)[0] + r.length - (spots r)[k] : Nat) : Int)) = cy r ((spots r)[0] : Nat) := by
        apply cy_congr
        rw [show (((spots r)[k] : Nat) : Int) + (((spots r)[0] + r.length - (spots r)[k] : Nat) : Int) = ((spots r)[0] : Nat) + r.length by omega, Int.add_emod_right]
      rw [this]
      exact hn.2
    · apply Classical.byContradiction
      intro hc
      by_cases hj : (spots r)[k] + e < r.length
      · rw [show (((spots r)[k] : Nat) : Int) + (e : Int) = (((spots r)[k] + e : Nat) : Int) by omega] at hc
        obtain ⟨l, hl, el⟩ := hs _ hj hc
        have := spots_le hl hk (by omega)
        omega
      · have e3 : cy r ((((spots r)[k] : Nat) : Int) + (e : Int)) = cy r (((spots r)[k] + e - r.length : Nat) : Int) := by
          apply cy_congr
          rw [show (((spots r)[k] : Nat) : Int) + (e : Int) = (((spots r)[k] + e - r.length : Nat) : Int) + r.length by omega, Int.add_emod_right]
        rw [e3] at hc
        obtain ⟨l, hl, el⟩ := hs _ (by omega) hc
        have := spots_le h0 hl (Nat.zero_le l)
        omega
/-- the one that follows, going round -/
theorem gap_val {r : List Nat} {k o : Nat} (hk : k < (spots r).length) (ho : ((spots r).drop 1 ++ (spots r).take 1)[k]? = some o) :
    ((o : Int) - ((spots r)[k] : Nat)) % (r.length : Int) = if gf r ((spots r)[k] : Nat) = r.length then 0 else gf r ((spots r)[k] : Nat) := by
  have hx := gap_next hk
  have hg := gf_of_nxt hx
  obtain ⟨h1, h2, _, _⟩ := hx
  rw [hg]
  have hm : ∀ l (hl : l < (spots r).length), (spots r)[l] < r.length := fun l hl => (mem_spots.mp (List.getElem_mem hl)).1
  have hkn := hm k hk
  split at h1
  · rename_i h
    simp only [dif_pos h] at h2 ⊢
    have hlt := spots_lt hk h (Nat.lt_succ_self k)
    have hn := hm (k + 1) h
    rw [List.getElem?_append_left (by simp; omega), List.getElem?_drop, show 1 + k = k + 1 by omega, List.getElem?_eq_getElem h] at ho
    cases ho
    rw [if_neg (by omega), Int.emod_eq_of_lt (by omega) (by omega)]
    omega
  · rename_i h
    simp only [dif_neg h] at h2 ⊢
    have h0 : 0 < (spots r).length := by omega
    have hle := spots_le h0 hk (Nat.zero_le k)
    have hn := hm 0 h0
    rw [List.getElem?_append_right (by simp; omega), List.length_drop, List.getElem?_take, if_pos (by omega), show k - ((spots r).length - 1) = 0 by omega, List.getElem?_eq_getElem h0] at ho
    cases ho
    by_cases he : (spots r)[0] = (spots r)[k]
    · rw [if_pos (by omega), he]
      simp
    · rw [if_neg (by omega)]
      rw [show (((spots r)[0] : Nat) : Int) - ((spots r)[k] : Nat) = ((((spots r)[0] + r.length - (spots r)[k] : Nat) : Int)) + -1 * (r.length : Int) by omega, Int.add_mul_emod_self_right, Int.emod_eq_of_lt (by omega) (by omega)]
theorem gf_r {r : List Nat} {i : Nat} (h : i ∈ spots r) : nxt r i (gf r i) := by
  obtain ⟨k, hk, e⟩ := List.mem_iff_getElem.mp h
  have hx := gap_next hk
  subst e
  rw [gf_of_nxt hx]
  exact hx
theorem spots_len (r : List Nat) : (spots r).length ≤ r.length := by
  have := List.length_filter_le (fun i : Nat => !decide (cy r (i : Nat) = 46)) (List.range r.length)
  simpa [spots] using this
def gp (r : List Nat) : List Nat := (spots r).map fun i : Nat => gf r (i : Nat)
abbrev dI (l : List Nat) : List D := l.map fun i : Nat => .int (i : Int)
theorem gaps_loop (r : List Nat) (hl : r.length ≤ 1000000) : ∃ a b c, S_gaps_2 [some (.val (T r)), some (.val (.tuple (dI (spots r)))), some (.val (.tuple [])), none, none, none] = some (.nx [some (.val (T r)), some (.val (.tuple (dI (spots r)))), some (.val (.tuple (dI (gp r)))), a, b, c]) := by
  have hi : iZip2 (fVar 1) (f2 vAdd (fSl (fVar 1) (pSome (fC (.int 1))) pNo) (fSl (fVar 1) pNo (pSome (fC (.int 1))))) [some (.val (T r)), some (.val (.tuple (dI (spots r)))), some (.val (.tuple [])), none, none, none] = some (((spots r).zip ((spots r).drop 1 ++ (spots r).take 1)).map fun p => .tuple [.int (p.1 : Nat), .int (p.2 : Nat)]) := by
    have hL := spots_len r
    have e3 := vAdd_t (a := (dI (spots r)).drop 1) (b := (dI (spots r)).take 1) (by simp; omega)
    rw [show (1 : Nat) = (1 : Int).toNat from rfl] at e3
    unfold iZip2
    simp only [fVar_ev, nth_0, nth_s, getV_v, Option.bind_some, f2_ev, fSl_ev, fC_ev, pNo_ev, pSome_ev, intK_i, vSl_tfrom (i := 1) (by decide), vSl_tto (i := 1) (by decide), e3, items_t]
    rw [show (1 : Int).toNat = 1 from rfl, ← List.map_drop, ← List.map_take, ← List.map_append, Option.map_some, zipD_map]
  have hz : (spots r).zip ((spots r).drop 1 ++ (spots r).take 1) = (spots r).zip ((spots r).drop 1 ++ (spots r).take 1) := rfl
  have hzl : ((spots r).zip ((spots r).drop 1 ++ (spots r).take 1)).length = (spots r).length := by
    rw [List.length_zip]
    simp
    omega
  have := sFor_inv (fi := iZip2 (fVar 1) (f2 vAdd (fSl (fVar 1) (pSome (fC (.int 1))) pNo) (fSl (fVar 1) pNo (pSome (fC (.int 1)))))) (h := hTup 2 (hCons (hName 3) (hCons (hName 4) hNil))) (b := (sSeq (sSetG (f2 vMod (f2 vSub (fVar 4) (fVar 3)) (fn bLen (aCons (fVar 0) aNil))) (hName 5))
    (sSeq (sIf (tB1 (f2 vEq (fVar 5) (fC (.int 0)))) (sSetG (fn bLen (aCons (fVar 0) aNil)) (hName 5)) sNext)
    (sSetG (f2 vAdd (fVar 2) (fTup' (aCons (fVar 5) aNil))) (hName 2))))) (fun k ρ => ∃ a b c, ρ = [some (.val (T r)), some (.val (.tuple (dI (spots r)))), some (.val (.tuple (dI ((gp r).take k)))), a, b, c]) hi ⟨none, none, none, rfl⟩ (by
      rintro k d ρ hd ⟨a, b, c, rfl⟩
      rw [List.getElem?_map] at hd
      obtain ⟨⟨s, o⟩, hz, rfl⟩ := Option.map_eq_some_iff.mp hd
      rw [List.getElem?_zip_eq_some] at hz
      obtain ⟨h1, h2⟩ := hz
      dsimp only at h1 h2
      obtain ⟨hk, hs⟩ := List.getElem?_eq_some_iff.mp h1
      have hv := gap_val hk h2
      have hn := gf_r (List.getElem_mem hk)
      rw [hs] at hv hn
      have hp : 0 < r.length := by have := hn.1; have := hn.2.1; omega
      have hgt : (gp r).take (k + 1) = (gp r).take k ++ [gf r (s : Nat)] := by
        have hkg : k < (gp r).length := by simpa [gp] using hk
        rw [List.take_succ_eq_append_getElem hkg]
        congr 2
        simp [gp, hs]
      have hL := spots_len r
      have hgl : (gp r).length ≤ r.length := by simpa [gp] using hL
      refine ⟨_, rfl, _, ?_, some (.val (.int s)), some (.val (.int o)), some (.val (.int (gf r (s : Nat)))), rfl⟩
      rw [hgt]
      by_cases hg : gf r (s : Nat) = r.length
      · rw [if_pos hg] at hv
        simp (disch := first | omega | (simp; omega)) [bLen_S, vMod_i, hv, hg, vAdd_t]
      · rw [if_neg hg] at hv
        have h1 := hn.1
        have : ¬ gf r (s : Nat) = 0 := by omega
        simp (disch := first | omega | (simp; omega)) [bLen_S, vMod_i, hv, this, vAdd_t])
  obtain ⟨ρ', e, a, b, c, rfl⟩ := this
  refine ⟨a, b, c, ?_⟩
  rw [List.length_map, hzl, List.take_of_length_le (by simp [gp])] at e
  exact e
theorem gaps_ok (r : List Nat) (hl : r.length ≤ 1000000) : F_gaps [.str (S r)] = some (.tuple (dI (gp r))) := by
  refine run_of (ρ := [some (.val (T r)), none, none, none, none, none]) rfl ?_
  have es := struck_ok r hl
  have e0 : S_gaps_0 [some (.val (T r)), none, none, none, none, none] = some (.nx [some (.val (T r)), some (.val (.tuple (dI (spots r)))), none, none, none, none]) := by
    unfold S_gaps_0
    simp [es]
  have e1 : S_gaps_1 [some (.val (T r)), some (.val (.tuple (dI (spots r)))), none, none, none, none] = some (.nx [some (.val (T r)), some (.val (.tuple (dI (spots r)))), some (.val (.tuple [])), none, none, none]) := by
    unfold S_gaps_1
    simp
  obtain ⟨a, b, c, e2⟩ := gaps_loop r hl
  unfold G_gaps
  rw [seq_nx e0, seq_nx e1, seq_nx e2]
  rfl
/-! turned: the spots and gaps go along -/
def sh (n : Nat) (b : Int) (i : Nat) : Nat := (((i : Int) + b) % (n : Int)).toNat
theorem sh_cast {n i : Nat} {b : Int} (h : 0 < n) : ((sh n b i : Nat) : Int) = ((i : Int) + b) % (n : Int) := by
  unfold sh
  have := Int.emod_nonneg ((i : Int) + b) (b := (n : Int)) (by omega)
  omega
theorem sh_perm {n : Nat} (b : Int) (h : 0 < n) : List.Perm ((List.range n).map (sh n b)) (List.range n) := by
  rw [List.perm_ext_iff_of_nodup]
  · intro j
    rw [List.mem_map, List.mem_range]
    constructor
    · rintro ⟨i, _, rfl⟩
      have := Int.emod_lt_of_pos ((i : Int) + b) (b := (n : Int)) (by omega)
      have e := sh_cast (n := n) (i := i) (b := b) h
      omega
    · intro hj
      refine ⟨sh n (0 - b) j, ?_, ?_⟩
      · have := Int.emod_lt_of_pos ((j : Int) + (0 - b)) (b := (n : Int)) (by omega)
        have e := sh_cast (n := n) (i := j) (b := 0 - b) h
        exact List.mem_range.mpr (by omega)
      · have e := sh_cast (n := n) (i := sh n (0 - b) j) (b := b) h
        rw [sh_cast (n := n) (i := j) (b := 0 - b) h, Int.emod_add_emod, show (j : Int) + (0 - b) + b = j by omega, Int.emod_eq_of_lt (by omega) (by omega)] at e
        omega
  · rw [List.Nodup, List.pairwise_map]
    refine List.Pairwise.imp_of_mem ?_ (List.pairwise_lt_range (n := n))
    intro i j hi hj hlt he
    rw [List.mem_range] at hi hj
    have e1 := sh_cast (n := n) (i := i) (b := b) h
    have e2 := sh_cast (n := n) (i := j) (b := b) h
    rw [he, e2] at e1
    have e3 := congrArg (fun z => (z - b) % (n : Int)) e1
    simp only [Int.emod_sub_emod] at e3
    rw [show (j : Int) + b - b = j by omega, show (i : Int) + b - b = i by omega, Int.emod_eq_of_lt (by omega) (by omega), Int.emod_eq_of_lt (by omega) (by omega)] at e3
    omega
  · exact List.nodup_range
theorem spots_tn (r : List Nat) (b : Int) (h : r ≠ []) : List.Perm (spots (tn r b)) ((spots r).map (sh r.length b)) := by
  have hp : 0 < r.length := List.length_pos_iff.mpr h
  have h1 := (sh_perm b hp).filter (fun i : Nat => !decide (cy (tn r b) (i : Nat) = 46))
  rw [List.filter_map] at h1
  unfold spots
  rw [tn_len]
  refine h1.symm.trans ?_
  have : ((fun i : Nat => !decide (cy (tn r b) (i : Nat) = 46)) ∘ sh r.length b) = fun i : Nat => !decide (cy r (i : Nat) = 46) := by
    funext i
    show (!decide (cy (tn r b) (sh r.length b i : Nat) = 46)) = _
    rw [cy_tn _ _ _ h, sh_cast hp]
    congr 3
    refine cy_congr ?_
    rw [Int.emod_sub_emod]
    congr 1
    omega
  rw [this]
theorem gf_tn (r : List Nat) (b i : Int) (h : r ≠ []) : gf (tn r b) i = gf r (i - b) := by
  unfold gf
  rw [tn_len]
  congr 3
  funext d
  rw [cy_tn _ _ _ h, show i + (d : Int) + 1 - b = i - b + d + 1 by omega]
theorem gf_congr {r : List Nat} {i j : Int} (h : i % (r.length : Int) = j % (r.length : Int)) : gf r i = gf r j := by
  unfold gf
  congr 3
  funext d
  rw [cy_congr (i := i + d + 1) (j := j + d + 1)]
  rw [show i + d + 1 = i + (d + 1) by omega, show j + d + 1 = j + (d + 1) by omega, Int.add_emod, h, ← Int.add_emod]
theorem gp_tn (r : List Nat) (b : Int) (h : r ≠ []) : List.Perm (gp (tn r b)) (gp r) := by
  have hp : 0 < r.length := List.length_pos_iff.mpr h
  unfold gp
  refine ((spots_tn r b h).map _).trans ?_
  rw [List.map_map]
  refine List.Perm.of_eq (List.map_congr_left fun i _ => ?_)
  show gf (tn r b) (sh r.length b i : Nat) = _
  rw [gf_tn _ _ _ h, sh_cast hp]
  refine gf_congr ?_
  rw [Int.emod_sub_emod]
  congr 1
  omega
/-! sorted numbers -/
def srt (l : List Nat) : List Nat := l.mergeSort (fun a b => decide (a ≤ b))
theorem srt_perm {l m : List Nat} (h : List.Perm l m) : srt l = srt m := by
  have t : ∀ a b c : Nat, decide (a ≤ b) = true → decide (b ≤ c) = true → decide (a ≤ c) = true := by simp; omega
  have o : ∀ a b : Nat, (decide (a ≤ b) || decide (b ≤ a)) = true := by simp; omega
  refine List.Perm.eq_of_pairwise (le := fun a b => decide (a ≤ b) = true) ?_ (List.pairwise_mergeSort t o l) (List.pairwise_mergeSort t o m) ((List.mergeSort_perm _ _).trans (h.trans (List.mergeSort_perm _ _).symm))
  simp
  omega
theorem srt_id {l : List Nat} (h : l.Pairwise (· < ·)) : srt l = l := by
  refine List.mergeSort_of_pairwise ?_
  refine h.imp ?_
  simp
  omega
theorem bSort_dI (l : List Nat) (h : l.length ≤ 16777216) : vSort (dI l) = some (dI (srt l)) := by
  unfold vSort
  have h1 : alikeOk (dI l) = true := by
    unfold alikeOk
    rw [Bool.and_eq_true]
    constructor
    · rw [List.all_eq_true]
      intro x hx
      obtain ⟨l, _, rfl⟩ := List.mem_map.mp hx
      rw [List.all_eq_true]
      intro y hy
      obtain ⟨m, _, rfl⟩ := List.mem_map.mp hy
      rfl
    · rw [List.all_eq_true]
      intro x hx
      obtain ⟨l, hl, rfl⟩ := List.mem_map.mp hx
      rfl
  have h2 : sortOk (dI l) = true := by
    unfold sortOk
    rw [Bool.or_eq_true]
    right
    rw [List.all_eq_true]
    intro x hx
    obtain ⟨l, hl, rfl⟩ := List.mem_map.mp hx
    rfl
  rw [h1, h2, if_pos (by simpa using h)]
  congr 1
  unfold srt
  refine (List.map_mergeSort ?_).symm
  intro a _ b _
  have : PySem.W.dataLe false id (PyData.int (a : Int)) (PyData.int (b : Int)) = !PySem.W.dataLt (PyData.int (b : Int)) (PyData.int (a : Int)) := rfl
  rw [this, PySem.W.dataLt_int]
  by_cases h : a ≤ b
  · have h3 : ¬ ((b : Int) < a) := by omega
    simp [h, h3]
  · have h3 : ((b : Int) < a) := by omega
    simp [h, h3]
end PM
namespace PM
open PySem PySem.Spec PyProof.Rows L2 PV WS
theorem set_nx {fa : Rho → Option D} {i : Nat} {ρ : Rho} {d : D} (h : fa ρ = some d) : sSetG fa (hName i) ρ = some (.nx (ρ.set i (some (.val d)))) := by simp [h]
theorem if_no {fc : Rho → Option Bool} {g : Rho → Option Out} {ρ : Rho} (h : fc ρ = some false) : sIf fc g sNext ρ = some (.nx ρ) := by simp [h]
theorem ret_of {fa : Rho → Option D} {ρ : Rho} {d : D} (h : fa ρ = some d) : sRet fa ρ = some (.rt d) := by simp [h]
@[simp] theorem vIs_bb (a b : Bool) : vIs (.bool a) (.bool b) = some (.bool (decide (a = b))) := rfl
@[simp] theorem vIsNot_bb (a b : Bool) : vIsNot (.bool a) (.bool b) = some (.bool (!decide (a = b))) := rfl
@[simp] theorem vIs_in (a : Int) : vIs (.int a) .none = some (.bool false) := rfl
@[simp] theorem vIsNot_in (a : Int) : vIsNot (.int a) .none = some (.bool true) := rfl
@[simp] theorem vIs_tn (a : List D) : vIs (.tuple a) .none = some (.bool false) := rfl
@[simp] theorem vIsNot_tn (a : List D) : vIsNot (.tuple a) .none = some (.bool true) := rfl
@[simp] theorem vIs_nn : vIs .none .none = some (.bool true) := rfl
@[simp] theorem vIsNot_nn : vIsNot .none .none = some (.bool false) := rfl
def chK (o : Option D) : D → Option D
  | .bool c => if c = true then o else some (.bool false)
  | _ => none
@[simp] theorem chK_b (o : Option D) (c : Bool) : chK o (.bool c) = if c = true then o else some (.bool false) := rfl
@[simp] theorem fChain_ev (g g' : D → D → Option D) (fa fb fc : Rho → Option D) (ρ : Rho) : fChain g g' fa fb fc ρ = (fa ρ).bind fun x => (fb ρ).bind fun y => (g x y).bind fun z => chK ((fc ρ).bind fun w => g' y w) z := by
  unfold fChain
  cases fa ρ with
  | none => rfl
  | some x =>
    simp only [Option.bind_some]
    cases fb ρ with
    | none => rfl
    | some y =>
      simp only [Option.bind_some]
      cases g x y with
      | none => rfl
      | some z => cases z <;> rfl
/-! two things alike -/
theorem flatInts (l : List Nat) : PyData.canLayAll0 (dI l) = true := by
  induction l with
  | nil => rfl
  | cons a as ih =>
    show PyData.canLayAll0 (.int (a : Int) :: dI as) = true
    rw [PyData.canLayAll0, ih]
    rfl
theorem depth_ints (l : List Nat) : PyData.depthAll (dI l) ≤ 1 := by
  induction l with
  | nil => decide
  | cons a as ih =>
    show PyData.depthAll (.int (a : Int) :: dI as) ≤ 1
    rw [PyData.depthAll]
    have : PyData.depth (.int (a : Int)) ≤ 1 := by simp [PyData.depth]
    omega
theorem shaped_t (l : List Nat) : SeqAt.shaped (.tuple (dI l)) = true := by
  unfold SeqAt.shaped
  rw [Bool.and_eq_true, PyData.canLay0, decide_eq_true_eq, PyData.depth]
  exact ⟨flatInts l, by have := depth_ints l; omega⟩
theorem shaped_l (l : List Nat) : SeqAt.shaped (.list (dI l)) = true := by
  unfold SeqAt.shaped
  rw [Bool.and_eq_true, PyData.canLay0, decide_eq_true_eq, PyData.depth]
  exact ⟨flatInts l, by have := depth_ints l; omega⟩
theorem vEqB_refl {d : D} (h : SeqAt.shaped d = true) : vEqB d d = some true := by
  have h2 : d.canLay0 = true := by
    unfold SeqAt.shaped at h
    rw [Bool.and_eq_true] at h
    exact h.1
  have e := SeqAt.eqv_refl d h2
  unfold vEqB
  split
  · simp
  · simp
  · rw [if_pos ⟨h, h⟩, e]
theorem vEq_refl {d : D} (h : SeqAt.shaped d = true) : vEq d d = some (.bool true) := by
  unfold vEq
  rw [vEqB_refl h]
  rfl
theorem vNe_refl {d : D} (h : SeqAt.shaped d = true) : vNe d d = some (.bool false) := by
  unfold vNe
  rw [vEqB_refl h]
  rfl
@[simp] theorem vNe_nil : vNe (.list []) (.list []) = some (.bool false) := by kernel_rfl
/-! turns_to -/
theorem tt_tn {r : List Nat} (b : Int) (h : r ≠ []) : ∃ k, tt r (tn r b) = some k ∧ k < r.length ∧ tn r k = tn r b ∧ ∀ j, j < k → tn r j ≠ tn r b := by
  unfold tt
  rw [if_pos (tn_len r b).symm]
  cases e : (List.range r.length).find? (fun k : Nat => decide (tn r k = tn r b)) with
  | none =>
    rw [List.find?_eq_none] at e
    obtain ⟨k, hk, ek⟩ := List.mem_map.mp ((mem_turns h).mpr ⟨b, rfl⟩)
    exact absurd (decide_eq_true ek) (e k hk)
  | some k =>
    rw [List.find?_eq_some_iff_getElem] at e
    obtain ⟨h1, i, hi, e1, h2⟩ := e
    have e1' : i = k := by simpa using e1
    subst e1'
    refine ⟨i, rfl, by simpa using hi, by simpa using h1, fun j hj => ?_⟩
    have := h2 j hj
    simpa using this
theorem tt_none {a b : List Nat} (ha : a ≠ []) (hb : b ≠ []) (h : lt a ≠ lt b) : tt a b = none := by
  unfold tt
  split
  · rw [List.find?_eq_none]
    intro k hk h2
    exact h ((lt_eq_iff ha hb).mpr ⟨k, (of_decide_eq_true h2).symm⟩)
  · rfl
theorem tt_self {r : List Nat} (h : r ≠ []) : tt r r = some 0 := by
  unfold tt
  have hp : 0 < r.length := List.length_pos_iff.mpr h
  rw [if_pos rfl]
  refine find_range hp ?_ (fun e he => absurd he (by omega))
  simp [tn_zero]
theorem rot_perm (r : List Nat) (k : Nat) : List.Perm (rot r k) r := by
  unfold rot
  refine List.perm_append_comm.trans ?_
  rw [List.take_append_drop]
theorem tn_perm (r : List Nat) (b : Int) : List.Perm (tn r b) r := rot_perm r _
/-- a row with another mark at one step -/
theorem bent_not {r : List Nat} {i d : Nat} (hi : i < r.length) (hd : d ≠ r[i]) : lt r ≠ lt (r.take i ++ [d] ++ r.drop (i + 1)) := by
  intro e
  have hr : r ≠ [] := by intro h; subst h; simp at hi
  obtain ⟨k, ek⟩ := (lt_eq_iff hr (by simp)).mp e
  have hp : List.Perm (r.take i ++ [d] ++ r.drop (i + 1)) r := by rw [ek]; exact tn_perm r k
  have h1 := hp.count_eq r[i]
  have h2 : r = r.take i ++ [r[i]] ++ r.drop (i + 1) := by simp
  have h3 := congrArg (List.count r[i]) h2
  rw [h3] at h1
  simp only [List.count_append, List.count_singleton_self] at h1
  have h4 : List.count r[i] [d] = 0 := by
    rw [List.count_eq_zero]
    simp
    exact fun h => hd h.symm
  omega
end PM
namespace PM
open PySem PySem.Spec PyProof.Rows L2 PV WS
@[simp] theorem vEq_bb (a b : Bool) : vEq (.bool a) (.bool b) = some (.bool (decide (a = b))) := by cases a <;> cases b <;> kernel_rfl
@[simp] theorem vNe_bb (a b : Bool) : vNe (.bool a) (.bool b) = some (.bool (!decide (a = b))) := by cases a <;> cases b <;> kernel_rfl
theorem vGt_S (a b : List Nat) : vGt (.str (S a)) (.str (S b)) = some (.bool (decide (b < a))) := by
  show some (PyData.bool (decide ((S b).cps.toList < (S a).cps.toList))) = _
  simp only [S_list]
theorem vLt_S (a b : List Nat) : vLt (.str (S a)) (.str (S b)) = some (.bool (decide (a < b))) := by
  show some (PyData.bool (decide ((S a).cps.toList < (S b).cps.toList))) = _
  simp only [S_list]
/-! greatest, least, sum of numbers -/
def maxN : List Nat → Nat
  | [] => 0
  | a :: as => as.foldl max a
def minN : List Nat → Nat
  | [] => 0
  | a :: as => as.foldl min a
theorem alikeOk_dI (l : List Nat) : alikeOk (dI l) = true := by
  unfold alikeOk
  rw [Bool.and_eq_true]
  constructor
  · rw [List.all_eq_true]
    intro x hx
    obtain ⟨l, _, rfl⟩ := List.mem_map.mp hx
    rw [List.all_eq_true]
    intro y hy
    obtain ⟨m, _, rfl⟩ := List.mem_map.mp hy
    rfl
  · rw [List.all_eq_true]
    intro x hx
    obtain ⟨l, hl, rfl⟩ := List.mem_map.mp hx
    rfl
theorem someOk_dI (l : List Nat) : someOk (dI l) = true := by
  unfold someOk
  rw [List.all_eq_true]
  intro x hx
  obtain ⟨l, _, rfl⟩ := List.mem_map.mp hx
  rfl
theorem foldl_max_cast : ∀ (l : List Nat) (a : Nat), (l.map fun i : Nat => (i : Int)).foldl max (a : Int) = ((l.foldl max a : Nat) : Int)
  | [], a => rfl
  | b :: l, a => by
    have e : max (a : Int) (b : Int) = ((max a b : Nat) : Int) := by omega
    rw [List.map_cons, List.foldl_cons, List.foldl_cons, e]
    exact foldl_max_cast l _
theorem foldl_min_cast : ∀ (l : List Nat) (a : Nat), (l.map fun i : Nat => (i : Int)).foldl min (a : Int) = ((l.foldl min a : Nat) : Int)
  | [], a => rfl
  | b :: l, a => by
    have e : min (a : Int) (b : Int) = ((min a b : Nat) : Int) := by omega
    rw [List.map_cons, List.foldl_cons, List.foldl_cons, e]
    exact foldl_min_cast l _
theorem vMax_dI {l : List Nat} (h : l ≠ []) : vMax (dI l) = some (.int (maxN l)) := by
  cases l with
  | nil => exact absurd rfl h
  | cons a as =>
    show (if alikeOk (dI (a :: as)) && someOk (dI (a :: as)) then some (PySem.W.maxD (.int (a : Int)) (dI as)) else none) = _
    rw [alikeOk_dI, someOk_dI]
    have : dI as = (as.map fun i : Nat => (i : Int)).map PyData.int := by simp
    rw [this, PySem.W.maxD_ints, foldl_max_cast]
    rfl
theorem vMin_dI {l : List Nat} (h : l ≠ []) : vMin (dI l) = some (.int (minN l)) := by
  cases l with
  | nil => exact absurd rfl h
  | cons a as =>
    show (if alikeOk (dI (a :: as)) && someOk (dI (a :: as)) then some (PySem.W.minD (.int (a : Int)) (dI as)) else none) = _
    rw [alikeOk_dI, someOk_dI]
    have : dI as = (as.map fun i : Nat => (i : Int)).map PyData.int := by simp
    rw [this, PySem.W.minD_ints, foldl_min_cast]
    rfl
theorem intsOf_dI (l : List Nat) : intsOf (dI l) = some (l.map fun i : Nat => (i : Int)) := by
  induction l with
  | nil => rfl
  | cons a as ih =>
    show (intsOf (dI as)).map _ = _
    rw [ih]
    rfl
theorem sum_cast (l : List Nat) : (l.map fun i : Nat => (i : Int)).sum = (l.sum : Int) := by
  induction l with
  | nil => rfl
  | cons a as ih => rw [List.map_cons, List.sum_cons, List.sum_cons, ih]; omega
theorem bSum_t (l : List Nat) : bSum2 [.tuple (dI l)] = some (.int (l.sum : Nat)) := by
  show (intsOf (dI l)).map _ = _
  rw [intsOf_dI, Option.map_some, sum_cast]
theorem bMax_t {l : List Nat} (h : l ≠ []) : bMax2 [.tuple (dI l)] = some (.int (maxN l)) := vMax_dI h
theorem bMin_t {l : List Nat} (h : l ≠ []) : bMin2 [.tuple (dI l)] = some (.int (minN l)) := vMin_dI h
/-! spread -/
def sprd (m s : Nat) : List Nat := (List.range s).map fun i : Nat => if ((List.range m).map fun k : Nat => k * s / m).contains i then 120 else 46
@[simp] theorem sprd_len (m s : Nat) : (sprd m s).length = s := by simp [sprd]
theorem sprd_mk (m s : Nat) : ∀ c ∈ sprd m s, Mk c := by
  intro c hc
  obtain ⟨k, _, rfl⟩ := List.mem_map.mp hc
  split <;> decide
theorem vIn_dI (i : Nat) (l : List Nat) : vIn (.int (i : Int)) (.list (dI l)) = some (.bool (l.contains i)) := by
  show ((if SeqAt.shaped (.int (i : Int)) = true ∧ SeqAt.shaped (.list (dI l)) = true then some ((dI l).any fun z => PyData.eqv z (.int (i : Int))) else none).map PyData.bool) = _
  rw [if_pos ⟨by simp [SeqAt.shaped, PyData.canLay0, PyData.depth], shaped_l l⟩]
  rw [Option.map_some]
  congr 2
  induction l with
  | nil => rfl
  | cons a as ih =>
    show (PyData.int (a : Int) :: dI as).any _ = _
    rw [List.any_cons, List.contains_cons, ih]
    have : PyData.eqv (.int (a : Int)) (.int (i : Int)) = (i == a) := by
      rw [PyData.eqv, Bool.eq_iff_iff, beq_iff_eq, beq_iff_eq]
      omega
    rw [this]
theorem spread_ok (m s : Nat) (hs : s ≤ 1000) (hm : m ≤ 1000) : F_spread [.int m, .int s] = some (T (sprd m s)) := by
  refine run_of (ρ := [some (.val (.int m)), some (.val (.int s)), none, none, none]) rfl ?_
  have e0 : S_spread_0 [some (.val (.int m)), some (.val (.int s)), none, none, none] = some (.nx [some (.val (.int m)), some (.val (.int s)), some (.val (.list (dI ((List.range m).map fun k : Nat => k * s / m)))), none, none]) := by
    have := gLc_all (fi := iRg1 (fVar 0)) (h := hName 3) (ft := tYesF) (fe := f2 vDiv (f2 vMul (fVar 3) (fVar 1)) (fVar 0)) (vs := [3]) (ρ := [some (.val (.int m)), some (.val (.int s)), none, none, none]) (g := fun i : Nat => .int (i : Int)) (xs := List.range m) (fun k : Nat => .int ((k * s / m : Nat) : Int)) (by simpa using iRg1_ev (fa := fVar 0) (ρ := [some (.val (.int m)), some (.val (.int s)), none, none, none]) (j := m) rfl (by omega) (by omega)) (by simp; omega) (fun k hk => ⟨_, rfl, rfl, by
      have hk' := List.mem_range.mp hk
      have : ((k * s / m : Nat) : Int) = (k : Int) * s / m := by simp
      rw [this]
      simp -implicitDefEqProofs (disch := omega) [wipeR, vMul_i, vDiv_i]⟩)
    unfold S_spread_0
    simp -implicitDefEqProofs [this]
  unfold G_spread
  rw [seq_nx e0]
  generalize hl : ((List.range m).map fun k : Nat => k * s / m) = l
  have e1 := gLc_all (fi := iRg1 (fVar 1)) (h := hName 4) (ft := tYesF) (fe := (f2 vIx (fOfF (gLst' (aCons (fC (.str ".")) (aCons (fC (.str "x")) aNil)))) (fn bInt (aCons (f2 vIn (fVar 4) (fVar 2)) aNil)))) (vs := [4]) (ρ := [some (.val (.int m)), some (.val (.int s)), some (.val (.list (dI l))), none, none]) (g := fun i : Nat => .int (i : Int)) (xs := List.range s) (fun i : Nat => T [if l.contains i then 120 else 46]) (by simpa using iRg1_ev (fa := fVar 1) (ρ := [some (.val (.int m)), some (.val (.int s)), some (.val (.list (dI l))), none, none]) (j := s) rfl (by omega) (by omega)) (by simp; omega) (fun i hi => ⟨_, rfl, rfl, by
      have h1 := vIn_dI i l
      rw [lit_dot, lit_x]
      simp -implicitDefEqProofs at h1
      simp -implicitDefEqProofs (disch := omega) [wipeR, h1]
      by_cases hh : i ∈ l
      · simp [hh]; kernel_rfl
      · simp [hh]; kernel_rfl⟩)
  have e2 := mJoin_1 (fun i : Nat => if l.contains i then 120 else 46) (List.range s) (by simp; omega)
  unfold S_spread_1
  rw [lit_e]
  refine ret_of ?_
  rw [fM_ev, fC_ev, Option.bind_some, aCons_ev, fOfF_ev, e1]
  simp only [Option.map_some, Option.bind_some, aNil_ev]
  rw [e2]
  unfold sprd
  rw [hl]
end PM
namespace PM
open PySem PySem.Spec PyProof.Rows L2 PV WS
theorem f2_of {g : D → D → Option D} {fa fb : Rho → Option D} {ρ : Rho} {x y : D} {z : Option D} (h1 : fa ρ = some x) (h2 : fb ρ = some y) (h3 : g x y = z) : f2 g fa fb ρ = z := by
  rw [f2_ev, h1, Option.bind_some, h2, Option.bind_some, h3]
/-! lists owned by a name -/
def getO : Option (Option Sl) → Option (List D)
  | some (some (.own l)) => some l
  | _ => none
@[simp] theorem getO_o (l : List D) : getO (some (some (.own l))) = some l := rfl
@[simp] theorem ownOf_ev (ρ : Rho) (i : Nat) : ownOf ρ i = getO ρ[i]? := rfl
@[simp] theorem sSetOwn_ev (i : Nat) (f : Rho → Option (List D)) (ρ : Rho) : sSetOwn i f ρ = (f ρ).map fun l => .nx (ρ.set i (some (.own l))) := rfl
@[simp] theorem sAppend_ev (i : Nat) (fa : Rho → Option D) (ρ : Rho) : sAppend i fa ρ = (ownOf ρ i).bind fun l => (fa ρ).bind fun d => if l.length < 16777216 then some (.nx (ρ.set i (some (.own (l ++ [d]))))) else none := rfl
@[simp] theorem sExtend_ev (i : Nat) (fa : Rho → Option (List D)) (ρ : Rho) : sExtend i fa ρ = (ownOf ρ i).bind fun l => (fa ρ).bind fun m => if l.length + m.length ≤ 16777216 then some (.nx (ρ.set i (some (.own (l ++ m))))) else none := rfl
theorem ixN_nat {n k : Nat} (h : k < n) : ixN n (k : Int) = some k := by
  have := atI_nat (xs := List.range n) (j := k) (v := k) (by simp [h])
  unfold atI at this
  rw [List.length_range] at this
  cases e : ixN n (k : Int) with
  | none => rw [e] at this; cases this
  | some j =>
    rw [e] at this
    have h2 := List.getElem?_eq_some_iff.mp this
    obtain ⟨h3, h4⟩ := h2
    simp at h4
    rw [h4]
theorem sPut_at {i : Nat} {fb fa : Rho → Option D} {ρ : Rho} {l : List D} {d : D} {k : Nat} (ho : ownOf ρ i = some l) (ha : fa ρ = some d) (hb : fb ρ = some (.int k)) (hk : k < l.length) : sPut i fb fa ρ = some (.nx (ρ.set i (some (.own (l.set k d))))) := by
  unfold sPut
  rw [ho, ha, hb]
  show (ixN l.length (k : Int)).map _ = _
  rw [ixN_nat hk]
  rfl
theorem gRep_1 {fa fb : Rho → Option D} {ρ : Rho} {d : D} {n : Nat} (ha : fa ρ = some (.list [d])) (hb : fb ρ = some (.int n)) (hn : n ≤ 100000) : gRep fa fb ρ = some (List.replicate n d) := by
  unfold gRep
  rw [ha, hb]
  simp -implicitDefEqProofs only [Option.bind_some]
  have h : (-4611686018427387904 ≤ (n : Int) ∧ (n : Int) < 4611686018427387904) ∧ [d].length * (n : Int).toNat ≤ 16777216 := ⟨⟨by omega, by omega⟩, by simp; omega⟩
  simp -implicitDefEqProofs only [h, if_true]
  simp
/-! loops while something holds -/
theorem whileF_upto {fc : Rho → Option Bool} {g : Rho → Option Out} (Q : Nat → Rho → Prop) (m : Nat) (hs : ∀ k ρ, k < m → Q k ρ → fc ρ = some true ∧ ∃ ρ2, g ρ = some (.nx ρ2) ∧ Q (k + 1) ρ2) (he : ∀ ρ, Q m ρ → fc ρ = some false) :
    ∀ (j : Nat) (n : Nat) (ρ : Rho) (k : Nat), j + k = m → j < n → Q k ρ → ∃ ρ', whileF fc g n ρ = some (.nx ρ') ∧ Q m ρ'
  | 0, n + 1, ρ, k, e, hn, q => by
    have : k = m := by omega
    subst this
    refine ⟨ρ, ?_, q⟩
    unfold whileF
    rw [he ρ q]
    rfl
  | j + 1, n + 1, ρ, k, e, hn, q => by
    obtain ⟨h1, ρ2, h2, q2⟩ := hs k ρ (by omega) q
    obtain ⟨ρ', h3, q3⟩ := whileF_upto Q m hs he j n ρ2 (k + 1) (by omega) (by omega) q2
    refine ⟨ρ', ?_, q3⟩
    unfold whileF
    rw [h1]
    simp only [Option.bind_some]
    simp only [if_true, h2, Option.bind_some]
    exact h3
theorem sWhile_upto {fc : Rho → Option Bool} {g : Rho → Option Out} (Q : Nat → Rho → Prop) (m : Nat) (hm : m < 1000000000000) {ρ : Rho} (h0 : Q 0 ρ) (hs : ∀ k ρ, k < m → Q k ρ → fc ρ = some true ∧ ∃ ρ2, g ρ = some (.nx ρ2) ∧ Q (k + 1) ρ2) (he : ∀ ρ, Q m ρ → fc ρ = some false) :
    ∃ ρ', sWhile fuel fc g ρ = some (.nx ρ') ∧ Q m ρ' := whileF_upto Q m hs he m fuel ρ 0 (by omega) hm h0
/-! texts in lists of texts -/
theorem canLay_T {ls : List (List Nat)} (h : ∀ l ∈ ls, Sg l) : PyData.canLayAll0 (ls.map T) = true := by
  induction ls with
  | nil => rfl
  | cons a as ih =>
    show PyData.canLayAll0 (T a :: as.map T) = true
    rw [PyData.canLayAll0, ih (fun l hl => h l (List.mem_cons_of_mem _ hl)), PyData.canLay0, sg_lay (h a List.mem_cons_self)]
    rfl
theorem depth_T (ls : List (List Nat)) : PyData.depthAll (ls.map T) ≤ 1 := by
  induction ls with
  | nil => decide
  | cons a as ih =>
    show PyData.depthAll (T a :: as.map T) ≤ 1
    rw [PyData.depthAll]
    have : PyData.depth (T a) ≤ 1 := by simp [PyData.depth]
    omega
theorem shaped_Tl {ls : List (List Nat)} (h : ∀ l ∈ ls, Sg l) : SeqAt.shaped (.list (ls.map T)) = true := by
  unfold SeqAt.shaped
  rw [Bool.and_eq_true, PyData.canLay0, decide_eq_true_eq, PyData.depth]
  exact ⟨canLay_T h, by have := depth_T ls; omega⟩
theorem shaped_T {l : List Nat} (h : Sg l) : SeqAt.shaped (T l) = true := by
  unfold SeqAt.shaped
  rw [Bool.and_eq_true, PyData.canLay0, decide_eq_true_eq, PyData.depth]
  exact ⟨sg_lay h, by omega⟩
theorem eqv_T (a b : List Nat) : PyData.eqv (T a) (T b) = decide (a = b) := by
  rw [PyData.eqv, Bool.eq_iff_iff, beq_iff_eq, decide_eq_true_eq]
  exact S_inj
theorem vIn_Tl {l : List Nat} {ls : List (List Nat)} (hl : Sg l) (h : ∀ l ∈ ls, Sg l) : vIn (T l) (.list (ls.map T)) = some (.bool (ls.contains l)) := by
  show ((if SeqAt.shaped (T l) = true ∧ SeqAt.shaped (.list (ls.map T)) = true then some ((ls.map T).any fun z => PyData.eqv z (T l)) else none).map PyData.bool) = _
  rw [if_pos ⟨shaped_T hl, shaped_Tl h⟩, Option.map_some]
  congr 2
  clear h
  induction ls with
  | nil => rfl
  | cons a as ih =>
    show (T a :: as.map T).any _ = _
    rw [List.any_cons, List.contains_cons, ih, eqv_T]
    congr 1
    rw [Bool.eq_iff_iff, decide_eq_true_eq, beq_iff_eq]
    exact eq_comm
/-! turned by putting -/
theorem sh_lt {n i : Nat} {b : Int} (h : 0 < n) : sh n b i < n := by
  have := Int.emod_lt_of_pos ((i : Int) + b) (b := (n : Int)) (by omega)
  have e := sh_cast (n := n) (i := i) (b := b) h
  omega
theorem sh_inj {n i j : Nat} {b : Int} (h : 0 < n) (hi : i < n) (hj : j < n) (he : sh n b i = sh n b j) : i = j := by
  have e1 := sh_cast (n := n) (i := i) (b := b) h
  have e2 := sh_cast (n := n) (i := j) (b := b) h
  rw [he, e2] at e1
  have e3 := congrArg (fun z => (z - b) % (n : Int)) e1
  simp only [Int.emod_sub_emod] at e3
  rw [show (j : Int) + b - b = j by omega, show (i : Int) + b - b = i by omega, Int.emod_eq_of_lt (by omega) (by omega), Int.emod_eq_of_lt (by omega) (by omega)] at e3
  omega
theorem sh_back {n i : Nat} {b : Int} (h : 0 < n) (hi : i < n) : sh n b (sh n (0 - b) i) = i := by
  have e := sh_cast (n := n) (i := sh n (0 - b) i) (b := b) h
  rw [sh_cast (n := n) (i := i) (b := 0 - b) h, Int.emod_add_emod, show (i : Int) + (0 - b) + b = i by omega, Int.emod_eq_of_lt (by omega) (by omega)] at e
  omega
/-- what is put at the turned places is the row turned -/
theorem put_turned {r due : List Nat} {b : Int} (hr : r ≠ []) (hl : due.length = r.length) (h : ∀ j, j < r.length → due[sh r.length b j]? = some (cy r j)) : due = tn r b := by
  have hp : 0 < r.length := List.length_pos_iff.mpr hr
  apply List.ext_getElem?
  intro i
  by_cases hi : i < r.length
  · have h1 := h (sh r.length (0 - b) i) (sh_lt hp)
    rw [sh_back hp hi] at h1
    rw [h1, List.getElem?_eq_getElem (by rw [tn_len]; exact hi), ← cy_nat (by rw [tn_len]; exact hi), cy_tn _ _ _ hr, sh_cast hp]
    congr 1
    rw [cy_emod]
    congr 1
    omega
  · rw [List.getElem?_eq_none (by omega), List.getElem?_eq_none (by rw [tn_len]; omega)]
theorem rot_tn {r : List Nat} {k : Nat} (h : k ≤ r.length) : rot r k = tn r (0 - (k : Int)) := by
  unfold tn
  rw [show 0 - (0 - (k : Int)) = k by omega]
  by_cases hk : k = r.length
  · subst hk
    rw [Int.emod_self]
    simp [rot]
  · rw [Int.emod_eq_of_lt (by omega) (by omega), Int.toNat_natCast]
theorem zipD3_map {α β : Type} (f : α → D) (g : β → D) (e : α × β → D) (a : List α) (b : List β) : zipD3 (a.map f) (b.map g) ((a.zip b).map e) = (a.zip b).map fun p => .tuple [f p.1, g p.2, e p] := by
  unfold zipD3
  rw [zipD_map, List.zipWith_map]
  generalize a.zip b = l
  induction l with
  | nil => rfl
  | cons x xs ih =>
    rw [List.zipWith_cons_cons, ih]
    rfl
end PM
namespace PM
open PySem PySem.Spec PyProof.Rows L2 PV WS
/-! fractions -/
abbrev qD (q : Rat) : D := .tuple [.int q.num, .int (q.den : Nat)]
theorem emod_nat (a b : Nat) : ((a : Int) % (b : Int)) = ((a % b : Nat) : Int) := by simp
theorem gcd_loop {fc : Rho → Option Bool} {g : Rho → Option Out} (E : Nat → Nat → Rho) (h1 : ∀ a b, fc (E a b) = some (!decide (b = 0))) (h2 : ∀ a b, 0 < b → g (E a b) = some (.nx (E b (a % b)))) :
    ∀ (n b a : Nat), b < n → whileF fc g n (E a b) = some (.nx (E (Nat.gcd a b) 0))
  | n + 1, b, a, hb => by
    unfold whileF
    rw [h1]
    by_cases h0 : b = 0
    · subst h0
      simp
    · have hp : 0 < b := by omega
      have hm := Nat.mod_lt a hp
      have ih := gcd_loop E h1 h2 n (a % b) b (by omega)
      have hg : Nat.gcd b (a % b) = Nat.gcd a b := by rw [Nat.gcd_comm a b, Nat.gcd_rec b a, Nat.gcd_comm]
      rw [hg] at ih
      simp only [h0, decide_false, Bool.not_false, Option.bind_some, if_true, h2 a b hp]
      exact ih
@[simp] theorem sPar_ev (i j : Nat) (f1 f2 : Rho → Option D) (ρ : Rho) : sPar i j (aCons f1 (aCons f2 aNil)) ρ = (f1 ρ).bind fun x => (f2 ρ).bind fun y => some (.nx ((ρ.set i (some (.val x))).set j (some (.val y)))) := by
  unfold sPar
  rw [aCons_ev, aCons_ev]
  cases f1 ρ with
  | none => rfl
  | some x =>
    cases f2 ρ with
    | none => rfl
    | some y => rfl
theorem divisor_ok (a b : Nat) (hb : b < 1000000000000) : F_divisor [.int a, .int b] = some (.int (Nat.gcd a b : Nat)) := by
  refine run_of (ρ := [some (.val (.int a)), some (.val (.int b))]) rfl ?_
  have e : S_divisor_0 [some (.val (.int a)), some (.val (.int b))] = some (.nx [some (.val (.int (Nat.gcd a b : Nat))), some (.val (.int ((0 : Nat) : Int)))]) := by
    have hb' : b < fuel := hb
    unfold S_divisor_0 sWhile
    generalize fuel = n at hb' ⊢
    exact gcd_loop (fc := tB1 (f2 vNe (fVar 1) (fC (.int 0)))) (g := sPar 0 1 (aCons (fVar 1) (aCons (f2 vMod (fVar 0) (fVar 1)) aNil))) (fun a b => [some (.val (.int (a : Nat))), some (.val (.int (b : Nat)))]) (fun a b => by
      by_cases h : b = 0
      · subst h; simp
      · simp [h]) (fun a b h => by simp -implicitDefEqProofs (disch := omega) [vMod_i]) n b a hb'
  unfold G_divisor
  refine (seq_nx e).trans ?_
  rfl
theorem natAbs_if (u : Int) : (if u < 0 then -u else u) = (u.natAbs : Int) := by split <;> omega
theorem bAbs_i (u : Int) : bAbs [.int u] = some (.int (u.natAbs : Nat)) := by
  show some (PyData.int _) = _
  rw [natAbs_if]
theorem fraction_ok (u : Int) (l : Nat) (h0 : 0 < l) (hl : l < 1000000000000) : F_fraction [.int u, .int l] = some (qD (mkRat u l)) := by
  refine run_of (ρ := [some (.val (.int u)), some (.val (.int l)), none]) rfl ?_
  have ed := divisor_ok u.natAbs l hl
  have hg : 0 < Nat.gcd u.natAbs l := Nat.gcd_pos_of_pos_right _ h0
  have hg2 : Nat.gcd u.natAbs l ≤ l := Nat.gcd_le_right _ h0
  unfold G_fraction
  rw [seq_nx (g := S_fraction_0) (set_nx (d := .int (Nat.gcd u.natAbs l : Nat)) (by
    simp -implicitDefEqProofs only [fn_ev, aCons_ev, aNil_ev, fVar_ev, nth_0, nth_s, getV_v, Option.bind_some, bAbs_i]
    exact ed))]
  have en : (mkRat u l).num = u / (Nat.gcd u.natAbs l : Nat) := by
    rw [Rat.num_mkRat, if_neg (by omega), Nat.gcd_comm]
  have ee : (mkRat u l).den = l / Nat.gcd u.natAbs l := by
    rw [Rat.den_mkRat, if_neg (by omega), Nat.gcd_comm]
  have ee2 : (l : Int) / (Nat.gcd u.natAbs l : Nat) = ((mkRat u l).den : Int) := by rw [ee]; simp
  refine ret_of ?_
  generalize Nat.gcd u.natAbs l = g at hg hg2 en ee2 ⊢
  simp -implicitDefEqProofs (disch := omega) [vDiv_i]
  exact ⟨en.symm, ee2⟩
theorem den_le {u : Int} {l : Nat} (h0 : 0 < l) : (mkRat u l).den ≤ l := by
  rw [Rat.den_mkRat, if_neg (by omega)]
  exact Nat.div_le_self _ _
theorem den_pos (q : Rat) : 0 < q.den := q.den_pos
theorem vIx_q0 (q : Rat) : vIx (qD q) (.int 0) = some (.int q.num) := vIx_t (by omega) rfl
theorem vIx_q1 (q : Rat) : vIx (qD q) (.int 1) = some (.int (q.den : Nat)) := vIx_t (by omega) rfl
theorem vIx_p0 (a b : D) : vIx (.tuple [a, b]) (.int 0) = some a := vIx_t (by omega) rfl
theorem vIx_p1 (a b : D) : vIx (.tuple [a, b]) (.int 1) = some b := vIx_t (by omega) rfl
theorem cast_mul (a b : Nat) : (a : Int) * (b : Int) = ((a * b : Nat) : Int) := by simp
theorem times_ok (n : Int) (q : Rat) (hn : -18446744073709551616 < n ∧ n < 18446744073709551616) (hq : q.den < 1000000000000) : F_times [.int n, qD q] = some (qD (n * q)) := by
  refine run_of (ρ := [some (.val (.int n)), some (.val (qD q))]) rfl ?_
  have e := fraction_ok (n * q.num) q.den q.den_pos hq
  have e2 : (n : Rat) * q = mkRat (n * q.num) q.den := by
    rw [Rat.mul_def', Rat.num_intCast, Rat.den_intCast, Nat.one_mul]
  rw [e2]
  unfold G_times
  refine ret_of ?_
  simp -implicitDefEqProofs (disch := omega) [vIx_p0, vIx_p1, vMul_i]
  exact e
theorem added_ok (p q : Rat) (h : p.den * q.den < 1000000000000) : F_added [qD p, qD q] = some (qD (p + q)) := by
  refine run_of (ρ := [some (.val (qD p)), some (.val (qD q))]) rfl ?_
  have hp := p.den_pos
  have hq := q.den_pos
  have h1 : p.den ≤ p.den * q.den := Nat.le_mul_of_pos_right _ hq
  have h2 : q.den ≤ p.den * q.den := Nat.le_mul_of_pos_left _ hp
  have e := fraction_ok (p.num * q.den + q.num * p.den) (p.den * q.den) (Nat.mul_pos hp hq) h
  rw [← Rat.add_def'] at e
  unfold G_added
  refine ret_of ?_
  rw [← cast_mul] at e
  generalize qD (p + q) = w at e
  simp -implicitDefEqProofs (disch := omega) [vIx_p0, vIx_p1, vMul_i]
  exact e
theorem isless_ok (p q : Rat) (hp : p.den < 1000000000000) (hq : q.den < 1000000000000) : F_is_less [qD p, qD q] = some (.bool (decide (p < q))) := by
  refine run_of (ρ := [some (.val (qD p)), some (.val (qD q))]) rfl ?_
  unfold G_is_less
  refine ret_of ?_
  simp -implicitDefEqProofs (disch := omega) [vIx_p0, vIx_p1, vMul_i]
  exact (Rat.lt_iff p q).symm
theorem eqv_q (p q : Rat) : PyData.eqv (qD p) (qD q) = decide (p = q) := by
  rw [PyData.eqv, PyData.eqvAll, PyData.eqvAll, PyData.eqvAll, PyData.eqv, PyData.eqv, Bool.eq_iff_iff, decide_eq_true_eq]
  simp only [Bool.and_eq_true, beq_iff_eq, Bool.and_true]
  constructor
  · rintro ⟨h1, h2⟩
    exact Rat.ext h1 (by omega)
  · rintro rfl
    exact ⟨rfl, rfl⟩
theorem shaped_q (q : Rat) : SeqAt.shaped (qD q) = true := by
  simp [SeqAt.shaped, PyData.canLay0, PyData.canLayAll0, PyData.depth, PyData.depthAll]
theorem vEq_q (p q : Rat) : vEq (qD p) (qD q) = some (.bool (decide (p = q))) := by
  show ((if SeqAt.shaped (qD p) = true ∧ SeqAt.shaped (qD q) = true then some (PyData.eqv (qD p) (qD q)) else none).map PyData.bool) = _
  rw [if_pos ⟨shaped_q p, shaped_q q⟩, eqv_q]
  rfl
theorem vNe_q (p q : Rat) : vNe (qD p) (qD q) = some (.bool (!decide (p = q))) := by
  show ((if SeqAt.shaped (qD p) = true ∧ SeqAt.shaped (qD q) = true then some (PyData.eqv (qD p) (qD q)) else none).map fun b => PyData.bool !b) = _
  rw [if_pos ⟨shaped_q p, shaped_q q⟩, eqv_q]
  rfl
end PM
namespace PM
open PySem PySem.Spec PyProof.Rows L2 PV WS
/-! the laws' own fractions -/
theorem lawfrac_ok (u : Int) (l : Nat) (h0 : 0 < l) (hl : l < 1000000000000) : F_law_frac [.int u, .int l] = some (qD (mkRat u l)) := by
  refine run_of (ρ := [some (.val (.int u)), some (.val (.int l)), none, none]) rfl ?_
  have hg : 0 < Nat.gcd u.natAbs l := Nat.gcd_pos_of_pos_right _ h0
  have hg2 : Nat.gcd u.natAbs l ≤ l := Nat.gcd_le_right _ h0
  have e0 : S_law_frac_0 [some (.val (.int u)), some (.val (.int l)), none, none] = some (.nx [some (.val (.int u)), some (.val (.int l)), some (.val (.int (u.natAbs : Nat))), some (.val (.int (l : Nat)))]) := by
    unfold S_law_frac_0
    simp -implicitDefEqProofs [bAbs_i]
  have e1 : S_law_frac_1 [some (.val (.int u)), some (.val (.int l)), some (.val (.int (u.natAbs : Nat))), some (.val (.int (l : Nat)))] = some (.nx [some (.val (.int u)), some (.val (.int l)), some (.val (.int (Nat.gcd u.natAbs l : Nat))), some (.val (.int ((0 : Nat) : Int)))]) := by
    have hb' : l < fuel := hl
    unfold S_law_frac_1 sWhile
    generalize fuel = n at hb' ⊢
    exact gcd_loop (fc := tB1 (f2 vNe (fVar 3) (fC (.int 0)))) (g := sPar 2 3 (aCons (fVar 3) (aCons (f2 vMod (fVar 2) (fVar 3)) aNil))) (fun a b => [some (.val (.int u)), some (.val (.int l)), some (.val (.int (a : Nat))), some (.val (.int (b : Nat)))]) (fun a b => by
      by_cases h : b = 0
      · subst h; simp
      · simp [h]) (fun a b h => by simp -implicitDefEqProofs (disch := omega) [vMod_i]) n l u.natAbs hb'
  unfold G_law_frac
  rw [seq_nx e0, seq_nx e1]
  have en : (mkRat u l).num = u / (Nat.gcd u.natAbs l : Nat) := by
    rw [Rat.num_mkRat, if_neg (by omega), Nat.gcd_comm]
  have ee : (mkRat u l).den = l / Nat.gcd u.natAbs l := by
    rw [Rat.den_mkRat, if_neg (by omega), Nat.gcd_comm]
  have ee2 : (l : Int) / (Nat.gcd u.natAbs l : Nat) = ((mkRat u l).den : Int) := by rw [ee]; simp
  refine ret_of ?_
  generalize Nat.gcd u.natAbs l = g at hg hg2 en ee2 ⊢
  simp -implicitDefEqProofs (disch := omega) [vDiv_i]
  exact ⟨en.symm, ee2⟩
theorem lawadd_ok (p q : Rat) (h : p.den * q.den < 1000000000000) : F_law_add [qD p, qD q] = some (qD (p + q)) := by
  refine run_of (ρ := [some (.val (qD p)), some (.val (qD q))]) rfl ?_
  have hp := p.den_pos
  have hq := q.den_pos
  have h1 : p.den ≤ p.den * q.den := Nat.le_mul_of_pos_right _ hq
  have h2 : q.den ≤ p.den * q.den := Nat.le_mul_of_pos_left _ hp
  have e := lawfrac_ok (p.num * q.den + q.num * p.den) (p.den * q.den) (Nat.mul_pos hp hq) h
  rw [← Rat.add_def'] at e
  unfold G_law_add
  refine ret_of ?_
  rw [← cast_mul] at e
  generalize qD (p + q) = w at e
  simp -implicitDefEqProofs (disch := omega) [vIx_p0, vIx_p1, vMul_i]
  exact e
theorem lawunder_ok (p q : Rat) (hp : p.den < 1000000000000) (hq : q.den < 1000000000000) : F_law_under [qD p, qD q] = some (.bool (decide (p < q))) := by
  refine run_of (ρ := [some (.val (qD p)), some (.val (qD q))]) rfl ?_
  unfold G_law_under
  refine ret_of ?_
  simp -implicitDefEqProofs (disch := omega) [vIx_p0, vIx_p1, vMul_i]
  exact (Rat.lt_iff p q).symm
/-! patterns -/
def padD (p : Nat × List Nat) : D := .tuple [T [p.1], T p.2]
abbrev patD (s g : Nat) (pads : List (Nat × List Nat)) : D := .tuple [.int (s : Nat), .int (g : Nat), .tuple (pads.map padD)]
theorem vIx_3a (a b c : D) : vIx (.tuple [a, b, c]) (.int 0) = some a := vIx_t (by omega) rfl
theorem vIx_3b (a b c : D) : vIx (.tuple [a, b, c]) (.int 1) = some b := vIx_t (by omega) rfl
theorem vIx_3c (a b c : D) : vIx (.tuple [a, b, c]) (.int 2) = some c := vIx_t (by omega) rfl
theorem beats_ok (s g : Nat) (w : D) (hg : 0 < g) (hg2 : g < 1000000000000) : F_beats [.tuple [.int (s : Nat), .int (g : Nat), w]] = some (qD (mkRat s g)) := by
  refine run_of (ρ := [some (.val (.tuple [.int (s : Nat), .int (g : Nat), w]))]) rfl ?_
  have e := fraction_ok s g hg hg2
  unfold G_beats
  refine ret_of ?_
  simp -implicitDefEqProofs [vIx_3a, vIx_3b]
  exact e
/-- the odd part of a step -/
def od (s k : Nat) : Nat := k % s % 2
/-- when a step begins -/
def st (sw : Rat) (s g k : Nat) : Rat := ((k : Rat) - (od s k : Rat) + (od s k : Rat) * (2 * sw)) / (g : Rat)
theorem mk_div (u : Int) (l : Nat) : mkRat u l = (u : Rat) / (l : Rat) := Rat.mkRat_eq_div u l
theorem step_ok (sw : Rat) (s g k : Nat) (w : D) (hs : 0 < s) (hs2 : s < 1000000) (hg : 0 < g) (hg2 : g < 1000) (hk : k < 1000000000) (hw : sw.den < 1000) :
    F_step_time [qD sw, .tuple [.int (s : Nat), .int (g : Nat), w], .int (k : Nat)] = some (qD (st sw s g k)) := by
  refine run_of (ρ := [some (.val (qD sw)), some (.val (.tuple [.int (s : Nat), .int (g : Nat), w])), some (.val (.int (k : Nat))), none, none, none]) rfl ?_
  unfold G_step_time
  have e0 : S_step_time_0 [some (.val (qD sw)), some (.val (.tuple [.int (s : Nat), .int (g : Nat), w])), some (.val (.int (k : Nat))), none, none, none] = some (.nx [some (.val (qD sw)), some (.val (.tuple [.int (s : Nat), .int (g : Nat), w])), some (.val (.int (k : Nat))), some (.val (.int (s : Nat))), some (.val (.int (g : Nat))), none]) := by
    unfold S_step_time_0
    have := vSl_tto (a := [.int (s : Nat), .int (g : Nat), w]) (i := 2) (by omega)
    rw [show (2 : Int).toNat = 2 from rfl] at this
    simp -implicitDefEqProofs [this]
  rw [seq_nx e0]
  have eb := beats_ok s g w hg (by omega)
  have hd : (mkRat (s : Int) g).den ≤ g := den_le hg
  obtain ⟨t, ht⟩ : ∃ t, k / s = t := ⟨_, rfl⟩
  obtain ⟨r, hr⟩ : ∃ r, k % s = r := ⟨_, rfl⟩
  have hks : t ≤ k := by rw [← ht]; exact Nat.div_le_self _ _
  have hrs : r < s := by rw [← hr]; exact Nat.mod_lt _ hs
  have hkt : k = s * t + r := by rw [← ht, ← hr]; exact (Nat.div_add_mod k s).symm
  have hi1 : (k : Int) / (s : Int) = (t : Int) := by rw [← ht]; simp
  have hi2 : (k : Int) % (s : Int) = (r : Int) := by rw [← hr]; simp
  have hod : od s k = r % 2 := by unfold od; rw [hr]
  have hgq : (g : Rat) ≠ 0 := by
    intro h
    have : g = 0 := by exact_mod_cast h
    omega
  have et := times_ok (t : Int) (mkRat s g) (by omega) (by omega)
  have e1 : ((t : Int) : Rat) * mkRat s g = mkRat ((t * s : Nat) : Int) g := by
    rw [mk_div, mk_div]
    simp only [Rat.intCast_natCast, Rat.natCast_mul]
    grind
  rw [e1] at et
  rw [seq_nx (g := S_step_time_1) (set_nx (d := qD (mkRat ((t * s : Nat) : Int) g)) (by
    generalize qD (mkRat ((t * s : Nat) : Int) g) = w1 at et
    generalize qD (mkRat (s : Int) g) = w2 at et eb
    simp -implicitDefEqProofs (disch := omega) [vDiv_i, eb, hi1]
    exact et))]
  rw [seq_nx (g := S_step_time_2) (set_nx (d := .int (r : Nat)) (by
    simp -implicitDefEqProofs (disch := omega) [vMod_i, hi2]))]
  have ef := fraction_ok ((r - r % 2 : Nat) : Int) g hg (by omega)
  have hd1 : (mkRat ((t * s : Nat) : Int) g).den ≤ g := den_le hg
  have hd2 : (mkRat ((r - r % 2 : Nat) : Int) g).den ≤ g := den_le hg
  have ea := added_ok (mkRat ((t * s : Nat) : Int) g) (mkRat ((r - r % 2 : Nat) : Int) g) (by
    have := Nat.mul_le_mul hd1 hd2
    have : g * g < 1000 * 1000 := Nat.mul_lt_mul_of_lt_of_lt hg2 hg2
    omega)
  have e2 : mkRat ((t * s : Nat) : Int) g + mkRat ((r - r % 2 : Nat) : Int) g = mkRat ((t * s + (r - r % 2) : Nat) : Int) g := by
    rw [mk_div, mk_div, mk_div]
    simp only [Rat.intCast_natCast, Rat.natCast_add]
    grind
  rw [e2] at ea
  have hi3 : (r : Int) - (r : Int) % 2 = ((r - r % 2 : Nat) : Int) := by omega
  rw [seq_nx (g := S_step_time_3) (set_nx (d := qD (mkRat ((t * s + (r - r % 2) : Nat) : Int) g)) (by
    generalize qD (mkRat ((t * s + (r - r % 2) : Nat) : Int) g) = w1 at ea
    generalize qD (mkRat ((t * s : Nat) : Int) g) = w2 at ea
    generalize qD (mkRat ((r - r % 2 : Nat) : Int) g) = w3 at ea ef
    simp -implicitDefEqProofs only [fn_ev, aCons_ev, aNil_ev, fVar_ev, nth_0, nth_s, getV_v, Option.bind_some, f2_ev, fC_ev, List.set_cons_zero, List.set_cons_succ, vMod_i (show (0 : Int) < 2 by decide), vSub_i, hi3, ef, ea]))]
  have hd3 : (mkRat ((t * s + (r - r % 2) : Nat) : Int) g).den ≤ g := den_le hg
  have hst : st sw s g k = mkRat ((t * s + (r - r % 2) : Nat) : Int) g + (if r % 2 = 1 then mkRat (2 * sw.num) (sw.den * g) else 0) := by
    unfold st
    rw [hod, mk_div]
    have hr2 : r % 2 = 0 ∨ r % 2 = 1 := by omega
    rcases hr2 with h | h
    · rw [h, hkt]
      simp only [Rat.intCast_natCast, Rat.natCast_add, Rat.natCast_mul, Nat.sub_zero]
      have : ((0 : Nat) : Rat) = 0 := rfl
      rw [this]
      simp
      grind
    · rw [h, hkt, mk_div]
      have h3 : sw = (sw.num : Rat) / (sw.den : Rat) := by rw [← mk_div, Rat.mkRat_self]
      have h4 : (sw.den : Rat) ≠ 0 := by
        intro h
        have : sw.den = 0 := by exact_mod_cast h
        exact sw.den_nz this
      have h5 : ((r - 1 : Nat) : Rat) = (r : Rat) - 1 := by
        have : ((r - 1 + 1 : Nat) : Rat) = (r : Rat) := by rw [show r - 1 + 1 = r by omega]
        rw [Rat.natCast_add] at this
        have h1 : ((1 : Nat) : Rat) = 1 := rfl
        grind
      rw [if_pos rfl]
      have h1 : ((1 : Nat) : Rat) = 1 := rfl
      rw [h1]
      simp only [Rat.intCast_natCast, Rat.natCast_add, Rat.natCast_mul, Rat.intCast_mul, h5]
      have h6 : ((2 : Int) : Rat) = 2 := rfl
      rw [h6]
      generalize (sw.num : Rat) = x at h3
      generalize (sw.den : Rat) = y at h3 h4
      subst h3
      grind
  have hm1 : vMod (.int (r : Int)) (.int 2) = some (.int ((r % 2 : Nat) : Int)) := by
    rw [vMod_i (by decide)]
    simp
  rcases (show r % 2 = 0 ∨ r % 2 = 1 by omega) with h | h
  · rw [if_neg (by omega), Rat.add_zero] at hst
    rw [hst]
    rw [h] at hm1 ⊢
    generalize qD (mkRat ((t * s + (r - 0) : Nat) : Int) g) = w1
    have e4 : S_step_time_4 [some (.val (qD sw)), some (.val (.tuple [.int (s : Nat), .int (g : Nat), w])), some (.val (.int (r : Nat))), some (.val (.int (s : Nat))), some (.val (.int (g : Nat))), some (.val w1)] = some (.nx [some (.val (qD sw)), some (.val (.tuple [.int (s : Nat), .int (g : Nat), w])), some (.val (.int (r : Nat))), some (.val (.int (s : Nat))), some (.val (.int (g : Nat))), some (.val w1)]) := by
      unfold S_step_time_4
      simp -implicitDefEqProofs only [sIf_ev, tB1_ev, f2_ev, fVar_ev, nth_0, nth_s, getV_v, Option.bind_some, fC_ev, hm1, vEq_i, boolK_b]
      simp
    refine Eq.trans (seq_nx e4) ?_
    rfl
  · rw [if_pos h] at hst
    have hdw : 0 < sw.den * g := Nat.mul_pos sw.den_pos hg
    have hdw2 : sw.den * g < 1000 * 1000 := Nat.mul_lt_mul_of_lt_of_lt hw hg2
    have ef2 := fraction_ok (2 * sw.num) (sw.den * g) hdw (by omega)
    have hd4 : (mkRat (2 * sw.num) (sw.den * g)).den ≤ sw.den * g := den_le hdw
    have ea2 := added_ok (mkRat ((t * s + (r - r % 2) : Nat) : Int) g) (mkRat (2 * sw.num) (sw.den * g)) (by
      have h1 := Nat.mul_le_mul hd3 hd4
      have : g * (sw.den * g) < 1000 * (1000 * 1000) := Nat.mul_lt_mul_of_lt_of_lt hg2 hdw2
      omega)
    rw [← hst] at ea2
    rw [← cast_mul] at ef2
    generalize qD (st sw s g k) = w0 at ea2 ⊢
    generalize qD (mkRat ((t * s + (r - r % 2) : Nat) : Int) g) = w1 at ea2 ⊢
    generalize qD (mkRat (2 * sw.num) (sw.den * g)) = w2 at ef2 ea2
    have e4 : S_step_time_4 [some (.val (qD sw)), some (.val (.tuple [.int (s : Nat), .int (g : Nat), w])), some (.val (.int (r : Nat))), some (.val (.int (s : Nat))), some (.val (.int (g : Nat))), some (.val w1)] = some (.nx [some (.val (qD sw)), some (.val (.tuple [.int (s : Nat), .int (g : Nat), w])), some (.val (.int (r : Nat))), some (.val (.int (s : Nat))), some (.val (.int (g : Nat))), some (.val w0)]) := by
      unfold S_step_time_4
      rw [h] at hm1
      simp -implicitDefEqProofs (disch := omega) [hm1, vIx_p0, vIx_p1, vMul_i, ef2, ea2]
    refine Eq.trans (seq_nx e4) ?_
    rfl
end PM
namespace PM
open PySem PySem.Spec PyProof.Rows L2 PV WS
/-! a drawn pattern -/
def keysL : List Nat := [97, 104, 107, 115, 122]
/-- pads as they are drawn -/
structure Pads (s : Nat) (ks : List Nat) (pads : List (Nat × List Nat)) : Prop where
  sub : (pads.map (·.1)).Sublist ks
  row : ∀ p ∈ pads, p.2.length = s ∧ ∀ c ∈ p.2, Mk c
theorem Pads.len {s : Nat} {ks : List Nat} {pads : List (Nat × List Nat)} (h : Pads s ks pads) : pads.length ≤ ks.length := by
  have := h.sub.length_le
  simpa using this
theorem lit_a : (Str.ofString "a") = S [97] := by decide +kernel
theorem lit_h : (Str.ofString "h") = S [104] := by decide +kernel
theorem lit_k : (Str.ofString "k") = S [107] := by decide +kernel
theorem lit_s : (Str.ofString "s") = S [115] := by decide +kernel
theorem lit_z : (Str.ofString "z") = S [122] := by decide +kernel
theorem keys_enum (ρ : Rho) : iEnum1 (fTup' (aCons (fC (.str "a")) (aCons (fC (.str "h")) (aCons (fC (.str "k")) (aCons (fC (.str "s")) (aCons (fC (.str "z")) aNil)))))) ρ = some ((List.range 5).map fun i : Nat => .tuple [.int (i : Nat), T [keysL.getD i 0]]) := by
  rw [lit_a, lit_h, lit_k, lit_s, lit_z]
  rfl
theorem steps_ix (m : Int) (hm : 0 ≤ m) : ∃ s : Nat, (1 ≤ s ∧ s ≤ 16) ∧ vIx (.tuple [.int (1 + m / 8 % 16), .int 4, .int 8, .int (1 + m / 8 % 6)]) (.int (m % 4)) = some (.int (s : Nat)) := by
  have h4 : m % 4 = 0 ∨ m % 4 = 1 ∨ m % 4 = 2 ∨ m % 4 = 3 := by omega
  rcases h4 with h | h | h | h
  · refine ⟨(1 + m / 8 % 16).toNat, by omega, ?_⟩
    rw [h, show (((1 + m / 8 % 16).toNat : Nat) : Int) = 1 + m / 8 % 16 by omega]
    exact vIx_t (by omega) rfl
  · refine ⟨4, by omega, ?_⟩
    rw [h]
    exact vIx_t (by omega) rfl
  · refine ⟨8, by omega, ?_⟩
    rw [h]
    exact vIx_t (by omega) rfl
  · refine ⟨(1 + m / 8 % 6).toNat, by omega, ?_⟩
    rw [h, show (((1 + m / 8 % 6).toNat : Nat) : Int) = 1 + m / 8 % 6 by omega]
    exact vIx_t (by omega) rfl
theorem pattern_ok (m : Int) (hm : 0 ≤ m) : ∃ s g pads, (1 ≤ s ∧ s ≤ 16) ∧ (1 ≤ g ∧ g ≤ 4) ∧ Pads s keysL pads ∧ F_law_pattern [.int m] = some (patD s g pads) := by
  obtain ⟨s, hs, es⟩ := steps_ix m hm
  obtain ⟨g, hg⟩ := Int.eq_ofNat_of_zero_le (a := 1 + m / 128 % 4) (by omega)
  have hg1 : 1 ≤ g ∧ g ≤ 4 := by omega
  have e3 := sFor_inv (fi := iEnum1 (fTup' (aCons (fC (.str "a")) (aCons (fC (.str "h")) (aCons (fC (.str "k")) (aCons (fC (.str "s")) (aCons (fC (.str "z")) aNil))))))) (h := hTup 2 (hCons (hName 4) (hCons (hName 5) hNil))) (b := (sSeq (sSetG (f2 vDiv (fn F_law_drawn (aCons (fVar 0) (aCons (f2 vAdd (fC (.int 30)) (fVar 4)) aNil))) (fC (.int 4))) (hName 6))
    (sIf (tB1 (f2 vLt (f2 vMod (fVar 6) (fC (.int 5))) (f2 vAdd (fC (.int 1)) (f2 vMod (f2 vDiv (fVar 0) (fC (.int 512))) (fC (.int 4)))))) (sSetG (f2 vAdd (fVar 3) (fTup' (aCons (fTup' (aCons (fVar 5) (aCons (fn F_law_marks (aCons (f2 vDiv (fVar 6) (fC (.int 8))) (aCons (fVar 1) aNil))) aNil))) aNil))) (hName 3)) sNext))) (ρ := [some (.val (.int m)), some (.val (.int s)), some (.val (.int g)), some (.val (.tuple [])), none, none, none])
    (fun k ρ => ∃ pads a b c, Pads s (keysL.take k) pads ∧ ρ = [some (.val (.int m)), some (.val (.int s)), some (.val (.int g)), some (.val (.tuple (pads.map padD))), a, b, c]) (keys_enum _) ⟨[], none, none, none, ⟨by simp, fun p hp => nomatch hp⟩, rfl⟩ (by
      rintro k d ρ hd ⟨pads, a, b, c, hp, rfl⟩
      rw [List.getElem?_map] at hd
      obtain ⟨i, hi, rfl⟩ := Option.map_eq_some_iff.mp hd
      have hk : k < 5 := by
        have := (List.getElem?_eq_some_iff.mp hi).1
        simpa using this
      rw [List.getElem?_range hk] at hi
      cases hi
      have hkl : keysL.take (k + 1) = keysL.take k ++ [keysL.getD k 0] := by
        have : k = 0 ∨ k = 1 ∨ k = 2 ∨ k = 3 ∨ k = 4 := by omega
        rcases this with rfl | rfl | rfl | rfl | rfl <;> rfl
      have ed := drawn_ok m (30 + k) (by omega)
      have hdr := drw_r m (30 + k)
      rw [show ((30 + k : Nat) : Int) = 30 + (k : Int) by omega] at ed
      generalize drw m (30 + k) = dr at ed hdr
      have em := marks_ok (dr / 4 / 8) s (by omega)
      refine ⟨_, rfl, ?_⟩
      by_cases hc : dr / 4 % 5 < 1 + m / 512 % 4
      · refine ⟨_, ?_, pads ++ [(keysL.getD k 0, mrk (dr / 4 / 8) s)], some (.val (.int k)), some (.val (T [keysL.getD k 0])), some (.val (.int (dr / 4))), ⟨?_, ?_⟩, rfl⟩
        · have ha := vAdd_t (a := pads.map padD) (b := [padD (keysL.getD k 0, mrk (dr / 4 / 8) s)]) (by
            have := hp.len
            simp at this
            simp
            omega)
          rw [List.map_append]
          change vAdd _ (.tuple [.tuple [T [keysL.getD k 0], T (mrk (dr / 4 / 8) s)]]) = some (.tuple (pads.map padD ++ [.tuple [T [keysL.getD k 0], T (mrk (dr / 4 / 8) s)]])) at ha
          change _ = some (Out.nx [some (.val (.int m)), some (.val (.int s)), some (.val (.int g)), some (.val (.tuple (pads.map padD ++ [.tuple [T [keysL.getD k 0], T (mrk (dr / 4 / 8) s)]]))), some (.val (.int k)), some (.val (T [keysL.getD k 0])), some (.val (.int (dr / 4)))])
          generalize pads.map padD = w at ha ⊢
          generalize mrk (dr / 4 / 8) s = r at em ha ⊢
          generalize keysL.getD k 0 = key at ha ⊢
          simp -implicitDefEqProofs (disch := omega) [ed, vDiv_i, vMod_i, hc, em, ha]
        · rw [List.map_append, hkl]
          exact List.Sublist.append hp.sub (List.Sublist.refl _)
        · intro p hpm
          rcases List.mem_append.mp hpm with h | h
          · exact hp.row p h
          · rw [List.mem_singleton] at h
            subst h
            exact ⟨mrk_len _ _, mrk_mk _ _⟩
      · refine ⟨_, ?_, pads, some (.val (.int k)), some (.val (T [keysL.getD k 0])), some (.val (.int (dr / 4))), ⟨?_, hp.row⟩, rfl⟩
        · simp -implicitDefEqProofs (disch := omega) [ed, vDiv_i, vMod_i, hc]
        · rw [hkl]
          exact hp.sub.trans (List.sublist_append_left _ _))
  obtain ⟨ρ', e3, pads, a, b, c, hp, rfl⟩ := e3
  refine ⟨s, g, pads, hs, hg1, hp, ?_⟩
  refine run_of (ρ := [some (.val (.int m)), none, none, none, none, none, none]) rfl ?_
  unfold G_law_pattern
  rw [seq_nx (g := S_law_pattern_0) (set_nx (d := .int s) (by simp -implicitDefEqProofs (disch := omega) [vDiv_i, vMod_i, es]))]
  rw [seq_nx (g := S_law_pattern_1) (set_nx (d := .int g) (by simp -implicitDefEqProofs (disch := omega) [vDiv_i, vMod_i, hg]))]
  rw [seq_nx (g := S_law_pattern_2) (set_nx (d := .tuple []) (by simp -implicitDefEqProofs))]
  refine Eq.trans (seq_nx e3) ?_
  rfl
end PM
namespace PM
open PySem PySem.Spec PyProof.Rows L2 PV WS
/-! spread: spots and gaps -/
def sp (m s k : Nat) : Nat := k * s / m
theorem sp_step {m s k : Nat} (hm : 0 < m) (h : m ≤ s) : sp m s k < sp m s (k + 1) := by
  unfold sp
  have h1 : k * s / m + 1 = (k * s + m) / m := by rw [Nat.add_div_right _ hm]
  have h2 : (k * s + m) / m ≤ ((k + 1) * s) / m := Nat.div_le_div_right (by rw [Nat.add_mul]; omega)
  omega
theorem sp_mono {m s j k : Nat} (hm : 0 < m) (h : m ≤ s) (hjk : j < k) : sp m s j < sp m s k := by
  induction k with
  | zero => omega
  | succ k ih =>
    rcases Nat.lt_or_ge j k with h1 | h1
    · exact Nat.lt_trans (ih h1) (sp_step hm h)
    · have : j = k := by omega
      subst this
      exact sp_step hm h
theorem sp_end {m s : Nat} (hm : 0 < m) : sp m s m = s := by unfold sp; rw [Nat.mul_comm]; exact Nat.mul_div_cancel s hm
theorem sorted_eqN {l m : List Nat} (hl : l.Pairwise (· < ·)) (hm : m.Pairwise (· < ·)) (h : ∀ j, j ∈ l ↔ j ∈ m) : l = m := by
  have nd : ∀ {l : List Nat}, l.Pairwise (· < ·) → l.Nodup := fun h => h.imp (by intro a b h; omega)
  refine List.Perm.eq_of_pairwise (le := fun a b => a < b) ?_ hl hm ((List.perm_ext_iff_of_nodup (nd hl) (nd hm)).mpr h)
  intro a b _ _ h1 h2
  omega
theorem spots_spread {m s : Nat} (hm : 0 < m) (h : m ≤ s) : spots (sprd m s) = (List.range m).map (sp m s) := by
  refine sorted_eqN (List.Pairwise.filter _ List.pairwise_lt_range) ?_ fun j => ?_
  · rw [List.pairwise_map]
    exact List.pairwise_lt_range.imp (fun h1 => sp_mono hm h h1)
  · rw [mem_spots, sprd_len, List.mem_map]
    constructor
    · rintro ⟨hj, hc⟩
      rw [cy_nat (by rw [sprd_len]; exact hj)] at hc
      unfold sprd at hc
      rw [List.getElem_map, List.getElem_range] at hc
      split at hc
      · rename_i h2
        rw [List.contains_iff_mem] at h2
        obtain ⟨k, hk, e⟩ := List.mem_map.mp h2
        exact ⟨k, hk, e⟩
      · exact absurd rfl hc
    · rintro ⟨k, hk, rfl⟩
      have hk' := List.mem_range.mp hk
      have h1 := sp_mono hm h hk'
      rw [sp_end hm] at h1
      refine ⟨h1, ?_⟩
      rw [cy_nat (by rw [sprd_len]; exact h1)]
      unfold sprd
      rw [List.getElem_map, List.getElem_range, if_pos]
      · decide
      · rw [List.contains_iff_mem]
        exact List.mem_map.mpr ⟨k, hk, rfl⟩
theorem gp_spread {m s : Nat} (hm : 0 < m) (h : m ≤ s) : gp (sprd m s) = (List.range m).map fun k => sp m s (k + 1) - sp m s k := by
  have hs := spots_spread hm h
  have hl : (spots (sprd m s)).length = m := by rw [hs]; simp
  apply List.ext_getElem (by simp [gp, hl])
  intro k h1 h2
  have hk : k < m := by simpa using h2
  have hk' : k < (spots (sprd m s)).length := by omega
  have hx := gf_of_nxt (gap_next hk')
  have hg : ∀ (j : Nat) (hj : j < (spots (sprd m s)).length), (spots (sprd m s))[j] = sp m s j := fun j hj => by
    simp only [hs, List.getElem_map, List.getElem_range]
  have e1 : (gp (sprd m s))[k] = gf (sprd m s) ((spots (sprd m s))[k] : Nat) := by simp [gp]
  rw [e1, hx, List.getElem_map, List.getElem_range]
  split
  · rw [hg, hg]
  · rw [hg, hg, sprd_len]
    have : k + 1 = m := by omega
    rw [this, sp_end hm]
    simp [sp]
theorem sum_tele (f : Nat → Nat) (hf : ∀ k, f k ≤ f (k + 1)) : ∀ m, ((List.range m).map fun k => f (k + 1) - f k).sum + f 0 = f m
  | 0 => by simp
  | m + 1 => by
    have ih := sum_tele f hf m
    have := hf m
    rw [List.range_succ, List.map_append, List.sum_append]
    simp
    omega
theorem sp_gap {m s k : Nat} (hm : 0 < m) : sp m s (k + 1) - sp m s k = s / m ∨ sp m s (k + 1) - sp m s k = s / m + 1 := by
  have e : ∀ k, sp m s k = k * (s / m) + k * (s % m) / m := by
    intro k
    unfold sp
    have h1 : k * s = k * (s % m) + (k * (s / m)) * m := by
      have := Nat.div_add_mod s m
      calc k * s = k * (m * (s / m) + s % m) := by rw [this]
        _ = k * (s % m) + (k * (s / m)) * m := by rw [Nat.mul_add, Nat.add_comm, Nat.mul_comm m, Nat.mul_assoc]
    rw [h1, Nat.add_mul_div_right _ _ hm, Nat.add_comm]
  rw [e, e]
  have hr := Nat.mod_lt s hm
  generalize s % m = r at hr
  generalize s / m = q
  have h2 : k * r / m ≤ (k + 1) * r / m := Nat.div_le_div_right (by rw [Nat.add_mul]; omega)
  have h3 : (k + 1) * r / m ≤ k * r / m + 1 := by
    rw [← Nat.add_div_right _ hm]
    exact Nat.div_le_div_right (by rw [Nat.add_mul]; omega)
  rw [Nat.add_mul]
  omega
theorem foldl_max_le {b : Nat} : ∀ (l : List Nat) (a : Nat), a ≤ b → (∀ x ∈ l, x ≤ b) → l.foldl max a ≤ b
  | [], a, h, _ => h
  | x :: l, a, h, h2 => foldl_max_le l (max a x) (by have := h2 x List.mem_cons_self; omega) (fun y hy => h2 y (List.mem_cons_of_mem _ hy))
theorem foldl_min_ge {b : Nat} : ∀ (l : List Nat) (a : Nat), b ≤ a → (∀ x ∈ l, b ≤ x) → b ≤ l.foldl min a
  | [], a, h, _ => h
  | x :: l, a, h, h2 => foldl_min_ge l (min a x) (by have := h2 x List.mem_cons_self; omega) (fun y hy => h2 y (List.mem_cons_of_mem _ hy))
theorem maxN_le {b : Nat} {l : List Nat} (h : ∀ x ∈ l, x ≤ b) : maxN l ≤ b := by
  cases l with
  | nil => exact Nat.zero_le _
  | cons a as => exact foldl_max_le as a (h a List.mem_cons_self) (fun x hx => h x (List.mem_cons_of_mem _ hx))
theorem minN_ge {b : Nat} {l : List Nat} (h0 : l ≠ []) (h : ∀ x ∈ l, b ≤ x) : b ≤ minN l := by
  cases l with
  | nil => exact absurd rfl h0
  | cons a as => exact foldl_min_ge as a (h a List.mem_cons_self) (fun x hx => h x (List.mem_cons_of_mem _ hx))
/-- what a spread row is like -/
theorem spread_all {m s : Nat} (hm : 0 < m) (h : m ≤ s) : (spots (sprd m s)).length = m ∧ (gp (sprd m s)).sum = s ∧ maxN (gp (sprd m s)) ≤ minN (gp (sprd m s)) + 1 ∧ (sprd m s).getD 0 0 = 120 := by
  have hs := spots_spread hm h
  have hg := gp_spread hm h
  refine ⟨by rw [hs]; simp, ?_, ?_, ?_⟩
  · rw [hg]
    have := sum_tele (sp m s) (fun k => Nat.le_of_lt (sp_step hm h)) m
    rw [sp_end hm] at this
    have h0 : sp m s 0 = 0 := by simp [sp]
    omega
  · have h1 : ∀ x ∈ gp (sprd m s), x = s / m ∨ x = s / m + 1 := by
      intro x hx
      rw [hg] at hx
      obtain ⟨k, _, rfl⟩ := List.mem_map.mp hx
      exact sp_gap hm
    have hne : gp (sprd m s) ≠ [] := by
      rw [hg]
      intro h
      have := congrArg List.length h
      simp at this
      omega
    have h2 := maxN_le (b := s / m + 1) (fun x hx => by have := h1 x hx; omega)
    have h3 := minN_ge (b := s / m) hne (fun x hx => by have := h1 x hx; omega)
    omega
  · have h0 : 0 < s := by omega
    have hmem : (0 : Nat) ∈ spots (sprd m s) := by
      rw [hs]
      exact List.mem_map.mpr ⟨0, List.mem_range.mpr hm, by simp [sp]⟩
    have h1 := (mem_spots.mp hmem).2
    rw [cy_nat (by rw [sprd_len]; exact h0)] at h1
    have hmk := sprd_mk m s
    unfold sprd at h1 ⊢
    rw [List.getElem_map, List.getElem_range] at h1
    rw [List.getD_eq_getElem?_getD, List.getElem?_eq_getElem (by simpa using h0), List.getElem_map, List.getElem_range]
    split
    · rfl
    · rename_i h2
      rw [if_neg h2] at h1
      exact absurd rfl h1
end PM
namespace PM
open PySem PySem.Spec PyProof.Rows L2 PV WS
/-! patterns: turned, some pads, finer, how loud -/
theorem pat_to2 (s g : Nat) (w : D) : vSl (.tuple [.int (s : Nat), .int (g : Nat), w]) none (some 2) = some (.tuple [.int (s : Nat), .int (g : Nat)]) := vSl_tto (a := [.int (s : Nat), .int (g : Nat), w]) (i := 2) (by omega)
theorem add_21 (a b c : D) : vAdd (.tuple [a, b]) (.tuple [c]) = some (.tuple [a, b, c]) := rfl
def tnP (b : Int) (pads : List (Nat × List Nat)) : List (Nat × List Nat) := pads.map fun p => (p.1, tn p.2 b)
theorem pturned_ok (s g : Nat) (pads : List (Nat × List Nat)) (b : Int) (h : ∀ p ∈ pads, p.2 ≠ [] ∧ p.2.length ≤ 1000000) (hl : pads.length ≤ 1000) :
    F_pattern_turned [patD s g pads, .int b] = some (patD s g (tnP b pads)) := by
  refine run_of (ρ := [some (.val (patD s g pads)), some (.val (.int b)), none, none]) rfl ?_
  have e := gLc_all (fi := iF (f2 vIx (fVar 0) (fC (.int 2)))) (h := hTup 2 (hCons (hName 2) (hCons (hName 3) hNil))) (ft := tYesF) (fe := fTup' (aCons (fVar 2) (aCons (fn F_turned (aCons (fVar 3) (aCons (fVar 1) aNil))) aNil))) (vs := [2, 3]) (ρ := [some (.val (patD s g pads)), some (.val (.int b)), none, none]) (g := padD) (xs := pads) (fun p => padD (p.1, tn p.2 b)) (by
      rw [iF_ev, f2_ev]
      simp -implicitDefEqProofs only [fVar_ev, nth_0, getV_v, fC_ev, Option.bind_some, vIx_3c, items_t]) (by omega) (fun p hp => ⟨[some (.val (patD s g pads)), some (.val (.int b)), some (.val (T [p.1])), some (.val (T p.2))], rfl, rfl, by
        have := turned_ok p.2 b (h p hp).1 (h p hp).2
        simp -implicitDefEqProofs [this, padD]⟩)
  have e2 : pads.map (fun p => padD (p.1, tn p.2 b)) = (tnP b pads).map padD := by
    unfold tnP
    rw [List.map_map]
    rfl
  rw [e2] at e
  unfold G_pattern_turned
  refine ret_of ?_
  refine f2_of (x := .tuple [.int (s : Nat), .int (g : Nat)]) (y := .tuple [.tuple ((tnP b pads).map padD)]) ?_ ?_ (add_21 _ _ _)
  · simp -implicitDefEqProofs only [fSl_ev, fVar_ev, nth_0, getV_v, Option.bind_some, pNo_ev, pSome_ev, fC_ev, intK_i, pat_to2]
  · rw [fTup_ev, aCons_ev, fn_ev, aCons_ev, fOfF_ev, e]
    rfl
def onP (ks : List Nat) (pads : List (Nat × List Nat)) : List (Nat × List Nat) := pads.filter fun p => decide (p.1 ∈ ks)
theorem vIn_sign (c : Nat) (l : List Nat) : vIn (.str (S [c])) (.str (S l)) = some (.bool (decide (c ∈ l))) := by
  have : vInB (.str (S [c])) (.str (S l)) = some (decide (c ∈ l)) := by
    show (match (S [c]).cps.toList with | [c] => some (decide (c ∈ (S l).cps.toList)) | _ => some (!(Builtin.Str.occurrences (S l) (S [c]) 0 (S l).length 1).isEmpty)) = _
    simp only [S_list]
  unfold vIn
  rw [this]
  rfl
theorem only_ok (s g : Nat) (pads : List (Nat × List Nat)) (ks : List Nat) (hl : pads.length ≤ 1000) :
    F_only [patD s g pads, T ks] = some (patD s g (onP ks pads)) := by
  refine run_of (ρ := [some (.val (patD s g pads)), some (.val (T ks)), none]) rfl ?_
  have e := gLc_map (fi := iF (f2 vIx (fVar 0) (fC (.int 2)))) (h := hName 2) (ft := tB1 (f2 vIn (f2 vIx (fVar 2) (fC (.int 0))) (fVar 1))) (fe := fVar 2) (vs := [2]) (ρ := [some (.val (patD s g pads)), some (.val (T ks)), none]) (g := padD) (xs := pads) (fun p => decide (p.1 ∈ ks)) padD (by
      rw [iF_ev, f2_ev]
      simp -implicitDefEqProofs only [fVar_ev, nth_0, getV_v, fC_ev, Option.bind_some, vIx_3c, items_t]) (by omega) (fun p hp => ⟨_, rfl, by
        have : vIx (padD p) (.int 0) = some (T [p.1]) := vIx_p0 _ _
        simp -implicitDefEqProofs only [tB1_ev, f2_ev, fVar_ev, fC_ev, wipeR, List.set_cons_zero, List.set_cons_succ, nth_0, nth_s, getV_v, Option.bind_some, this, vIn_sign, boolK_b], fun _ => rfl⟩)
  unfold G_only
  refine ret_of ?_
  refine f2_of (x := .tuple [.int (s : Nat), .int (g : Nat)]) (y := .tuple [.tuple ((onP ks pads).map padD)]) ?_ ?_ (add_21 _ _ _)
  · simp -implicitDefEqProofs only [fSl_ev, fVar_ev, nth_0, getV_v, Option.bind_some, pNo_ev, pSome_ev, fC_ev, intK_i, pat_to2]
  · rw [fTup_ev, aCons_ev, fn_ev, aCons_ev, fOfF_ev, e]
    rfl
/-- each sign and so many rests behind -/
def fin (q : Nat) (r : List Nat) : List Nat := (r.map fun c => c :: List.replicate (q - 1) 46).flatten
def fnP (q : Nat) (pads : List (Nat × List Nat)) : List (Nat × List Nat) := pads.map fun p => (p.1, fin q p.2)
theorem fin_len {q : Nat} (hq : 0 < q) (r : List Nat) : (fin q r).length = r.length * q := by
  unfold fin
  induction r with
  | nil => simp
  | cons a as ih =>
    rw [List.map_cons, List.flatten_cons, List.length_append, ih, List.length_cons, List.length_cons, List.length_replicate, Nat.add_mul]
    omega
theorem vMul_S1 (c n : Nat) (h : n ≤ 100000) : vMul (.str (S [c])) (.int n) = some (T (List.replicate n c)) := by
  have h1 : (-4611686018427387904 ≤ (n : Int) ∧ (n : Int) < 4611686018427387904) ∧ (S [c]).length * (n : Int).toNat ≤ 16777216 := by
    refine ⟨⟨by omega, by omega⟩, ?_⟩
    rw [S_len]
    simp
    omega
  have e : vMul (.str (S [c])) (.int n) = if (-4611686018427387904 ≤ (n : Int) ∧ (n : Int) < 4611686018427387904) ∧ (S [c]).length * (n : Int).toNat ≤ 16777216 then some (.str (repS (S [c]) n)) else none := by unfold vMul; rfl
  rw [e, if_pos h1]
  unfold repS
  rw [S_list]
  simp [S]
theorem finer_ok' (s g : Nat) (pads : List (Nat × List Nat)) (q : Nat) (hq : 1 ≤ q ∧ q ≤ 1000) (h : ∀ p ∈ pads, p.2.length * q ≤ 1000000) (hl : pads.length ≤ 1000) :
    F_finer [patD s g pads, .int q] = some (patD (s * q) (g * q) (fnP q pads)) := by
  refine run_of (ρ := [some (.val (patD s g pads)), some (.val (.int q)), none, none, none, none, none, none, none, none]) rfl ?_
  have hpd : PyData.tuple (pads.map padD) = PyData.tuple (pads.map padD) := rfl
  have e0 : S_finer_0 [some (.val (patD s g pads)), some (.val (.int q)), none, none, none, none, none, none, none, none] = some (.nx [some (.val (patD s g pads)), some (.val (.int q)), some (.val (.int (s : Nat))), some (.val (.int (g : Nat))), some (.val (.tuple (pads.map padD))), none, none, none, none, none]) := rfl
  have ev := vMul_S1 46 (q - 1) (by omega)
  have e1 : S_finer_1 [some (.val (patD s g pads)), some (.val (.int q)), some (.val (.int (s : Nat))), some (.val (.int (g : Nat))), some (.val (.tuple (pads.map padD))), none, none, none, none, none] = some (.nx [some (.val (patD s g pads)), some (.val (.int q)), some (.val (.int (s : Nat))), some (.val (.int (g : Nat))), some (.val (.tuple (pads.map padD))), some (.val (T (List.replicate (q - 1) 46))), none, none, none, none]) := by
    unfold S_finer_1
    refine set_nx ?_
    rw [lit_dot]
    have hi : (q : Int) - 1 = ((q - 1 : Nat) : Int) := by omega
    simp -implicitDefEqProofs only [f2_ev, fC_ev, fVar_ev, nth_0, nth_s, getV_v, Option.bind_some, vSub_i, hi, ev]
  unfold G_finer
  refine Eq.trans (seq_nx e0) ?_
  refine Eq.trans (seq_nx e1) ?_
  generalize hP : patD s g pads = P
  have e2 : S_finer_2 [some (.val P), some (.val (.int q)), some (.val (.int (s : Nat))), some (.val (.int (g : Nat))), some (.val (.tuple (pads.map padD))), some (.val (T (List.replicate (q - 1) 46))), none, none, none, none] = some (.nx [some (.val P), some (.val (.int q)), some (.val (.int (s : Nat))), some (.val (.int (g : Nat))), some (.val (.tuple (pads.map padD))), some (.val (T (List.replicate (q - 1) 46))), some (.val (.tuple ((fnP q pads).map padD))), none, none, none]) := by
    unfold S_finer_2
    refine set_nx ?_
    rw [fn_ev, aCons_ev, fOfF_ev, gLc_all (g := padD) (xs := pads) (fun p => padD (p.1, fin q p.2)) (by
      simp -implicitDefEqProofs only [iF_ev, fVar_ev, nth_0, nth_s, getV_v, Option.bind_some, items_t]) (by omega) (fun p hp => ⟨[some (.val P), some (.val (.int q)), some (.val (.int (s : Nat))), some (.val (.int (g : Nat))), some (.val (.tuple (pads.map padD))), some (.val (T (List.replicate (q - 1) 46))), none, none, some (.val (T [p.1])), some (.val (T p.2))], rfl, rfl, by
        have hlq := h p hp
        have hlp : p.2.length ≤ 1000000 := Nat.le_trans (Nat.le_mul_of_pos_right _ hq.1) hlq
        have ei := gLc_all (fi := iF (fVar 9)) (h := hName 7) (ft := tYesF) (fe := f2 vAdd (fVar 7) (fVar 5)) (vs := [7]) (ρ := [some (.val P), some (.val (.int q)), some (.val (.int (s : Nat))), some (.val (.int (g : Nat))), some (.val (.tuple (pads.map padD))), some (.val (T (List.replicate (q - 1) 46))), none, none, some (.val (T [p.1])), some (.val (T p.2))]) (g := fun c : Nat => .str (S [c])) (xs := p.2) (fun c => T (c :: List.replicate (q - 1) 46)) (by
          simp -implicitDefEqProofs only [iF_ev, fVar_ev, nth_0, nth_s, getV_v, Option.bind_some, items_S]) (by omega) (fun c hc => ⟨_, rfl, rfl, by
            have ea := vAdd_S (a := [c]) (b := List.replicate (q - 1) 46) (by simp; omega)
            simp -implicitDefEqProofs only [f2_ev, fVar_ev, wipeR, List.set_cons_zero, List.set_cons_succ, nth_0, nth_s, getV_v, Option.bind_some, ea]
            rfl⟩)
        have ej := mJoin_l (p.2.map fun c => c :: List.replicate (q - 1) 46) (by
          have h2 := fin_len (q := q) (by omega) p.2
          unfold fin at h2
          rw [List.length_flatten] at h2
          rw [h2]
          omega)
        rw [List.map_map] at ej
        rw [lit_e, fTup_ev, aCons_ev, aCons_ev, fM_ev, aCons_ev, fOfF_ev, ei]
        change mJoin _ [.list (p.2.map fun c => T (c :: List.replicate (q - 1) 46))] = some (T (fin q p.2)) at ej
        generalize (p.2.map fun c => T (c :: List.replicate (q - 1) 46)) = w at ej
        simp -implicitDefEqProofs only [fVar_ev, fC_ev, nth_0, nth_s, getV_v, Option.bind_some, Option.map_some, aNil_ev, ej]
        rfl⟩)]
    have e2 : pads.map (fun p => padD (p.1, fin q p.2)) = (fnP q pads).map padD := by
      unfold fnP
      rw [List.map_map]
      rfl
    rw [e2]
    rfl
  refine Eq.trans (seq_nx e2) ?_
  refine ret_of ?_
  have m1 : vMul (.int (s : Nat)) (.int (q : Nat)) = some (.int ((s * q : Nat) : Int)) := by rw [vMul_i (by omega), cast_mul]
  have m2 : vMul (.int (g : Nat)) (.int (q : Nat)) = some (.int ((g * q : Nat) : Int)) := by rw [vMul_i (by omega), cast_mul]
  simp -implicitDefEqProofs only [fTup_ev, aCons_ev, aNil_ev, f2_ev, fVar_ev, nth_0, nth_s, getV_v, Option.bind_some, Option.map_some, m1, m2]
theorem finer_ok (s g : Nat) (pads : List (Nat × List Nat)) (q : Nat) (hq : 1 ≤ q ∧ q ≤ 1000) (h : ∀ p ∈ pads, p.2.length ≤ 1000) (hl : pads.length ≤ 1000) :
    F_finer [patD s g pads, .int q] = some (patD (s * q) (g * q) (fnP q pads)) := finer_ok' s g pads q hq (fun p hp => Nat.mul_le_mul (h p hp) hq.2) hl
/-! how loud -/
theorem cnt_count (c : Nat) : ∀ l : List Nat, cnt c l = ((l.count c : Nat) : Int)
  | [] => rfl
  | a :: l => by
    rw [cnt_cons, cnt_count c l, List.count_cons]
    by_cases h : a = c
    · subst h
      simp
      omega
    · simp [h]
theorem mCount_S (l : List Nat) (c : Nat) : mCount (.str (S l)) [.str (S [c])] = some (.int ((l.count c : Nat) : Int)) := by
  show some (PyData.int (Txt.count (S l) (S [c]))) = _
  rw [← S_mk, count_cnt, S_list, cnt_count]
def mksP (pads : List (Nat × List Nat)) : List Nat := (pads.map (·.2)).flatten
def ldA (pads : List (Nat × List Nat)) : Int := (((mksP pads).count 120 : Nat) : Int)
def ldB (pads : List (Nat × List Nat)) : Int := ((mksP pads).length : Int) - ((mksP pads).count 120 : Nat) - ((mksP pads).count 46 : Nat)
theorem loud_ok (s g : Nat) (pads : List (Nat × List Nat)) (hl : pads.length ≤ 1000) (h : (mksP pads).length ≤ 1000000) : F_loudness [patD s g pads] = some (.tuple [.int (ldA pads), .int (ldB pads)]) := by
  refine run_of (ρ := [some (.val (patD s g pads)), none, none, none, none]) rfl ?_
  have e := gLc_all (fi := iF (f2 vIx (fVar 0) (fC (.int 2)))) (h := hTup 2 (hCons (hName 2) (hCons (hName 3) hNil))) (ft := tYesF) (fe := fVar 3) (vs := [2, 3]) (ρ := [some (.val (patD s g pads)), none, none, none, none]) (g := padD) (xs := pads) (fun p => T p.2) (by
      rw [iF_ev, f2_ev]
      simp -implicitDefEqProofs only [fVar_ev, nth_0, getV_v, fC_ev, Option.bind_some, vIx_3c, items_t]) (by omega) (fun p hp => ⟨_, rfl, rfl, rfl⟩)
  have ej := mJoin_l (pads.map (·.2)) (by
    unfold mksP at h
    rw [List.length_flatten] at h
    exact Nat.le_trans h (by omega))
  rw [List.map_map] at ej
  change mJoin _ [.list (pads.map fun p => T p.2)] = some (T (mksP pads)) at ej
  generalize patD s g pads = P at e ⊢
  generalize (pads.map fun p => T p.2) = w at e ej
  unfold ldA ldB
  generalize mksP pads = r at ej h ⊢
  have e0 : S_loudness_0 [some (.val P), none, none, none, none] = some (.nx [some (.val P), some (.val (T r)), none, none, none]) := by
    unfold S_loudness_0
    refine set_nx ?_
    rw [lit_e, fM_ev, aCons_ev, fOfF_ev, e]
    simp -implicitDefEqProofs only [fC_ev, Option.bind_some, Option.map_some, aNil_ev, ej]
  have c1 := mCount_S r 120
  have c2 := mCount_S r 46
  have c3 := bLen_S (a := r) (by omega)
  have e1 : S_loudness_1 [some (.val P), some (.val (T r)), none, none, none] = some (.nx [some (.val P), some (.val (T r)), none, none, some (.val (.int ((r.count 120 : Nat) : Int)))]) := by
    unfold S_loudness_1
    refine set_nx ?_
    rw [lit_x]
    simp -implicitDefEqProofs only [fM_ev, aCons_ev, aNil_ev, fC_ev, fVar_ev, nth_0, nth_s, getV_v, Option.bind_some, c1]
  unfold G_loudness
  refine Eq.trans (seq_nx e0) ?_
  refine Eq.trans (seq_nx e1) ?_
  unfold S_loudness_2
  refine ret_of ?_
  rw [lit_dot]
  simp -implicitDefEqProofs only [fTup_ev, fn_ev, f2_ev, fM_ev, aCons_ev, aNil_ev, fC_ev, fVar_ev, nth_0, nth_s, getV_v, Option.bind_some, Option.map_some, c2, c3, vSub_i]
end PM
namespace PM
open PySem PySem.Spec PyProof.Rows L2 PV WS
/-! coarser -/
theorem blsOf_map {α : Type} (f : α → Bool) : ∀ xs : List α, blsOf (xs.map fun x => .bool (f x)) = some (xs.map f)
  | [] => rfl
  | x :: xs => by
    show (blsOf (xs.map fun x => .bool (f x))).map _ = _
    rw [blsOf_map f xs]
    rfl
theorem bAll_map {α : Type} (f : α → Bool) (xs : List α) : bAll [.list (xs.map fun x => .bool (f x))] = some (.bool (xs.all f)) := by
  show (blsOf _).map _ = _
  rw [blsOf_map]
  simp [List.all_map]
def posP (pads : List (Nat × List Nat)) : List Nat := (pads.map fun p => spots p.2).flatten
/-- what all struck steps and both numbers divide by -/
def GG (s g : Nat) (pads : List (Nat × List Nat)) : Nat := (posP pads).foldl Nat.gcd (Nat.gcd s g)
theorem dvd_foldl (q : Nat) : ∀ (l : List Nat) (a : Nat), q ∣ l.foldl Nat.gcd a ↔ q ∣ a ∧ ∀ x ∈ l, q ∣ x
  | [], a => by simp
  | x :: l, a => by
    rw [List.foldl_cons, dvd_foldl q l, Nat.dvd_gcd_iff]
    constructor
    · rintro ⟨⟨h1, h2⟩, h3⟩
      exact ⟨h1, fun y hy => by
        rcases List.mem_cons.mp hy with rfl | hy
        · exact h2
        · exact h3 y hy⟩
    · rintro ⟨h1, h2⟩
      exact ⟨⟨h1, h2 x List.mem_cons_self⟩, fun y hy => h2 y (List.mem_cons_of_mem _ hy)⟩
theorem dvd_GG (q s g : Nat) (pads : List (Nat × List Nat)) : q ∣ GG s g pads ↔ q ∣ s ∧ q ∣ g ∧ ∀ p ∈ pads, ∀ i ∈ spots p.2, q ∣ i := by
  unfold GG posP
  rw [dvd_foldl, Nat.dvd_gcd_iff]
  constructor
  · rintro ⟨⟨h1, h2⟩, h3⟩
    exact ⟨h1, h2, fun p hp i hi => h3 i (List.mem_flatten.mpr ⟨_, List.mem_map.mpr ⟨p, hp, rfl⟩, hi⟩)⟩
  · rintro ⟨h1, h2, h3⟩
    refine ⟨⟨h1, h2⟩, fun x hx => ?_⟩
    obtain ⟨l, hl, hx⟩ := List.mem_flatten.mp hx
    obtain ⟨p, hp, rfl⟩ := List.mem_map.mp hl
    exact h3 p hp x hx
theorem isfiner_ok (s g : Nat) (pads : List (Nat × List Nat)) (q : Nat) (hq : 1 ≤ q) (h : ∀ p ∈ pads, p.2.length ≤ 1000000) (hl : pads.length ≤ 1000) :
    F_is_finer [patD s g pads, .int q] = some (.bool (decide (q ∣ GG s g pads))) := by
  refine run_of (ρ := [some (.val (patD s g pads)), some (.val (.int q)), none, none, none, none, none, none, none]) rfl ?_
  have e0 : S_is_finer_0 [some (.val (patD s g pads)), some (.val (.int q)), none, none, none, none, none, none, none] = some (.nx [some (.val (patD s g pads)), some (.val (.int q)), some (.val (.int (s : Nat))), some (.val (.int (g : Nat))), some (.val (.tuple (pads.map padD))), none, none, none, none]) := rfl
  unfold G_is_finer
  refine Eq.trans (seq_nx e0) ?_
  generalize patD s g pads = P
  have m1 : vMod (.int (s : Nat)) (.int (q : Nat)) = some (.int ((s % q : Nat) : Int)) := by rw [vMod_i (by omega)]; simp
  have m2 : vMod (.int (g : Nat)) (.int (q : Nat)) = some (.int ((g % q : Nat) : Int)) := by rw [vMod_i (by omega)]; simp
  by_cases hd : q ∣ s ∧ q ∣ g
  · obtain ⟨d1, d2⟩ := hd
    rw [Nat.mod_eq_zero_of_dvd d1] at m1
    rw [Nat.mod_eq_zero_of_dvd d2] at m2
    refine Eq.trans (seq_nx (if_no (by
      simp -implicitDefEqProofs only [tOr1_ev, tB1_ev, f2_ev, fVar_ev, fC_ev, nth_0, nth_s, getV_v, Option.bind_some, m1, m2, vNe_i, boolK_b]
      simp))) ?_
    unfold S_is_finer_2
    refine ret_of ?_
    have e := gLc_all (fi := iF (fVar 4)) (h := hTup 2 (hCons (hName 7) (hCons (hName 8) hNil))) (ft := tYesF) (fe := fn bAll (aCons (fOfF (gLc (iEnum1 (fVar 8)) (hTup 2 (hCons (hName 5) (hCons (hName 6) hNil))) (tB1 (f2 vNe (f2 vMod (fVar 5) (fVar 1)) (fC (.int 0)))) (f2 vEq (fVar 6) (fC (.str "."))) [5, 6])) aNil)) (vs := [7, 8]) (ρ := [some (.val P), some (.val (.int q)), some (.val (.int (s : Nat))), some (.val (.int (g : Nat))), some (.val (.tuple (pads.map padD))), none, none, none, none]) (g := padD) (xs := pads) (fun p => .bool (decide (∀ i ∈ spots p.2, q ∣ i))) (by
        simp -implicitDefEqProofs only [iF_ev, fVar_ev, nth_0, nth_s, getV_v, Option.bind_some, items_t]) (by omega) (fun p hp => ⟨[some (.val P), some (.val (.int q)), some (.val (.int (s : Nat))), some (.val (.int (g : Nat))), some (.val (.tuple (pads.map padD))), none, none, some (.val (T [p.1])), some (.val (T p.2))], rfl, rfl, by
          have hlp := h p hp
          have ei := gLc_map (fi := iEnum1 (fVar 8)) (h := hTup 2 (hCons (hName 5) (hCons (hName 6) hNil))) (ft := tB1 (f2 vNe (f2 vMod (fVar 5) (fVar 1)) (fC (.int 0)))) (fe := f2 vEq (fVar 6) (fC (.str "."))) (vs := [5, 6]) (ρ := [some (.val P), some (.val (.int q)), some (.val (.int (s : Nat))), some (.val (.int (g : Nat))), some (.val (.tuple (pads.map padD))), none, none, some (.val (T [p.1])), some (.val (T p.2))]) (g := fun i : Nat => .tuple [.int (i : Int), T [cy p.2 (i : Nat)]]) (xs := List.range p.2.length) (fun i => !decide (i % q = 0)) (fun i => .bool (decide (cy p.2 (i : Nat) = 46))) (by
            simp -implicitDefEqProofs only [iEnum_ev, fVar_ev, nth_0, nth_s, getV_v, Option.bind_some, items_S, Option.map_some, enum_S]) (by simp; omega) (fun i hi => ⟨[some (.val P), some (.val (.int q)), some (.val (.int (s : Nat))), some (.val (.int (g : Nat))), some (.val (.tuple (pads.map padD))), some (.val (.int i)), some (.val (T [cy p.2 (i : Nat)])), some (.val (T [p.1])), some (.val (T p.2))], rfl, by
              have m3 : vMod (.int (i : Nat)) (.int (q : Nat)) = some (.int ((i % q : Nat) : Int)) := by rw [vMod_i (by omega)]; simp
              simp -implicitDefEqProofs only [tB1_ev, f2_ev, fVar_ev, fC_ev, nth_0, nth_s, getV_v, Option.bind_some, m3, vNe_i, boolK_b]
              congr 2
              rw [decide_eq_decide]
              omega, fun _ => by
              rw [lit_dot]
              simp -implicitDefEqProofs only [f2_ev, fVar_ev, fC_ev, nth_0, nth_s, getV_v, Option.bind_some, vEq_S]
              simp⟩)
          rw [fn_ev, aCons_ev, fOfF_ev, ei]
          simp -implicitDefEqProofs only [Option.bind_some, Option.map_some, aNil_ev, bAll_map]
          congr 2
          rw [Bool.eq_iff_iff, List.all_eq_true, decide_eq_true_eq]
          constructor
          · intro h1 i hi
            obtain ⟨h2, h3⟩ := mem_spots.mp hi
            apply Classical.byContradiction
            intro h4
            have h5 : i % q ≠ 0 := fun h => h4 (Nat.dvd_of_mod_eq_zero h)
            have := h1 i (List.mem_filter.mpr ⟨List.mem_range.mpr h2, by simp [h5]⟩)
            exact h3 (of_decide_eq_true this)
          · intro h1 i hi
            obtain ⟨h2, h3⟩ := List.mem_filter.mp hi
            have h2' := List.mem_range.mp h2
            apply decide_eq_true
            apply Classical.byContradiction
            intro h4
            have h5 := Nat.mod_eq_zero_of_dvd (h1 i (mem_spots.mpr ⟨h2', h4⟩))
            rw [h5] at h3
            cases h3⟩)
    rw [fn_ev, aCons_ev, fOfF_ev, e]
    simp -implicitDefEqProofs only [Option.bind_some, Option.map_some, aNil_ev, bAll_map]
    congr 2
    rw [Bool.eq_iff_iff, List.all_eq_true, decide_eq_true_eq, dvd_GG]
    constructor
    · exact fun h1 => ⟨d1, d2, fun p hp => of_decide_eq_true (h1 p hp)⟩
    · exact fun h1 p hp => decide_eq_true (h1.2.2 p hp)
  · have hn : ¬ q ∣ GG s g pads := fun h1 => hd ⟨((dvd_GG q s g pads).mp h1).1, ((dvd_GG q s g pads).mp h1).2.1⟩
    refine seq_rt ?_
    unfold S_is_finer_1
    have c : (tOr1 (tB1 (f2 vNe (f2 vMod (fVar 2) (fVar 1)) (fC (.int 0)))) (tB1 (f2 vNe (f2 vMod (fVar 3) (fVar 1)) (fC (.int 0))))) [some (.val P), some (.val (.int q)), some (.val (.int (s : Nat))), some (.val (.int (g : Nat))), some (.val (.tuple (pads.map padD))), none, none, none, none] = some true := by
      simp -implicitDefEqProofs only [tOr1_ev, tB1_ev, f2_ev, fVar_ev, fC_ev, nth_0, nth_s, getV_v, Option.bind_some, m1, m2, vNe_i, boolK_b]
      by_cases h1 : s % q = 0
      · have h2 : ¬ g % q = 0 := fun h2 => hd ⟨Nat.dvd_of_mod_eq_zero h1, Nat.dvd_of_mod_eq_zero h2⟩
        have h3 : ¬ ((g % q : Nat) : Int) = 0 := by omega
        simp only [h1, h3]
        simp
      · have h3 : ¬ ((s % q : Nat) : Int) = 0 := by omega
        simp only [h3]
        simp
    rw [sIf_ev, c, Option.bind_some, if_pos rfl, sRet_ev, fC_ev, Option.map_some]
    congr 3
    simp [hn]
/-- each q-th sign -/
def stp (q : Nat) (r : List Nat) : List Nat := (List.range (r.length / q)).map fun j : Nat => cy r ((j * q : Nat) : Int)
theorem range_cy (r : List Nat) : (List.range r.length).map (fun j : Nat => cy r (j : Nat)) = r := by
  apply List.ext_getElem (by simp)
  intro i h1 h2
  simp [cy_nat h2]
theorem step_ix {q n : Nat} (hq : 1 ≤ q) (hn : 0 < n) (hd : q ∣ n) : Builtin.Str.strSliceIndices none none (q : Int) n = (List.range (n / q)).map fun j : Nat => j * q := by
  have h : (q : Int) > 0 := by omega
  obtain ⟨c, rfl⟩ := hd
  unfold Builtin.Str.strSliceIndices
  simp only [h, if_true]
  unfold sliceRange
  have h2 : (0 : Int) < ((q * c : Nat) : Int) := by omega
  simp only [h, h2, if_true]
  have e : ((((q * c : Nat) : Int) - 0 + (q : Int) - 1) / (q : Int)).toNat = q * c / q := by
    rw [Nat.mul_div_cancel_left c (by omega)]
    have : (((q * c : Nat) : Int) - 0 + (q : Int) - 1) = ((q : Int) - 1) + (c : Int) * (q : Int) := by
      rw [Int.natCast_mul, Int.mul_comm (q : Int) (c : Int)]
      omega
    rw [this, Int.add_mul_ediv_right _ _ (by omega), Int.ediv_eq_zero_of_lt (by omega) (by omega)]
    omega
  rw [e]
  refine List.map_congr_left fun k _ => ?_
  rw [Int.zero_add, ← Int.natCast_mul, Int.toNat_natCast, Nat.mul_comm]
theorem filterMap_all {α β : Type} {f : α → Option β} {g : α → β} : ∀ l : List α, (∀ x ∈ l, f x = some (g x)) → l.filterMap f = l.map g
  | [], _ => rfl
  | x :: l, h => by
    rw [List.filterMap_cons_some (h x List.mem_cons_self), filterMap_all l (fun y hy => h y (List.mem_cons_of_mem _ hy))]
    rfl
theorem vStep_S {r : List Nat} {q : Nat} (hq : 1 ≤ q) (hr : r ≠ []) (hd : q ∣ r.length) (hl : r.length ≤ 1000000) : vStep (.str (S r)) (.int q) = some (T (stp q r)) := by
  have hp : 0 < r.length := List.length_pos_iff.mpr hr
  have e : stepS (S r) (q : Int) = S (stp q r) := by
    unfold stepS
    rw [S_len, step_ix hq hp hd]
    split
    · rename_i h
      rw [Bool.and_eq_true, beq_iff_eq] at h
      have h1 : q = 1 := by omega
      subst h1
      unfold stp
      simp only [Nat.div_one, Nat.mul_one]
      rw [range_cy]
    · unfold stp
      show (⟨_⟩ : Str) = (⟨_⟩ : Str)
      congr 2
      rw [List.filterMap_map]
      have : ∀ j ∈ List.range (r.length / q), ((fun x : Nat => (S r).cps[x]?) ∘ fun j => j * q) j = some (cy r ((j * q : Nat) : Int)) := by
        intro j hj
        have hj' := List.mem_range.mp hj
        have hlt : j * q < r.length := by
          obtain ⟨c, hc⟩ := hd
          rw [hc, Nat.mul_div_cancel_left c (by omega)] at hj'
          rw [hc, Nat.mul_comm q c]
          exact Nat.mul_lt_mul_of_pos_right hj' (by omega)
        show (S r).cps[j * q]? = _
        rw [← Array.getElem?_toList, S_list, List.getElem?_eq_getElem hlt, cy_nat hlt]
      exact filterMap_all (g := fun j : Nat => cy r ((j * q : Nat) : Int)) _ this
  have hsl : (stp q r).length ≤ r.length := by
    unfold stp
    rw [List.length_map, List.length_range]
    exact Nat.div_le_self _ _
  have ev : vStep (.str (S r)) (.int (q : Int)) = if (q : Int) ≠ 0 ∧ (S r).length ≤ 16777216 ∧ (stepS (S r) q).length ≤ 16777216 then some (.str (stepS (S r) q)) else none := rfl
  have hc : (q : Int) ≠ 0 ∧ (S r).length ≤ 16777216 ∧ (stepS (S r) q).length ≤ 16777216 := by
    rw [e, S_len, S_len]
    omega
  rw [ev, if_pos hc, e]
def csP (q : Nat) (pads : List (Nat × List Nat)) : List (Nat × List Nat) := pads.map fun p => (p.1, stp q p.2)
theorem iRg2_ev {fa fb : Rho → Option D} {ρ : Rho} {i j : Int} (h : fa ρ = some (.int i)) (h' : fb ρ = some (.int j)) (hi : i < 4611686018427387904 ∧ -4611686018427387904 ≤ i) (hj : j < 4611686018427387904 ∧ -4611686018427387904 ≤ j) : iRg2 fa fb ρ = some ((List.range (j - i).toNat).map fun n : Nat => .int (i + (n : Int))) := by
  unfold iRg2
  rw [h, h']
  have e : ((i < 2 ^ 62 ∧ -(2 ^ 62) ≤ i) ∧ j < 2 ^ 62 ∧ -(2 ^ 62) ≤ j) = True := by
    simp only [eq_iff_iff, iff_true]
    exact ⟨hi, hj⟩
  simp -implicitDefEqProofs only [Option.bind_some, e, if_true]
  rfl
theorem le_foldl_max : ∀ (l : List Nat) (a : Nat), a ≤ l.foldl max a ∧ ∀ x ∈ l, x ≤ l.foldl max a
  | [], a => ⟨Nat.le_refl _, fun _ h => nomatch h⟩
  | b :: l, a => by
    have ih := le_foldl_max l (max a b)
    rw [List.foldl_cons]
    refine ⟨by omega, fun x hx => ?_⟩
    rcases List.mem_cons.mp hx with rfl | hx
    · omega
    · exact ih.2 x hx
theorem le_maxN {l : List Nat} {x : Nat} (h : x ∈ l) : x ≤ maxN l := by
  cases l with
  | nil => cases h
  | cons a as =>
    rcases List.mem_cons.mp h with rfl | h
    · exact (le_foldl_max as x).1
    · exact (le_foldl_max as a).2 x h
theorem GG_pos {s g : Nat} {pads : List (Nat × List Nat)} (hs : 0 < s) : 0 < GG s g pads := Nat.pos_of_dvd_of_pos ((dvd_GG _ s g pads).mp (Nat.dvd_refl _)).1 hs
theorem GG_le {s g : Nat} {pads : List (Nat × List Nat)} (hs : 0 < s) : GG s g pads ≤ s := Nat.le_of_dvd hs ((dvd_GG _ s g pads).mp (Nat.dvd_refl _)).1
theorem coarser_ok' (s g : Nat) (pads : List (Nat × List Nat)) (hs : 1 ≤ s ∧ s ≤ 1000000) (hg : 1 ≤ g ∧ g ≤ 1000) (h : ∀ p ∈ pads, p.2.length = s) (hl : pads.length ≤ 1000) :
    F_coarser [patD s g pads] = some (patD (s / GG s g pads) (g / GG s g pads) (csP (GG s g pads) pads)) := by
  refine run_of (ρ := [some (.val (patD s g pads)), none, none, none, none, none, none]) rfl ?_
  have e0 : S_coarser_0 [some (.val (patD s g pads)), none, none, none, none, none, none] = some (.nx [some (.val (patD s g pads)), some (.val (.int (s : Nat))), some (.val (.int (g : Nat))), some (.val (.tuple (pads.map padD))), none, none, none]) := rfl
  have hGp := GG_pos (g := g) (pads := pads) hs.1
  have hGl := GG_le (g := g) (pads := pads) hs.1
  have hGd := (dvd_GG _ s g pads).mp (Nat.dvd_refl _)
  have hif := fun q hq => isfiner_ok s g pads q hq (fun p hp => by rw [h p hp]; omega) hl
  generalize hG : GG s g pads = G at *
  unfold G_coarser
  refine Eq.trans (seq_nx e0) ?_
  generalize patD s g pads = P at *
  have hr : iRg2 (fC (.int 1)) (f2 vAdd (fVar 1) (fC (.int 1))) [some (.val P), some (.val (.int (s : Nat))), some (.val (.int (g : Nat))), some (.val (.tuple (pads.map padD))), none, none, none] = some (((List.range s).map fun n => 1 + n).map fun u : Nat => .int (u : Int)) := by
    rw [iRg2_ev (i := 1) (j := (s : Int) + 1) rfl rfl (by omega) (by omega), List.map_map, show ((s : Int) + 1 - 1).toNat = s by omega]
    exact congrArg some (List.map_congr_left fun n _ => by first | rfl | exact congrArg PyData.int (by omega))
  have e1 := gLc_map (fi := iRg2 (fC (.int 1)) (f2 vAdd (fVar 1) (fC (.int 1)))) (h := hName 4) (ft := tB1 (fn F_is_finer (aCons (fVar 0) (aCons (fVar 4) aNil)))) (fe := fVar 4) (vs := [4]) (fun u => decide (u ∣ G)) (fun u : Nat => .int (u : Int)) hr (by simp; omega) (fun u hu => ⟨_, rfl, by
    have hu1 : 1 ≤ u := by
      obtain ⟨n, _, rfl⟩ := List.mem_map.mp hu
      omega
    have := hif u hu1
    simp -implicitDefEqProofs only [tB1_ev, fn_ev, aCons_ev, aNil_ev, fVar_ev, wipeR, List.set_cons_zero, List.set_cons_succ, nth_0, nth_s, getV_v, Option.bind_some, this, boolK_b], fun _ => rfl⟩)
  have hmem : G ∈ ((List.range s).map fun n => 1 + n).filter fun u => decide (u ∣ G) := by
    refine List.mem_filter.mpr ⟨List.mem_map.mpr ⟨G - 1, List.mem_range.mpr (by omega), by omega⟩, by simp⟩
  have hmax : maxN (((List.range s).map fun n => 1 + n).filter fun u => decide (u ∣ G)) = G := by
    refine Nat.le_antisymm (maxN_le fun x hx => ?_) (le_maxN hmem)
    have := (List.mem_filter.mp hx).2
    exact Nat.le_of_dvd hGp (of_decide_eq_true this)
  have hne : (((List.range s).map fun n => 1 + n).filter fun u => decide (u ∣ G)) ≠ [] := by
    intro h0
    rw [h0] at hmem
    cases hmem
  have em : bMax2 [.list (dI (((List.range s).map fun n => 1 + n).filter fun u => decide (u ∣ G)))] = some (.int (G : Nat)) := by
    show vMax _ = _
    rw [vMax_dI hne, hmax]
  change gLc _ _ _ _ _ _ = some (dI (((List.range s).map fun n => 1 + n).filter fun u => decide (u ∣ G))) at e1
  generalize dI (((List.range s).map fun n => 1 + n).filter fun u => decide (u ∣ G)) = w at e1 em
  rw [seq_nx (g := S_coarser_1) (set_nx (d := .int (G : Nat)) (by
    rw [fn_ev, aCons_ev, fOfF_ev, e1]
    simp -implicitDefEqProofs only [Option.bind_some, Option.map_some, aNil_ev, em]))]
  refine ret_of ?_
  have d1 : vDiv (.int (s : Nat)) (.int (G : Nat)) = some (.int ((s / G : Nat) : Int)) := by rw [vDiv_i (by omega)]; simp
  have d2 : vDiv (.int (g : Nat)) (.int (G : Nat)) = some (.int ((g / G : Nat) : Int)) := by rw [vDiv_i (by omega)]; simp
  have e2 := gLc_all (fi := iF (fVar 3)) (h := hTup 2 (hCons (hName 5) (hCons (hName 6) hNil))) (ft := tYesF) (fe := fTup' (aCons (fVar 5) (aCons (f2 vStep (fVar 6) (fVar 4)) aNil))) (vs := [5, 6]) (ρ := [some (.val P), some (.val (.int (s : Nat))), some (.val (.int (g : Nat))), some (.val (.tuple (pads.map padD))), some (.val (.int (G : Nat))), none, none]) (g := padD) (xs := pads) (fun p => padD (p.1, stp G p.2)) (by
      simp -implicitDefEqProofs only [iF_ev, fVar_ev, nth_0, nth_s, getV_v, Option.bind_some, items_t]) (by omega) (fun p hp => ⟨[some (.val P), some (.val (.int (s : Nat))), some (.val (.int (g : Nat))), some (.val (.tuple (pads.map padD))), some (.val (.int (G : Nat))), some (.val (T [p.1])), some (.val (T p.2))], rfl, rfl, by
        have hlp := h p hp
        have := vStep_S (r := p.2) (q := G) (by omega) (by intro h0; rw [h0] at hlp; simp at hlp; omega) (by rw [hlp]; exact hGd.1) (by omega)
        simp -implicitDefEqProofs only [fTup_ev, aCons_ev, aNil_ev, f2_ev, fVar_ev, nth_0, nth_s, getV_v, Option.bind_some, Option.map_some, this]
        rfl⟩)
  have e3 : pads.map (fun p => padD (p.1, stp G p.2)) = (csP G pads).map padD := by
    unfold csP
    rw [List.map_map]
    rfl
  rw [e3] at e2
  generalize pads.map padD = wp at e2 ⊢
  unfold patD
  generalize (csP G pads).map padD = wq at e2
  have e4 : gLc (iF (fVar 3)) (hTup 2 (hCons (hName 5) (hCons (hName 6) hNil))) tYesF (fTup' (aCons (fVar 5) (aCons (f2 vStep (fVar 6) (fVar 4)) aNil))) [5, 6] (List.set [some (.val P), some (.val (.int (s : Nat))), some (.val (.int (g : Nat))), some (.val (.tuple wp)), none, none, none] 4 (some (.val (.int (G : Nat))))) = some wq := e2
  have bt : bTuple [.list wq] = some (.tuple wq) := rfl
  simp -implicitDefEqProofs only [fTup_ev, fn_ev, fOfF_ev, aCons_ev, aNil_ev, f2_ev, e4, bt, Option.bind_some, Option.map_some]
  simp -implicitDefEqProofs only [fVar_ev, List.set_cons_zero, List.set_cons_succ, nth_0, nth_s, getV_v, Option.bind_some, Option.map_some, d1, d2]
theorem coarser_ok (s g : Nat) (pads : List (Nat × List Nat)) (hs : 1 ≤ s ∧ s ≤ 1000) (hg : 1 ≤ g ∧ g ≤ 1000) (h : ∀ p ∈ pads, p.2.length = s) (hl : pads.length ≤ 1000) :
    F_coarser [patD s g pads] = some (patD (s / GG s g pads) (g / GG s g pads) (csP (GG s g pads) pads)) := coarser_ok' s g pads (by omega) hg h hl
end PM
namespace PM
open PySem PySem.Spec PyProof.Rows L2 PV WS
/-! patterns alike -/
theorem depth_pads : ∀ pads : List (Nat × List Nat), PyData.depthAll (pads.map padD) ≤ 3
  | [] => by simp [PyData.depthAll]
  | p :: pads => by
    show PyData.depthAll (padD p :: pads.map padD) ≤ 3
    have ih := depth_pads pads
    have : PyData.depth (padD p) ≤ 3 := by simp [padD, PyData.depth, PyData.depthAll]
    rw [PyData.depthAll]
    omega
theorem lay_pads : ∀ pads : List (Nat × List Nat), (∀ p ∈ pads, p.1 < 1114112 ∧ Sg p.2) → PyData.canLayAll0 (pads.map padD) = true
  | [], _ => rfl
  | p :: pads, h => by
    show PyData.canLayAll0 (padD p :: pads.map padD) = true
    obtain ⟨h1, h2⟩ := h p List.mem_cons_self
    have k1 : PyData.strOk (S [p.1]) = true := sg_lay (fun c hc => by rw [List.mem_singleton] at hc; subst hc; exact h1)
    have k2 := sg_lay h2
    rw [PyData.canLayAll0, lay_pads pads (fun q hq => h q (List.mem_cons_of_mem _ hq))]
    simp [padD, PyData.canLay0, PyData.canLayAll0, k1, k2]
theorem shaped_pat {s g : Nat} {pads : List (Nat × List Nat)} (h : ∀ p ∈ pads, p.1 < 1114112 ∧ Sg p.2) : SeqAt.shaped (patD s g pads) = true := by
  have h1 := lay_pads pads h
  have h2 := depth_pads pads
  unfold SeqAt.shaped
  rw [Bool.and_eq_true, decide_eq_true_eq]
  constructor
  · simp [PyData.canLay0, PyData.canLayAll0, h1]
  · simp [PyData.depth, PyData.depthAll]
    omega
theorem emod_mul_ediv {i : Int} {q n : Nat} (hq : 0 < q) (hn : 0 < n) : (i % ((n * q : Nat) : Int)) % (q : Int) = i % (q : Int) ∧ (i % (q : Int) = 0 → (i % ((n * q : Nat) : Int)) / (q : Int) = (i / (q : Int)) % (n : Int)) := by
  constructor
  · exact Int.emod_emod_of_dvd i ⟨(n : Int), by rw [Int.natCast_mul, Int.mul_comm]⟩
  · intro h
    obtain ⟨c, rfl⟩ := Int.dvd_of_emod_eq_zero h
    rw [Int.natCast_mul, Int.mul_comm (n : Int) (q : Int), Int.mul_emod_mul_of_pos _ _ (by omega), Int.mul_ediv_cancel_left _ (by omega), Int.mul_ediv_cancel_left _ (by omega)]
theorem fin_get {q : Nat} (hq : 0 < q) : ∀ (r : List Nat) (i : Nat), (fin q r)[i]? = if i % q = 0 then r[i / q]? else if i / q < r.length then some 46 else none
  | [], i => by simp [fin]
  | a :: r, i => by
    have e : fin q (a :: r) = (a :: List.replicate (q - 1) 46) ++ fin q r := rfl
    rw [e, List.getElem?_append]
    have hl : (a :: List.replicate (q - 1) 46).length = q := by simp; omega
    rw [hl]
    by_cases h : i < q
    · rw [if_pos h, Nat.mod_eq_of_lt h, Nat.div_eq_of_lt h]
      cases i with
      | zero => simp
      | succ i =>
        rw [List.getElem?_cons_succ, List.getElem?_replicate, if_pos (by omega), if_neg (by omega), if_pos (by simp)]
    · rw [if_neg h, fin_get hq r (i - q)]
      have h1 : (i - q) % q = i % q := by
        conv => rhs; rw [show i = (i - q) + q by omega, Nat.add_mod_right]
      have h2 : i / q = (i - q) / q + 1 := by
        conv => lhs; rw [show i = (i - q) + q by omega, Nat.add_div_right _ hq]
      rw [h1, h2, List.getElem?_cons_succ, List.length_cons]
      simp
theorem cy_fin {q : Nat} {r : List Nat} (hq : 0 < q) (hr : r ≠ []) (i : Int) : cy (fin q r) i = if i % (q : Int) = 0 then cy r (i / (q : Int)) else 46 := by
  have hp : 0 < r.length := List.length_pos_iff.mpr hr
  have hl := fin_len hq r
  have hnq : 0 < r.length * q := Nat.mul_pos hp hq
  have h0 := Int.emod_nonneg i (b := ((r.length * q : Nat) : Int)) (by omega)
  have h1 := Int.emod_lt_of_pos i (b := ((r.length * q : Nat) : Int)) (by omega)
  obtain ⟨e1, e2⟩ := emod_mul_ediv (i := i) hq hp
  obtain ⟨k, hk⟩ := Int.eq_ofNat_of_zero_le h0
  have hk1 : k < r.length * q := by omega
  have e3 : cy (fin q r) i = cy (fin q r) (k : Nat) := by
    rw [← cy_emod, hl, hk]
  have hg := fin_get hq r k
  have hkd : k / q < r.length := Nat.div_lt_of_lt_mul (by rw [Nat.mul_comm]; exact hk1)
  rw [List.getElem?_eq_getElem (by rw [hl]; exact hk1), if_pos hkd, ← cy_nat (by rw [hl]; exact hk1)] at hg
  rw [e3]
  rw [hk] at e1 e2
  have c1 : (k : Int) % (q : Int) = ((k % q : Nat) : Int) := by simp
  have c2 : (k : Int) / (q : Int) = ((k / q : Nat) : Int) := by simp
  rw [c1] at e1
  by_cases h : i % (q : Int) = 0
  · have hm : k % q = 0 := by omega
    rw [if_pos hm, List.getElem?_eq_getElem hkd, ← cy_nat hkd] at hg
    rw [if_pos h, Option.some.inj hg]
    rw [c2] at e2
    rw [e2 h, cy_emod]
  · have hm : ¬ k % q = 0 := by omega
    rw [if_neg hm] at hg
    rw [if_neg h, Option.some.inj hg]
theorem fin_ne {q : Nat} {r : List Nat} (hq : 0 < q) (hr : r ≠ []) : fin q r ≠ [] := by
  intro h
  have := fin_len hq r
  rw [h] at this
  have hp : 0 < r.length := List.length_pos_iff.mpr hr
  have := Nat.mul_pos hp hq
  simp at *
  omega
theorem fin_tn {q : Nat} {r : List Nat} (hq : 0 < q) (hr : r ≠ []) (b : Int) : fin q (tn r b) = tn (fin q r) (b * q) := by
  apply row_ext
  · rw [tn_len, fin_len hq, fin_len hq, tn_len]
  · intro i _
    rw [cy_fin hq (tn_ne hr), cy_tn _ _ _ (fin_ne hq hr), cy_fin hq hr, cy_tn _ _ _ hr]
    have h1 : ((i : Int) - b * (q : Int)) % (q : Int) = (i : Int) % (q : Int) := by
      rw [Int.sub_mul_emod_self_right]
    have h2 : ((i : Int) - b * (q : Int)) / (q : Int) = (i : Int) / (q : Int) - b := by
      rw [Int.sub_mul_ediv_right _ _ (by omega)]
    rw [h1, h2]
theorem mem_fin {q : Nat} {r : List Nat} {c : Nat} (h : c ∈ fin q r) : c ∈ r ∨ c = 46 := by
  unfold fin at h
  obtain ⟨l, hl, hc⟩ := List.mem_flatten.mp h
  obtain ⟨d, hd, rfl⟩ := List.mem_map.mp hl
  rcases List.mem_cons.mp hc with rfl | hc
  · exact .inl hd
  · exact .inr (List.eq_of_mem_replicate hc)
theorem spots_fin {q : Nat} {r : List Nat} (hq : 0 < q) (hr : r ≠ []) (i : Nat) : i ∈ spots (fin q r) ↔ i % q = 0 ∧ i / q ∈ spots r := by
  rw [mem_spots, mem_spots, fin_len hq, cy_fin hq hr]
  have c1 : (i : Int) % (q : Int) = ((i % q : Nat) : Int) := by simp
  have c2 : (i : Int) / (q : Int) = ((i / q : Nat) : Int) := by simp
  rw [c1, c2]
  constructor
  · rintro ⟨h1, h2⟩
    split at h2
    · exact ⟨by omega, Nat.div_lt_of_lt_mul (by rw [Nat.mul_comm]; exact h1), h2⟩
    · exact absurd rfl h2
  · rintro ⟨h1, h2, h3⟩
    refine ⟨?_, ?_⟩
    · have := Nat.div_add_mod i q
      rw [h1] at this
      have h4 := Nat.mul_lt_mul_of_pos_left h2 hq
      rw [Nat.mul_comm r.length q]
      omega
    · rw [if_pos (by omega)]
      exact h3
theorem GG_fin {s g q : Nat} {pads : List (Nat × List Nat)} (hq : 0 < q) (h : ∀ p ∈ pads, p.2 ≠ []) : GG (s * q) (g * q) (fnP q pads) = q * GG s g pads := by
  apply Nat.dvd_antisymm
  · have hd := (dvd_GG _ (s * q) (g * q) (fnP q pads)).mp (Nat.dvd_refl _)
    have hqd : q ∣ GG (s * q) (g * q) (fnP q pads) := by
      rw [dvd_GG]
      refine ⟨Nat.dvd_mul_left _ _, Nat.dvd_mul_left _ _, fun p hp i hi => ?_⟩
      obtain ⟨p', hp', rfl⟩ := List.mem_map.mp hp
      exact Nat.dvd_of_mod_eq_zero ((spots_fin hq (h p' hp') i).mp hi).1
    obtain ⟨d, ed⟩ := hqd
    rw [ed] at hd ⊢
    apply Nat.mul_dvd_mul_left
    rw [dvd_GG]
    obtain ⟨h1, h2, h3⟩ := hd
    refine ⟨Nat.dvd_of_mul_dvd_mul_left hq (by rw [Nat.mul_comm q s]; exact h1), Nat.dvd_of_mul_dvd_mul_left hq (by rw [Nat.mul_comm q g]; exact h2), fun p hp i hi => ?_⟩
    have h4 : q * i ∈ spots (fin q p.2) := (spots_fin hq (h p hp) (q * i)).mpr ⟨Nat.mul_mod_right _ _, by rw [Nat.mul_div_cancel_left _ hq]; exact hi⟩
    have := h3 (p.1, fin q p.2) (List.mem_map.mpr ⟨p, hp, rfl⟩) (q * i) h4
    exact Nat.dvd_of_mul_dvd_mul_left hq this
  · have hd := (dvd_GG _ s g pads).mp (Nat.dvd_refl _)
    obtain ⟨h1, h2, h3⟩ := hd
    rw [dvd_GG]
    refine ⟨by rw [Nat.mul_comm s q]; exact Nat.mul_dvd_mul_left q h1, by rw [Nat.mul_comm g q]; exact Nat.mul_dvd_mul_left q h2, fun p hp i hi => ?_⟩
    obtain ⟨p', hp', rfl⟩ := List.mem_map.mp hp
    obtain ⟨h4, h5⟩ := (spots_fin hq (h p' hp') i).mp hi
    have h6 := h3 p' hp' _ h5
    have h7 : i = q * (i / q) := by have := Nat.div_add_mod i q; omega
    rw [h7]
    exact Nat.mul_dvd_mul_left q h6
theorem stp_fin {q G : Nat} {r : List Nat} (hq : 0 < q) (hr : r ≠ []) : stp (q * G) (fin q r) = stp G r := by
  unfold stp
  rw [fin_len hq, Nat.mul_comm r.length q, Nat.mul_div_mul_left _ _ hq]
  refine List.map_congr_left fun j _ => ?_
  rw [cy_fin hq hr]
  have e : ((j * (q * G) : Nat) : Int) = ((j * G : Nat) : Int) * (q : Int) := by
    rw [← Int.natCast_mul]
    congr 1
    rw [Nat.mul_assoc, Nat.mul_comm G q]
  rw [e, Int.mul_emod_left, if_pos rfl, Int.mul_ediv_cancel _ (by omega)]
/-! loudness -/
def cB (l : List Nat) : Nat := l.countP fun c => !decide (c = 120) && !decide (c = 46)
theorem cB_len : ∀ l : List Nat, l.length = l.count 120 + l.count 46 + cB l
  | [] => rfl
  | c :: l => by
    have ih := cB_len l
    unfold cB at *
    rw [List.length_cons, List.count_cons, List.count_cons, List.countP_cons]
    by_cases h1 : c = 120
    · subst h1; simp; omega
    · by_cases h2 : c = 46
      · subst h2; simp; omega
      · simp [h1, h2]; omega
theorem ldB_eq (pads : List (Nat × List Nat)) : ldB pads = ((cB (mksP pads) : Nat) : Int) := by
  unfold ldB
  have := cB_len (mksP pads)
  omega
theorem mks_cons (p : Nat × List Nat) (pads : List (Nat × List Nat)) : mksP (p :: pads) = p.2 ++ mksP pads := rfl
theorem cB_app (a b : List Nat) : cB (a ++ b) = cB a + cB b := List.countP_append
theorem fin_cons (q a : Nat) (r : List Nat) : fin q (a :: r) = (a :: List.replicate (q - 1) 46) ++ fin q r := rfl
theorem count_fin (q : Nat) : ∀ r : List Nat, (fin q r).count 120 = r.count 120 ∧ cB (fin q r) = cB r
  | [] => ⟨rfl, rfl⟩
  | a :: r => by
    obtain ⟨h1, h2⟩ := count_fin q r
    have e1 : (List.replicate (q - 1) 46).count 120 = 0 := by rw [List.count_eq_zero]; intro h; have := List.eq_of_mem_replicate h; omega
    have e2 : cB (List.replicate (q - 1) 46) = 0 := by
      unfold cB
      rw [List.countP_eq_zero]
      intro c hc
      rw [List.eq_of_mem_replicate hc]
      decide
    have e3 : ∀ l : List Nat, cB (a :: l) = cB [a] + cB l := fun l => cB_app [a] l
    constructor
    · rw [fin_cons, List.count_append, List.count_cons, e1, h1, List.count_cons]
      omega
    · rw [fin_cons, cB_app, e3, e2, h2, e3 r]
      omega
theorem loud_same (f : List Nat → List Nat) (hf : ∀ r, (f r).count 120 = r.count 120 ∧ cB (f r) = cB r) : ∀ pads : List (Nat × List Nat), ldA (pads.map fun p => (p.1, f p.2)) = ldA pads ∧ ldB (pads.map fun p => (p.1, f p.2)) = ldB pads
  | [] => ⟨rfl, rfl⟩
  | p :: pads => by
    obtain ⟨h1, h2⟩ := loud_same f hf pads
    rw [ldB_eq, ldB_eq] at h2 ⊢
    unfold ldA at *
    rw [List.map_cons, mks_cons, mks_cons, List.count_append, List.count_append, cB_app, cB_app]
    have := hf p.2
    dsimp only
    constructor <;> omega
theorem loud_fin (q : Nat) (pads : List (Nat × List Nat)) : ldA (fnP q pads) = ldA pads ∧ ldB (fnP q pads) = ldB pads := loud_same (fin q) (count_fin q) pads
theorem loud_tn (b : Int) (pads : List (Nat × List Nat)) : ldA (tnP b pads) = ldA pads ∧ ldB (tnP b pads) = ldB pads :=
  loud_same (fun r => tn r b) (fun r => ⟨(tn_perm r b).count_eq _, (tn_perm r b).countP_eq _⟩) pads
/-- pad by pad -/
theorem loud_sum : ∀ pads : List (Nat × List Nat), (∀ p ∈ pads, p.1 ∈ keysL) → (keysL.map fun k => ldA (onP [k] pads)).sum = ldA pads ∧ (keysL.map fun k => ldB (onP [k] pads)).sum = ldB pads
  | [], _ => ⟨rfl, rfl⟩
  | p :: pads, h => by
    obtain ⟨h1, h2⟩ := loud_sum pads (fun q hq => h q (List.mem_cons_of_mem _ hq))
    have hp := h p List.mem_cons_self
    have hA : ∀ k, ldA (onP [k] (p :: pads)) = (if p.1 = k then ((p.2.count 120 : Nat) : Int) else 0) + ldA (onP [k] pads) := by
      intro k
      unfold onP ldA
      by_cases hk : p.1 = k
      · rw [List.filter_cons_of_pos (by simp [hk]), mks_cons, List.count_append, if_pos hk]
        omega
      · rw [List.filter_cons_of_neg (by simp [hk]), if_neg hk]
        omega
    have hB : ∀ k, ldB (onP [k] (p :: pads)) = (if p.1 = k then ((cB p.2 : Nat) : Int) else 0) + ldB (onP [k] pads) := by
      intro k
      rw [ldB_eq, ldB_eq]
      unfold onP
      by_cases hk : p.1 = k
      · rw [List.filter_cons_of_pos (by simp [hk]), mks_cons, cB_app, if_pos hk]
        omega
      · rw [List.filter_cons_of_neg (by simp [hk]), if_neg hk]
        omega
    have tA : ldA (p :: pads) = ((p.2.count 120 : Nat) : Int) + ldA pads := by
      unfold ldA
      rw [mks_cons, List.count_append]
      omega
    have tB : ldB (p :: pads) = ((cB p.2 : Nat) : Int) + ldB pads := by
      rw [ldB_eq, ldB_eq, mks_cons, cB_app]
      omega
    rw [tA, tB]
    simp only [hA, hB]
    unfold keysL at *
    simp only [List.map_cons, List.map_nil, List.sum_cons, List.sum_nil] at h1 h2 ⊢
    simp only [List.mem_cons, List.not_mem_nil, or_false] at hp
    rcases hp with e | e | e | e | e <;> rw [e] <;> simp <;> constructor <;> omega
end PM
namespace PM
open PySem PySem.Spec PyProof.Rows L2 PV WS
/-! loops over a list that is a map -/
theorem forF_list {α : Type} {b : Rho → Option Out} {h : D → Rho → Option Rho} {g : α → D} (Q : List α → Rho → Prop) : ∀ (xs pre : List α) (ρ : Rho), Q pre ρ →
    (∀ p x ρ, (∃ suf, pre ++ xs = p ++ x :: suf) → Q p ρ → ∃ ρ1, h (g x) ρ = some ρ1 ∧ ∃ ρ2, b ρ1 = some (.nx ρ2) ∧ Q (p ++ [x]) ρ2) →
    ∃ ρ', forF b h (xs.map g) ρ = some (.nx ρ') ∧ Q (pre ++ xs) ρ'
  | [], pre, ρ, q, _ => ⟨ρ, rfl, by rw [List.append_nil]; exact q⟩
  | x :: xs, pre, ρ, q, hh => by
    obtain ⟨ρ1, h1, ρ2, h2, q2⟩ := hh pre x ρ ⟨xs, rfl⟩ q
    obtain ⟨ρ', e, q'⟩ := forF_list Q xs (pre ++ [x]) ρ2 q2 (fun p y ρ hs q => hh p y ρ (by
      obtain ⟨suf, e⟩ := hs
      exact ⟨suf, by rw [← e, List.append_assoc]; rfl⟩) q)
    refine ⟨ρ', ?_, by rw [List.append_assoc] at q'; exact q'⟩
    rw [List.map_cons]
    unfold forF
    rw [h1]
    simp only [Option.bind_some]
    rw [h2]
    exact e
theorem sFor_list {α : Type} {fi : Rho → Option (List D)} {b : Rho → Option Out} {h : D → Rho → Option Rho} {ρ : Rho} (g : α → D) (xs : List α) (Q : List α → Rho → Prop) (hi : fi ρ = some (xs.map g)) (h0 : Q [] ρ)
    (hh : ∀ p x ρ, (∃ suf, xs = p ++ x :: suf) → Q p ρ → ∃ ρ1, h (g x) ρ = some ρ1 ∧ ∃ ρ2, b ρ1 = some (.nx ρ2) ∧ Q (p ++ [x]) ρ2) :
    ∃ ρ', sFor fi h b ρ = some (.nx ρ') ∧ Q xs ρ' := by
  obtain ⟨ρ', e, q⟩ := forF_list (b := b) (h := h) (g := g) Q xs [] ρ h0 (fun p x ρ hs q => hh p x ρ (by simpa using hs) q)
  exact ⟨ρ', by simp [hi, e], by simpa using q⟩
/-! divisors of what stands below -/
def dv (n : Nat) (q : Rat) : Prop := q.den ∣ n
theorem dv_mk {u : Int} {l n : Nat} (h : l ∣ n) : dv n (mkRat u l) := by
  unfold dv
  rw [Rat.den_mkRat]
  split
  · exact Nat.one_dvd _
  · exact Nat.dvd_trans (Nat.div_dvd_of_dvd (Nat.gcd_dvd_left _ _)) h
theorem dv_le {n : Nat} {q : Rat} (hn : 0 < n) (h : dv n q) : q.den ≤ n := Nat.le_of_dvd hn h
theorem dv_trans {m n : Nat} {q : Rat} (h : dv m q) (d : m ∣ n) : dv n q := Nat.dvd_trans h d
theorem dv_ex {n : Nat} {q : Rat} (hn : 0 < n) (h : dv n q) : ∃ u : Int, q = mkRat u n := by
  obtain ⟨c, hc⟩ := h
  refine ⟨c * q.num, ?_⟩
  have hc0 : c ≠ 0 := fun z => by rw [z] at hc; simp at hc; omega
  rw [hc, Nat.mul_comm, Rat.mkRat_mul_left hc0, Rat.mkRat_self]
theorem nq_ne {n : Nat} (hn : 0 < n) : (n : Rat) ≠ 0 := by
  intro h
  have : n = 0 := by exact_mod_cast h
  omega
theorem mk_add (u v : Int) (n : Nat) (hn : 0 < n) : mkRat u n + mkRat v n = mkRat (u + v) n := by
  have h := nq_ne hn
  rw [mk_div, mk_div, mk_div, Rat.intCast_add]
  grind
theorem dv_add {n : Nat} {p q : Rat} (hn : 0 < n) (hp : dv n p) (hq : dv n q) : dv n (p + q) := by
  obtain ⟨u, rfl⟩ := dv_ex hn hp
  obtain ⟨v, rfl⟩ := dv_ex hn hq
  rw [mk_add _ _ _ hn]
  exact dv_mk (Nat.dvd_refl _)
theorem dv_neg {n : Nat} {p : Rat} (hp : dv n p) : dv n (-p) := by
  unfold dv
  rw [Rat.neg_den]
  exact hp
theorem dv_0 (n : Nat) : dv n 0 := Nat.one_dvd _
theorem dv_st (sw : Rat) (s g k : Nat) (hg : 0 < g) : dv (sw.den * g) (st sw s g k) := by
  have hd : 0 < sw.den * g := Nat.mul_pos sw.den_pos hg
  have e : st sw s g k = mkRat (((k : Int) - (od s k : Int)) * sw.den + (od s k : Int) * (2 * sw.num)) (sw.den * g) := by
    have h3 : sw = (sw.num : Rat) / (sw.den : Rat) := by rw [← mk_div, Rat.mkRat_self]
    have h4 : (sw.den : Rat) ≠ 0 := nq_ne sw.den_pos
    have hgq : (g : Rat) ≠ 0 := nq_ne hg
    unfold PM.st
    rw [mk_div]
    simp only [Rat.intCast_add, Rat.intCast_mul, Rat.intCast_sub, Rat.intCast_natCast, Rat.natCast_mul]
    have h6 : ((2 : Int) : Rat) = 2 := rfl
    rw [h6]
    generalize (sw.num : Rat) = x at h3
    generalize (sw.den : Rat) = y at h3 h4
    subst h3
    grind
  rw [e]
  exact dv_mk (Nat.dvd_refl _)
/-! strikes -/
abbrev Sk := Rat × Nat × Bool
def skD (x : Sk) : D := .tuple [qD x.1, T [x.2.1], .bool x.2.2]
abbrev Pds := List (Nat × List Nat)
def stkAt (sw : Rat) (s g : Nat) (pads : Pds) (k : Nat) : List Sk := (pads.filter fun p => !decide (cy p.2 (k : Nat) = 46)).map fun p => (st sw s g k, p.1, decide (cy p.2 (k : Nat) = 88))
def stk (sw : Rat) (s g : Nat) (pads : Pds) : List Sk := ((List.range s).map (stkAt sw s g pads)).flatten
theorem flat_succ {α : Type} (f : Nat → List α) (k : Nat) : ((List.range (k + 1)).map f).flatten = ((List.range k).map f).flatten ++ f k := by
  rw [List.range_succ, List.map_append, List.flatten_append]
  simp
theorem stkAt_len (sw : Rat) (s g : Nat) (pads : Pds) (k : Nat) : (stkAt sw s g pads k).length ≤ pads.length := by
  unfold stkAt
  rw [List.length_map]
  exact List.length_filter_le _ _
theorem stk_len_of (sw : Rat) (s g : Nat) (pads : Pds) : ∀ n, (((List.range n).map (stkAt sw s g pads)).flatten).length ≤ n * pads.length
  | 0 => by simp
  | n + 1 => by
    rw [flat_succ, List.length_append]
    have h1 := stk_len_of sw s g pads n
    have h2 := stkAt_len sw s g pads n
    rw [Nat.add_mul]
    omega
theorem strikes_of_ok (sw : Rat) (s g : Nat) (pads : Pds) (hs : 0 < s ∧ s ≤ 1000) (hg : 0 < g ∧ g < 1000) (hw : sw.den < 1000) (h : ∀ p ∈ pads, p.2.length = s) (hl : pads.length ≤ 1000) :
    F_strikes_of [qD sw, patD s g pads] = some (.tuple ((stk sw s g pads).map skD)) := by
  refine run_of (ρ := [some (.val (qD sw)), some (.val (patD s g pads)), none, none, none, none, none]) rfl ?_
  unfold G_strikes_of
  have est : ∀ k : Nat, k < s → F_step_time [qD sw, patD s g pads, .int (k : Nat)] = some (qD (st sw s g k)) := fun k hk => step_ok sw s g k _ hs.1 (by omega) hg.1 (by omega) (by omega) hw
  have i0 : vIx (patD s g pads) (.int 0) = some (.int (s : Nat)) := vIx_3a _ _ _
  have i2 : vIx (patD s g pads) (.int 2) = some (.tuple (pads.map padD)) := vIx_3c _ _ _
  generalize patD s g pads = P at est i0 i2
  generalize hW : qD sw = W at est
  rw [seq_nx (g := S_strikes_of_0) (ρ1 := [some (.val W), some (.val P), some (.own []), none, none, none, none]) rfl]
  have hlen : ∀ n, n ≤ s → (((List.range n).map (stkAt sw s g pads)).flatten).length ≤ 1000000 := fun n hn => by
    have := stk_len_of sw s g pads n
    have := Nat.mul_le_mul (Nat.le_trans hn hs.2) hl
    omega
  obtain ⟨ρ', e, a, b, c, d, rfl⟩ : ∃ ρ', S_strikes_of_1 [some (.val W), some (.val P), some (.own []), none, none, none, none] = some (.nx ρ') ∧ ∃ a b c d, ρ' = [some (.val W), some (.val P), some (.own ((stk sw s g pads).map skD)), a, b, c, d] := by
    unfold S_strikes_of_1
    obtain ⟨ρ', e, q⟩ := sFor_range (fa := f2 vIx (fVar 1) (fC (.int 0))) (h := hName 3) (b := (sSeq (sSetG (fn F_step_time (aCons (fVar 0) (aCons (fVar 1) (aCons (fVar 3) aNil)))) (hName 4))
    (sFor (iF (f2 vIx (fVar 1) (fC (.int 2)))) (hTup 2 (hCons (hName 5) (hCons (hName 6) hNil))) (sIf (tB1 (f2 vNe (f2 vIx (fVar 6) (fVar 3)) (fC (.str ".")))) (sAppend 2 (fTup' (aCons (fVar 4) (aCons (fVar 5) (aCons (f2 vEq (f2 vIx (fVar 6) (fVar 3)) (fC (.str "X"))) aNil))))) sNext)))) (n := (s : Nat)) (ρ := [some (.val W), some (.val P), some (.own []), none, none, none, none])
      (fun k ρ => ∃ a b c d, ρ = [some (.val W), some (.val P), some (.own ((((List.range k).map (stkAt sw s g pads)).flatten).map skD)), a, b, c, d]) (by simp -implicitDefEqProofs (disch := omega) [i0]) (by omega) ⟨_, _, _, _, rfl⟩ (by
      rintro k ρ hk ⟨a, b, c, d, rfl⟩
      have hk' : k < s := by omega
      refine ⟨_, rfl, ?_⟩
      have e4 := est k hk'
      have hl0 := hlen (k + 1) (by omega)
      rw [flat_succ] at hl0
      rw [seq_nx (set_nx (d := qD (st sw s g k)) (by simp -implicitDefEqProofs (disch := omega) [e4]))]
      generalize hacc : ((List.range k).map (stkAt sw s g pads)).flatten = acc at *
      generalize hX : st sw s g k = X at *
      obtain ⟨ρ', e, q⟩ := sFor_list (fi := iF (f2 vIx (fVar 1) (fC (.int 2)))) (h := hTup 2 (hCons (hName 5) (hCons (hName 6) hNil))) (b := sIf (tB1 (f2 vNe (f2 vIx (fVar 6) (fVar 3)) (fC (.str ".")))) (sAppend 2 (fTup' (aCons (fVar 4) (aCons (fVar 5) (aCons (f2 vEq (f2 vIx (fVar 6) (fVar 3)) (fC (.str "X"))) aNil))))) sNext) (ρ := [some (.val W), some (.val P), some (.own (acc.map skD)), some (.val (.int (k : Nat))), some (.val (qD X)), c, d]) padD pads
        (fun pre ρ => ∃ c d, ρ = [some (.val W), some (.val P), some (.own ((acc ++ stkAt sw s g pre k).map skD)), some (.val (.int (k : Nat))), some (.val (qD X)), c, d]) (by
          simp -implicitDefEqProofs (disch := omega) [i2]) ⟨c, d, by simp [stkAt]⟩ (by
          rintro pre x ρ ⟨suf, hsuf⟩ ⟨c, d, rfl⟩
          have hx : x ∈ pads := by rw [hsuf]; simp
          have hxl := h x hx
          have ei : vIx (.str (S x.2)) (.int (k : Nat)) = some (T [cy x.2 (k : Nat)]) := by
            refine vIx_S (by omega) (by omega) ?_
            rw [cy_nat (by omega)]
            simp [show k < x.2.length by omega]
          have hlp : (acc ++ stkAt sw s g pre k).length < 16777216 := by
            have h1 := stkAt_len sw s g pre k
            have h2 : pre.length ≤ pads.length := by rw [hsuf]; simp
            rw [List.length_append] at *
            omega
          rw [List.length_append] at hlp
          refine ⟨_, rfl, ?_⟩
          by_cases hc : cy x.2 (k : Nat) = 46
          · refine ⟨_, if_no (by simp -implicitDefEqProofs (disch := omega) [ei, lit_dot, vNe_S, hc]), some (.val (T [x.1])), some (.val (T x.2)), ?_⟩
            have : stkAt sw s g (pre ++ [x]) k = stkAt sw s g pre k := by simp [stkAt, hc]
            rw [this]
            rfl
          · refine ⟨_, by
              simp -implicitDefEqProofs (disch := omega) [ei, lit_dot, lit_X, vNe_S, vEq_S, hc, hlp]
              rfl, some (.val (T [x.1])), some (.val (T x.2)), ?_⟩
            have : stkAt sw s g (pre ++ [x]) k = stkAt sw s g pre k ++ [(X, x.1, decide (cy x.2 (k : Nat) = 88))] := by simp [stkAt, hc, hX]
            rw [this]
            simp -implicitDefEqProofs [skD])
      refine ⟨ρ', e, ?_⟩
      obtain ⟨c, d, rfl⟩ := q
      rw [flat_succ, hacc]
      exact ⟨_, _, _, _, rfl⟩)
    obtain ⟨a, b, c, d, rfl⟩ := q
    exact ⟨_, e, a, b, c, d, rfl⟩
  rw [seq_nx e]
  unfold S_strikes_of_2
  rw [sFrz_ev]
  rfl
end PM
namespace PM
open PySem PySem.Spec PyProof.Rows L2 PV WS
/-! books -/
abbrev Pt := Nat × Nat × Pds
abbrev Bk := List (List Nat × Pt)
abbrev ptD (p : Pt) : D := patD p.1 p.2.1 p.2.2
def entD (e : List Nat × Pt) : D := .tuple [T e.1, ptD e.2]
abbrev bkD (sw : Rat) (bk : Bk) : D := .tuple [qD sw, .tuple (bk.map entD)]
def patOf (bk : Bk) (nm : List Nat) : Pt := ((bk.find? fun e => decide (e.1 = nm)).map (·.2)).getD (1, 1, [])
theorem pairsK_bk : ∀ bk : Bk, pairsK (bk.map entD) = some (bk.map fun e => (.inr (S e.1), ptD e.2))
  | [] => rfl
  | e :: bk => by
    show (pairsK (bk.map entD)).map _ = _
    rw [pairsK_bk bk]
    rfl
theorem putG_new {kvs : List (Key × D)} {k : Key} {v : D} (h : k ∉ kvs.map (·.1)) : putG kvs k v = kvs ++ [(k, v)] := by
  unfold putG
  rw [if_neg]
  intro h2
  rw [List.any_eq_true] at h2
  obtain ⟨x, hx, e⟩ := h2
  exact h (List.mem_map.mpr ⟨x, hx, of_decide_eq_true e⟩)
theorem mergeG_nd : ∀ (more acc : List (Key × D)), ((acc ++ more).map (·.1)).Nodup → mergeG acc more = acc ++ more
  | [], acc, _ => by simp [mergeG]
  | kv :: more, acc, h => by
    have hn : kv.1 ∉ acc.map (·.1) := by
      intro hm
      rw [List.map_append, List.nodup_append] at h
      exact h.2.2 kv.1 hm kv.1 (by simp) rfl
    show mergeG (putG acc kv.1 kv.2) more = _
    rw [putG_new hn, mergeG_nd more _ (by rw [List.append_assoc]; exact h), List.append_assoc]
    rfl
theorem nodup_keys {bk : Bk} (h : (bk.map (·.1)).Nodup) : ((bk.map fun e => ((.inr (S e.1) : Key), ptD e.2)).map (·.1)).Nodup := by
  rw [List.map_map]
  have e : ((fun x : Key × D => x.1) ∘ fun e : List Nat × Pt => ((.inr (S e.1) : Key), ptD e.2)) = (fun x : List Nat => (.inr (S x) : Key)) ∘ fun e : List Nat × Pt => e.1 := rfl
  rw [e, ← List.map_map]
  rw [List.nodup_iff_pairwise_ne] at h ⊢
  rw [List.pairwise_map]
  refine h.imp fun hne he => hne ?_
  exact S_inj.mp (Sum.inr.inj he)
abbrev dictB (bk : Bk) : D := .dict (bk.map fun e => (T e.1, ptD e.2))
theorem bDict_bk {bk : Bk} (h : (bk.map (·.1)).Nodup) : bDict [.tuple (bk.map entD)] = some (dictB bk) := by
  show (pairsK (bk.map entD)).map _ = _
  rw [pairsK_bk, Option.map_some]
  unfold dictD
  rw [mergeG_nd _ [] (by rw [List.nil_append]; exact nodup_keys h), List.nil_append, List.map_map]
  rfl
theorem find_T (bk : Bk) (nm : List Nat) : (bk.map fun e => (T e.1, ptD e.2)).find? (fun kv => PyData.eqv kv.1 (T nm)) = (bk.find? fun e => decide (e.1 = nm)).map fun e => (T e.1, ptD e.2) := by
  rw [List.find?_map]
  congr 2
  funext e
  exact eqv_T _ _
theorem find_mem {bk : Bk} {nm : List Nat} (h : nm ∈ bk.map (·.1)) : ∃ e ∈ bk, e.1 = nm ∧ bk.find? (fun e => decide (e.1 = nm)) = some e ∧ patOf bk nm = e.2 := by
  obtain ⟨e, he, hn⟩ := List.mem_map.mp h
  cases hf : bk.find? fun e => decide (e.1 = nm) with
  | none =>
    rw [List.find?_eq_none] at hf
    exact absurd (by simpa using hn) (hf e he)
  | some x =>
    refine ⟨x, List.mem_of_find?_eq_some hf, by simpa using List.find?_some hf, rfl, ?_⟩
    unfold patOf
    rw [hf]
    rfl
theorem patOf_mem {bk : Bk} {nm : List Nat} (h : nm ∈ bk.map (·.1)) : (nm, patOf bk nm) ∈ bk := by
  obtain ⟨e, he, hn, _, hp⟩ := find_mem h
  rw [hp, ← hn]
  exact he
theorem patOf_eq {bk : Bk} {nm : List Nat} {p : Pt} (nd : (bk.map (·.1)).Nodup) (h : (nm, p) ∈ bk) : patOf bk nm = p := by
  induction bk with
  | nil => cases h
  | cons e bk ih =>
    rw [List.map_cons, List.nodup_cons] at nd
    unfold patOf
    rw [List.find?_cons]
    by_cases hn : e.1 = nm
    · rw [decide_eq_true hn]
      rcases List.mem_cons.mp h with h | h
      · rw [← h]; rfl
      · exact absurd (List.mem_map.mpr ⟨_, h, rfl⟩) (by rw [← hn]; exact nd.1)
    · rw [decide_eq_false hn]
      rcases List.mem_cons.mp h with h | h
      · exact absurd (by rw [← h]) hn
      · exact ih nd.2 h
theorem pattern_of_ok (W : D) (bk : Bk) (nm : List Nat) (nd : (bk.map (·.1)).Nodup) (h : nm ∈ bk.map (·.1)) : F_pattern_of [.tuple [W, .tuple (bk.map entD)], T nm] = some (ptD (patOf bk nm)) := by
  refine run_of (ρ := [some (.val (.tuple [W, .tuple (bk.map entD)])), some (.val (T nm)), none]) rfl ?_
  have hb := bDict_bk nd
  have i1 : vIx (.tuple [W, .tuple (bk.map entD)]) (.int 1) = some (.tuple (bk.map entD)) := vIx_p1 _ _
  obtain ⟨e, he, hn, hf, hp⟩ := find_mem h
  have i2 : vIx (dictB bk) (T nm) = some (ptD (patOf bk nm)) := by
    show (List.find? (fun kv : D × D => PyData.eqv kv.1 (T nm)) (bk.map fun e => (T e.1, ptD e.2))).map (fun x : D × D => x.2) = _
    rw [find_T, hf, hp]
    rfl
  have i3 : vNotIn (T nm) (dictB bk) = some (.bool false) := by
    show some (PyData.bool (!((bk.map fun e => (T e.1, ptD e.2)).any fun kv => PyData.eqv kv.1 (T nm)))) = _
    have : ((bk.map fun e => (T e.1, ptD e.2)).any fun kv => PyData.eqv kv.1 (T nm)) = true := by
      rw [List.any_eq_true]
      exact ⟨(T e.1, ptD e.2), List.mem_map.mpr ⟨e, he, rfl⟩, by
        show PyData.eqv (T e.1) (T nm) = true
        rw [eqv_T, hn]; simp⟩
    rw [this]
    rfl
  unfold G_pattern_of
  generalize dictB bk = dd at *
  generalize PyData.tuple [W, .tuple (bk.map entD)] = B at *
  generalize PyData.tuple (bk.map entD) = B1 at *
  rw [seq_nx (g := S_pattern_of_0) (set_nx (d := dd) (by simp -implicitDefEqProofs (disch := omega) [i1, hb]))]
  rw [seq_nx (g := S_pattern_of_1) (if_no (by simp -implicitDefEqProofs (disch := omega) [i3]))]
  refine ret_of ?_
  simp -implicitDefEqProofs (disch := omega) [i2]
theorem strikes_ok (sw : Rat) (bk : Bk) (nm : List Nat) (nd : (bk.map (·.1)).Nodup) (h : nm ∈ bk.map (·.1)) (hs : 0 < (patOf bk nm).1 ∧ (patOf bk nm).1 ≤ 1000) (hg : 0 < (patOf bk nm).2.1 ∧ (patOf bk nm).2.1 < 1000) (hw : sw.den < 1000)
    (hp : ∀ p ∈ (patOf bk nm).2.2, p.2.length = (patOf bk nm).1) (hl : (patOf bk nm).2.2.length ≤ 1000) : F_strikes [bkD sw bk, T nm] = some (.tuple ((stk sw (patOf bk nm).1 (patOf bk nm).2.1 (patOf bk nm).2.2).map skD)) := by
  refine run_of (ρ := [some (.val (bkD sw bk)), some (.val (T nm))]) rfl ?_
  have e1 : F_pattern_of [bkD sw bk, T nm] = some (ptD (patOf bk nm)) := pattern_of_ok (qD sw) bk nm nd h
  have e2 : F_strikes_of [qD sw, ptD (patOf bk nm)] = some (.tuple ((stk sw (patOf bk nm).1 (patOf bk nm).2.1 (patOf bk nm).2.2).map skD)) := strikes_of_ok sw _ _ _ hs hg hw hp hl
  have i0 : vIx (bkD sw bk) (.int 0) = some (qD sw) := vIx_p0 _ _
  unfold G_strikes
  refine ret_of ?_
  generalize bkD sw bk = B at *
  generalize ptD (patOf bk nm) = P at *
  generalize qD sw = W at *
  simp -implicitDefEqProofs (disch := omega) [i0, e1, e2]
/-! chains -/
def mvd (t : Rat) (xs : List Sk) : List Sk := xs.map fun x => (t + x.1, x.2)
theorem moved_ok (t : Rat) (xs : List Sk) (h : ∀ x ∈ xs, t.den * x.1.den < 1000000000000) (hl : xs.length ≤ 16777216) : F_moved [.tuple (xs.map skD), qD t] = some (.tuple ((mvd t xs).map skD)) := by
  refine run_of (ρ := [some (.val (.tuple (xs.map skD))), some (.val (qD t)), none, none, none]) rfl ?_
  have e := gLc_all (fi := iF (fVar 0)) (h := hTup 3 (hCons (hName 2) (hCons (hName 3) (hCons (hName 4) hNil)))) (ft := tYesF) (fe := fTup' (aCons (fn F_added (aCons (fVar 1) (aCons (fVar 2) aNil))) (aCons (fVar 3) (aCons (fVar 4) aNil)))) (vs := [2, 3, 4]) (ρ := [some (.val (.tuple (xs.map skD))), some (.val (qD t)), none, none, none]) (g := skD) (xs := xs) (fun x => skD (t + x.1, x.2)) (by simp) hl (by
      intro x hx
      refine ⟨_, rfl, rfl, ?_⟩
      have e1 := added_ok t x.1 (h x hx)
      generalize PyData.tuple (xs.map skD) = Y
      show fTup' (aCons (fn F_added (aCons (fVar 1) (aCons (fVar 2) aNil))) (aCons (fVar 3) (aCons (fVar 4) aNil))) [some (.val Y), some (.val (qD t)), some (.val (qD x.1)), some (.val (T [x.2.1])), some (.val (.bool x.2.2))] = _
      unfold skD
      generalize qD t = a at e1 ⊢
      generalize qD x.1 = b at e1 ⊢
      generalize qD (t + x.1) = c at e1 ⊢
      simp -implicitDefEqProofs (disch := omega) [e1])
  unfold G_moved
  refine ret_of ?_
  simp -implicitDefEqProofs (disch := omega) only [fn_ev, aCons_ev, aNil_ev, fOfF_ev, e, Option.bind_some, Option.map_some]
  show some (PyData.tuple _) = _
  unfold mvd
  rw [List.map_map]
  rfl
abbrev Ch := List (List Nat × Nat)
def linkD (l : List Nat × Nat) : D := .tuple [T l.1, .int (l.2 : Nat)]
abbrev chD (c : Ch) : D := .tuple (c.map linkD)
def rnds (c : Ch) : List (List Nat) := (c.map fun l => List.replicate l.2 l.1).flatten
theorem gRep_T {fa fb : Rho → Option D} {ρ : Rho} {d : D} {n : Nat} (ha : fa ρ = some (.list [d])) (hb : fb ρ = some (.int n)) (hn : n ≤ 100000) : gRep fa fb ρ = some (List.replicate n d) := gRep_1 ha hb hn
theorem rnds_app (a b : Ch) : rnds (a ++ b) = rnds a ++ rnds b := by simp [rnds]
theorem rounds_ok (c : Ch) (h : ∀ l ∈ c, l.2 ≤ 1000) (hc : c.length ≤ 1000) : F_rounds [chD c] = some (.list ((rnds c).map T)) := by
  refine run_of (ρ := [some (.val (chD c)), none, none, none]) rfl ?_
  unfold G_rounds
  generalize hY : chD c = Y
  have hit : itemsD Y = some (c.map linkD) := by rw [← hY]; rfl
  rw [seq_nx (g := S_rounds_0) (ρ1 := [some (.val Y), some (.own []), none, none]) rfl]
  obtain ⟨ρ', e, a, b, rfl⟩ : ∃ ρ', S_rounds_1 [some (.val Y), some (.own []), none, none] = some (.nx ρ') ∧ ∃ a b, ρ' = [some (.val Y), some (.own ((rnds c).map T)), a, b] := by
    unfold S_rounds_1
    obtain ⟨ρ', e, q, hq⟩ := sFor_list (fi := iF (fVar 0)) (h := hTup 2 (hCons (hName 2) (hCons (hName 3) hNil))) (b := sExtend 1 (gRep (fOfF (gLst' (aCons (fVar 2) aNil))) (fVar 3))) (ρ := [some (.val Y), some (.own []), none, none]) linkD c
      (fun pre ρ => (rnds pre).length ≤ 1000 * pre.length ∧ ∃ a b, ρ = [some (.val Y), some (.own ((rnds pre).map T)), a, b]) (by simp -implicitDefEqProofs (disch := omega) [hit]) ⟨by simp [rnds], none, none, rfl⟩ (by
      rintro pre x ρ ⟨suf, hsuf⟩ ⟨hq, a, b, rfl⟩
      have hx : x ∈ c := by rw [hsuf]; simp
      have hx2 := h x hx
      have hpl : pre.length ≤ c.length := by rw [hsuf]; simp
      have hr : rnds (pre ++ [x]) = rnds pre ++ List.replicate x.2 x.1 := by rw [rnds_app]; simp [rnds]
      refine ⟨_, rfl, [some (.val Y), some (.own ((rnds pre).map T ++ List.replicate x.2 (T x.1))), some (.val (T x.1)), some (.val (.int (x.2 : Nat)))], ?_, ?_, some (.val (T x.1)), some (.val (.int (x.2 : Nat))), ?_⟩
      · have eg : gRep (fOfF (gLst' (aCons (fVar 2) aNil))) (fVar 3) [some (.val Y), some (.own ((rnds pre).map T)), some (.val (T x.1)), some (.val (.int (x.2 : Nat)))] = some (List.replicate x.2 (T x.1)) := gRep_1 rfl rfl (by omega)
        show sExtend 1 (gRep (fOfF (gLst' (aCons (fVar 2) aNil))) (fVar 3)) [some (.val Y), some (.own ((rnds pre).map T)), some (.val (T x.1)), some (.val (.int (x.2 : Nat)))] = _
        rw [sExtend_ev, eg]
        show (if ((rnds pre).map T).length + (List.replicate x.2 (T x.1)).length ≤ 16777216 then _ else none) = _
        rw [if_pos (by rw [List.length_map, List.length_replicate]; omega)]
        rfl
      · rw [hr, List.length_append, List.length_append, List.length_replicate, List.length_singleton]
        omega
      · rw [hr, List.map_append, List.map_replicate])
    exact ⟨ρ', e, hq⟩
  rw [seq_nx e]
  unfold S_rounds_2
  rw [sFrz_ev]
  rfl
/-- the length of a pattern -/
def bt (bk : Bk) (nm : List Nat) : Rat := mkRat (patOf bk nm).1 (patOf bk nm).2.1
def lnR (bk : Bk) : List (List Nat) → Rat
  | [] => 0
  | n :: r => bt bk n + lnR bk r
def stkN (sw : Rat) (bk : Bk) (nm : List Nat) : List Sk := stk sw (patOf bk nm).1 (patOf bk nm).2.1 (patOf bk nm).2.2
def plR (sw : Rat) (bk : Bk) : Rat → List (List Nat) → List Sk
  | _, [] => []
  | t, n :: r => mvd t (stkN sw bk n) ++ plR sw bk (t + bt bk n) r
/-- a book: names unlike, grids divide N -/
structure BkOk (N : Nat) (bk : Bk) : Prop where
  nd : (bk.map (·.1)).Nodup
  st : ∀ e ∈ bk, 1 ≤ e.2.1 ∧ e.2.1 ≤ 100
  gr : ∀ e ∈ bk, 1 ≤ e.2.2.1 ∧ e.2.2.1 ∣ N
  pd : ∀ e ∈ bk, (∀ p ∈ e.2.2.2, p.2.length = e.2.1) ∧ e.2.2.2.length ≤ 10
section
variable {N : Nat} {bk : Bk} {sw : Rat} (B : BkOk N bk) (hN : 0 < N ∧ N < 1000) (hw : sw.den < 1000)
include B hN in
theorem BkOk.at_ {nm : List Nat} (h : nm ∈ bk.map (·.1)) : (0 < (patOf bk nm).1 ∧ (patOf bk nm).1 ≤ 100) ∧ (0 < (patOf bk nm).2.1 ∧ (patOf bk nm).2.1 ≤ N ∧ (patOf bk nm).2.1 ∣ N) ∧ (∀ p ∈ (patOf bk nm).2.2, p.2.length = (patOf bk nm).1) ∧ (patOf bk nm).2.2.length ≤ 10 := by
  have hm := patOf_mem h
  have h1 := B.st _ hm
  have h2 := B.gr _ hm
  have h3 := B.pd _ hm
  have h4 := Nat.le_of_dvd hN.1 h2.2
  exact ⟨by simp at h1; omega, ⟨by simp at h2; omega, h4, h2.2⟩, h3.1, h3.2⟩
include B hN hw in
theorem strikesB {nm : List Nat} (h : nm ∈ bk.map (·.1)) : F_strikes [bkD sw bk, T nm] = some (.tuple ((stkN sw bk nm).map skD)) := by
  obtain ⟨h1, h2, h3, h4⟩ := B.at_ hN h
  exact strikes_ok sw bk nm B.nd h (by omega) (by omega) hw h3 (by omega)
include B hN in
theorem stkN_len {nm : List Nat} (h : nm ∈ bk.map (·.1)) : (stkN sw bk nm).length ≤ 1000 := by
  obtain ⟨h1, h2, h3, h4⟩ := B.at_ hN h
  have := stk_len_of sw (patOf bk nm).1 (patOf bk nm).2.1 (patOf bk nm).2.2 (patOf bk nm).1
  have := Nat.mul_le_mul h1.2 h4
  unfold stkN stk
  omega
include B hN in
theorem stkN_dv {nm : List Nat} (h : nm ∈ bk.map (·.1)) : ∀ x ∈ stkN sw bk nm, dv (sw.den * N) x.1 := by
  obtain ⟨h1, h2, h3, h4⟩ := B.at_ hN h
  intro x hx
  unfold stkN stk at hx
  obtain ⟨l, hl, hx⟩ := List.mem_flatten.mp hx
  obtain ⟨k, _, rfl⟩ := List.mem_map.mp hl
  unfold stkAt at hx
  obtain ⟨p, _, rfl⟩ := List.mem_map.mp hx
  exact dv_trans (dv_st sw _ _ _ h2.1) (Nat.mul_dvd_mul_left _ h2.2.2)
include B hN in
theorem bt_dv {nm : List Nat} (h : nm ∈ bk.map (·.1)) : dv N (bt bk nm) := by
  obtain ⟨h1, h2, h3, h4⟩ := B.at_ hN h
  exact dv_mk h2.2.2
include B hN in
theorem beatsB {nm : List Nat} (h : nm ∈ bk.map (·.1)) : F_beats [ptD (patOf bk nm)] = some (qD (bt bk nm)) := by
  obtain ⟨h1, h2, h3, h4⟩ := B.at_ hN h
  exact beats_ok _ _ _ h2.1 (by omega)
theorem den_mul {a b : Nat} {p q : Rat} (ha : 0 < a ∧ a ≤ 1000) (hb : 0 < b ∧ b ≤ 1000000) (hp : dv a p) (hq : dv b q) : p.den * q.den < 1000000000000 := by
  have := Nat.mul_le_mul (Nat.le_trans (dv_le ha.1 hp) ha.2) (Nat.le_trans (dv_le hb.1 hq) hb.2)
  omega
include B hN in
theorem lenB (c : Ch) (hc : ∀ l ∈ c, l.1 ∈ bk.map (·.1) ∧ l.2 ≤ 1000) (hl : c.length ≤ 1000) : F_length [bkD sw bk, chD c] = some (qD (lnR bk (rnds c))) := by
  refine run_of (ρ := [some (.val (bkD sw bk)), some (.val (chD c)), none, none]) rfl ?_
  unfold G_length
  have er := rounds_ok c (fun l h => (hc l h).2) hl
  have hm : ∀ nm ∈ rnds c, nm ∈ bk.map (·.1) := fun nm h => by
    obtain ⟨l, hl, hn⟩ := List.mem_flatten.mp h
    obtain ⟨x, hx, rfl⟩ := List.mem_map.mp hl
    rw [(List.mem_replicate.mp hn).2]
    exact (hc x hx).1
  have ep : ∀ nm ∈ rnds c, F_pattern_of [bkD sw bk, T nm] = some (ptD (patOf bk nm)) := fun nm h => pattern_of_ok (qD sw) bk nm B.nd (hm nm h)
  have eb : ∀ nm ∈ rnds c, F_beats [ptD (patOf bk nm)] = some (qD (bt bk nm)) := fun nm h => beatsB B hN (hm nm h)
  have hd : ∀ nm ∈ rnds c, dv N (bt bk nm) := fun nm h => bt_dv B hN (hm nm h)
  generalize chD c = C at *
  generalize bkD sw bk = BB at *
  generalize rnds c = rs at *
  rw [seq_nx (g := S_length_0) (set_nx (d := qD 0) rfl)]
  obtain ⟨ρ', e, hd', a, rfl⟩ : ∃ ρ', S_length_1 [some (.val BB), some (.val C), some (.val (qD 0)), none] = some (.nx ρ') ∧ dv N (lnR bk rs) ∧ ∃ a, ρ' = [some (.val BB), some (.val C), some (.val (qD (lnR bk rs))), a] := by
    unfold S_length_1
    have app : ∀ (pre : List (List Nat)) x, lnR bk (pre ++ [x]) = lnR bk pre + bt bk x := fun pre x => by
      induction pre with
      | nil => show bt bk x + 0 = 0 + bt bk x; grind
      | cons y pre ih => show bt bk y + lnR bk (pre ++ [x]) = bt bk y + lnR bk pre + bt bk x; rw [ih]; grind
    refine sFor_list T rs (fun pre ρ => dv N (lnR bk pre) ∧ ∃ a, ρ = [some (.val BB), some (.val C), some (.val (qD (lnR bk pre))), a]) ?_ ⟨dv_0 N, none, rfl⟩ ?_
    · simp -implicitDefEqProofs (disch := omega) [er]
    · rintro pre x ρ ⟨suf, hsuf⟩ ⟨hdv, a, rfl⟩
      have hx : x ∈ rs := by rw [hsuf]; simp
      have e1 := ep x hx
      have e2 := eb x hx
      have e3 := added_ok (lnR bk pre) (bt bk x) (den_mul ⟨hN.1, by omega⟩ ⟨hN.1, by omega⟩ hdv (hd x hx))
      rw [← app] at e3
      refine ⟨_, rfl, [some (.val BB), some (.val C), some (.val (qD (lnR bk (pre ++ [x])))), some (.val (T x))], ?_, ?_, _, rfl⟩
      · generalize qD (lnR bk (pre ++ [x])) = z at *
        generalize qD (lnR bk pre) = y at *
        generalize qD (bt bk x) = w at *
        generalize ptD (patOf bk x) = P at *
        refine set_nx (ρ := [some (.val BB), some (.val C), some (.val y), some (.val (T x))]) ?_
        simp -implicitDefEqProofs (disch := omega) [e1, e2, e3]
      · rw [app]; exact dv_add hN.1 hdv (hd x hx)
  refine Eq.trans (seq_nx e) ?_
  rfl
end
end PM
namespace PM
open PySem PySem.Spec PyProof.Rows L2 PV WS
/-! played -/
theorem lnR_app (bk : Bk) : ∀ a b : List (List Nat), lnR bk (a ++ b) = lnR bk a + lnR bk b
  | [], b => by show lnR bk b = 0 + lnR bk b; grind
  | n :: a, b => by
    show bt bk n + lnR bk (a ++ b) = bt bk n + lnR bk a + lnR bk b
    rw [lnR_app bk a b]
    grind
theorem plR_app (sw : Rat) (bk : Bk) : ∀ (a b : List (List Nat)) (t : Rat), plR sw bk t (a ++ b) = plR sw bk t a ++ plR sw bk (t + lnR bk a) b
  | [], b, t => by
    show plR sw bk t b = plR sw bk (t + 0) b
    congr 1
    grind
  | n :: a, b, t => by
    show mvd t (stkN sw bk n) ++ plR sw bk (t + bt bk n) (a ++ b) = mvd t (stkN sw bk n) ++ plR sw bk (t + bt bk n) a ++ plR sw bk (t + (bt bk n + lnR bk a)) b
    rw [plR_app sw bk a b, List.append_assoc]
    congr 3
    grind
theorem mvd_mvd (t u : Rat) (xs : List Sk) : mvd t (mvd u xs) = mvd (t + u) xs := by
  unfold mvd
  rw [List.map_map]
  refine List.map_congr_left fun x _ => ?_
  show (t + (u + x.1), x.2) = (t + u + x.1, x.2)
  congr 1
  grind
theorem mvd_app (t : Rat) (a b : List Sk) : mvd t (a ++ b) = mvd t a ++ mvd t b := by simp [mvd]
theorem mvd_0 (a : List Sk) : mvd 0 a = a := by
  unfold mvd
  have : ∀ x ∈ a, (fun x : Sk => ((0 : Rat) + x.1, x.2)) x = id x := fun x _ => by
    show ((0 : Rat) + x.1, x.2) = x
    have : (0 : Rat) + x.1 = x.1 := by grind
    rw [this]
  rw [List.map_congr_left this, List.map_id]
theorem plR_mvd (sw : Rat) (bk : Bk) : ∀ (a : List (List Nat)) (t u : Rat), plR sw bk (t + u) a = mvd t (plR sw bk u a)
  | [], t, u => rfl
  | n :: a, t, u => by
    show mvd (t + u) (stkN sw bk n) ++ plR sw bk (t + u + bt bk n) a = mvd t (mvd u (stkN sw bk n) ++ plR sw bk (u + bt bk n) a)
    rw [mvd_app, mvd_mvd, ← plR_mvd sw bk a t (u + bt bk n)]
    congr 2
    grind
theorem mvd_len (t : Rat) (a : List Sk) : (mvd t a).length = a.length := by simp [mvd]
section
variable {N : Nat} {bk : Bk} {sw : Rat} (B : BkOk N bk) (hN : 0 < N ∧ N < 1000) (hw : sw.den < 1000)
include B hN in
theorem lnR_dv : ∀ {rs : List (List Nat)}, (∀ nm ∈ rs, nm ∈ bk.map (·.1)) → dv N (lnR bk rs)
  | [], _ => dv_0 N
  | n :: rs, h => dv_add hN.1 (bt_dv B hN (h n List.mem_cons_self)) (lnR_dv fun m hm => h m (List.mem_cons_of_mem _ hm))
include B hN in
theorem plR_len : ∀ {rs : List (List Nat)} {t : Rat}, (∀ nm ∈ rs, nm ∈ bk.map (·.1)) → (plR sw bk t rs).length ≤ 1000 * rs.length
  | [], _, _ => Nat.zero_le _
  | n :: rs, t, h => by
    show (mvd t (stkN sw bk n) ++ plR sw bk (t + bt bk n) rs).length ≤ 1000 * (rs.length + 1)
    rw [List.length_append, mvd_len]
    have h1 := stkN_len (sw := sw) B hN (h n List.mem_cons_self)
    have h2 := plR_len (rs := rs) (t := t + bt bk n) fun m hm => h m (List.mem_cons_of_mem _ hm)
    omega
include B hN in
theorem plR_dv : ∀ {rs : List (List Nat)} {t : Rat}, dv (sw.den * N) t → (∀ nm ∈ rs, nm ∈ bk.map (·.1)) → ∀ x ∈ plR sw bk t rs, dv (sw.den * N) x.1
  | [], _, _, _, x, hx => by cases hx
  | n :: rs, t, ht, h, x, hx => by
    have hp : 0 < sw.den * N := Nat.mul_pos sw.den_pos hN.1
    rcases List.mem_append.mp (show x ∈ mvd t (stkN sw bk n) ++ plR sw bk (t + bt bk n) rs from hx) with h1 | h1
    · obtain ⟨y, hy, rfl⟩ := List.mem_map.mp h1
      exact dv_add hp ht (stkN_dv B hN (h n List.mem_cons_self) y hy)
    · exact plR_dv (dv_add hp ht (dv_trans (bt_dv B hN (h n List.mem_cons_self)) (Nat.dvd_mul_left _ _))) (fun m hm => h m (List.mem_cons_of_mem _ hm)) x h1
theorem rnds_mem {c : Ch} (hc : ∀ l ∈ c, l.1 ∈ bk.map (·.1) ∧ l.2 ≤ 1000) : ∀ nm ∈ rnds c, nm ∈ bk.map (·.1) := fun nm h => by
  obtain ⟨l, hl, hn⟩ := List.mem_flatten.mp h
  obtain ⟨x, hx, rfl⟩ := List.mem_map.mp hl
  rw [(List.mem_replicate.mp hn).2]
  exact (hc x hx).1
include B hN hw in
theorem playedB (c : Ch) (hc : ∀ l ∈ c, l.1 ∈ bk.map (·.1) ∧ l.2 ≤ 1000) (hl : c.length ≤ 1000) (hr : (rnds c).length ≤ 1000) : F_played [bkD sw bk, chD c] = some (.tuple ((plR sw bk 0 (rnds c)).map skD)) := by
  refine run_of (ρ := [some (.val (bkD sw bk)), some (.val (chD c)), none, none, none]) rfl ?_
  unfold G_played
  have er := rounds_ok c (fun l h => (hc l h).2) hl
  have hm := rnds_mem hc
  have ep : ∀ nm ∈ rnds c, F_pattern_of [bkD sw bk, T nm] = some (ptD (patOf bk nm)) := fun nm h => pattern_of_ok (qD sw) bk nm B.nd (hm nm h)
  have es : ∀ nm ∈ rnds c, F_strikes [bkD sw bk, T nm] = some (.tuple ((stkN sw bk nm).map skD)) := fun nm h => strikesB B hN hw (hm nm h)
  have eb : ∀ nm ∈ rnds c, F_beats [ptD (patOf bk nm)] = some (qD (bt bk nm)) := fun nm h => beatsB B hN (hm nm h)
  have hd : ∀ nm ∈ rnds c, dv N (bt bk nm) := fun nm h => bt_dv B hN (hm nm h)
  have hsl : ∀ nm ∈ rnds c, (stkN sw bk nm).length ≤ 1000 := fun nm h => stkN_len B hN (hm nm h)
  have hsd : ∀ nm ∈ rnds c, ∀ x ∈ stkN sw bk nm, dv (sw.den * N) x.1 := fun nm h => stkN_dv B hN (hm nm h)
  generalize chD c = C at *
  generalize bkD sw bk = BB at *
  generalize rnds c = rs at *
  have hp : 0 < sw.den * N := Nat.mul_pos sw.den_pos hN.1
  have hp2 : sw.den * N ≤ 1000 * 1000 := Nat.mul_le_mul (by omega) (by omega)
  refine Eq.trans (seq_nx (g := S_played_0) (set_nx (d := qD 0) rfl)) ?_
  refine Eq.trans (seq_nx (g := S_played_1) (set_nx (d := .tuple []) rfl)) ?_
  obtain ⟨ρ', e, hd', hL, a, rfl⟩ : ∃ ρ', S_played_2 [some (.val BB), some (.val C), some (.val (qD 0)), some (.val (.tuple [])), none] = some (.nx ρ') ∧ dv N (lnR bk rs) ∧ (plR sw bk 0 rs).length ≤ 1000 * rs.length ∧ ∃ a, ρ' = [some (.val BB), some (.val C), some (.val (qD (lnR bk rs))), some (.val (.tuple ((plR sw bk 0 rs).map skD))), a] := by
    unfold S_played_2
    have app : ∀ (pre : List (List Nat)) x, lnR bk (pre ++ [x]) = lnR bk pre + bt bk x := fun pre x => by
      rw [lnR_app]
      show lnR bk pre + (bt bk x + 0) = _
      grind
    have app2 : ∀ (pre : List (List Nat)) x, plR sw bk 0 (pre ++ [x]) = plR sw bk 0 pre ++ mvd (lnR bk pre) (stkN sw bk x) := fun pre x => by
      rw [plR_app]
      show _ ++ (mvd (0 + lnR bk pre) (stkN sw bk x) ++ []) = _
      rw [List.append_nil]
      congr 2
      grind
    refine sFor_list T rs (fun pre ρ => dv N (lnR bk pre) ∧ (plR sw bk 0 pre).length ≤ 1000 * pre.length ∧ ∃ a, ρ = [some (.val BB), some (.val C), some (.val (qD (lnR bk pre))), some (.val (.tuple ((plR sw bk 0 pre).map skD))), a]) ?_ ⟨dv_0 N, Nat.zero_le _, none, rfl⟩ ?_
    · simp -implicitDefEqProofs (disch := omega) [er]
    · rintro pre x ρ ⟨suf, hsuf⟩ ⟨hdv, hln, a, rfl⟩
      have hx : x ∈ rs := by rw [hsuf]; simp
      have hpl : pre.length ≤ rs.length := by rw [hsuf]; simp
      have e1 := ep x hx
      have e2 := eb x hx
      have e4 := es x hx
      have e3 := added_ok (lnR bk pre) (bt bk x) (den_mul ⟨hN.1, by omega⟩ ⟨hN.1, by omega⟩ hdv (hd x hx))
      have e5 := moved_ok (lnR bk pre) (stkN sw bk x) (fun y hy => den_mul ⟨hN.1, by omega⟩ ⟨hp, by omega⟩ hdv (hsd x hx y hy)) (by have := hsl x hx; omega)
      have e6 := vAdd_t (a := (plR sw bk 0 pre).map skD) (b := (mvd (lnR bk pre) (stkN sw bk x)).map skD) (by
        rw [List.length_map, List.length_map, mvd_len]
        have := hsl x hx
        omega)
      rw [← app] at e3
      rw [← List.map_append, ← app2] at e6
      refine ⟨_, rfl, [some (.val BB), some (.val C), some (.val (qD (lnR bk (pre ++ [x])))), some (.val (.tuple ((plR sw bk 0 (pre ++ [x])).map skD))), some (.val (T x))], ?_, ?_, ?_, _, rfl⟩
      · generalize qD (lnR bk (pre ++ [x])) = z at *
        generalize qD (lnR bk pre) = y at *
        generalize qD (bt bk x) = w at *
        generalize ptD (patOf bk x) = P at *
        generalize PyData.tuple ((plR sw bk 0 (pre ++ [x])).map skD) = u at *
        generalize PyData.tuple ((plR sw bk 0 pre).map skD) = u' at *
        generalize PyData.tuple ((stkN sw bk x).map skD) = u'' at *
        generalize PyData.tuple ((mvd (lnR bk pre) (stkN sw bk x)).map skD) = u3 at *
        refine Eq.trans (seq_nx (ρ := [some (.val BB), some (.val C), some (.val y), some (.val u'), some (.val (T x))]) (set_nx (d := u) (by simp -implicitDefEqProofs (disch := omega) [e4, e5, e6]))) ?_
        refine set_nx (ρ := [some (.val BB), some (.val C), some (.val y), some (.val u), some (.val (T x))]) ?_
        simp -implicitDefEqProofs (disch := omega) [e1, e2, e3]
      · rw [app]; exact dv_add hN.1 hdv (hd x hx)
      · rw [app2, List.length_append, List.length_append, mvd_len, List.length_singleton]
        have := hsl x hx
        omega
  refine Eq.trans (seq_nx e) ?_
  rfl
end
/-! ticks -/
def tick (r : Int) (q : Rat) : Int := (2 * r * q.num + q.den) / (2 * q.den)
def tkD (r : Int) (x : Sk) : D := .tuple [.int (tick r x.1), T [x.2.1], .bool x.2.2]
theorem in_ticks_ok (r : Int) (xs : List Sk) (hr : 0 ≤ r ∧ r < 1000000000000) (h : ∀ x ∈ xs, x.1.den < 1000000000000) (hl : xs.length ≤ 16777216) : F_in_ticks [.tuple (xs.map skD), .int r] = some (.tuple (xs.map (tkD r))) := by
  refine run_of (ρ := [some (.val (.tuple (xs.map skD))), some (.val (.int r)), none, none, none]) rfl ?_
  have e := gLc_all (fi := iF (fVar 0)) (h := hTup 3 (hCons (hName 2) (hCons (hName 3) (hCons (hName 4) hNil)))) (ft := tYesF) (fe := fTup' (aCons (f2 vDiv (f2 vAdd (f2 vMul (f2 vMul (fC (.int 2)) (fVar 1)) (f2 vIx (fVar 2) (fC (.int 0)))) (f2 vIx (fVar 2) (fC (.int 1)))) (f2 vMul (fC (.int 2)) (f2 vIx (fVar 2) (fC (.int 1))))) (aCons (fVar 3) (aCons (fVar 4) aNil)))) (vs := [2, 3, 4]) (ρ := [some (.val (.tuple (xs.map skD))), some (.val (.int r)), none, none, none]) (g := skD) (xs := xs) (tkD r) (by simp) hl (by
      intro x hx
      refine ⟨_, rfl, rfl, ?_⟩
      have hx1 := h x hx
      have hx2 := x.1.den_pos
      generalize PyData.tuple (xs.map skD) = Y
      show fTup' (aCons (f2 vDiv (f2 vAdd (f2 vMul (f2 vMul (fC (.int 2)) (fVar 1)) (f2 vIx (fVar 2) (fC (.int 0)))) (f2 vIx (fVar 2) (fC (.int 1)))) (f2 vMul (fC (.int 2)) (f2 vIx (fVar 2) (fC (.int 1))))) (aCons (fVar 3) (aCons (fVar 4) aNil))) [some (.val Y), some (.val (.int r)), some (.val (qD x.1)), some (.val (T [x.2.1])), some (.val (.bool x.2.2))] = _
      have a0 := vIx_q0 x.1
      have a1 := vIx_q1 x.1
      have m1 : vMul (.int 2) (.int r) = some (.int (2 * r)) := vMul_i (by omega)
      have m2 : vMul (.int (2 * r)) (.int x.1.num) = some (.int (2 * r * x.1.num)) := vMul_i (by omega)
      have m3 : vMul (.int 2) (.int (x.1.den : Nat)) = some (.int (2 * (x.1.den : Nat))) := vMul_i (by omega)
      have m4 : vDiv (.int (2 * r * x.1.num + (x.1.den : Nat))) (.int (2 * (x.1.den : Nat))) = some (.int (tick r x.1)) := vDiv_i (by omega)
      unfold tkD
      generalize qD x.1 = b at a0 a1 ⊢
      generalize tick r x.1 = tt at m4 ⊢
      simp -implicitDefEqProofs (disch := omega) [a0, a1, m1, m2, m3, m4])
  unfold G_in_ticks
  refine ret_of ?_
  simp -implicitDefEqProofs (disch := omega) only [fn_ev, aCons_ev, aNil_ev, fOfF_ev, e, Option.bind_some, Option.map_some]
  rfl
/-! drawn books -/
def namesL : List (List Nat) := [[97], [98], [98, 98], [102, 105, 108, 108], [113]]
def swsL : List Rat := [mkRat 1 2, mkRat 3 5, mkRat 2 3, mkRat 3 4, mkRat 5 8, mkRat 7 12]
theorem sws_ok {sw : Rat} (h : sw ∈ swsL) : 1 / 2 ≤ sw ∧ sw ≤ 3 / 4 ∧ sw.den ≤ 12 := by
  unfold swsL at h
  simp only [List.mem_cons, List.not_mem_nil, or_false] at h
  rcases h with rfl | rfl | rfl | rfl | rfl | rfl <;> decide +kernel
/-- a book as it is drawn -/
structure Drawn (bk : Bk) : Prop where
  nm : ∃ ns : List (List Nat), ns.Sublist namesL ∧ bk.map (·.1) = ns ++ [[122]]
  pt : ∀ e ∈ bk, (1 ≤ e.2.1 ∧ e.2.1 ≤ 16) ∧ (1 ≤ e.2.2.1 ∧ e.2.2.1 ≤ 4) ∧ Pads e.2.1 keysL e.2.2.2
theorem names_nd : (namesL ++ [[122]]).Nodup := by decide
theorem Drawn.nd {bk : Bk} (h : Drawn bk) : (bk.map (·.1)).Nodup := by
  obtain ⟨ns, h1, h2⟩ := h.nm
  rw [h2]
  exact (h1.append_right _).nodup names_nd
theorem Drawn.len {bk : Bk} (h : Drawn bk) : 1 ≤ bk.length ∧ bk.length ≤ 6 := by
  obtain ⟨ns, h1, h2⟩ := h.nm
  have := congrArg List.length h2
  have := h1.length_le
  rw [List.length_map, List.length_append] at *
  simp [namesL] at *
  omega
theorem Drawn.ok {bk : Bk} (h : Drawn bk) : BkOk 12 bk where
  nd := h.nd
  st := fun e he => by have := (h.pt e he).1; omega
  gr := fun e he => by
    have := (h.pt e he).2.1
    refine ⟨this.1, ?_⟩
    have h4 : e.2.2.1 = 1 ∨ e.2.2.1 = 2 ∨ e.2.2.1 = 3 ∨ e.2.2.1 = 4 := by omega
    rcases h4 with h | h | h | h <;> rw [h] <;> decide
  pd := fun e he => by
    have := (h.pt e he).2.2
    exact ⟨fun p hp => (this.row p hp).1, by have := this.len; simp [keysL] at this; omega⟩
theorem lit_b : (Str.ofString "b") = S [98] := by decide +kernel
theorem lit_bb : (Str.ofString "bb") = S [98, 98] := by decide +kernel
theorem lit_fill : (Str.ofString "fill") = S [102, 105, 108, 108] := by decide +kernel
theorem lit_q : (Str.ofString "q") = S [113] := by decide +kernel
theorem swing_ix (m : Int) (hm : 0 ≤ m) : ∃ sw ∈ swsL, vIx (.tuple [.tuple [.int 1, .int 2], .tuple [.int 3, .int 5], .tuple [.int 2, .int 3], .tuple [.int 3, .int 4], .tuple [.int 5, .int 8], .tuple [.int 7, .int 12]]) (.int (m % 6)) = some (qD sw) := by
  have e : [PyData.tuple [.int 1, .int 2], .tuple [.int 3, .int 5], .tuple [.int 2, .int 3], .tuple [.int 3, .int 4], .tuple [.int 5, .int 8], .tuple [.int 7, .int 12]] = swsL.map qD := rfl
  rw [e]
  have h1 : (m % 6).toNat < swsL.length := by simp [swsL]; omega
  refine ⟨swsL[(m % 6).toNat], List.getElem_mem _, ?_⟩
  refine vIx_t (by omega) ?_
  rw [List.getElem?_map, List.getElem?_eq_getElem h1]
  rfl
theorem enum_T (l : List (List Nat)) : enumD (l.map T) = l.zipIdx.map fun p => .tuple [.int (p.2 : Nat), T p.1] := by
  unfold enumD
  rw [List.zipIdx_map, List.map_map]
  rfl
theorem two_ix (k : Nat) (hk : k < 5) : ∃ w : Int, (0 < w ∧ w < 1000) ∧ vIx (.tuple [.int 8, .int 16, .int 32, .int 64, .int 128]) (.int (k : Nat)) = some (.int w) := by
  have h4 : k = 0 ∨ k = 1 ∨ k = 2 ∨ k = 3 ∨ k = 4 := by omega
  rcases h4 with h | h | h | h | h <;> subst h
  · exact ⟨8, by omega, rfl⟩
  · exact ⟨16, by omega, rfl⟩
  · exact ⟨32, by omega, rfl⟩
  · exact ⟨64, by omega, rfl⟩
  · exact ⟨128, by omega, rfl⟩
theorem book_ok (m : Int) (hm : 0 ≤ m) : ∃ sw ∈ swsL, ∃ bk, Drawn bk ∧ F_law_book [.int m] = some (bkD sw bk) := by
  obtain ⟨sw, hsw, e0⟩ := swing_ix m hm
  have e1 : ∃ ns : List (List Nat), ns.Sublist namesL ∧ gLc (iEnum1 (fTup' (aCons (fC (.str "a")) (aCons (fC (.str "b")) (aCons (fC (.str "bb")) (aCons (fC (.str "fill")) (aCons (fC (.str "q")) aNil))))))) (hTup 2 (hCons (hName 3) (hCons (hName 4) hNil))) (tB1 (f2 vEq (f2 vMod (f2 vDiv (fVar 0) (f2 vIx (fTup' (aCons (fC (.int 8)) (aCons (fC (.int 16)) (aCons (fC (.int 32)) (aCons (fC (.int 64)) (aCons (fC (.int 128)) aNil)))))) (fVar 3))) (fC (.int 2))) (fC (.int 1)))) (fVar 4) [3, 4] [some (.val (.int m)), some (.val (qD sw)), none, none, none, none] = some (ns.map T) := by
    have hw : ∀ k : Nat, ∃ w : Int, k < 5 → (0 < w ∧ w < 1000) ∧ vIx (.tuple [.int 8, .int 16, .int 32, .int 64, .int 128]) (.int (k : Nat)) = some (.int w) := fun k => by
      by_cases hk : k < 5
      · obtain ⟨w, h⟩ := two_ix k hk
        exact ⟨w, fun _ => h⟩
      · exact ⟨1, fun h => absurd h hk⟩
    have ⟨W, hW⟩ := Classical.axiomOfChoice hw
    have e := gLc_map (fi := iEnum1 (fTup' (aCons (fC (.str "a")) (aCons (fC (.str "b")) (aCons (fC (.str "bb")) (aCons (fC (.str "fill")) (aCons (fC (.str "q")) aNil))))))) (h := hTup 2 (hCons (hName 3) (hCons (hName 4) hNil))) (ft := tB1 (f2 vEq (f2 vMod (f2 vDiv (fVar 0) (f2 vIx (fTup' (aCons (fC (.int 8)) (aCons (fC (.int 16)) (aCons (fC (.int 32)) (aCons (fC (.int 64)) (aCons (fC (.int 128)) aNil)))))) (fVar 3))) (fC (.int 2))) (fC (.int 1)))) (fe := fVar 4) (vs := [3, 4]) (ρ := [some (.val (.int m)), some (.val (qD sw)), none, none, none, none]) (g := fun i : Nat => .tuple [.int (i : Nat), T (namesL.getD i [])]) (xs := List.range 5) (fun i => decide (m / W i % 2 = 1)) (fun i => T (namesL.getD i []))
      (by rw [lit_a, lit_b, lit_bb, lit_fill, lit_q]; rfl) (by simp) (by
        intro k hk
        obtain ⟨h1, h2⟩ := hW k (List.mem_range.mp hk)
        refine ⟨_, rfl, ?_, fun _ => rfl⟩
        have c1 : vDiv (.int m) (.int (W k)) = some (.int (m / W k)) := vDiv_i (by omega)
        show tB1 (f2 vEq (f2 vMod (f2 vDiv (fVar 0) (f2 vIx (fTup' (aCons (fC (.int 8)) (aCons (fC (.int 16)) (aCons (fC (.int 32)) (aCons (fC (.int 64)) (aCons (fC (.int 128)) aNil)))))) (fVar 3))) (fC (.int 2))) (fC (.int 1))) [some (.val (.int m)), some (.val (qD sw)), none, some (.val (.int (k : Nat))), some (.val (T (namesL.getD k []))), none] = _
        simp -implicitDefEqProofs (disch := omega) [h2, c1, vMod_i])
    refine ⟨((List.range 5).filter fun i => decide (m / W i % 2 = 1)).map fun i => namesL.getD i [], ?_, ?_⟩
    · have h1 : ((List.range 5).filter fun i => decide (m / W i % 2 = 1)).Sublist (List.range 5) := List.filter_sublist
      exact h1.map fun i => namesL.getD i []
    · rw [e, List.map_map]
      rfl
  obtain ⟨ns, hns, e1⟩ := e1
  have hnl : ns.length ≤ 5 := hns.length_le
  refine ⟨sw, hsw, ?_⟩
  have e3 : ∃ ρ' : Rho, S_law_book_3 [some (.val (.int m)), some (.val (qD sw)), some (.val (.list (ns.map T))), none, none, some (.val (.tuple []))] = some (.nx ρ') ∧ ∃ bk : Bk, bk.map (fun e => e.1) = (ns ++ [[122]]).zipIdx.map (fun p : List Nat × Nat => p.1) ∧ (∀ e ∈ bk, (1 ≤ e.2.1 ∧ e.2.1 ≤ 16) ∧ (1 ≤ e.2.2.1 ∧ e.2.2.1 ≤ 4) ∧ Pads e.2.1 keysL e.2.2.2) ∧ ∃ a b, ρ' = [some (.val (.int m)), some (.val (qD sw)), some (.val (.list (ns.map T))), a, b, some (.val (.tuple (bk.map entD)))] := by
    unfold S_law_book_3
    refine sFor_list (fun p : List Nat × Nat => .tuple [.int (p.2 : Nat), T p.1]) (ns ++ [[122]]).zipIdx (fun pre ρ => ∃ bk : Bk, bk.map (fun e => e.1) = pre.map (fun p : List Nat × Nat => p.1) ∧ (∀ e ∈ bk, (1 ≤ e.2.1 ∧ e.2.1 ≤ 16) ∧ (1 ≤ e.2.2.1 ∧ e.2.2.1 ≤ 4) ∧ Pads e.2.1 keysL e.2.2.2) ∧ ∃ a b, ρ = [some (.val (.int m)), some (.val (qD sw)), some (.val (.list (ns.map T))), a, b, some (.val (.tuple (bk.map entD)))]) ?_ ⟨[], rfl, (fun _ h => nomatch h), none, none, rfl⟩ ?_
    · have h1 := vAdd_l (a := ns.map T) (b := [T [122]]) (by simp; omega)
      have h2 : (ns ++ [[122]]).map T = ns.map T ++ [T [122]] := by simp
      rw [← enum_T, h2]
      simp -implicitDefEqProofs (disch := omega) [lit_z, h1]
    · rintro pre ⟨x, i⟩ ρ ⟨suf, hsuf⟩ ⟨bk, hb1, hb2, a, b, rfl⟩
      have hi : i < 1000 - 60 := by
        have hm : (x, i) ∈ (ns ++ [[122]]).zipIdx := by rw [hsuf]; simp
        have := List.snd_lt_of_mem_zipIdx hm
        simp at this
        omega
      have hbl : bk.length ≤ 6 := by
        have h1 := congrArg List.length hb1
        have h2 := congrArg List.length hsuf
        simp at h1 h2
        omega
      have d1 : F_law_drawn [.int m, .int (60 + (i : Int))] = some (.int (drw m (60 + i))) := by
        have := drawn_ok m (60 + i) (by omega)
        rw [Int.natCast_add] at this
        exact this
      have d2 := drw_r m (60 + i)
      obtain ⟨s, g, pads, hs, hg, hpd, ep⟩ := pattern_ok (drw m (60 + i) / 4) (by omega)
      generalize drw m (60 + i) = dd at *
      refine ⟨_, rfl, [some (.val (.int m)), some (.val (qD sw)), some (.val (.list (ns.map T))), some (.val (.int (i : Nat))), some (.val (T x)), some (.val (.tuple ((bk ++ [(x, s, g, pads)]).map entD)))], ?_, bk ++ [(x, s, g, pads)], ?_, ?_, _, _, rfl⟩
      · refine set_nx (ρ := [some (.val (.int m)), some (.val (qD sw)), some (.val (.list (ns.map T))), some (.val (.int (i : Nat))), some (.val (T x)), some (.val (.tuple (bk.map entD)))]) ?_
        have h1 := vAdd_t (a := bk.map entD) (b := [.tuple [T x, patD s g pads]]) (by simp; omega)
        have h2 : (bk ++ [(x, s, g, pads)]).map entD = bk.map entD ++ [.tuple [T x, patD s g pads]] := by simp [entD]
        rw [h2]
        have c1 : vDiv (.int dd) (.int 4) = some (.int (dd / 4)) := vDiv_i (by omega)
        generalize patD s g pads = P at *
        generalize bk.map entD = y at *
        simp -implicitDefEqProofs (disch := omega) [d1, c1, ep, h1]
      · rw [List.map_append, List.map_append, hb1]
        rfl
      · intro e he
        rcases List.mem_append.mp he with he | he
        · exact hb2 e he
        · rw [List.mem_singleton] at he
          subst he
          exact ⟨hs, hg, hpd⟩
  obtain ⟨ρ', e3, bk, hb1, hb2, a, b, rfl⟩ := e3
  refine ⟨bk, ⟨⟨ns, hns, ?_⟩, hb2⟩, ?_⟩
  · rw [hb1]
    exact List.zipIdx_map_fst 0 _
  · refine run_of (ρ := [some (.val (.int m)), none, none, none, none, none]) rfl ?_
    unfold G_law_book
    rw [seq_nx (g := S_law_book_0) (set_nx (d := qD sw) (by
      generalize qD sw = W at e0 ⊢
      have c1 : vMod (.int m) (.int 6) = some (.int (m % 6)) := vMod_i (by omega)
      simp -implicitDefEqProofs (disch := omega) [c1, e0]))]
    rw [seq_nx (g := S_law_book_1) (set_nx (d := .list (ns.map T)) (by
      rw [fOfF_ev]
      exact congrArg (Option.map PyData.list) e1))]
    rw [seq_nx (g := S_law_book_2) (set_nx (d := .tuple []) rfl)]
    refine Eq.trans (seq_nx e3) ?_
    rfl
end PM
namespace PM
open PySem PySem.Spec PyProof.Rows L2 PV WS
theorem three_ix (j : Int) (h : 0 ≤ j ∧ j < 3) : ∃ w : Int, (0 < w ∧ w ≤ 9) ∧ vIx (.tuple [.int 1, .int 3, .int 9]) (.int j) = some (.int w) := by
  have h3 : j = 0 ∨ j = 1 ∨ j = 2 := by omega
  rcases h3 with h | h | h <;> subst h
  · exact ⟨1, by omega, rfl⟩
  · exact ⟨3, by omega, rfl⟩
  · exact ⟨9, by omega, rfl⟩
theorem chain_ok (W : D) (bk : Bk) (hb : 1 ≤ bk.length ∧ bk.length ≤ 6) (m : Int) (hm : 0 ≤ m) : ∃ c : Ch, (1 ≤ c.length ∧ c.length ≤ 4) ∧ (∀ l ∈ c, l.1 ∈ bk.map (·.1) ∧ 1 ≤ l.2 ∧ l.2 ≤ 9) ∧ F_law_chain [.tuple [W, .tuple (bk.map entD)], .int m] = some (chD c) := by
  have hY1 : vIx (.tuple [W, .tuple (bk.map entD)]) (.int 1) = some (.tuple (bk.map entD)) := vIx_p1 _ _
  have hY2 : ∀ d : Int, 0 ≤ d → ∃ e ∈ bk, vIx (.tuple (bk.map entD)) (.int (d % (bk.length : Nat))) = some (entD e) := fun d hd => by
    have h1 := Int.emod_nonneg d (b := (bk.length : Int)) (by omega)
    have h2 := Int.emod_lt_of_pos d (b := (bk.length : Int)) (by omega)
    have h3 : (d % (bk.length : Int)).toNat < bk.length := by omega
    refine ⟨bk[(d % (bk.length : Int)).toNat], List.getElem_mem _, vIx_t h1 ?_⟩
    rw [List.getElem?_map, List.getElem?_eq_getElem h3]
    rfl
  have hY3 : bLen [.tuple (bk.map entD)] = some (.int (bk.length : Nat)) := by
    show some (PyData.int ((bk.map entD).length : Nat)) = _
    rw [List.length_map]
  generalize PyData.tuple [W, .tuple (bk.map entD)] = Y at *
  generalize PyData.tuple (bk.map entD) = Y1 at *
  have e1 : ∃ ρ' : Rho, S_law_chain_1 [some (.val Y), some (.val (.int m)), some (.val (.tuple [])), none, none, none] = some (.nx ρ') ∧ ∃ c : Ch, c.length = (1 + m % 4).toNat ∧ (∀ l ∈ c, l.1 ∈ bk.map (·.1) ∧ 1 ≤ l.2 ∧ l.2 ≤ 9) ∧ ∃ a b d, ρ' = [some (.val Y), some (.val (.int m)), some (.val (chD c)), a, b, d] := by
    unfold S_law_chain_1
    refine sFor_range (n := 1 + m % 4) (fun k ρ => ∃ c : Ch, c.length = k ∧ (∀ l ∈ c, l.1 ∈ bk.map (·.1) ∧ 1 ≤ l.2 ∧ l.2 ≤ 9) ∧ ∃ a b d, ρ = [some (.val Y), some (.val (.int m)), some (.val (chD c)), a, b, d]) (by simp -implicitDefEqProofs (disch := omega) [vMod_i]) (by omega) ⟨[], rfl, (fun _ h => nomatch h), _, _, _, rfl⟩ ?_
    rintro k ρ hk ⟨c, hcl, hc, a, b, d, rfl⟩
    have d1 : F_law_drawn [.int m, .int (80 + (k : Int))] = some (.int (drw m (80 + k))) := by
      have := drawn_ok m (80 + k) (by omega)
      rw [Int.natCast_add] at this
      exact this
    have d2 := drw_r m (80 + k)
    generalize drw m (80 + k) = dd at *
    have d3 : vDiv (.int dd) (.int 4) = some (.int (dd / 4)) := vDiv_i (by omega)
    generalize hx : dd / 4 = x at *
    have hx0 : 0 ≤ x := by omega
    obtain ⟨e, he, i1⟩ := hY2 x hx0
    obtain ⟨w, hw, i2⟩ := three_ix (x / 256 % 3) (by omega)
    have c1 : vMod (.int x) (.int (bk.length : Nat)) = some (.int (x % (bk.length : Nat))) := vMod_i (by omega)
    have c2 : vDiv (.int x) (.int 8) = some (.int (x / 8)) := vDiv_i (by omega)
    have c3 : vDiv (.int x) (.int 256) = some (.int (x / 256)) := vDiv_i (by omega)
    have c4 : vMod (.int (x / 256)) (.int 3) = some (.int (x / 256 % 3)) := vMod_i (by omega)
    have c5 : vMod (.int (x / 8)) (.int w) = some (.int (x / 8 % w)) := vMod_i (by omega)
    have h1 := Int.emod_nonneg (x / 8) (b := w) (by omega)
    have h2 := Int.emod_lt_of_pos (x / 8) (b := w) (by omega)
    obtain ⟨q, hq⟩ := Int.eq_ofNat_of_zero_le (a := 1 + x / 8 % w) (by omega)
    have i3 : vIx (entD e) (.int 0) = some (T e.1) := vIx_p0 _ _
    have ha := vAdd_t (a := c.map linkD) (b := [.tuple [T e.1, .int (q : Nat)]]) (by simp; omega)
    have hc2 : (c ++ [(e.1, q)]).map linkD = c.map linkD ++ [.tuple [T e.1, .int (q : Nat)]] := by simp [linkD]
    refine ⟨_, rfl, [some (.val Y), some (.val (.int m)), some (.val (chD (c ++ [(e.1, q)]))), some (.val (.int (k : Nat))), some (.val (.int x)), some (.val (T e.1))], ?_, c ++ [(e.1, q)], ?_, ?_, _, _, _, rfl⟩
    · rw [← hc2] at ha
      replace ha : vAdd (chD c) (.tuple [.tuple [T e.1, .int (q : Nat)]]) = some (chD (c ++ [(e.1, q)])) := ha
      show sSeq _ _ [some (.val Y), some (.val (.int m)), some (.val (chD c)), some (.val (.int (k : Nat))), b, d] = _
      generalize chD (c ++ [(e.1, q)]) = z at *
      generalize chD c = y at *
      refine Eq.trans (seq_nx (set_nx (d := .int x) (by simp -implicitDefEqProofs (disch := omega) [d1, d3]))) ?_
      refine Eq.trans (seq_nx (set_nx (d := T e.1) (by
        generalize entD e = E at *
        simp -implicitDefEqProofs (disch := omega) [hY1, hY3, c1, i1, i3]))) ?_
      refine set_nx (ρ := [some (.val Y), some (.val (.int m)), some (.val y), some (.val (.int (k : Nat))), some (.val (.int x)), some (.val (T e.1))]) ?_
      simp -implicitDefEqProofs (disch := omega) [c2, c3, c4, i2, c5, hq, ha]
    · simp [hcl]
    · intro l hl
      rcases List.mem_append.mp hl with hl | hl
      · exact hc l hl
      · rw [List.mem_singleton] at hl
        subst hl
        refine ⟨List.mem_map.mpr ⟨e, he, rfl⟩, ?_⟩
        show 1 ≤ q ∧ q ≤ 9
        omega
  obtain ⟨ρ', e1, c, hcl, hc, a, b, d, rfl⟩ := e1
  refine ⟨c, by omega, hc, ?_⟩
  refine run_of (ρ := [some (.val Y), some (.val (.int m)), none, none, none, none]) rfl ?_
  unfold G_law_chain
  refine Eq.trans (seq_nx (g := S_law_chain_0) (set_nx (d := .tuple []) rfl)) ?_
  refine Eq.trans (seq_nx e1) ?_
  rfl
/-- shapes of strikes, for == -/
theorem shaped_tup {l : List D} (h1 : PyData.canLayAll0 l = true) (h2 : PyData.depthAll l ≤ 10) : SeqAt.shaped (.tuple l) = true := by
  unfold SeqAt.shaped
  rw [Bool.and_eq_true, PyData.canLay0, decide_eq_true_eq, PyData.depth]
  exact ⟨h1, by omega⟩
theorem canAll_map {α : Type} {f : α → D} : ∀ {l : List α}, (∀ x ∈ l, (f x).canLay0 = true) → PyData.canLayAll0 (l.map f) = true
  | [], _ => rfl
  | x :: l, h => by
    show PyData.canLayAll0 (f x :: l.map f) = true
    rw [PyData.canLayAll0, h x List.mem_cons_self, canAll_map (l := l) fun y hy => h y (List.mem_cons_of_mem _ hy)]
    rfl
theorem depthAll_map {α : Type} {f : α → D} {n : Nat} : ∀ {l : List α}, (∀ x ∈ l, (f x).depth ≤ n) → PyData.depthAll (l.map f) ≤ n
  | [], _ => by simp [PyData.depthAll]
  | x :: l, h => by
    show PyData.depthAll (f x :: l.map f) ≤ n
    rw [PyData.depthAll]
    have h1 := h x List.mem_cons_self
    have h2 := depthAll_map (l := l) fun y hy => h y (List.mem_cons_of_mem _ hy)
    omega
theorem skD_lay {x : Sk} (h : x.2.1 < 1114112) : (skD x).canLay0 = true ∧ (skD x).depth ≤ 3 := by
  have h1 := sg_lay (l := [x.2.1]) (by intro c hc; rw [List.mem_singleton] at hc; subst hc; exact h)
  unfold skD
  constructor
  · simp [PyData.canLay0, PyData.canLayAll0, h1]
  · simp [PyData.depth, PyData.depthAll]
theorem shaped_sk {xs : List Sk} (h : ∀ x ∈ xs, x.2.1 < 1114112) : SeqAt.shaped (.tuple (xs.map skD)) = true :=
  shaped_tup (canAll_map fun x hx => (skD_lay (h x hx)).1) (by have := depthAll_map (n := 3) fun x hx => (skD_lay (h x hx)).2; omega)
theorem shaped_skl {xs : List Sk} (h : ∀ x ∈ xs, x.2.1 < 1114112) : SeqAt.shaped (.list (xs.map skD)) = true := by
  unfold SeqAt.shaped
  rw [Bool.and_eq_true, PyData.canLay0, decide_eq_true_eq, PyData.depth]
  have h1 := depthAll_map (f := skD) (l := xs) (n := 3) fun x hx => (skD_lay (h x hx)).2
  exact ⟨canAll_map fun x hx => (skD_lay (h x hx)).1, by omega⟩
/-- strikes of drawn pads have letters of theirs -/
theorem stk_pad {sw : Rat} {s g : Nat} {pads : Pds} : ∀ x ∈ stk sw s g pads, ∃ p ∈ pads, x.2.1 = p.1 := by
  intro x hx
  unfold stk at hx
  obtain ⟨l, hl, hx⟩ := List.mem_flatten.mp hx
  obtain ⟨k, _, rfl⟩ := List.mem_map.mp hl
  unfold stkAt at hx
  obtain ⟨p, hp, rfl⟩ := List.mem_map.mp hx
  exact ⟨p, (List.mem_filter.mp hp).1, rfl⟩
theorem plR_pad {sw : Rat} {bk : Bk} : ∀ {rs : List (List Nat)} {t : Rat}, ∀ x ∈ plR sw bk t rs, ∃ nm ∈ rs, ∃ p ∈ (patOf bk nm).2.2, x.2.1 = p.1
  | [], _, x, hx => nomatch hx
  | n :: rs, t, x, hx => by
    rcases List.mem_append.mp (show x ∈ mvd t (stkN sw bk n) ++ plR sw bk (t + bt bk n) rs from hx) with h1 | h1
    · obtain ⟨y, hy, rfl⟩ := List.mem_map.mp h1
      obtain ⟨p, hp, e⟩ := stk_pad y hy
      exact ⟨n, List.mem_cons_self, p, hp, e⟩
    · obtain ⟨nm, hn, p, hp, e⟩ := plR_pad x h1
      exact ⟨nm, List.mem_cons_of_mem _ hn, p, hp, e⟩
theorem keysL_lt {c : Nat} (h : c ∈ keysL) : 97 ≤ c ∧ c ≤ 122 := by
  unfold keysL at h
  simp only [List.mem_cons, List.not_mem_nil, or_false] at h
  omega
theorem Pads.key {s : Nat} {pads : Pds} (h : Pads s keysL pads) {p : Nat × List Nat} (hp : p ∈ pads) : p.1 ∈ keysL := h.sub.subset (List.mem_map.mpr ⟨p, hp, rfl⟩)
theorem Drawn.key {bk : Bk} (h : Drawn bk) {nm : List Nat} (hn : nm ∈ bk.map (·.1)) {p : Nat × List Nat} (hp : p ∈ (patOf bk nm).2.2) : p.1 ∈ keysL := (h.pt _ (patOf_mem hn)).2.2.key hp
theorem Drawn.sk {bk : Bk} (h : Drawn bk) {sw : Rat} {rs : List (List Nat)} {t : Rat} (hr : ∀ nm ∈ rs, nm ∈ bk.map (·.1)) : ∀ x ∈ plR sw bk t rs, x.2.1 ∈ keysL := fun x hx => by
  obtain ⟨nm, hn, p, hp, e⟩ := plR_pad x hx
  rw [e]
  exact h.key (hr nm hn) hp
theorem Drawn.skN {bk : Bk} (h : Drawn bk) {sw : Rat} {nm : List Nat} (hr : nm ∈ bk.map (·.1)) : ∀ x ∈ stkN sw bk nm, x.2.1 ∈ keysL := fun x hx => by
  obtain ⟨p, hp, e⟩ := stk_pad x hx
  rw [e]
  exact h.key hr hp
end PM
namespace PM
open PySem PySem.Spec PyProof.Rows L2 PV WS
/-! range of three, both ways, of little numbers -/
theorem small_3 {a b c : Int} (ha : 0 ≤ a ∧ a < 1000000) (hb : 0 ≤ b ∧ b < 1000000) (hc : -1000000 < c ∧ c < 1000000) : Builtin.Range.small a b c = true := by
  have h1 := rangeSize_toNat_le a b c
  have h2 := rangeSize_toNat a b c
  unfold Builtin.Range.small
  simp only [Builtin.Range.rangeFitsLong, Bool.and_eq_true, Bool.or_eq_true, decide_eq_true_eq, beq_iff_eq]
  refine ⟨⟨⟨⟨by omega, by omega⟩, by omega⟩, by omega⟩, .inr ?_⟩
  split <;> simp only [decide_eq_true_eq, Bool.and_eq_true] <;> omega
theorem iRg3_ev {fa fb fc : Rho → Option D} {ρ : Rho} {a b c : Int} (h1 : fa ρ = some (.int a)) (h2 : fb ρ = some (.int b)) (h3 : fc ρ = some (.int c)) (ha : 0 ≤ a ∧ a < 1000000) (hb : 0 ≤ b ∧ b < 1000000) (hc : (-1000000 < c ∧ c < 1000000) ∧ c ≠ 0) :
    ∃ n : Nat, n ≤ (b - a).toNat + (a - b).toNat ∧ iRg3 fa fb fc ρ = some ((List.range n).map fun i : Nat => .int (a + (i : Int) * c)) := by
  refine ⟨_, rangeSize_toNat_le a b c, ?_⟩
  unfold iRg3
  rw [h1, h2, h3]
  show (if _ then _ else none) = _
  rw [if_pos ⟨hc.2, by omega, small_3 ha hb hc.1⟩]
  rfl
theorem lawscaled_ok (q : Rat) (o : Int) (ho : 0 ≤ o ∧ o < 1000000) (hq : q.den < 1000000000000) : F_law_scaled [qD q, .int o] = some (qD (q * o)) := by
  refine run_of (ρ := [some (.val (qD q)), some (.val (.int o))]) rfl ?_
  have e := lawfrac_ok (q.num * o) q.den q.den_pos hq
  have e2 : q * (o : Rat) = mkRat (q.num * o) q.den := by
    have h : (q.den : Rat) ≠ 0 := nq_ne q.den_pos
    have h3 : q = (q.num : Rat) / (q.den : Rat) := by rw [← mk_div, Rat.mkRat_self]
    rw [mk_div, Rat.intCast_mul]
    generalize (q.num : Rat) = x at h3 ⊢
    generalize (q.den : Rat) = y at h h3 ⊢
    subst h3
    grind
  rw [← e2] at e
  have a0 := vIx_q0 q
  have a1 := vIx_q1 q
  have m1 : vMul (.int q.num) (.int o) = some (.int (q.num * o)) := vMul_i (by omega)
  unfold G_law_scaled
  refine ret_of ?_
  generalize qD (q * o) = z at *
  generalize qD q = y at *
  simp -implicitDefEqProofs (disch := omega) [a0, a1, m1, e]
theorem st_scale {sw : Rat} {s g k o : Nat} (hg : 0 < g) (ho : 0 < o) : st sw s (g * o) k * ((o : Int) : Rat) = st sw s g k := by
  have h1 := nq_ne hg
  have h2 := nq_ne ho
  unfold st
  rw [Rat.natCast_mul, Rat.intCast_natCast]
  generalize (k : Rat) - (od s k : Rat) + (od s k : Rat) * (2 * sw) = x
  generalize (g : Rat) = y at *
  generalize (o : Rat) = z at *
  grind
/-- the items behind the first -/
theorem sl_from1 (a : D) (l : List D) : vSl (.tuple (a :: l)) (some 1) none = some (.tuple l) := by
  have := vSl_tfrom (a := a :: l) (i := 1) (by omega)
  exact this
end PM
namespace PM
open PySem PySem.Spec PyProof.Rows L2 PV WS
/-! step times rise -/
theorem div_ltQ {a b g : Rat} (h : a < b) (hg : 0 < g) : a / g < b / g := by
  rw [Rat.div_def, Rat.div_def]
  exact Rat.mul_lt_mul_of_pos_right h (Rat.inv_pos.mpr hg)
theorem st_ev0 {sw : Rat} {s g k : Nat} (h : od s k = 0) : st sw s g k = (k : Rat) / (g : Rat) := by
  unfold PM.st
  rw [h]
  have : ((0 : Nat) : Rat) = 0 := rfl
  rw [this]
  congr 1
  grind
theorem st_od1 {sw : Rat} {s g k : Nat} (h : od s k = 1) : st sw s g k = ((k : Rat) - 1 + 2 * sw) / (g : Rat) := by
  unfold PM.st
  rw [h]
  have : ((1 : Nat) : Rat) = 1 := rfl
  rw [this]
  congr 1
  grind
theorem od_or (s k : Nat) : od s k = 0 ∨ od s k = 1 := by unfold PM.od; omega
theorem od_nxt {s k : Nat} (hs : 0 < s) (h : od s k = 1) : od s (k + 1) = 0 := by
  unfold PM.od at *
  have h1 := Nat.mod_lt k hs
  rw [Nat.add_mod]
  by_cases h2 : s = 1
  · subst h2; omega
  · rw [Nat.mod_eq_of_lt (a := 1) (b := s) (by omega)]
    by_cases h3 : k % s + 1 < s
    · rw [Nat.mod_eq_of_lt h3]; omega
    · have : k % s + 1 = s := by omega
      rw [this, Nat.mod_self]
theorem st_nxt {sw : Rat} {s g k : Nat} (hs : 0 < s) (hg : 0 < g) (h1 : 1 / 2 ≤ sw) (h2 : sw ≤ 3 / 4) : st sw s g k < st sw s g (k + 1) := by
  have hgp : (0 : Rat) < (g : Rat) := Rat.natCast_pos.mpr hg
  have hk : ((k + 1 : Nat) : Rat) = (k : Rat) + 1 := by rw [Rat.natCast_add]; rfl
  rcases od_or s k with h | h
  · rcases od_or s (k + 1) with h3 | h3
    · rw [st_ev0 h, st_ev0 h3]
      refine div_ltQ ?_ hgp
      rw [hk]; grind
    · rw [st_ev0 h, st_od1 h3]
      refine div_ltQ ?_ hgp
      rw [hk]; grind
  · rw [st_od1 h, st_ev0 (od_nxt hs h)]
    refine div_ltQ ?_ hgp
    rw [hk]; grind
theorem st_lt {sw : Rat} {s g j k : Nat} (hs : 0 < s) (hg : 0 < g) (h1 : 1 / 2 ≤ sw) (h2 : sw ≤ 3 / 4) (h : j < k) : st sw s g j < st sw s g k := by
  induction k with
  | zero => omega
  | succ k ih =>
    have hn := st_nxt (k := k) hs hg h1 h2
    by_cases e : j = k
    · rw [e]; exact hn
    · have := ih (by omega)
      grind
theorem st_0 {sw : Rat} {s g : Nat} : st sw s g 0 = 0 := by
  have h : od s 0 = 0 := by unfold PM.od; simp
  rw [st_ev0 h]
  have : ((0 : Nat) : Rat) = 0 := rfl
  rw [this, Rat.div_def, Rat.zero_mul]
theorem st_s {sw : Rat} {s g : Nat} : st sw s g s = mkRat s g := by
  have h : od s s = 0 := by unfold PM.od; simp
  rw [st_ev0 h, mk_div, Rat.intCast_natCast]
theorem st_ge {sw : Rat} {s g k : Nat} (hs : 0 < s) (hg : 0 < g) (h1 : 1 / 2 ≤ sw) (h2 : sw ≤ 3 / 4) : 0 ≤ st sw s g k := by
  by_cases e : k = 0
  · rw [e, st_0]; grind
  · have := st_lt (j := 0) (k := k) hs hg h1 h2 (by omega)
    rw [st_0] at this
    grind
/-! strikes stand in order -/
def bef (x y : Sk) : Prop := x.1 < y.1 ∨ (x.1 = y.1 ∧ x.2.1 < y.2.1)
theorem stk_mem {sw : Rat} {s g : Nat} {pads : Pds} {x : Sk} (hx : x ∈ stk sw s g pads) : ∃ k, k < s ∧ x.1 = st sw s g k := by
  unfold stk at hx
  obtain ⟨l, hl, hx⟩ := List.mem_flatten.mp hx
  obtain ⟨k, hk, rfl⟩ := List.mem_map.mp hl
  unfold stkAt at hx
  obtain ⟨p, _, rfl⟩ := List.mem_map.mp hx
  exact ⟨k, List.mem_range.mp hk, rfl⟩
theorem stkAt_time {sw : Rat} {s g k : Nat} {pads : Pds} {x : Sk} (hx : x ∈ stkAt sw s g pads k) : x.1 = st sw s g k := by
  unfold stkAt at hx
  obtain ⟨p, _, rfl⟩ := List.mem_map.mp hx
  rfl
theorem stk_sorted {sw : Rat} {s g : Nat} {pads : Pds} (hs : 0 < s) (hg : 0 < g) (h1 : 1 / 2 ≤ sw) (h2 : sw ≤ 3 / 4) (hp : (pads.map (·.1)).Pairwise (· < ·)) : (stk sw s g pads).Pairwise bef := by
  unfold stk
  rw [List.pairwise_flatten]
  constructor
  · intro l hl
    obtain ⟨k, _, rfl⟩ := List.mem_map.mp hl
    unfold stkAt
    rw [List.pairwise_map]
    rw [List.pairwise_map] at hp
    exact (hp.filter _).imp fun h => .inr ⟨rfl, h⟩
  · rw [List.pairwise_map]
    refine List.pairwise_lt_range.imp fun {j k} h x hx y hy => .inl ?_
    rw [stkAt_time hx, stkAt_time hy]
    exact st_lt hs hg h1 h2 h
theorem keysL_lt' : keysL.Pairwise (· < ·) := by decide
theorem Pads.asc {s : Nat} {pads : Pds} (h : Pads s keysL pads) : (pads.map (·.1)).Pairwise (· < ·) := keysL_lt'.sublist h.sub
section
variable {bk : Bk} {sw : Rat} (B : Drawn bk) (h1 : 1 / 2 ≤ sw) (h2 : sw ≤ 3 / 4)
include B in
theorem Drawn.at_ {nm : List Nat} (h : nm ∈ bk.map (·.1)) : (1 ≤ (patOf bk nm).1 ∧ (patOf bk nm).1 ≤ 16) ∧ (1 ≤ (patOf bk nm).2.1 ∧ (patOf bk nm).2.1 ≤ 4) ∧ Pads (patOf bk nm).1 keysL (patOf bk nm).2.2 := B.pt _ (patOf_mem h)
include B h1 h2 in
theorem stkN_in {nm : List Nat} (h : nm ∈ bk.map (·.1)) : ∀ x ∈ stkN sw bk nm, 0 ≤ x.1 ∧ x.1 < bt bk nm := fun x hx => by
  obtain ⟨a1, a2, a3⟩ := B.at_ h
  obtain ⟨k, hk, e⟩ := stk_mem hx
  rw [e]
  refine ⟨st_ge (by omega) (by omega) h1 h2, ?_⟩
  have := st_lt (s := (patOf bk nm).1) (g := (patOf bk nm).2.1) (by omega) (by omega) h1 h2 hk
  rw [st_s] at this
  exact this
include B in
theorem bt_pos {nm : List Nat} (h : nm ∈ bk.map (·.1)) : 0 < bt bk nm := by
  obtain ⟨a1, a2, a3⟩ := B.at_ h
  unfold bt
  rw [mk_div, Rat.intCast_natCast, Rat.div_def]
  exact Rat.mul_pos (Rat.natCast_pos.mpr (by omega)) (Rat.inv_pos.mpr (Rat.natCast_pos.mpr (by omega)))
include B in
theorem lnR_ge : ∀ {rs : List (List Nat)}, (∀ nm ∈ rs, nm ∈ bk.map (·.1)) → 0 ≤ lnR bk rs
  | [], _ => by show (0 : Rat) ≤ 0; grind
  | n :: rs, h => by
    have a := bt_pos B (h n List.mem_cons_self)
    have b := lnR_ge (rs := rs) fun m hm => h m (List.mem_cons_of_mem _ hm)
    show 0 ≤ bt bk n + lnR bk rs
    grind
include B h1 h2 in
theorem plR_in : ∀ {rs : List (List Nat)} {t : Rat}, (∀ nm ∈ rs, nm ∈ bk.map (·.1)) → ∀ x ∈ plR sw bk t rs, t ≤ x.1 ∧ x.1 < t + lnR bk rs
  | [], _, _, x, hx => nomatch hx
  | n :: rs, t, h, x, hx => by
    have hr := fun m hm => h m (List.mem_cons_of_mem _ hm)
    have a := bt_pos B (h n List.mem_cons_self)
    have b := lnR_ge B hr
    show t ≤ x.1 ∧ x.1 < t + (bt bk n + lnR bk rs)
    rcases List.mem_append.mp (show x ∈ mvd t (stkN sw bk n) ++ plR sw bk (t + bt bk n) rs from hx) with hx | hx
    · obtain ⟨y, hy, rfl⟩ := List.mem_map.mp hx
      obtain ⟨c, d⟩ := stkN_in B h1 h2 (h n List.mem_cons_self) y hy
      show t ≤ t + y.1 ∧ t + y.1 < _
      constructor <;> grind
    · obtain ⟨c, d⟩ := plR_in hr x hx
      constructor <;> grind
include B h1 h2 in
theorem plR_sorted : ∀ {rs : List (List Nat)} {t : Rat}, (∀ nm ∈ rs, nm ∈ bk.map (·.1)) → (plR sw bk t rs).Pairwise bef
  | [], _, _ => .nil
  | n :: rs, t, h => by
    have hr := fun m hm => h m (List.mem_cons_of_mem _ hm)
    have hn := h n List.mem_cons_self
    obtain ⟨a1, a2, a3⟩ := B.at_ hn
    show (mvd t (stkN sw bk n) ++ plR sw bk (t + bt bk n) rs).Pairwise bef
    rw [List.pairwise_append]
    refine ⟨?_, plR_sorted hr, fun x hx y hy => .inl ?_⟩
    · unfold mvd
      rw [List.pairwise_map]
      refine (stk_sorted (by omega) (by omega) h1 h2 a3.asc).imp fun {x y} hxy => ?_
      rcases hxy with hxy | ⟨e, hxy⟩
      · exact .inl (by show t + x.1 < t + y.1; grind)
      · exact .inr ⟨by show t + x.1 = t + y.1; rw [e], hxy⟩
    · obtain ⟨z, hz, rfl⟩ := List.mem_map.mp hx
      obtain ⟨c, d⟩ := stkN_in B h1 h2 hn z hz
      obtain ⟨c', d'⟩ := plR_in B h1 h2 hr y hy
      show t + z.1 < y.1
      grind
end
/-! slices, zips -/
theorem cut_but (a : List D) : PV.cutD a none (some (-1)) = a.dropLast := by
  unfold PV.cutD
  have e1 : HT.sIx a.length 0 none = 0 := rfl
  have e2 : HT.sIx a.length a.length (some (-1)) = a.length - 1 := by
    unfold HT.sIx
    simp
    omega
  rw [e1, e2, List.drop_zero, Nat.sub_zero, List.dropLast_eq_take]
theorem vSl_but (a : List D) : vSl (.tuple a) none (some (-1)) = some (.tuple a.dropLast) := congrArg (fun x => some (PyData.tuple x)) (cut_but a)
theorem zipD_one {α : Type} (f g : α → D) : ∀ l : List α, zipD (l.map f) (l.map g) = l.map fun x => .tuple [f x, g x]
  | [] => rfl
  | x :: l => by
    show PyData.tuple [f x, g x] :: zipD (l.map f) (l.map g) = _
    rw [zipD_one f g l]
    rfl
theorem adj_of {α : Type} {R : α → α → Prop} : ∀ {l : List α}, l.Pairwise R → ∀ p ∈ l.dropLast.zip (l.drop 1), R p.1 p.2
  | [], _, p, hp => nomatch hp
  | [a], _, p, hp => nomatch hp
  | a :: b :: l, h, p, hp => by
    rw [List.pairwise_cons] at h
    have e : (a :: b :: l).dropLast.zip ((a :: b :: l).drop 1) = (a, b) :: (b :: l).dropLast.zip ((b :: l).drop 1) := rfl
    rw [e] at hp
    rcases List.mem_cons.mp hp with rfl | hp
    · exact h.1 b List.mem_cons_self
    · exact adj_of h.2 p hp
theorem tick_near (r : Int) (q : Rat) : 0 - (q.den : Int) < 2 * (tick r q * q.den - r * q.num) ∧ 2 * (tick r q * q.den - r * q.num) ≤ q.den := by
  have hd : (0 : Int) < 2 * q.den := by have := q.den_pos; omega
  have h1 := Int.mul_ediv_self_le (x := 2 * r * q.num + q.den) (k := 2 * q.den) (by omega)
  have h2 := Int.lt_mul_ediv_self_add (x := 2 * r * q.num + q.den) hd
  unfold tick
  generalize (2 * r * q.num + q.den) / (2 * q.den) = t at *
  have e1 : 2 * (q.den : Int) * t = 2 * (t * q.den) := by rw [Int.mul_assoc, Int.mul_comm (q.den : Int) t]
  have e2 : 2 * r * q.num = 2 * (r * q.num) := by rw [Int.mul_assoc]
  rw [e1, e2] at h1
  rw [e1, e2] at h2
  generalize t * (q.den : Int) = u at *
  generalize r * q.num = v at *
  omega
end PM
namespace PM
open PySem PySem.Spec PyProof.Rows L2 PV WS
/-! more of ticks -/
theorem mk_scale (q : Rat) {u : Int} {l : Nat} (hl : 0 < l) (h : q = mkRat u l) : ∃ c : Nat, 0 < c ∧ u = c * q.num ∧ l = c * q.den := by
  subst h
  have hg : 0 < Nat.gcd u.natAbs l := Nat.gcd_pos_of_pos_right _ hl
  refine ⟨Nat.gcd u.natAbs l, hg, ?_, ?_⟩
  · rw [Rat.num_mkRat, if_neg (by omega)]
    have : ((Nat.gcd u.natAbs l : Nat) : Int) ∣ u := Int.ofNat_dvd_left.mpr (Nat.gcd_dvd_left _ _)
    rw [Nat.gcd_comm l, Int.mul_ediv_cancel' this]
  · rw [Rat.den_mkRat, if_neg (by omega), Nat.gcd_comm]
    exact (Nat.mul_div_cancel' (Nat.gcd_dvd_left _ _)).symm
theorem tick_mk (r u : Int) {l : Nat} (hl : 0 < l) : tick r (mkRat u l) = (2 * r * u + l) / (2 * l) := by
  obtain ⟨c, hc, e1, e2⟩ := mk_scale (mkRat u l) hl rfl
  unfold tick
  generalize (mkRat u l).num = n at *
  generalize (mkRat u l).den = d at *
  subst e1 e2
  rw [Int.natCast_mul]
  have e : 2 * r * ((c : Int) * n) + c * d = c * (2 * r * n + d) := by grind
  have e' : 2 * ((c : Int) * d) = c * (2 * d) := by grind
  rw [e, e', Int.mul_ediv_mul_of_pos _ _ (by omega)]
theorem tick_add (r : Int) (q : Rat) (k : Int) : tick r ((k : Rat) + q) = tick r q + k * r := by
  have hq := q.den_pos
  have e : (k : Rat) + q = mkRat (k * q.den + q.num) q.den := by
    have h : (q.den : Rat) ≠ 0 := nq_ne q.den_pos
    have h3 : q = (q.num : Rat) / (q.den : Rat) := by rw [← mk_div, Rat.mkRat_self]
    rw [mk_div, Rat.intCast_add, Rat.intCast_mul, Rat.intCast_natCast]
    generalize (q.num : Rat) = x at h3 ⊢
    generalize (q.den : Rat) = y at h h3 ⊢
    subst h3
    grind
  rw [e, tick_mk _ _ hq]
  unfold tick
  have e2 : 2 * r * (k * (q.den : Int) + q.num) + q.den = 2 * r * q.num + q.den + (2 * q.den) * (k * r) := by grind
  rw [e2, Int.add_mul_ediv_left _ _ (by omega)]
theorem tick_mono {r : Int} (hr : 0 ≤ r) {p q : Rat} (h : p ≤ q) : tick r p ≤ tick r q := by
  rw [Rat.le_iff] at h
  have hp := p.den_pos
  have hq := q.den_pos
  unfold tick
  rw [Int.le_ediv_iff_mul_le (by omega)]
  have h1 := Int.mul_ediv_self_le (x := 2 * r * p.num + p.den) (k := 2 * p.den) (by omega)
  generalize (2 * r * p.num + p.den) / (2 * (p.den : Int)) = t at *
  generalize p.num = n at *
  generalize q.num = n' at *
  have hp' : (0 : Int) < p.den := by omega
  have hq' : (0 : Int) < q.den := by omega
  generalize (p.den : Int) = d at *
  generalize (q.den : Int) = d' at *
  apply Int.not_lt.mp
  intro h2
  have a1 := Int.mul_lt_mul_of_pos_left h2 hp'
  have a2 := Int.mul_le_mul_of_nonneg_left h1 (Int.le_of_lt hq')
  have a3 := Int.mul_le_mul_of_nonneg_left h hr
  have b1 : d * (2 * r * n' + d') = 2 * (r * (n' * d)) + d * d' := by grind
  have b2 : d * (t * (2 * d')) = 2 * (t * d * d') := by grind
  have b3 : d' * (2 * d * t) = 2 * (t * d * d') := by grind
  have b4 : d' * (2 * r * n + d) = 2 * (r * (n * d')) + d * d' := by grind
  rw [b1, b2] at a1
  rw [b3, b4] at a2
  omega
theorem tick_nn {r : Int} (hr : 0 ≤ r) {q : Rat} (h : 0 ≤ q) : 0 ≤ tick r q := by
  have hn : 0 ≤ q.num := Rat.num_nonneg.mpr h
  unfold tick
  have := Int.mul_nonneg hr hn
  refine Int.ediv_nonneg ?_ (by omega)
  have e : 2 * r * q.num = 2 * (r * q.num) := by grind
  rw [e]
  omega
theorem tick_exact {E : Nat} {q : Rat} (h : q.den ∣ E) : tick E q * q.den = q.num * E := by
  obtain ⟨c, hc⟩ := h
  have hq := q.den_pos
  have e : tick E q = q.num * c := by
    unfold tick
    rw [hc, Int.natCast_mul]
    have e2 : 2 * ((q.den : Int) * c) * q.num + q.den = q.den + 2 * q.den * (q.num * c) := by grind
    rw [e2, Int.add_mul_ediv_left _ _ (by omega), Int.ediv_eq_zero_of_lt (by omega) (by omega)]
    omega
  rw [e, hc, Int.natCast_mul]
  grind
theorem tkD_lay {r : Int} {x : Sk} (h : x.2.1 < 1114112) : (tkD r x).canLay0 = true ∧ (tkD r x).depth ≤ 3 := by
  have h1 := sg_lay (l := [x.2.1]) (by intro c hc; rw [List.mem_singleton] at hc; subst hc; exact h)
  unfold tkD
  constructor
  · simp [PyData.canLay0, PyData.canLayAll0, h1]
  · simp [PyData.depth, PyData.depthAll]
theorem shaped_tk {r : Int} {xs : List Sk} (h : ∀ x ∈ xs, x.2.1 < 1114112) : SeqAt.shaped (.tuple (xs.map (tkD r))) = true :=
  shaped_tup (canAll_map fun x hx => (tkD_lay (h x hx)).1) (by have := depthAll_map (n := 3) fun x hx => (tkD_lay (r := r) (h x hx)).2; omega)
theorem srt_id' {l : List Nat} (h : l.Pairwise (· ≤ ·)) : srt l = l := by
  refine List.mergeSort_of_pairwise ?_
  refine h.imp ?_
  simp
theorem later_ok (t : Rat) (xs : List Sk) (h : ∀ x ∈ xs, t.den * x.1.den < 1000000000000) (hl : xs.length ≤ 16777216) : F_law_later [.tuple (xs.map skD), qD t] = some (.tuple ((mvd t xs).map skD)) := by
  refine run_of (ρ := [some (.val (.tuple (xs.map skD))), some (.val (qD t)), none, none, none]) rfl ?_
  have e := gLc_all (fi := iF (fVar 0)) (h := hTup 3 (hCons (hName 2) (hCons (hName 3) (hCons (hName 4) hNil)))) (ft := tYesF) (fe := fTup' (aCons (fn F_law_add (aCons (fVar 1) (aCons (fVar 2) aNil))) (aCons (fVar 3) (aCons (fVar 4) aNil)))) (vs := [2, 3, 4]) (ρ := [some (.val (.tuple (xs.map skD))), some (.val (qD t)), none, none, none]) (g := skD) (xs := xs) (fun x => skD (t + x.1, x.2)) (by simp) hl (by
      intro x hx
      refine ⟨_, rfl, rfl, ?_⟩
      have e1 := lawadd_ok t x.1 (h x hx)
      generalize PyData.tuple (xs.map skD) = Y
      show fTup' (aCons (fn F_law_add (aCons (fVar 1) (aCons (fVar 2) aNil))) (aCons (fVar 3) (aCons (fVar 4) aNil))) [some (.val Y), some (.val (qD t)), some (.val (qD x.1)), some (.val (T [x.2.1])), some (.val (.bool x.2.2))] = _
      unfold skD
      generalize qD t = a at e1 ⊢
      generalize qD x.1 = b at e1 ⊢
      generalize qD (t + x.1) = c at e1 ⊢
      simp -implicitDefEqProofs (disch := omega) [e1])
  unfold G_law_later
  refine ret_of ?_
  simp -implicitDefEqProofs (disch := omega) only [fn_ev, aCons_ev, aNil_ev, fOfF_ev, e, Option.bind_some, Option.map_some]
  show some (PyData.tuple _) = _
  unfold mvd
  rw [List.map_map]
  rfl
theorem rnds_len9 : ∀ {c : Ch}, (∀ l ∈ c, l.2 ≤ 9) → (rnds c).length ≤ 9 * c.length
  | [], _ => by simp [rnds]
  | l :: c, h => by
    have ih := rnds_len9 (c := c) fun x hx => h x (List.mem_cons_of_mem _ hx)
    have h1 := h l List.mem_cons_self
    have e : rnds (l :: c) = List.replicate l.2 l.1 ++ rnds c := by simp [rnds]
    rw [e, List.length_append, List.length_replicate, List.length_cons]
    omega
end PM
namespace PM
open PySem PySem.Spec PyProof.Rows L2 PV WS
/-! texts -/
theorem lit_sp : (Str.ofString " ") = S [32] := by decide +kernel
theorem lit_by : (Str.ofString "by") = S [98, 121] := by decide +kernel
theorem lit_eq : (Str.ofString "=") = S [61] := by decide +kernel
abbrev figL : List Nat := [48, 49, 50, 51, 52, 53, 54, 55, 56, 57]
abbrev abcL : List Nat := [97, 98, 99, 100, 101, 102, 103, 104, 105, 106, 107, 108, 109, 110, 111, 112, 113, 114, 115, 116, 117, 118, 119, 120, 121, 122]
theorem lit_figs : (Str.ofString "0123456789") = S figL := by decide +kernel
theorem lit_abc : (Str.ofString "abcdefghijklmnopqrstuvwxyz") = S abcL := by decide +kernel
abbrev nmL (n : Nat) : List Nat := TL.numL n
theorem num_S (n : Nat) : (Str.ofString (toString ((n : Nat) : Int))) = S (nmL n) := by
  apply TL.ext_tl
  rw [TL.tl_num]
  exact (S_list _).symm
theorem bStr_n (n : Nat) (h : n < 2 ^ 64) : bStr [.int (n : Nat)] = some (T (nmL n)) := by
  show (if _ then _ else _) = _
  rw [if_pos (by omega)]
  exact congrArg (fun z => some (PyData.str z)) (num_S n)
theorem nmL_len (n : Nat) (h : n < 10000) : (nmL n).length ≤ 4 := TL.numL_len (by decide) h
theorem bInt_n (n : Nat) (h : n < 10000) : bInt [T (nmL n)] = some (.int (n : Nat)) := by
  have hl := nmL_len n h
  show (if (S (nmL n)).length ≤ 640 then _ else _) = _
  rw [S_len, if_pos (by omega), ← num_S, TL.int_num (by show (nmL n).length ≤ 4300; omega)]
  rfl
theorem nmL_inj {m n : Nat} (h : nmL m = nmL n) : m = n := TL.numL_inj h
theorem nmL_ne (n : Nat) : nmL n ≠ [] := TL.numL_ne n
theorem nmL_fig {n c : Nat} (h : c ∈ nmL n) : c ∈ figL := by
  have := TL.numL_free (n := n) (s := c)
  have h2 : 48 ≤ c ∧ c ≤ 57 := by
    by_cases h3 : c < 48 ∨ 57 < c
    · exact absurd h (this h3)
    · omega
  simp only [figL, List.mem_cons, List.not_mem_nil, or_false]
  omega
theorem nmL_small {n : Nat} (h : n < 10) : nmL n = [48 + n] := TL.numL_lt h
/-- words with blanks between -/
abbrev jn (ls : List (List Nat)) : List Nat := TL.joinL [32] ls
theorem join_sp (ls : List (List Nat)) : Txt.join (S [32]) (ls.map S) = S (jn ls) := by
  apply TL.ext_tl
  rw [TL.join_eq, TL.tl_join, List.map_map]
  have e1 : TL.tl (S [32]) = [32] := S_list _
  have e2 : ∀ l ∈ ls, (TL.tl ∘ S) l = id l := fun l _ => S_list l
  rw [e1, List.map_congr_left e2, List.map_id]
  exact (S_list _).symm
theorem split_sp {ls : List (List Nat)} (h : ls ≠ []) (hp : ∀ p ∈ ls, 32 ∉ p) : Txt.split (S (jn ls)) (S [32]) = ls.map S := by
  rw [← join_sp]
  refine TL.split_join (s := 32) (S := []) (S_list _) (by decide +kernel) (fun e => h (List.map_eq_nil_iff.mp e)) fun p hp' => ?_
  obtain ⟨l, hl, rfl⟩ := List.mem_map.mp hp'
  have : TL.tl (S l) = l := S_list _
  rw [this]
  exact hp l hl
theorem jn_inj {a b : List (List Nat)} (ha : a ≠ []) (hb : b ≠ []) (pa : ∀ p ∈ a, 32 ∉ p) (pb : ∀ p ∈ b, 32 ∉ p) (h : jn a = jn b) : a = b := by
  have h1 := split_sp ha pa
  have h2 := split_sp hb pb
  rw [h, h2] at h1
  have h3 : ∀ {l m : List (List Nat)}, l.map S = m.map S → l = m := by
    intro l
    induction l with
    | nil => intro m e; cases m with | nil => rfl | cons _ _ => cases e
    | cons x l ih =>
      intro m e
      cases m with
      | nil => cases e
      | cons y m =>
        rw [List.map_cons, List.map_cons, List.cons.injEq] at e
        rw [S_inj.mp e.1, ih e.2]
  exact (h3 h1).symm
theorem jn_len : ∀ ls : List (List Nat), (jn ls).length ≤ (ls.map (·.length)).sum + ls.length
  | [] => Nat.zero_le _
  | [p] => by show p.length ≤ _; simp
  | p :: q :: r => by
    have h := jn_len (q :: r)
    show (p ++ ([32] ++ jn (q :: r))).length ≤ _
    simp only [List.length_append, List.map_cons, List.sum_cons, List.length_cons, List.length_nil] at h ⊢
    omega
theorem mJoin_sp (ls : List (List Nat)) (h : (ls.map (·.length)).sum + ls.length ≤ 16777216) : mJoin (.str (S [32])) [.list (ls.map T)] = some (T (jn ls)) := by
  show (strsOf (ls.map T)).bind _ = _
  rw [strsOf_T, Option.bind_some, if_pos, join_sp]
  rw [List.map_map]
  have e : (fun x : Str => x.length) ∘ S = fun l : List Nat => l.length := by funext l; exact S_len l
  rw [e, List.length_map, S_len]
  simpa using h
theorem mSplit_sp {ls : List (List Nat)} (h : ls ≠ []) (hp : ∀ p ∈ ls, 32 ∉ p) (hl : (ls.map (·.length)).sum + ls.length ≤ 1000000) : mSplit (T (jn ls)) [.str (S [32])] = some (.list (ls.map T)) := by
  show (if (S [32]).length ≠ 0 ∧ (S (jn ls)).length + 2 ≤ 16777216 then _ else none) = _
  have := jn_len ls
  rw [S_len, S_len, if_pos ⟨by simp, by omega⟩, split_sp h hp, List.map_map]
  rfl
/-! the text of a pattern -/
def pwd (p : Nat × List Nat) : List Nat := p.1 :: 61 :: p.2
def pws (s g : Nat) (pads : Pds) : List (List Nat) := [nmL s, [98, 121], nmL g] ++ pads.map pwd
abbrev ptext (s g : Nat) (pads : Pds) : List Nat := jn (pws s g pads)
theorem sum_len_le {n : Nat} : ∀ {ls : List (List Nat)}, (∀ l ∈ ls, l.length ≤ n) → (ls.map (·.length)).sum ≤ n * ls.length
  | [], _ => Nat.zero_le _
  | l :: ls, h => by
    have h1 := h l List.mem_cons_self
    have h2 := sum_len_le (ls := ls) fun x hx => h x (List.mem_cons_of_mem _ hx)
    rw [List.map_cons, List.sum_cons, List.length_cons, Nat.mul_add]
    omega
theorem pws_len {s g : Nat} {pads : Pds} (hs : s < 10000) (hg : g < 10000) (h : ∀ p ∈ pads, p.2.length ≤ 1000) (hl : pads.length ≤ 100) : ((pws s g pads).map (·.length)).sum + (pws s g pads).length ≤ 1000000 := by
  have h1 := sum_len_le (n := 1002) (ls := pws s g pads) (by
    intro l hl
    unfold pws at hl
    rcases List.mem_append.mp hl with hl | hl
    · simp only [List.mem_cons, List.not_mem_nil, or_false] at hl
      rcases hl with rfl | rfl | rfl
      · have := nmL_len s hs; omega
      · simp
      · have := nmL_len g hg; omega
    · obtain ⟨p, hp, rfl⟩ := List.mem_map.mp hl
      have := h p hp
      show (p.1 :: 61 :: p.2).length ≤ _
      simp
      omega)
  have h2 : (pws s g pads).length = 3 + pads.length := by simp [pws]; omega
  omega
theorem pattern_text_ok (s g : Nat) (pads : Pds) (hs : s < 10000) (hg : g < 10000) (h : ∀ p ∈ pads, p.2.length ≤ 1000) (hl : pads.length ≤ 100) : F_pattern_text [patD s g pads] = some (T (ptext s g pads)) := by
  refine run_of (ρ := [some (.val (patD s g pads)), none, none, none]) rfl ?_
  have i0 : vIx (patD s g pads) (.int 0) = some (.int (s : Nat)) := vIx_3a _ _ _
  have i1 : vIx (patD s g pads) (.int 1) = some (.int (g : Nat)) := vIx_3b _ _ _
  have i2 : vIx (patD s g pads) (.int 2) = some (.tuple (pads.map padD)) := vIx_3c _ _ _
  have b0 := bStr_n s (by omega)
  have b1 := bStr_n g (by omega)
  generalize patD s g pads = P at *
  have e1 : gLc (iF (f2 vIx (fVar 0) (fC (.int 2)))) (hTup 2 (hCons (hName 2) (hCons (hName 3) hNil))) tYesF (f2 vAdd (f2 vAdd (fVar 2) (fC (.str "="))) (fVar 3)) [2, 3] [some (.val P), none, none, none] = some (pads.map fun p => T (pwd p)) := gLc_all (g := padD) (xs := pads) _ (by
      rw [iF_ev, f2_ev]
      show ((vIx P (.int 2))).bind itemsD = _
      rw [i2]
      rfl) (by omega) (by
    intro p hp
    refine ⟨_, rfl, rfl, ?_⟩
    have hp2 := h p hp
    have a1 := vAdd_S (a := [p.1]) (b := [61]) (by simp)
    have a2 := vAdd_S (a := [p.1] ++ [61]) (b := p.2) (by simp; omega)
    show f2 vAdd (f2 vAdd (fVar 2) (fC (.str "="))) (fVar 3) [some (.val P), none, some (.val (T [p.1])), some (.val (T p.2))] = _
    rw [lit_eq]
    refine f2_of (f2_of rfl rfl a1) rfl a2)
  have e2 := vAdd_l (a := [T (nmL s), T [98, 121], T (nmL g)]) (b := pads.map fun p => T (pwd p)) (by simp; omega)
  have e3 : [T (nmL s), T [98, 121], T (nmL g)] ++ (pads.map fun p => T (pwd p)) = (pws s g pads).map T := by
    unfold pws
    rw [List.map_append, List.map_map]
    rfl
  rw [e3] at e2
  have e4 := mJoin_sp (pws s g pads) (by have := pws_len hs hg h hl; omega)
  unfold G_pattern_text
  refine Eq.trans (seq_nx (g := S_pattern_text_0) (set_nx (d := .list ((pws s g pads).map T)) ?_)) ?_
  · rw [f2_ev, fOfF_ev, fOfF_ev]
    refine Eq.trans (congrArg (fun z : Option (List D) => Option.bind _ fun x => Option.bind (z.map PyData.list) fun y => vAdd x y) e1) ?_
    generalize (pws s g pads).map T = Y at *
    generalize (pads.map fun p => T (pwd p)) = Z at *
    rw [lit_by]
    simp -implicitDefEqProofs (disch := omega) [i0, i1, b0, b1, e2]
  · refine ret_of ?_
    generalize (pws s g pads).map T = Y at *
    rw [lit_sp]
    simp -implicitDefEqProofs (disch := omega) [e4]
/-! the text of a chain -/
def cwd (l : List Nat × Nat) : List Nat := if 1 < l.2 then l.1 ++ nmL l.2 else l.1
abbrev ctext (c : Ch) : List Nat := jn (c.map cwd)
theorem cwd_len {l : List Nat × Nat} (h : l.1.length ≤ 100 ∧ l.2 < 10000) : (cwd l).length ≤ 104 := by
  have := nmL_len l.2 h.2
  unfold cwd
  split
  · rw [List.length_append]; omega
  · omega
theorem cws_len {c : Ch} (h : ∀ l ∈ c, l.1.length ≤ 100 ∧ l.2 < 10000) (hl : c.length ≤ 100) : ((c.map cwd).map (·.length)).sum + (c.map cwd).length ≤ 1000000 := by
  have := sum_len_le (n := 104) (ls := c.map cwd) (by
    intro l hl
    obtain ⟨x, hx, rfl⟩ := List.mem_map.mp hl
    exact cwd_len (h x hx))
  rw [List.length_map] at *
  omega
theorem repS_int (x : List Nat) (k : Int) (hk : k = 0 ∨ k = 1) (hx : x.length ≤ 1000) : vMul (.str (S x)) (.int k) = some (T (if k = 1 then x else [])) := by
  show (if _ then _ else none) = _
  have hl : (S x).length * k.toNat ≤ 16777216 := by
    rw [S_len]
    rcases hk with rfl | rfl <;> simp
    omega
  rw [if_pos ⟨by omega, hl⟩]
  unfold repS
  rcases hk with rfl | rfl
  · simp
    rfl
  · simp
theorem chain_text_ok (c : Ch) (h : ∀ l ∈ c, l.1.length ≤ 100 ∧ l.2 < 10000) (hl : c.length ≤ 100) : F_chain_text [chD c] = some (T (ctext c)) := by
  refine run_of (ρ := [some (.val (chD c)), none, none]) rfl ?_
  have hY : itemsD (chD c) = some (c.map linkD) := rfl
  generalize chD c = Y at *
  have e1 : gLc (iF (fVar 0)) (hTup 2 (hCons (hName 1) (hCons (hName 2) hNil))) tYesF (f2 vAdd (fVar 1) (f2 vMul (fn bStr (aCons (fVar 2) aNil)) (fn bInt (aCons (f2 vGt (fVar 2) (fC (.int 1))) aNil)))) [1, 2] [some (.val Y), none, none] = some ((c.map cwd).map T) := by
    rw [List.map_map]
    refine gLc_all (g := linkD) (xs := c) _ (by simp -implicitDefEqProofs (disch := omega) [hY]) (by omega) (by
      intro l hl
      obtain ⟨h1, h2⟩ := h l hl
      refine ⟨_, rfl, rfl, ?_⟩
      have b1 := bStr_n l.2 (by omega)
      have hn := nmL_len l.2 h2
      show f2 vAdd _ _ [some (.val Y), some (.val (T l.1)), some (.val (.int (l.2 : Nat)))] = some (T (cwd l))
      by_cases hk : 1 < l.2
      · have b2 := repS_int (nmL l.2) 1 (.inr rfl) (by omega)
        have b3 := vAdd_S (a := l.1) (b := nmL l.2) (by omega)
        rw [if_pos rfl] at b2
        have hk' : (1 : Int) < (l.2 : Nat) := by omega
        have b4 : bInt [.bool true] = some (.int 1) := rfl
        unfold cwd
        rw [if_pos hk]
        simp -implicitDefEqProofs (disch := omega) [b1, hk', b4, b2, b3]
      · have b2 := repS_int (nmL l.2) 0 (.inl rfl) (by omega)
        have b3 := vAdd_S (a := l.1) (b := []) (by simp; omega)
        rw [if_neg (by omega)] at b2
        have hk' : ¬ (1 : Int) < (l.2 : Nat) := by omega
        have b4 : bInt [.bool false] = some (.int 0) := rfl
        rw [List.append_nil] at b3
        unfold cwd
        rw [if_neg hk]
        simp -implicitDefEqProofs (disch := omega) [b1, hk', b4, b2, b3])
  have e4 := mJoin_sp (c.map cwd) (by have := cws_len h hl; omega)
  unfold G_chain_text
  refine ret_of ?_
  rw [fM_ev, aCons_ev, fOfF_ev, lit_sp]
  refine Eq.trans (congrArg (fun z : Option (List D) => Option.bind (some (PyData.str (S [32]))) fun x => Option.bind (Option.bind (z.map PyData.list) fun x => Option.bind (some []) fun r => some (x :: r)) fun y => mJoin x y) e1) ?_
  generalize (c.map cwd).map T = Z at *
  simp -implicitDefEqProofs (disch := omega) [e4]
/-! equal things of one kind -/
def Faith {α : Type} [DecidableEq α] (f : α → D) : Prop := ∀ a b, PyData.eqv (f a) (f b) = decide (a = b)
theorem faith_all {α : Type} [DecidableEq α] {f : α → D} (h : Faith f) : ∀ l m : List α, PyData.eqvAll (l.map f) (m.map f) = decide (l = m)
  | [], [] => by simp [PyData.eqvAll]
  | [], _ :: _ => by simp [PyData.eqvAll]
  | _ :: _, [] => by simp [PyData.eqvAll]
  | a :: l, b :: m => by
    show PyData.eqvAll (f a :: l.map f) (f b :: m.map f) = _
    rw [PyData.eqvAll, h a b, faith_all h l m, Bool.eq_iff_iff]
    simp
theorem faith_T : Faith T := eqv_T
theorem faith_pad : Faith padD := fun a b => by
  show PyData.eqv (.tuple [T [a.1], T a.2]) (.tuple [T [b.1], T b.2]) = _
  rw [PyData.eqv, PyData.eqvAll, PyData.eqvAll, PyData.eqvAll, eqv_T, eqv_T, Bool.eq_iff_iff]
  simp [Prod.ext_iff]
theorem faith_link : Faith linkD := fun a b => by
  show PyData.eqv (.tuple [T a.1, .int (a.2 : Nat)]) (.tuple [T b.1, .int (b.2 : Nat)]) = _
  rw [PyData.eqv, PyData.eqvAll, PyData.eqvAll, PyData.eqvAll, eqv_T, PyData.eqv, Bool.eq_iff_iff]
  simp [Prod.ext_iff]
  omega
theorem eqv_ch (a b : Ch) : PyData.eqv (chD a) (chD b) = decide (a = b) := by
  rw [PyData.eqv, faith_all faith_link]
theorem eqv_pat (s g s' g' : Nat) (p p' : Pds) : PyData.eqv (patD s g p) (patD s' g' p') = decide (s = s' ∧ g = g' ∧ p = p') := by
  rw [PyData.eqv, PyData.eqvAll, PyData.eqvAll, PyData.eqvAll, PyData.eqvAll, PyData.eqv, PyData.eqv, PyData.eqv, faith_all faith_pad, Bool.eq_iff_iff]
  simp
  constructor
  · rintro ⟨h1, h2, h3⟩
    exact ⟨by omega, by omega, h3⟩
  · rintro ⟨h1, h2, h3⟩
    exact ⟨by omega, by omega, h3⟩
theorem shaped_ch {c : Ch} (h : ∀ l ∈ c, Sg l.1) : SeqAt.shaped (chD c) = true := by
  refine shaped_tup (canAll_map fun l hl => ?_) ?_
  · have h1 := sg_lay (h l hl)
    simp [linkD, PyData.canLay0, PyData.canLayAll0, h1]
  · have := depthAll_map (f := linkD) (l := c) (n := 3) fun l _ => by simp [linkD, PyData.depth, PyData.depthAll]
    omega
theorem vEq_of {a b : D} (ha : SeqAt.shaped a = true) (hb : SeqAt.shaped b = true) {r : Bool} (h : PyData.eqv a b = r) (hn : ∀ i j, ¬ (a = .int i ∧ b = .int j)) (hn2 : ∀ i j, ¬ (a = .str i ∧ b = .str j)) : vEq a b = some (.bool r) := by
  unfold vEq vEqB
  split
  · exact absurd ⟨rfl, rfl⟩ (hn _ _)
  · exact absurd ⟨rfl, rfl⟩ (hn2 _ _)
  · rw [if_pos ⟨ha, hb⟩, h]
    rfl
theorem vNe_of {a b : D} (ha : SeqAt.shaped a = true) (hb : SeqAt.shaped b = true) {r : Bool} (h : PyData.eqv a b = r) (hn : ∀ i j, ¬ (a = .int i ∧ b = .int j)) (hn2 : ∀ i j, ¬ (a = .str i ∧ b = .str j)) : vNe a b = some (.bool !r) := by
  have := vEq_of ha hb h hn hn2
  unfold vEq at this
  unfold vNe
  cases e : vEqB a b with
  | none => rw [e] at this; cases this
  | some x =>
    rw [e] at this
    simp at this
    subst this
    rfl
end PM
namespace PM
open PySem PySem.Spec PyProof.Rows L2 PV WS
theorem vLe_d (i j : Int) : vLe (.int i) (.int j) = some (.bool (decide (i ≤ j))) := by
  show some (PyData.bool (!decide (j < i))) = _
  by_cases h : j < i
  · rw [decide_eq_true h, decide_eq_false (by omega)]; rfl
  · rw [decide_eq_false h, decide_eq_true (by omega)]; rfl
theorem fAnd_of {fa fb : Rho → Option D} {ρ : Rho} {a b : Bool} (h1 : fa ρ = some (.bool a)) (h2 : a = true → fb ρ = some (.bool b)) : fAnd fa fb ρ = some (.bool (a && b)) := by
  rw [fAnd_ev, h1, Option.bind_some, andK_b]
  cases a with
  | true => rw [if_pos rfl, h2 rfl]; rfl
  | false => rfl
theorem chain_i {fa fb fc : Rho → Option D} {ρ : Rho} {a b c : Int} (h1 : fa ρ = some (.int a)) (h2 : fb ρ = some (.int b)) (h3 : fc ρ = some (.int c)) : fChain vLe vLe fa fb fc ρ = some (.bool (decide (a ≤ b ∧ b ≤ c))) := by
  rw [fChain_ev, h1, h2, h3]
  simp only [Option.bind_some, vLe_d, chK_b]
  by_cases h : a ≤ b
  · simp [h]
  · simp [h]
theorem is_whole_ok (a lo hi : Int) : F_is_whole [.int a, .int lo, .int hi] = some (.bool (decide (lo ≤ a ∧ a ≤ hi))) := by
  refine run_of (ρ := [some (.val (.int a)), some (.val (.int lo)), some (.val (.int hi))]) rfl ?_
  unfold G_is_whole
  refine ret_of ?_
  rw [fAnd_of (a := true) (b := decide (lo ≤ a ∧ a ≤ hi)) rfl fun _ => fAnd_of (a := true) rfl fun _ => chain_i rfl rfl rfl]
  simp
/-- signs of a text, all among some -/
theorem among_ok {i : Nat} {lit : Str} {L : List Nat} (hL : lit = S L) {ρ : Rho} {r : List Nat} (h : fVar i ρ = some (T r)) (j : Nat) (hj : j < ρ.length) (hl : r.length ≤ 16777216) :
    fn bAll (aCons (fOfF (gLc (iF (fVar i)) (hName j) tYesF (f2 vIn (fVar j) (fC (.str lit))) [j])) aNil) ρ = some (.bool (r.all fun c => decide (c ∈ L))) := by
  have e := gLc_all (fi := iF (fVar i)) (h := hName j) (ft := tYesF) (fe := f2 vIn (fVar j) (fC (.str lit))) (vs := [j]) (ρ := ρ) (g := fun c => T [c]) (xs := r) (fun c => .bool (decide (c ∈ L))) (by rw [iF_ev, h, Option.bind_some, items_S]) hl (by
    intro c _
    refine ⟨_, rfl, rfl, ?_⟩
    have e1 : fVar j ((wipeR ρ [j]).set j (some (.val (T [c])))) = some (T [c]) := by
      rw [fVar_ev, List.getElem?_set_self (by rw [wipeR_len]; exact hj)]
      rfl
    rw [f2_ev, e1, fC_ev, hL]
    exact vIn_sign c L)
  rw [fn_ev, aCons_ev, fOfF_ev, e]
  exact bAll_map _ r
abbrev mkL : List Nat := [46, 120, 88]
def rowB (r : List Nat) : Bool := decide (1 ≤ r.length ∧ r.length ≤ 16) && r.all fun c => decide (c ∈ mkL)
theorem is_row_ok (r : List Nat) (hl : r.length ≤ 1000000) : F_is_row [T r] = some (.bool (rowB r)) := by
  refine run_of (ρ := [some (.val (T r)), none]) rfl ?_
  unfold G_is_row
  have c1 : fChain vLe vLe (fC (.int 1)) (fn bLen (aCons (fVar 0) aNil)) (fC (.int 16)) [some (.val (T r)), none] = some (.bool (decide ((1 : Int) ≤ (r.length : Nat) ∧ ((r.length : Nat) : Int) ≤ 16))) := chain_i rfl (by
    show bLen [T r] = _
    exact bLen_S (by omega)) rfl
  have c2 : decide ((1 : Int) ≤ (r.length : Nat) ∧ ((r.length : Nat) : Int) ≤ 16) = decide (1 ≤ r.length ∧ r.length ≤ 16) := by
    rw [decide_eq_decide]; omega
  rw [c2] at c1
  unfold rowB
  by_cases h : 1 ≤ r.length ∧ r.length ≤ 16
  · rw [decide_eq_true h] at c1 ⊢
    refine Eq.trans (seq_nx (g := S_is_row_0) (if_no ?_)) ?_
    · have c0 : tB1 (f1 (vIsi "str") (fVar 0)) [some (.val (T r)), none] = some true := rfl
      rw [tOr1_ev, tNot1_ev, c0, tNot1_ev, tB1_ev, c1]
      rfl
    · refine ret_of ?_
      exact among_ok lit_3 rfl 1 (by simp) (by omega)
  · rw [decide_eq_false h] at c1 ⊢
    refine seq_rt ?_
    unfold S_is_row_0
    have c0 : tB1 (f1 (vIsi "str") (fVar 0)) [some (.val (T r)), none] = some true := rfl
    rw [sIf_ev, tOr1_ev, tNot1_ev, c0, tNot1_ev, tB1_ev, c1]
    rfl
def padB (s : Int) (p : List Nat × List Nat) : Bool := decide (p.1.length = 1) && (p.1.all (fun c => decide (c ∈ abcL)) && (rowB p.2 && decide ((p.2.length : Int) = s)))
def wpD (p : List Nat × List Nat) : D := .tuple [T p.1, T p.2]
theorem is_pad_ok (p : List Nat × List Nat) (s : Int) (h1 : p.1.length ≤ 1000000) (h2 : p.2.length ≤ 1000000) : F_is_pad [wpD p, .int s] = some (.bool (padB s p)) := by
  refine run_of (ρ := [some (.val (wpD p)), some (.val (.int s))]) rfl ?_
  unfold G_is_pad padB
  have i0 : vIx (wpD p) (.int 0) = some (T p.1) := vIx_p0 _ _
  have i1 : vIx (wpD p) (.int 1) = some (T p.2) := vIx_p1 _ _
  have l0 : bLen [T p.1] = some (.int (p.1.length : Nat)) := bLen_S (by omega)
  have l1 : bLen [T p.2] = some (.int (p.2.length : Nat)) := bLen_S (by omega)
  have l2 : bLen [wpD p] = some (.int 2) := rfl
  have y0 : vIsi "tuple" (wpD p) = some (.bool true) := rfl
  have y1 : vIsi "str" (T p.1) = some (.bool true) := rfl
  have er := is_row_ok p.2 h2
  by_cases h : p.1.length = 1
  · rw [decide_eq_true h]
    obtain ⟨c, hc⟩ := List.length_eq_one_iff.mp h
    refine Eq.trans (seq_nx (g := S_is_pad_0) (if_no ?_)) ?_
    · generalize wpD p = P at *
      simp -implicitDefEqProofs (disch := omega) [y0, l2, i0, y1, l0, h]
    · refine ret_of ?_
      have a1 : vIn (T p.1) (.str (Str.ofString "abcdefghijklmnopqrstuvwxyz")) = some (.bool (p.1.all fun c => decide (c ∈ abcL))) := by
        rw [hc, lit_abc, vIn_sign]
        simp
      generalize wpD p = P at *
      refine fAnd_of (a := p.1.all fun c => decide (c ∈ abcL)) (by
        rw [f2_ev, f2_ev]
        show ((vIx P (.int 0)).bind fun x => vIn x _) = _
        rw [i0]
        exact a1) fun _ => fAnd_of (a := rowB p.2) (by
          show (((vIx P (.int 1)).bind fun x => some [x]).bind F_is_row) = _
          rw [i1]
          exact er) fun _ => by
          show ((((vIx P (.int 1)).bind fun x => some [x]).bind bLen).bind fun x => vEq x (.int s)) = _
          rw [i1]
          show ((bLen [T p.2]).bind fun x => vEq x (.int s)) = _
          rw [l1]
          rfl
  · rw [decide_eq_false h]
    refine seq_rt ?_
    unfold S_is_pad_0
    generalize wpD p = P at *
    have h' : ¬ ((p.1.length : Nat) : Int) = 1 := by omega
    simp -implicitDefEqProofs (disch := omega) [y0, l2, i0, y1, l0, h']
def risB (ls : List (List Nat)) : Bool := (ls.dropLast.zip (ls.drop 1)).all fun p => decide (p.1 < p.2)
theorem cut_butl (a : List D) : vSl (.list a) none (some (-1)) = some (.list a.dropLast) := congrArg (fun x => some (PyData.list x)) (cut_but a)
theorem rises_ok (ls : List (List Nat)) (hl : ls.length ≤ 1000000) : F_rises [.list (ls.map T)] = some (.bool (risB ls)) := by
  refine run_of (ρ := [some (.val (.list (ls.map T))), none, none]) rfl ?_
  have h1 : fSl (fVar 0) pNo (pSome (f1 vNeg (fC (.int 1)))) [some (.val (.list (ls.map T))), none, none] = some (.list (ls.dropLast.map T)) := by
    have h := cut_butl (ls.map T)
    rw [← List.map_dropLast] at h
    exact h
  have h2 : fSl (fVar 0) (pSome (fC (.int 1))) pNo [some (.val (.list (ls.map T))), none, none] = some (.list ((ls.drop 1).map T)) := by
    have h := vSl_lfrom (a := ls.map T) (i := 1) (by omega)
    rw [show (1 : Int).toNat = 1 from rfl, ← List.map_drop] at h
    exact h
  have hz : iZip2 (fSl (fVar 0) pNo (pSome (f1 vNeg (fC (.int 1))))) (fSl (fVar 0) (pSome (fC (.int 1))) pNo) [some (.val (.list (ls.map T))), none, none] = some ((ls.dropLast.zip (ls.drop 1)).map fun p => .tuple [T p.1, T p.2]) := by
    unfold iZip2
    rw [h1, h2]
    show some (zipD (ls.dropLast.map T) ((ls.drop 1).map T)) = _
    rw [zipD_map]
  have e := gLc_all (h := hTup 2 (hCons (hName 1) (hCons (hName 2) hNil))) (ft := tYesF) (fe := f2 vLt (fVar 1) (fVar 2)) (vs := [1, 2]) (fun p : List Nat × List Nat => .bool (decide (p.1 < p.2))) hz (by rw [List.length_zip]; simp; omega) (by
    intro p _
    refine ⟨_, rfl, rfl, ?_⟩
    exact vLt_S p.1 p.2)
  unfold G_rises
  refine ret_of ?_
  rw [fn_ev, aCons_ev, fOfF_ev, e]
  exact bAll_map _ _
def patB (a b : Int) (l : List (List Nat × List Nat)) : Bool := decide (1 ≤ a ∧ a ≤ 16) && (decide (1 ≤ b ∧ b ≤ 4) && (decide (l.length ≤ 5) && (l.all (padB a) && risB (l.map (·.1)))))
theorem is_pattern_ok (a b : Int) (l : List (List Nat × List Nat)) (hl : l.length ≤ 1000000) (h : ∀ p ∈ l, p.1.length ≤ 1000000 ∧ p.2.length ≤ 1000000) : F_is_pattern [.tuple [.int a, .int b, .tuple (l.map wpD)]] = some (.bool (patB a b l)) := by
  refine run_of (ρ := [some (.val (.tuple [.int a, .int b, .tuple (l.map wpD)])), none]) rfl ?_
  have i0 : vIx (.tuple [.int a, .int b, .tuple (l.map wpD)]) (.int 0) = some (.int a) := vIx_3a _ _ _
  have i1 : vIx (.tuple [.int a, .int b, .tuple (l.map wpD)]) (.int 1) = some (.int b) := vIx_3b _ _ _
  have i2 : vIx (.tuple [.int a, .int b, .tuple (l.map wpD)]) (.int 2) = some (.tuple (l.map wpD)) := vIx_3c _ _ _
  have y0 : vIsi "tuple" (.tuple [.int a, .int b, .tuple (l.map wpD)]) = some (.bool true) := rfl
  have y2 : vIsi "tuple" (.tuple (l.map wpD)) = some (.bool true) := rfl
  have l0 : bLen [.tuple [.int a, .int b, .tuple (l.map wpD)]] = some (.int 3) := rfl
  have l2 : bLen [.tuple (l.map wpD)] = some (.int (l.length : Nat)) := by
    show some (PyData.int ((l.map wpD).length : Nat)) = _
    rw [List.length_map]
  have w0 := is_whole_ok a 1 16
  have w1 := is_whole_ok b 1 4
  have it : itemsD (.tuple (l.map wpD)) = some (l.map wpD) := rfl
  unfold G_is_pattern patB
  generalize PyData.tuple [.int a, .int b, .tuple (l.map wpD)] = P at *
  by_cases h1 : 1 ≤ a ∧ a ≤ 16
  · rw [decide_eq_true h1] at w0 ⊢
    refine Eq.trans (seq_nx (g := S_is_pattern_0) (if_no ?_)) ?_
    · simp -implicitDefEqProofs (disch := omega) [y0, l0, i0, w0]
    · by_cases h2 : 1 ≤ b ∧ b ≤ 4
      · rw [decide_eq_true h2] at w1 ⊢
        by_cases h3 : l.length ≤ 5
        · rw [decide_eq_true h3]
          refine Eq.trans (seq_nx (g := S_is_pattern_1) (if_no ?_)) ?_
          · generalize PyData.tuple (l.map wpD) = Y at *
            have h3' : ¬ (5 : Int) < (l.length : Nat) := by omega
            simp -implicitDefEqProofs (disch := omega) [i1, w1, i2, y2, l2, h3']
          · refine ret_of ?_
            have e1 := gLc_all (fi := iF (f2 vIx (fVar 0) (fC (.int 2)))) (h := hName 1) (ft := tYesF) (fe := fn F_is_pad (aCons (fVar 1) (aCons (f2 vIx (fVar 0) (fC (.int 0))) aNil))) (vs := [1]) (ρ := [some (.val P), none]) (g := wpD) (xs := l) (fun p => .bool (padB a p)) (by
              show ((vIx P (.int 2))).bind itemsD = _
              rw [i2]
              exact it) (by omega) (by
              intro p hp
              refine ⟨_, rfl, rfl, ?_⟩
              obtain ⟨p1, p2⟩ := h p hp
              have ep := is_pad_ok p a p1 p2
              show fn F_is_pad _ [some (.val P), some (.val (wpD p))] = _
              generalize wpD p = W at *
              simp -implicitDefEqProofs (disch := omega) [i0, ep])
            have e2 := gLc_all (fi := iF (f2 vIx (fVar 0) (fC (.int 2)))) (h := hName 1) (ft := tYesF) (fe := f2 vIx (fVar 1) (fC (.int 0))) (vs := [1]) (ρ := [some (.val P), none]) (g := wpD) (xs := l) (fun p => T p.1) (by
              show ((vIx P (.int 2))).bind itemsD = _
              rw [i2]
              exact it) (by omega) (by
              intro p hp
              exact ⟨_, rfl, rfl, vIx_p0 _ _⟩)
            have er := rises_ok (l.map (·.1)) (by simp; omega)
            rw [List.map_map] at er
            refine Eq.trans (fAnd_of (a := l.all (padB a)) (b := risB (l.map (·.1))) ?_ fun _ => ?_) ?_
            · rw [fn_ev, aCons_ev, fOfF_ev, e1]
              exact bAll_map _ _
            · rw [fn_ev, aCons_ev, fOfF_ev, e2]
              exact er
            · rfl
        · rw [decide_eq_false h3]
          refine seq_rt ?_
          unfold S_is_pattern_1
          generalize PyData.tuple (l.map wpD) = Y at *
          have h3' : (5 : Int) < (l.length : Nat) := by omega
          simp -implicitDefEqProofs (disch := omega) [i1, w1, i2, y2, l2, h3']
      · rw [decide_eq_false h2] at w1 ⊢
        refine seq_rt ?_
        unfold S_is_pattern_1
        simp -implicitDefEqProofs (disch := omega) [i1, w1]
  · rw [decide_eq_false h1] at w0 ⊢
    refine seq_rt ?_
    unfold S_is_pattern_0
    simp -implicitDefEqProofs (disch := omega) [y0, l0, i0, w0]
/-! numbers read -/
theorem number_of_ok (n : Nat) (hn : n < 100) : F_number_of [T (nmL n)] = some (.int (n : Nat)) := by
  refine run_of (ρ := [some (.val (T (nmL n))), none]) rfl ?_
  have h1 : (nmL n).length ≤ 2 := TL.numL_len (by decide) hn
  have h0 : 1 ≤ (nmL n).length := by
    have := nmL_ne n
    have := List.length_pos_iff.mpr this
    omega
  have hb := bInt_n n (by omega)
  have hl : bLen [T (nmL n)] = some (.int ((nmL n).length : Nat)) := bLen_S (by omega)
  have ha := among_ok lit_figs (ρ := [some (.val (T (nmL n))), none]) (i := 0) rfl 1 (by simp) (by omega)
  have hall : ((nmL n).all fun c => decide (c ∈ figL)) = true := by
    rw [List.all_eq_true]
    intro c hc
    exact decide_eq_true (nmL_fig hc)
  rw [hall] at ha
  have hc := chain_i (fa := fC (.int 1)) (fb := fn bLen (aCons (fVar 0) aNil)) (fc := fC (.int 2)) (ρ := [some (.val (T (nmL n))), none]) rfl hl rfl
  rw [decide_eq_true (by omega)] at hc
  unfold G_number_of
  refine Eq.trans (seq_nx (g := S_number_of_0) (if_no ?_)) ?_
  · rw [tOr1_ev, tNot1_ev, tB1_ev, hc, tNot1_ev, tB1_ev, ha]
    rfl
  · refine ret_of ?_
    exact hb
end PM
namespace PM
open PySem PySem.Spec PyProof.Rows L2 PV WS
/-! chains, told -/
def lkB (bk : Bk) (p : List Nat × Int) : Bool := decide (p.1 ∈ bk.map (·.1)) && decide (1 ≤ p.2 ∧ p.2 ≤ 9)
def wlD (p : List Nat × Int) : D := .tuple [T p.1, .int p.2]
def chB (bk : Bk) (l : List (List Nat × Int)) : Bool := decide (1 ≤ l.length ∧ l.length ≤ 8) && l.all (lkB bk)
theorem notin_bk (bk : Bk) (nm : List Nat) : vNotIn (T nm) (dictB bk) = some (.bool (!decide (nm ∈ bk.map (·.1)))) := by
  show some (PyData.bool (!((bk.map fun e => (T e.1, ptD e.2)).any fun kv => PyData.eqv kv.1 (T nm)))) = _
  have : ((bk.map fun e => (T e.1, ptD e.2)).any fun kv => PyData.eqv kv.1 (T nm)) = decide (nm ∈ bk.map (·.1)) := by
    rw [Bool.eq_iff_iff, List.any_eq_true, decide_eq_true_eq]
    constructor
    · rintro ⟨kv, hkv, e⟩
      obtain ⟨x, hx, rfl⟩ := List.mem_map.mp hkv
      have e' : PyData.eqv (T x.1) (T nm) = true := e
      rw [eqv_T, decide_eq_true_eq] at e'
      exact List.mem_map.mpr ⟨x, hx, e'⟩
    · intro h
      obtain ⟨x, hx, e⟩ := List.mem_map.mp h
      exact ⟨(T x.1, ptD x.2), List.mem_map.mpr ⟨x, hx, rfl⟩, by
        show PyData.eqv (T x.1) (T nm) = true
        rw [eqv_T, e]; simp⟩
  rw [this]
theorem is_chain_ok (W : D) (bk : Bk) (nd : (bk.map (·.1)).Nodup) (l : List (List Nat × Int)) : F_is_chain [.tuple [W, .tuple (bk.map entD)], .tuple (l.map wlD)] = some (.bool (chB bk l)) := by
  refine run_of (ρ := [some (.val (.tuple [W, .tuple (bk.map entD)])), some (.val (.tuple (l.map wlD))), none]) rfl ?_
  have hb := bDict_bk nd
  have i1 : vIx (.tuple [W, .tuple (bk.map entD)]) (.int 1) = some (.tuple (bk.map entD)) := vIx_p1 _ _
  have hn := notin_bk bk
  have l2 : bLen [.tuple (l.map wlD)] = some (.int (l.length : Nat)) := by
    show some (PyData.int ((l.map wlD).length : Nat)) = _
    rw [List.length_map]
  have y0 : vIsi "tuple" (.tuple (l.map wlD)) = some (.bool true) := rfl
  have it : itemsD (.tuple (l.map wlD)) = some (l.map wlD) := rfl
  unfold G_is_chain chB
  generalize dictB bk = dd at *
  generalize PyData.tuple [W, .tuple (bk.map entD)] = B at *
  generalize PyData.tuple (bk.map entD) = B1 at *
  generalize PyData.tuple (l.map wlD) = Y at *
  have hc := chain_i (fa := fC (.int 1)) (fb := fn bLen (aCons (fVar 1) aNil)) (fc := fC (.int 8)) (ρ := [some (.val B), some (.val Y), none]) (b := (l.length : Nat)) rfl (by simp -implicitDefEqProofs (disch := omega) [l2]) rfl
  have hc2 : decide ((1 : Int) ≤ (l.length : Nat) ∧ ((l.length : Nat) : Int) ≤ 8) = decide (1 ≤ l.length ∧ l.length ≤ 8) := by
    rw [decide_eq_decide]; omega
  rw [hc2] at hc
  have c0 : tB1 (f1 (vIsi "tuple") (fVar 1)) [some (.val B), some (.val Y), none] = some true := by simp -implicitDefEqProofs (disch := omega) [y0]
  by_cases h : 1 ≤ l.length ∧ l.length ≤ 8
  · rw [decide_eq_true h] at hc ⊢
    refine Eq.trans (seq_nx (g := S_is_chain_0) (if_no (by
      rw [tOr1_ev, tNot1_ev, c0, tNot1_ev, tB1_ev, hc]
      rfl))) ?_
    have key := forF_find (b := (sSeq (sIf (tOr1 (tNot1 (tB1 (f1 (vIsi "tuple") (fVar 2)))) (tOr1 (tB1 (f2 vNe (fn bLen (aCons (fVar 2) aNil)) (fC (.int 2)))) (tNot1 (tB1 (f1 (vIsi "str") (f2 vIx (fVar 2) (fC (.int 0)))))))) (sRet (fC (.bool false))) sNext)
    (sIf (tOr1 (tB1 (f2 vNotIn (f2 vIx (fVar 2) (fC (.int 0))) (fn bDict (aCons (f2 vIx (fVar 0) (fC (.int 1))) aNil)))) (tNot1 (tB1 (fn F_is_whole (aCons (f2 vIx (fVar 2) (fC (.int 1))) (aCons (fC (.int 1)) (aCons (fC (.int 9)) aNil))))))) (sRet (fC (.bool false))) sNext))) (h := hName 2) (g := wlD) (fun p => !lkB bk p) (fun _ => .bool false) (fun ρ => ∃ a, ρ = [some (.val B), some (.val Y), a]) l [some (.val B), some (.val Y), none] ⟨none, rfl⟩ (by
      rintro p hp ρ ⟨a, rfl⟩
      refine ⟨[some (.val B), some (.val Y), some (.val (wlD p))], rfl, ?_⟩
      have j0 : vIx (wlD p) (.int 0) = some (T p.1) := vIx_p0 _ _
      have j1 : vIx (wlD p) (.int 1) = some (.int p.2) := vIx_p1 _ _
      have k0 : vIsi "tuple" (wlD p) = some (.bool true) := rfl
      have k1 : vIsi "str" (T p.1) = some (.bool true) := rfl
      have k2 : bLen [wlD p] = some (.int 2) := rfl
      have w := is_whole_ok p.2 1 9
      have n := hn p.1
      have first : sIf (tOr1 (tNot1 (tB1 (f1 (vIsi "tuple") (fVar 2)))) (tOr1 (tB1 (f2 vNe (fn bLen (aCons (fVar 2) aNil)) (fC (.int 2)))) (tNot1 (tB1 (f1 (vIsi "str") (f2 vIx (fVar 2) (fC (.int 0)))))))) (sRet (fC (.bool false))) sNext [some (.val B), some (.val Y), some (.val (wlD p))] = some (.nx [some (.val B), some (.val Y), some (.val (wlD p))]) := if_no (by
        generalize wlD p = P at *
        simp -implicitDefEqProofs (disch := omega) [k0, k2, j0, k1])
      have hd : ∀ r, (fn bDict (aCons (f2 vIx (fVar 0) (fC (.int 1))) aNil)) [some (.val B), some (.val Y), r] = some dd := fun r => by simp -implicitDefEqProofs (disch := omega) [i1, hb]
      have a1 : tB1 (f2 vNotIn (f2 vIx (fVar 2) (fC (.int 0))) (fn bDict (aCons (f2 vIx (fVar 0) (fC (.int 1))) aNil))) [some (.val B), some (.val Y), some (.val (wlD p))] = some (!decide (p.1 ∈ bk.map (·.1))) := by
        rw [tB1_ev, f2_ev, hd]
        show ((vIx (wlD p) (.int 0)).bind fun x => (some dd).bind fun y => vNotIn x y).bind boolK = _
        rw [j0, Option.bind_some, Option.bind_some, n]
        rfl
      have a2 : tNot1 (tB1 (fn F_is_whole (aCons (f2 vIx (fVar 2) (fC (.int 1))) (aCons (fC (.int 1)) (aCons (fC (.int 9)) aNil))))) [some (.val B), some (.val Y), some (.val (wlD p))] = some (!decide (1 ≤ p.2 ∧ p.2 ≤ 9)) := by
        generalize wlD p = P at *
        simp -implicitDefEqProofs (disch := omega) only [tNot1_ev, tB1_ev, fn_ev, aCons_ev, aNil_ev, f2_ev, fVar_ev, fC_ev, nth_0, nth_s, getV_v, Option.bind_some, j1, w, boolK_b]
      have e2 : (tOr1 (tB1 (f2 vNotIn (f2 vIx (fVar 2) (fC (.int 0))) (fn bDict (aCons (f2 vIx (fVar 0) (fC (.int 1))) aNil)))) (tNot1 (tB1 (fn F_is_whole (aCons (f2 vIx (fVar 2) (fC (.int 1))) (aCons (fC (.int 1)) (aCons (fC (.int 9)) aNil))))))) [some (.val B), some (.val Y), some (.val (wlD p))] = some (!lkB bk p) := by
        rw [tOr1_ev, a1, a2]
        unfold lkB
        cases decide (p.1 ∈ bk.map (·.1)) <;> rfl
      rw [seq_nx first, sIf_ev, e2]
      constructor
      · intro ht
        rw [ht]
        rfl
      · intro hf
        rw [hf]
        exact ⟨_, rfl, _, rfl⟩)
    have hall : l.all (lkB bk) = (l.find? fun p => !lkB bk p).isNone := by
      rw [Bool.eq_iff_iff, Option.isNone_iff_eq_none, List.find?_eq_none, List.all_eq_true]
      constructor
      · intro h p hp; rw [h p hp]; simp
      · intro h p hp; have := h p hp; simpa using this
    cases hf : l.find? fun p => !lkB bk p with
    | some x =>
      rw [hf] at key hall
      refine Eq.trans (seq_rt (d := .bool false) ?_) ?_
      · unfold S_is_chain_1
        rw [sFor_ev, iF_ev]
        show ((itemsD Y)).bind _ = _
        rw [it]
        exact key
      · rw [hall]
        rfl
    | none =>
      rw [hf] at key hall
      obtain ⟨ρ', e, a, rfl⟩ := key
      refine Eq.trans (seq_nx (g := S_is_chain_1) (ρ1 := [some (.val B), some (.val Y), a]) ?_) ?_
      · unfold S_is_chain_1
        rw [sFor_ev, iF_ev]
        show ((itemsD Y)).bind _ = _
        rw [it]
        exact e
      · rw [hall]
        rfl
  · rw [decide_eq_false h] at hc ⊢
    refine seq_rt ?_
    unfold S_is_chain_0
    rw [sIf_ev, tOr1_ev, tNot1_ev, c0, tNot1_ev, tB1_ev, hc]
    rfl
/-! a word of a chain -/
theorem sIx_m1 {n d : Nat} : HT.sIx n d (some (-1)) = n - 1 := by
  unfold HT.sIx
  simp
  omega
theorem vSl_last {a : List Nat} (hl : a.length ≤ 16777216) : vSl (.str (S a)) (some (-1)) none = some (T (a.drop (a.length - 1))) := by
  show (if (S a).length ≤ 16777216 then _ else _) = _
  rw [S_len, if_pos hl]
  unfold cutS
  rw [S_len, S_list, sIx_m1]
  unfold HT.sIx
  rw [List.take_of_length_le (by simp)]
  rfl
theorem vSl_butl {a : List Nat} (hl : a.length ≤ 16777216) : vSl (.str (S a)) none (some (-1)) = some (T a.dropLast) := by
  show (if (S a).length ≤ 16777216 then _ else _) = _
  rw [S_len, if_pos hl]
  unfold cutS
  rw [S_len, S_list, sIx_m1]
  have : HT.sIx a.length 0 none = 0 := rfl
  rw [this, Nat.sub_zero, List.drop_zero, List.dropLast_eq_take]
  rfl
theorem ixN_m1 {n : Nat} (h : 0 < n) : ixN n (-1) = some (n - 1) := by
  unfold ixN
  have e1 : ¬ ((0 : Int) ≤ -1) := by omega
  simp
  omega
theorem vIx_last {a : List Nat} (hl : a.length ≤ 16777216) (h : a ≠ []) : vIx (.str (S a)) (.int (-1)) = some (T [a.getLast h]) := by
  have hp : 0 < a.length := List.length_pos_iff.mpr h
  show (if (S a).length ≤ 16777216 then (atI (S a).cps.toList (-1)).map _ else _) = _
  rw [S_len, if_pos hl, S_list]
  unfold atI
  rw [ixN_m1 hp]
  show ((a[a.length - 1]?).map _) = _
  rw [List.getElem?_eq_getElem (by omega), Option.map_some, List.getLast_eq_getElem]
  rfl
theorem drop_last {a : List Nat} (h : a ≠ []) : a.drop (a.length - 1) = [a.getLast h] := by
  have hp : 0 < a.length := List.length_pos_iff.mpr h
  rw [List.drop_eq_getElem_cons (by omega), List.getLast_eq_getElem]
  rw [List.drop_eq_nil_of_le (by omega)]
def lkOf (w : List Nat) : List Nat × Int := match w.getLast? with
  | some c => if c ∈ figL then (w.dropLast, (c : Int) - 48) else (w, 1)
  | none => (w, 1)
theorem bInt_fig {c : Nat} (h : c ∈ figL) : bInt [T [c]] = some (.int ((c : Int) - 48)) := by
  have h2 : 48 ≤ c ∧ c ≤ 57 := by
    simp only [figL, List.mem_cons, List.not_mem_nil, or_false] at h
    omega
  have := bInt_n (c - 48) (by omega)
  rw [nmL_small (by omega), show 48 + (c - 48) = c by omega] at this
  rw [this]
  congr 2
  omega
theorem link_of_ok (w : List Nat) (hl : w.length ≤ 1000000) : F_link_of [T w] = some (wlD (lkOf w)) := by
  refine run_of (ρ := [some (.val (T w))]) rfl ?_
  have s1 := vSl_last (a := w) (by omega)
  have s2 := vSl_butl (a := w) (by omega)
  have n1 : vNeg (.int 1) = some (.int (-1)) := rfl
  unfold G_link_of
  by_cases h : w = []
  · subst h
    refine Eq.trans (seq_nx (g := S_link_of_0) (if_no ?_)) ?_
    · have v : vNe (T []) (.str (Str.ofString "")) = some (.bool false) := by rw [lit_e, vNe_S]; rfl
      simp -implicitDefEqProofs (disch := omega) [n1, s1, v]
    · rfl
  · have i1 := vIx_last (a := w) (by omega) h
    have hg : w.getLast? = some (w.getLast h) := List.getLast?_eq_some_getLast h
    rw [drop_last h] at s1
    have v : vNe (T [w.getLast h]) (.str (Str.ofString "")) = some (.bool true) := by rw [lit_e, vNe_S]; simp
    have v2 : vIn (T [w.getLast h]) (.str (Str.ofString "0123456789")) = some (.bool (decide (w.getLast h ∈ figL))) := by rw [lit_figs]; exact vIn_sign _ _
    unfold lkOf
    rw [hg]
    generalize w.getLast h = c at *
    show sSeq _ _ _ = some (Out.rt (wlD (if c ∈ figL then (w.dropLast, (c : Int) - 48) else (w, 1))))
    by_cases hc : c ∈ figL
    · have b := bInt_fig hc
      rw [decide_eq_true hc] at v2
      rw [if_pos hc]
      refine seq_rt ?_
      unfold S_link_of_0 wlD
      simp -implicitDefEqProofs (disch := omega) [n1, s1, v, i1, v2, s2, b]
    · rw [decide_eq_false hc] at v2
      rw [if_neg hc]
      refine Eq.trans (seq_nx (g := S_link_of_0) (if_no ?_)) ?_
      · simp -implicitDefEqProofs (disch := omega) [n1, s1, v, i1, v2]
      · rfl
/-! reading back -/
structure GoodC (bk : Bk) (c : Ch) : Prop where
  len : 1 ≤ c.length ∧ c.length ≤ 8
  lk : ∀ l ∈ c, l.1 ∈ bk.map (·.1) ∧ 1 ≤ l.2 ∧ l.2 ≤ 9
  sg : ∀ l ∈ c, (∀ x ∈ l.1, x ∈ abcL) ∧ l.1.length ≤ 4
theorem abc_lt {x : Nat} (h : x ∈ abcL) : 97 ≤ x ∧ x ≤ 122 := by
  simp only [abcL, List.mem_cons, List.not_mem_nil, or_false] at h
  omega
theorem lkOf_cwd {l : List Nat × Nat} (h1 : 1 ≤ l.2 ∧ l.2 ≤ 9) (h2 : ∀ x ∈ l.1, x ∈ abcL) : lkOf (cwd l) = (l.1, (l.2 : Int)) := by
  unfold cwd lkOf
  by_cases h : 1 < l.2
  · rw [if_pos h, nmL_small (by omega), List.getLast?_append]
    have : 48 + l.2 ∈ figL := by simp only [figL, List.mem_cons, List.not_mem_nil, or_false]; omega
    simp only [List.getLast?_singleton, Option.some_or]
    rw [if_pos this, List.dropLast_concat]
    congr 1
    omega
  · rw [if_neg h]
    have e : l.2 = 1 := by omega
    cases hg : l.1.getLast? with
    | none => show (l.1, (1 : Int)) = _; rw [e]; rfl
    | some c =>
      have hc := abc_lt (h2 c (List.mem_of_getLast? hg))
      show (if c ∈ figL then _ else (l.1, (1 : Int))) = _
      rw [if_neg (by simp only [figL, List.mem_cons, List.not_mem_nil, or_false]; omega), e]
      rfl
theorem cwd_no32 {l : List Nat × Nat} (h2 : ∀ x ∈ l.1, x ∈ abcL) : 32 ∉ cwd l := by
  intro h
  unfold cwd at h
  have h3 : 32 ∈ l.1 ∨ 32 ∈ nmL l.2 := by
    split at h
    · exact List.mem_append.mp h
    · exact .inl h
  rcases h3 with h3 | h3
  · have := abc_lt (h2 _ h3); omega
  · have := nmL_fig h3
    simp [figL] at this
theorem GoodC.wl {bk : Bk} {c : Ch} (h : GoodC bk c) : (c.map fun l => lkOf (cwd l)) = c.map fun l => (l.1, (l.2 : Int)) := List.map_congr_left fun l hl => lkOf_cwd (h.lk l hl).2 (h.sg l hl).1
theorem read_chain_ok (W : D) (bk : Bk) (nd : (bk.map (·.1)).Nodup) (c : Ch) (h : GoodC bk c) : F_read_chain [.tuple [W, .tuple (bk.map entD)], T (ctext c)] = some (chD c) := by
  have hne : c.map cwd ≠ [] := by
    intro e
    have := h.len
    rw [List.map_eq_nil_iff.mp e] at this
    simp at this
  have h32 : ∀ p ∈ c.map cwd, 32 ∉ p := fun p hp => by
    obtain ⟨l, hl, rfl⟩ := List.mem_map.mp hp
    exact cwd_no32 (h.sg l hl).1
  have hok : ∀ l ∈ c, l.1.length ≤ 100 ∧ l.2 < 10000 := fun l hl => ⟨by have := (h.sg l hl).2; omega, by have := (h.lk l hl).2; omega⟩
  have es := mSplit_sp hne h32 (cws_len hok (by have := h.len; omega))
  have et := chain_text_ok c hok (by have := h.len; omega)
  have ei := is_chain_ok W bk nd (c.map fun l => (l.1, (l.2 : Int)))
  have hB : chB bk (c.map fun l => (l.1, (l.2 : Int))) = true := by
    unfold chB
    rw [List.length_map, decide_eq_true h.len, Bool.true_and, List.all_eq_true]
    intro p hp
    obtain ⟨l, hl, rfl⟩ := List.mem_map.mp hp
    obtain ⟨a, b⟩ := h.lk l hl
    unfold lkB
    rw [decide_eq_true a, decide_eq_true (by omega)]
    rfl
  rw [hB, List.map_map] at ei
  replace ei : F_is_chain [.tuple [W, .tuple (bk.map entD)], chD c] = some (.bool true) := ei
  have et2 := chain_text_ok c hok (by have := h.len; omega)
  have vn := vNe_S (ctext c) (ctext c)
  refine run_of (ρ := [some (.val (.tuple [W, .tuple (bk.map entD)])), some (.val (T (ctext c))), none, none]) rfl ?_
  have e1 : gLc (iF (fM mSplit (fVar 1) (aCons (fC (.str " ")) aNil))) (hName 3) tYesF (fn F_link_of (aCons (fVar 3) aNil)) [3] [some (.val (.tuple [W, .tuple (bk.map entD)])), some (.val (T (ctext c))), none, none] = some (c.map linkD) := by
    have e := gLc_all (fi := iF (fM mSplit (fVar 1) (aCons (fC (.str " ")) aNil))) (h := hName 3) (ft := tYesF) (fe := fn F_link_of (aCons (fVar 3) aNil)) (vs := [3]) (ρ := [some (.val (.tuple [W, .tuple (bk.map entD)])), some (.val (T (ctext c))), none, none]) (g := fun l : List Nat × Nat => T (cwd l)) (xs := c) linkD (by
      rw [iF_ev, lit_sp]
      show ((mSplit (T (ctext c)) [.str (S [32])])).bind itemsD = _
      rw [es, List.map_map]
      rfl) (by have := h.len; omega) (by
      intro l hl
      refine ⟨_, rfl, rfl, ?_⟩
      have := link_of_ok (cwd l) (by have := cwd_len (hok l hl); omega)
      rw [lkOf_cwd (h.lk l hl).2 (h.sg l hl).1] at this
      exact this)
    exact e
  unfold G_read_chain
  refine Eq.trans (seq_nx (g := S_read_chain_0) (set_nx (d := chD c) (by
    rw [fn_ev, aCons_ev, fOfF_ev, e1]
    rfl))) ?_
  generalize PyData.tuple [W, .tuple (bk.map entD)] = B at *
  generalize chD c = C at *
  refine Eq.trans (seq_nx (g := S_read_chain_1) (if_no (by
    rw [decide_eq_true rfl] at vn
    generalize ctext c = t at *
    simp -implicitDefEqProofs (disch := omega) [ei, et, vn]))) ?_
  rfl
structure GoodP (s g : Nat) (pads : Pds) : Prop where
  st : 1 ≤ s ∧ s ≤ 16
  gr : 1 ≤ g ∧ g ≤ 4
  few : pads.length ≤ 5
  key : ∀ p ∈ pads, p.1 ∈ abcL
  row : ∀ p ∈ pads, p.2.length = s ∧ ∀ c ∈ p.2, Mk c
  asc : (pads.map (·.1)).Pairwise (· < ·)
theorem Pads.good {s g : Nat} {pads : Pds} (hs : 1 ≤ s ∧ s ≤ 16) (hg : 1 ≤ g ∧ g ≤ 4) (h : Pads s keysL pads) : GoodP s g pads where
  st := hs
  gr := hg
  few := by have := h.len; simpa [keysL] using this
  key := fun p hp => by
    have := h.key hp
    unfold keysL at this
    simp only [List.mem_cons, List.not_mem_nil, or_false] at this
    simp only [abcL, List.mem_cons, List.not_mem_nil, or_false]
    omega
  row := h.row
  asc := h.asc
theorem GoodP.sub {s g : Nat} {pads pads' : Pds} (h : GoodP s g pads) (hs : pads'.Sublist pads) : GoodP s g pads' where
  st := h.st
  gr := h.gr
  few := Nat.le_trans hs.length_le h.few
  key := fun p hp => h.key p (hs.subset hp)
  row := fun p hp => h.row p (hs.subset hp)
  asc := h.asc.sublist (hs.map _)
theorem GoodP.gr' {s g g' : Nat} {pads : Pds} (h : GoodP s g pads) (hg : 1 ≤ g' ∧ g' ≤ 4) : GoodP s g' pads := ⟨h.st, hg, h.few, h.key, h.row, h.asc⟩
theorem GoodP.patB {s g : Nat} {pads : Pds} (h : GoodP s g pads) : patB s g (pads.map fun p => ([p.1], p.2)) = true := by
  unfold PM.patB
  rw [decide_eq_true (by have := h.st; omega), decide_eq_true (by have := h.gr; omega), List.length_map, decide_eq_true h.few, Bool.true_and, Bool.true_and, Bool.true_and, Bool.and_eq_true]
  constructor
  · rw [List.all_eq_true]
    intro q hq
    obtain ⟨p, hp, rfl⟩ := List.mem_map.mp hq
    obtain ⟨r1, r2⟩ := h.row p hp
    have hk := h.key p hp
    unfold padB rowB
    have h3 : (p.2.all fun c => decide (c ∈ mkL)) = true := by
      rw [List.all_eq_true]
      intro c hc
      rw [decide_eq_true_eq]
      rcases r2 c hc with rfl | rfl | rfl <;> simp [mkL]
    have h4 : ([p.1].all fun c => decide (c ∈ abcL)) = true := by
      rw [List.all_eq_true]
      intro c hc
      rw [List.mem_singleton] at hc
      subst hc
      exact decide_eq_true hk
    show (decide ([p.1].length = 1) && (([p.1].all fun c => decide (c ∈ abcL)) && ((decide (1 ≤ p.2.length ∧ p.2.length ≤ 16) && (p.2.all fun c => decide (c ∈ mkL))) && decide ((p.2.length : Int) = (s : Int))))) = true
    rw [h3, h4, decide_eq_true (by rfl), decide_eq_true (by have := h.st; omega), decide_eq_true (by omega)]
    rfl
  · unfold risB
    rw [List.all_eq_true, List.map_map]
    intro q hq
    have ha : (pads.map fun p : Nat × List Nat => [p.1]).Pairwise (fun a b => a < b) := by
      have h1 := h.asc
      rw [List.pairwise_map] at h1 ⊢
      refine h1.imp fun {a b} hlt => ?_
      show [a.1] < [b.1]
      exact List.Lex.rel hlt
    have := adj_of ha q hq
    exact decide_eq_true this
theorem pwd_no32 {s g : Nat} {pads : Pds} (h : GoodP s g pads) : ∀ w ∈ pws s g pads, 32 ∉ w := by
  intro w hw h32
  unfold pws at hw
  rcases List.mem_append.mp hw with hw | hw
  · simp only [List.mem_cons, List.not_mem_nil, or_false] at hw
    rcases hw with rfl | rfl | rfl
    · have := nmL_fig h32; simp [figL] at this
    · simp at h32
    · have := nmL_fig h32; simp [figL] at this
  · obtain ⟨p, hp, rfl⟩ := List.mem_map.mp hw
    unfold pwd at h32
    rcases List.mem_cons.mp h32 with e | h32
    · have := abc_lt (h.key p hp); omega
    · rcases List.mem_cons.mp h32 with e | h32
      · omega
      · rcases (h.row p hp).2 32 h32 with e | e | e <;> omega
theorem pws_ne (s g : Nat) (pads : Pds) : pws s g pads ≠ [] := by simp [pws]
theorem read_pattern_ok (s g : Nat) (pads : Pds) (h : GoodP s g pads) : F_read_pattern [T (ptext s g pads)] = some (patD s g pads) := by
  have hs := h.st
  have hg := h.gr
  have hr : ∀ p ∈ pads, p.2.length ≤ 1000 := fun p hp => by have := (h.row p hp).1; omega
  have es := mSplit_sp (pws_ne s g pads) (pwd_no32 h) (pws_len (by omega) (by omega) hr (by have := h.few; omega))
  replace es : mSplit (T (ptext s g pads)) [.str (S [32])] = some (.list ((pws s g pads).map T)) := es
  have et := pattern_text_ok s g pads (by omega) (by omega) hr (by have := h.few; omega)
  have ei := is_pattern_ok s g (pads.map fun p => ([p.1], p.2)) (by rw [List.length_map]; have := h.few; omega) (by
    intro q hq
    obtain ⟨p, hp, rfl⟩ := List.mem_map.mp hq
    exact ⟨by simp, by have := hr p hp; show p.2.length ≤ _; omega⟩)
  rw [h.patB, List.map_map] at ei
  replace ei : F_is_pattern [patD s g pads] = some (.bool true) := ei
  have n0 := number_of_ok s (by omega)
  have n2 := number_of_ok g (by omega)
  have vn := vNe_S (ptext s g pads) (ptext s g pads)
  rw [decide_eq_true rfl] at vn
  have hL : (pws s g pads).map T = T (nmL s) :: T [98, 121] :: T (nmL g) :: pads.map fun p => T (pwd p) := by
    unfold pws
    rw [List.map_append, List.map_map]
    rfl
  rw [hL] at es
  have i0 : vIx (.list (T (nmL s) :: T [98, 121] :: T (nmL g) :: pads.map fun p => T (pwd p))) (.int 0) = some (T (nmL s)) := vIx_l (by omega) rfl
  have i2 : vIx (.list (T (nmL s) :: T [98, 121] :: T (nmL g) :: pads.map fun p => T (pwd p))) (.int 2) = some (T (nmL g)) := vIx_l (by omega) rfl
  have s3 : vSl (.list (T (nmL s) :: T [98, 121] :: T (nmL g) :: pads.map fun p => T (pwd p))) (some 3) none = some (.list (pads.map fun p => T (pwd p))) := vSl_lfrom (by omega)
  have ll : ¬ ((T (nmL s) :: T [98, 121] :: T (nmL g) :: pads.map fun p => T (pwd p)).length : Int) < 3 := by
    simp only [List.length_cons]
    omega
  have l1 : bLen [.list (T (nmL s) :: T [98, 121] :: T (nmL g) :: pads.map fun p => T (pwd p))] = some (.int ((T (nmL s) :: T [98, 121] :: T (nmL g) :: pads.map fun p => T (pwd p)).length : Nat)) := rfl
  refine run_of (ρ := [some (.val (T (ptext s g pads))), none, none, none, none]) rfl ?_
  unfold G_read_pattern
  generalize ptext s g pads = t at *
  generalize (T (nmL s) :: T [98, 121] :: T (nmL g) :: pads.map fun p => T (pwd p)) = L at *
  refine Eq.trans (seq_nx (g := S_read_pattern_0) (set_nx (d := .list L) (by
    rw [lit_sp]
    simp -implicitDefEqProofs (disch := omega) [es]))) ?_
  refine Eq.trans (seq_nx (g := S_read_pattern_1) (if_no (by
    generalize (L.length : Int) = n at *
    simp -implicitDefEqProofs (disch := omega) [l1, ll]))) ?_
  have e2 : gLc (iF (fSl (fVar 1) (pSome (fC (.int 3))) pNo)) (hName 3) tYesF (fTup' (aCons (fSl (fVar 3) pNo (pSome (fC (.int 1)))) (aCons (fSl (fVar 3) (pSome (fC (.int 2))) pNo) aNil))) [3] [some (.val (T t)), some (.val (.list L)), none, none, none] = some (pads.map padD) := by
    refine gLc_all (g := fun p : Nat × List Nat => T (pwd p)) (xs := pads) padD (by
      rw [iF_ev]
      show ((vSl (.list L) (some 3) none)).bind itemsD = _
      rw [s3]
      rfl) (by have := h.few; omega) (by
      intro p hp
      refine ⟨_, rfl, rfl, ?_⟩
      have hl : (pwd p).length ≤ 16777216 := by
        have := hr p hp
        show (p.1 :: 61 :: p.2).length ≤ _
        simp
        omega
      have a1 := vSl_to (a := pwd p) (i := 1) hl (by omega)
      have a2 := vSl_from (a := pwd p) (i := 2) hl (by omega)
      rw [fTup_ev, aCons_ev, aCons_ev]
      show (Option.bind (vSl (T (pwd p)) none (some 1)) fun x => Option.bind (Option.bind (vSl (T (pwd p)) (some 2) none) fun x => Option.bind (some []) fun r => some (x :: r)) fun r => some (x :: r)).map PyData.tuple = _
      rw [a1, a2]
      rfl)
  refine Eq.trans (seq_nx (g := S_read_pattern_2) (set_nx (d := .tuple (pads.map padD)) (by
    rw [fn_ev, aCons_ev, fOfF_ev]
    refine Eq.trans (congrArg (fun z : Option (List D) => Option.bind (Option.bind (z.map PyData.list) fun x => Option.bind (some []) fun r => some (x :: r)) bTuple) e2) ?_
    rfl))) ?_
  refine Eq.trans (seq_nx (g := S_read_pattern_3) (set_nx (d := patD s g pads) (by
    unfold patD
    generalize PyData.tuple (pads.map padD) = Y at *
    simp -implicitDefEqProofs (disch := omega) [i0, i2, n0, n2]))) ?_
  generalize patD s g pads = P at *
  generalize PyData.tuple (pads.map padD) = Y at *
  refine Eq.trans (seq_nx (g := S_read_pattern_4) (if_no (by
    simp -implicitDefEqProofs (disch := omega) [ei, et, vn]))) ?_
  rfl
theorem Drawn.abc {bk : Bk} (h : Drawn bk) {nm : List Nat} (hn : nm ∈ bk.map (·.1)) : (∀ x ∈ nm, x ∈ abcL) ∧ nm.length ≤ 4 := by
  obtain ⟨ns, h1, h2⟩ := h.nm
  have hm : nm ∈ namesL ++ [[122]] := by
    rw [h2] at hn
    exact (h1.append_right _).subset hn
  have key : ∀ nm ∈ namesL ++ [[122]], (∀ x ∈ nm, x ∈ abcL) ∧ nm.length ≤ 4 := by decide
  exact key nm hm
end PM
namespace PM
open PySem PySem.Spec PyProof.Rows L2 PV WS
theorem jn_snoc (w : List Nat) : ∀ ls : List (List Nat), ls ≠ [] → jn (ls ++ [w]) = jn ls ++ (32 :: w)
  | [], h => absurd rfl h
  | [p], _ => by
    show p ++ ([32] ++ w) = p ++ (32 :: w)
    rfl
  | p :: q :: r, _ => by
    have ih := jn_snoc w (q :: r) (by simp)
    show p ++ ([32] ++ jn (q :: r ++ [w])) = p ++ ([32] ++ jn (q :: r)) ++ (32 :: w)
    rw [ih]
    simp
theorem jn_app : ∀ (a b : List (List Nat)), a ≠ [] → b ≠ [] → jn (a ++ b) = jn a ++ (32 :: jn b)
  | [], _, h, _ => absurd rfl h
  | [p], [], _, h => absurd rfl h
  | [p], q :: r, _, _ => by
    show p ++ ([32] ++ jn (q :: r)) = p ++ (32 :: jn (q :: r))
    rfl
  | p :: q :: r, b, _, hb => by
    have ih := jn_app (q :: r) b (by simp) hb
    show p ++ ([32] ++ jn (q :: r ++ b)) = p ++ ([32] ++ jn (q :: r)) ++ (32 :: jn b)
    rw [ih]
    simp
theorem ptext_snoc (s g : Nat) (pads : Pds) (p : Nat × List Nat) : ptext s g (pads ++ [p]) = ptext s g pads ++ (32 :: pwd p) := by
  unfold ptext
  have : pws s g (pads ++ [p]) = pws s g pads ++ [pwd p] := by simp [pws]
  rw [this, jn_snoc _ _ (pws_ne s g pads)]
theorem ptext_inj {s g s' g' : Nat} {p p' : Pds} (h : GoodP s g p) (h' : GoodP s' g' p') (e : ptext s g p = ptext s' g' p') : s = s' ∧ g = g' ∧ p = p' := by
  have e1 := jn_inj (pws_ne s g p) (pws_ne s' g' p') (pwd_no32 h) (pwd_no32 h') e
  unfold pws at e1
  simp only [List.cons_append, List.nil_append, List.cons.injEq] at e1
  obtain ⟨a, _, b, c⟩ := e1
  refine ⟨nmL_inj a, nmL_inj b, ?_⟩
  have inj : ∀ {l m : Pds}, l.map pwd = m.map pwd → l = m := by
    intro l
    induction l with
    | nil => intro m e; cases m with | nil => rfl | cons _ _ => cases e
    | cons x l ih =>
      intro m e
      cases m with
      | nil => cases e
      | cons y m =>
        rw [List.map_cons, List.map_cons, List.cons.injEq] at e
        have e2 := e.1
        unfold pwd at e2
        simp only [List.cons.injEq, true_and] at e2
        rw [ih e.2]
        congr 1
        exact Prod.ext e2.1 e2.2
  exact inj c
theorem ctext_inj {bk : Bk} {c c' : Ch} (h : GoodC bk c) (h' : GoodC bk c') (e : ctext c = ctext c') : c = c' := by
  have ne : ∀ {c : Ch}, GoodC bk c → c.map cwd ≠ [] := fun {c} h e => by
    have := h.len
    rw [List.map_eq_nil_iff.mp e] at this
    simp at this
  have e1 := jn_inj (ne h) (ne h') (fun p hp => by
    obtain ⟨l, hl, rfl⟩ := List.mem_map.mp hp
    exact cwd_no32 (h.sg l hl).1) (fun p hp => by
    obtain ⟨l, hl, rfl⟩ := List.mem_map.mp hp
    exact cwd_no32 (h'.sg l hl).1) e
  have e2 := congrArg (List.map lkOf) e1
  rw [List.map_map, List.map_map] at e2
  have e3 := h.wl
  have e4 := h'.wl
  have e5 : (c.map fun l => (l.1, (l.2 : Int))) = c'.map fun l => (l.1, (l.2 : Int)) := by
    rw [← e3, ← e4]
    exact e2
  have inj : ∀ {l m : Ch}, (l.map fun l => (l.1, (l.2 : Int))) = (m.map fun l => (l.1, (l.2 : Int))) → l = m := by
    intro l
    induction l with
    | nil => intro m e; cases m with | nil => rfl | cons _ _ => cases e
    | cons x l ih =>
      intro m e
      cases m with
      | nil => cases e
      | cons y m =>
        rw [List.map_cons, List.map_cons, List.cons.injEq] at e
        rw [ih e.2]
        congr 1
        have := e.1
        simp only [Prod.mk.injEq] at this
        exact Prod.ext this.1 (by omega)
  exact inj e5
theorem GoodP.shp {s g : Nat} {pads : Pds} (h : GoodP s g pads) : SeqAt.shaped (patD s g pads) = true := shaped_pat fun p hp => ⟨by have := abc_lt (h.key p hp); omega, mk_sg (h.row p hp).2⟩
theorem abc_sg {l : List Nat} (h : ∀ x ∈ l, x ∈ abcL) : Sg l := fun c hc => by have := abc_lt (h c hc); omega
theorem GoodC.shp {bk : Bk} {c : Ch} (h : GoodC bk c) : SeqAt.shaped (chD c) = true := shaped_ch fun l hl => abc_sg (h.sg l hl).1
theorem vEq_pat {s g s' g' : Nat} {p p' : Pds} (h : GoodP s g p) (h' : GoodP s' g' p') : vEq (patD s g p) (patD s' g' p') = some (.bool (decide (s = s' ∧ g = g' ∧ p = p'))) :=
  vEq_of h.shp h'.shp (eqv_pat _ _ _ _ _ _) (fun _ _ e => nomatch e.1) (fun _ _ e => nomatch e.1)
theorem vEq_ch {bk : Bk} {c c' : Ch} (h : GoodC bk c) (h' : GoodC bk c') : vEq (chD c) (chD c') = some (.bool (decide (c = c'))) :=
  vEq_of h.shp h'.shp (eqv_ch _ _) (fun _ _ e => nomatch e.1) (fun _ _ e => nomatch e.1)
theorem GoodC.ok {bk : Bk} {c : Ch} (h : GoodC bk c) : ∀ l ∈ c, l.1.length ≤ 100 ∧ l.2 < 10000 := fun l hl => ⟨by have := (h.sg l hl).2; omega, by have := (h.lk l hl).2; omega⟩
theorem GoodP.rw {s g : Nat} {pads : Pds} (h : GoodP s g pads) : ∀ p ∈ pads, p.2.length ≤ 1000 := fun p hp => by have := (h.row p hp).1; have := h.st; omega
theorem ptextP {s g : Nat} {pads : Pds} (h : GoodP s g pads) : F_pattern_text [patD s g pads] = some (T (ptext s g pads)) := pattern_text_ok s g pads (by have := h.st; omega) (by have := h.gr; omega) h.rw (by have := h.few; omega)
theorem ctextP {bk : Bk} {c : Ch} (h : GoodC bk c) : F_chain_text [chD c] = some (T (ctext c)) := chain_text_ok c h.ok (by have := h.len; omega)
theorem ptext_len {s g : Nat} {pads : Pds} (h : GoodP s g pads) : (ptext s g pads).length ≤ 1000000 := by
  have h1 := jn_len (pws s g pads)
  have h2 := pws_len (s := s) (g := g) (by have := h.st; omega) (by have := h.gr; omega) h.rw (by have := h.few; omega)
  show (jn (pws s g pads)).length ≤ _
  omega
theorem ctext_len {bk : Bk} {c : Ch} (h : GoodC bk c) : (ctext c).length ≤ 1000000 := by
  have h1 := jn_len (c.map cwd)
  have h2 := cws_len h.ok (by have := h.len; omega)
  show (jn (c.map cwd)).length ≤ _
  omega
end PM
namespace PM
open PySem PySem.Spec PyProof.Rows L2 PV WS
/-! rows made finer and repeated; laid over one another -/
def rep (m : Nat) (r : List Nat) : List Nat := (List.replicate m r).flatten
theorem rep_0 (r : List Nat) : rep 0 r = [] := rfl
theorem rep_s (m : Nat) (r : List Nat) : rep (m + 1) r = r ++ rep m r := by
  unfold rep
  rw [List.replicate_succ, List.flatten_cons]
theorem rep_len (m : Nat) (r : List Nat) : (rep m r).length = m * r.length := by
  induction m with
  | zero => simp [rep]
  | succ m ih => rw [rep_s, List.length_append, ih, Nat.succ_mul]; omega
theorem rep_add (a b : Nat) (r : List Nat) : rep (a + b) r = rep a r ++ rep b r := by
  induction a with
  | zero => simp [rep_0]
  | succ a ih => rw [show a + 1 + b = a + b + 1 by omega, rep_s, ih, rep_s, List.append_assoc]
theorem rep_rep (m n : Nat) (r : List Nat) : rep m (rep n r) = rep (m * n) r := by
  induction m with
  | zero => simp [rep_0]
  | succ m ih => rw [rep_s, ih, Nat.succ_mul, Nat.add_comm, rep_add]
theorem rep_1 (r : List Nat) : rep 1 r = r := by simp [rep]
theorem fin_nil (q : Nat) : fin q [] = [] := rfl
theorem fin_c (q c : Nat) (r : List Nat) : fin q (c :: r) = c :: List.replicate (q - 1) 46 ++ fin q r := by
  unfold fin
  rw [List.map_cons, List.flatten_cons]
theorem fin_app (q : Nat) (a b : List Nat) : fin q (a ++ b) = fin q a ++ fin q b := by
  unfold fin
  rw [List.map_append, List.flatten_append]
theorem fin_rep (q m : Nat) (r : List Nat) : fin q (rep m r) = rep m (fin q r) := by
  induction m with
  | zero => rfl
  | succ m ih => rw [rep_s, rep_s, fin_app, ih]
theorem fin_rests {q : Nat} (hq : 0 < q) (n : Nat) : fin q (List.replicate n 46) = List.replicate (n * q) 46 := by
  induction n with
  | zero => simp [fin]
  | succ n ih =>
    rw [List.replicate_succ, fin_c, ih, Nat.succ_mul, ← List.replicate_succ, List.replicate_append_replicate]
    congr 1
    omega
theorem fin_fin {q p : Nat} (hq : 0 < q) (hp : 0 < p) (r : List Nat) : fin q (fin p r) = fin (q * p) r := by
  induction r with
  | nil => rfl
  | cons c r ih =>
    rw [fin_c, List.cons_append, fin_c, fin_app, fin_rests hq, ih, fin_c]
    rw [List.cons_append, List.cons_append, ← List.append_assoc, List.replicate_append_replicate]
    congr 3
    have : q * p = q * (p - 1) + q := by
      have h : q * p = q * (p - 1 + 1) := by congr 1; omega
      rw [h, Nat.mul_add, Nat.mul_one]
    rw [this, Nat.mul_comm (p - 1) q]
    omega
theorem fin_1 (r : List Nat) : fin 1 r = r := by
  induction r with
  | nil => rfl
  | cons c r ih => rw [fin_c, ih]; rfl
theorem fin_mk {q : Nat} {r : List Nat} (h : ∀ c ∈ r, Mk c) : ∀ c ∈ fin q r, Mk c := by
  intro c hc
  unfold fin at hc
  rw [List.mem_flatten] at hc
  obtain ⟨l, hl, hc⟩ := hc
  obtain ⟨d, hd, rfl⟩ := List.mem_map.mp hl
  rcases List.mem_cons.mp hc with rfl | hc
  · exact h _ hd
  · exact .inl (List.mem_replicate.mp hc).2
theorem rep_mk {m : Nat} {r : List Nat} (h : ∀ c ∈ r, Mk c) : ∀ c ∈ rep m r, Mk c := by
  intro c hc
  unfold rep at hc
  rw [List.mem_flatten] at hc
  obtain ⟨l, hl, hc⟩ := hc
  rw [(List.mem_replicate.mp hl).2] at hc
  exact h _ hc
/-- a row with a finer grid, going round so many times -/
def ft (q m : Nat) (r : List Nat) : List Nat := rep m (fin q r)
theorem ft_len {q : Nat} (hq : 0 < q) (m : Nat) (r : List Nat) : (ft q m r).length = m * (r.length * q) := by
  unfold ft
  rw [rep_len, fin_len hq]
theorem ft_mk {q m : Nat} {r : List Nat} (h : ∀ c ∈ r, Mk c) : ∀ c ∈ ft q m r, Mk c := rep_mk (fin_mk h)
theorem ft_ft {q p : Nat} (hq : 0 < q) (hp : 0 < p) (m n : Nat) (r : List Nat) : ft q m (ft p n r) = ft (q * p) (m * n) r := by
  unfold ft
  rw [fin_rep, rep_rep, fin_fin hq hp]
theorem ft_1 (r : List Nat) : ft 1 1 r = r := by
  unfold ft
  rw [fin_1, rep_1]
theorem lay_len {a b : List Nat} (h : a.length = b.length) : (lay a b).length = a.length := by
  unfold lay
  rw [List.length_map, List.length_zip]
  omega
theorem lay_app {a b c d : List Nat} (h : a.length = c.length) : lay (a ++ b) (c ++ d) = lay a c ++ lay b d := by
  unfold lay
  rw [List.zip_append h, List.map_append]
theorem lay_cons (a b : Nat) (r t : List Nat) : lay (a :: r) (b :: t) = mx a b :: lay r t := rfl
theorem lay_rests (n : Nat) : lay (List.replicate n 46) (List.replicate n 46) = List.replicate n 46 := by
  induction n with
  | zero => rfl
  | succ n ih =>
    rw [List.replicate_succ, lay_cons, ih]
    rfl
theorem rep_lay {a b : List Nat} (h : a.length = b.length) (m : Nat) : rep m (lay a b) = lay (rep m a) (rep m b) := by
  induction m with
  | zero => rfl
  | succ m ih => rw [rep_s, rep_s, rep_s, lay_app h, ih]
theorem fin_lay (q : Nat) : ∀ {a b : List Nat}, a.length = b.length → fin q (lay a b) = lay (fin q a) (fin q b)
  | [], [], _ => rfl
  | x :: a, y :: b, h => by
    rw [lay_cons, fin_c, fin_c, fin_c, fin_lay q (by simpa using h), lay_app (by simp), lay_cons, lay_rests]
  | [], _ :: _, h => by simp at h
  | _ :: _, [], h => by simp at h
theorem ft_lay {a b : List Nat} (q m : Nat) (hq : 0 < q) (h : a.length = b.length) : ft q m (lay a b) = lay (ft q m a) (ft q m b) := by
  unfold ft
  rw [fin_lay q h, rep_lay (by rw [fin_len hq, fin_len hq, h])]
theorem mx_comm' {c d : Nat} (h : Mk c) (h' : Mk d) : mx c d = mx d c := by rcases h with rfl | rfl | rfl <;> rcases h' with rfl | rfl | rfl <;> decide
theorem mx_assoc' {c d e : Nat} (h : Mk c) (h' : Mk d) (h2 : Mk e) : mx (mx c d) e = mx c (mx d e) := by rcases h with rfl | rfl | rfl <;> rcases h' with rfl | rfl | rfl <;> rcases h2 with rfl | rfl | rfl <;> decide
theorem lay_comm' : ∀ {a b : List Nat}, (∀ c ∈ a, Mk c) → (∀ c ∈ b, Mk c) → lay a b = lay b a
  | [], [], _, _ => rfl
  | x :: a, y :: b, h, h' => by
    rw [lay_cons, lay_cons, mx_comm' (h x (by simp)) (h' y (by simp)), lay_comm' (fun c hc => h c (by simp [hc])) (fun c hc => h' c (by simp [hc]))]
  | [], _ :: _, _, _ => rfl
  | _ :: _, [], _, _ => rfl
theorem lay_assoc' : ∀ {a b c : List Nat}, (∀ x ∈ a, Mk x) → (∀ x ∈ b, Mk x) → (∀ x ∈ c, Mk x) → lay (lay a b) c = lay a (lay b c)
  | x :: a, y :: b, z :: c, h, h', h2 => by
    rw [lay_cons, lay_cons, lay_cons, lay_cons, mx_assoc' (h x (by simp)) (h' y (by simp)) (h2 z (by simp)), lay_assoc' (fun c hc => h c (by simp [hc])) (fun c hc => h' c (by simp [hc])) (fun c hc => h2 c (by simp [hc]))]
  | [], _, _, _, _, _ => rfl
  | _ :: _, [], _, _, _, _ => by cases ‹List Nat› <;> rfl
  | _ :: _, _ :: _, [], _, _, _ => rfl
theorem lay_rest' : ∀ {b : List Nat}, (∀ c ∈ b, Mk c) → lay (List.replicate b.length 46) b = b
  | [], _ => rfl
  | y :: b, h => by
    rw [List.length_cons, List.replicate_succ, lay_cons, lay_rest' (fun c hc => h c (by simp [hc]))]
    congr 1
    rcases h y (by simp) with rfl | rfl | rfl <;> decide
theorem lay_self' (a : List Nat) : lay a a = a := by
  induction a with
  | nil => rfl
  | cons x a ih =>
    rw [lay_cons, ih]
    unfold mx
    simp
theorem lay_mk : ∀ {a b : List Nat}, (∀ c ∈ a, Mk c) → (∀ c ∈ b, Mk c) → ∀ c ∈ lay a b, Mk c
  | [], _, _, _, c, hc => by cases hc
  | _ :: _, [], _, _, c, hc => by cases hc
  | x :: a, y :: b, h, h', c, hc => by
    rw [lay_cons] at hc
    rcases List.mem_cons.mp hc with rfl | hc
    · exact mx_mk (h x (by simp)) (h' y (by simp))
    · exact lay_mk (fun c hc => h c (by simp [hc])) (fun c hc => h' c (by simp [hc])) c hc
theorem fmap_congr {α β : Type} {f g : α → Option β} {l : List α} (h : ∀ a ∈ l, f a = g a) : l.filterMap f = l.filterMap g := by
  induction l with
  | nil => rfl
  | cons a l ih =>
    rw [List.filterMap_cons, List.filterMap_cons, h a (by simp), ih fun b hb => h b (by simp [hb])]
theorem nd_of {α β : Type} {f : α → β} {l : List α} (h : (l.map f).Nodup) : l.Nodup := by
  rw [List.nodup_iff_pairwise_ne] at h ⊢
  rw [List.pairwise_map] at h
  exact h.imp fun hne e => hne (by rw [e])
/-! pads by their keys -/
def lk (pads : Pds) (k : Nat) : Option (List Nat) := (pads.find? fun p => decide (p.1 = k)).map (·.2)
theorem lk_nil (k : Nat) : lk [] k = none := rfl
theorem lk_cons (p : Nat × List Nat) (pads : Pds) (k : Nat) : lk (p :: pads) k = if p.1 = k then some p.2 else lk pads k := by
  unfold lk
  rw [List.find?_cons]
  by_cases h : p.1 = k
  · simp [h]
  · simp [h]
theorem lk_map (f : List Nat → List Nat) (pads : Pds) (k : Nat) : lk (pads.map fun p => (p.1, f p.2)) k = (lk pads k).map f := by
  induction pads with
  | nil => rfl
  | cons p pads ih =>
    rw [List.map_cons, lk_cons, lk_cons, ih]
    split <;> rfl
theorem lk_some {pads : Pds} (nd : (pads.map (·.1)).Nodup) {k : Nat} {r : List Nat} : lk pads k = some r ↔ (k, r) ∈ pads := by
  induction pads with
  | nil => simp [lk]
  | cons p pads ih =>
    rw [List.map_cons, List.nodup_cons] at nd
    rw [lk_cons, List.mem_cons]
    by_cases h : p.1 = k
    · rw [if_pos h]
      constructor
      · intro e; left; cases e; rw [← h]
      · rintro (e | e)
        · rw [← e]
        · exact absurd (List.mem_map.mpr ⟨_, e, h.symm⟩) nd.1
    · rw [if_neg h, ih nd.2]
      constructor
      · exact .inr
      · rintro (e | e)
        · exact absurd (by rw [← e]) h
        · exact e
theorem lk_none {pads : Pds} {k : Nat} : lk pads k = none ↔ k ∉ pads.map (·.1) := by
  induction pads with
  | nil => simp [lk]
  | cons p pads ih =>
    rw [lk_cons, List.map_cons, List.mem_cons]
    by_cases h : p.1 = k
    · rw [if_pos h]; simp [h]
    · rw [if_neg h, ih]
      constructor
      · rintro h1 (h2 | h2)
        · exact h h2.symm
        · exact h1 h2
      · intro h1 h2
        exact h1 (.inr h2)
/-- the pads of keys in their order, by a rule -/
def byK (f : Nat → Option (List Nat)) : Pds := keysL.filterMap fun k => (f k).map fun r => (k, r)
theorem byK_keys (f : Nat → Option (List Nat)) : ((byK f).map (·.1)) = keysL.filter fun k => (f k).isSome := by
  unfold byK
  generalize keysL = ks
  induction ks with
  | nil => rfl
  | cons k ks ih =>
    rw [List.filterMap_cons, List.filter_cons]
    cases e : f k with
    | none => simpa using ih
    | some r => simp [ih]
theorem byK_lk {f : Nat → Option (List Nat)} {k : Nat} (hk : k ∈ keysL) : lk (byK f) k = f k := by
  have nd : keysL.Nodup := by decide
  unfold byK
  revert hk nd
  generalize keysL = ks
  intro hk nd
  induction ks with
  | nil => cases hk
  | cons j ks ih =>
    rw [List.nodup_cons] at nd
    rw [List.filterMap_cons]
    rcases List.mem_cons.mp hk with rfl | hk
    · cases e : f k with
      | none =>
        simp only [Option.map_none]
        rw [lk_none]
        intro hm
        obtain ⟨p, hp, rfl⟩ := List.mem_map.mp hm
        obtain ⟨j, hj, e2⟩ := List.mem_filterMap.mp hp
        obtain ⟨r, er, rfl⟩ := Option.map_eq_some_iff.mp e2
        exact nd.1 hj
      | some r => simp [lk_cons]
    · have hne : j ≠ k := fun z => nd.1 (by rw [z]; exact hk)
      cases e : f j with
      | none => exact ih hk nd.2
      | some r =>
        simp only [Option.map_some]
        rw [lk_cons, if_neg hne]
        exact ih hk nd.2
theorem byK_sub (f : Nat → Option (List Nat)) : ((byK f).map (·.1)).Sublist keysL := by
  rw [byK_keys]
  exact List.filter_sublist
theorem keysL_nd : keysL.Nodup := by decide
theorem byK_self {pads : Pds} (h : (pads.map (·.1)).Sublist keysL) : byK (lk pads) = pads := by
  have nd : (pads.map (·.1)).Nodup := keysL_nd.sublist h
  unfold byK
  revert h
  have hk := keysL_nd
  revert hk
  generalize keysL = ks
  intro hk h
  induction ks generalizing pads with
  | nil =>
    cases pads with
    | nil => rfl
    | cons p pads => cases h
  | cons j ks ih =>
    rw [List.nodup_cons] at hk
    rw [List.filterMap_cons]
    cases pads with
    | nil =>
      simp only [lk_nil, Option.map_none]
      exact ih (pads := []) (by simp) hk.2 (List.nil_sublist _)
    | cons p pads =>
      rw [List.map_cons] at h nd
      rw [lk_cons]
      by_cases e : p.1 = j
      · rw [if_pos e]
        simp only [Option.map_some]
        have h2 : (pads.map (·.1)).Sublist ks := by
          rw [e] at h
          exact List.Sublist.of_cons_cons h
        rw [List.nodup_cons] at nd
        have e2 : (ks.filterMap fun k => (lk (p :: pads) k).map fun r => (k, r)) = ks.filterMap fun k => (lk pads k).map fun r => (k, r) := by
          refine fmap_congr fun k hk2 => ?_
          rw [lk_cons, if_neg (fun z => hk.1 (by rw [← e, z]; exact hk2))]
        rw [e2, ih nd.2 hk.2 h2, ← e]
      · rw [if_neg e]
        have h2 : ((p :: pads).map (·.1)).Sublist ks := by
          rw [List.map_cons]
          cases h with
          | cons _ h => exact h
          | cons_cons _ h => exact absurd rfl e
        have hj : lk pads j = none := by
          rw [lk_none]
          intro hm
          have := h2.subset (List.mem_cons_of_mem _ hm)
          exact hk.1 this
        rw [hj]
        simp only [Option.map_none]
        exact ih (by rw [List.map_cons]; exact nd) hk.2 h2
theorem pads_perm {a b : Pds} (ha : (a.map (·.1)).Nodup) (hb : (b.map (·.1)).Nodup) (h : ∀ k, lk a k = lk b k) : List.Perm a b := by
  have nda : a.Nodup := nd_of ha
  have ndb : b.Nodup := nd_of hb
  refine (List.perm_ext_iff_of_nodup nda ndb).mpr fun p => ?_
  obtain ⟨k, r⟩ := p
  rw [← lk_some ha, ← lk_some hb, h]
end PM
namespace PM
open PySem PySem.Spec PyProof.Rows L2 PV WS
/-! the store layer, told -/
section
variable {R R1 R2 : Ro} {M M1 M2 : Mu} {fa fb fc : Ro → Mu → Option (RR AV)} {fs : Ro → Mu → Option (RR (List AV))} {g h : Ro → Mu → Option OutA}
theorem zseq_nx (e : g R M = some (.nx R1 M1)) : zSeq g h R M = h R1 M1 := by unfold zSeq; rw [e]; rfl
theorem zseq_rt {v : AV} (e : g R M = some (.rt v M1)) : zSeq g h R M = some (.rt v M1) := by unfold zSeq; rw [e]; rfl
theorem lE_of {f : Rho → Option D} {d : D} (e : f (pr R) = some d) : lE f R M = some (.ok (.d d) M) := by unfold lE; rw [e]; rfl
theorem lT_of {f : Rho → Option Bool} {d : Bool} (e : f (pr R) = some d) : lT f R M = some (.ok d M) := by unfold lT; rw [e]; rfl
theorem lI_of {f : Rho → Option (List D)} {d : List D} (e : f (pr R) = some d) : lI f R M = some (.ok (d.map .d) M) := by unfold lI; rw [e]; rfl
theorem zset_nx {i : Nat} {a : AV} (e : fa R M = some (.ok a M1)) : zSet i fa R M = some (.nx (R.set i (some a)) M1) := by unfold zSet; rw [e]; rfl
theorem zset_l {i : Nat} {f : Rho → Option D} {d : D} (e : f (pr R) = some d) : zSet i (lE f) R M = some (.nx (R.set i (some (.d d))) M) := zset_nx (lE_of e)
theorem zret_of {a : AV} (e : fa R M = some (.ok a M1)) : zRet fa R M = some (.rt a M1) := by unfold zRet; rw [e]; rfl
theorem zif_f {fc : Ro → Mu → Option (RR Bool)} (e : fc R M = some (.ok false M1)) : zIf fc g h R M = h R M1 := by unfold zIf; rw [e]; rfl
theorem zif_t {fc : Ro → Mu → Option (RR Bool)} (e : fc R M = some (.ok true M1)) : zIf fc g h R M = g R M1 := by unfold zIf; rw [e]; rfl
theorem runA_of {n : Nat} {as : List AV} {v : AV} (hs : startA n as = R) (e : g R M = some (.rt v M1)) : runA n g as M = some (.ok v M1) := by unfold runA; rw [hs, e]; rfl
theorem bnil_of : bNil R M = some (.ok [] M) := rfl
theorem bcons_of {a : AV} {l : List AV} (e1 : fa R M = some (.ok a M1)) (e2 : fs R M1 = some (.ok l M2)) : bCons fa fs R M = some (.ok (a :: l) M2) := by unfold bCons; rw [e1]; show rb (fs R M1) _ = _; rw [e2]; rfl
theorem aFn_of {F : List AV → Mu → Option (RR AV)} {l : List AV} (e : fs R M = some (.ok l M1)) : aFn F fs R M = F l M1 := by unfold aFn; rw [e]; rfl
theorem aN_of {F : List D → Option D} {l : List AV} {ds : List D} {z : D} (e : fs R M = some (.ok l M1)) (e1 : dsOf l = some ds) (e2 : F ds = some z) : aN F fs R M = some (.ok (.d z) M1) := by unfold aN; rw [e]; show (dsOf l).bind _ = _; rw [e1]; show (F ds).map _ = _; rw [e2]; rfl
theorem aVar_of {i : Nat} {a : AV} (e : R[i]? = some (some a)) : aVar i R M = some (.ok a M) := by unfold aVar; rw [e]
theorem a2_of {f : D → D → Option D} {x y z : D} (e1 : fa R M = some (.ok (.d x) M1)) (e2 : fb R M1 = some (.ok (.d y) M2)) (e3 : f x y = some z) : a2 f fa fb R M = some (.ok (.d z) M2) := by
  unfold a2; rw [e1]; show rb (fb R M1) _ = _; rw [e2]; show (f x y).map _ = _; rw [e3]; rfl
theorem bT1_of {b : Bool} (e : fa R M = some (.ok (.d (.bool b)) M1)) : bT1 fa R M = some (.ok b M1) := by unfold bT1; rw [e]; rfl
theorem bOr_f {fa fb : Ro → Mu → Option (RR Bool)} {b : Bool} (e : fa R M = some (.ok false M1)) (e2 : fb R M1 = some (.ok b M2)) : bOr fa fb R M = some (.ok b M2) := by unfold bOr; rw [e]; exact e2
end
theorem run_bool {n : Nat} {g : Ro → Mu → Option OutA} {as : List AV} {v : AV} {M : Mu} (h : ∃ R M', startA n as = R ∧ g R M = some (.rt v M')) : ∃ M', runA n g as M = some (.ok v M') := by
  obtain ⟨R, M', h1, h2⟩ := h
  exact ⟨M', runA_of h1 h2⟩
/-! rows by keys, as the store holds them -/
def kvA (p : Nat × List Nat) : Key × AV := (.inr (S [p.1]), .d (T p.2))
def kvD (p : Nat × List Nat) : D × D := (T [p.1], T p.2)
def putN (l : Pds) (k : Nat) (r : List Nat) : Pds := if (l.any fun p => decide (p.1 = k)) = true then l.map (fun p => if p.1 = k then (p.1, r) else p) else l ++ [(k, r)]
theorem S1_inj {a b : Nat} : (Sum.inr (S [a]) : Key) = Sum.inr (S [b]) ↔ a = b := by
  constructor
  · intro h
    have := S_inj.mp (Sum.inr.inj h)
    simpa using this
  · intro h; rw [h]
theorem getA_kv (l : Pds) (k : Nat) : getA (l.map kvA) (.inr (S [k])) = (lk l k).map fun r => .d (T r) := by
  unfold getA lk
  rw [List.find?_map, Option.map_map, Option.map_map]
  have : ((fun kv : Key × AV => decide (kv.1 = Sum.inr (S [k]))) ∘ kvA) = fun p => decide (p.1 = k) := by
    funext p
    show decide ((Sum.inr (S [p.1]) : Key) = Sum.inr (S [k])) = _
    rw [Bool.eq_iff_iff, decide_eq_true_iff, decide_eq_true_iff]
    exact S1_inj
  rw [this]
  rfl
theorem putA_kv (l : Pds) (k : Nat) (r : List Nat) : putA (l.map kvA) (.inr (S [k])) (.d (T r)) = (putN l k r).map kvA := by
  unfold putA putN
  have h1 : ((l.map kvA).any fun kv => decide (kv.1 = Sum.inr (S [k]))) = l.any fun p => decide (p.1 = k) := by
    rw [List.any_map]
    congr 1
    funext p
    show decide ((Sum.inr (S [p.1]) : Key) = Sum.inr (S [k])) = _
    rw [Bool.eq_iff_iff, decide_eq_true_iff, decide_eq_true_iff]
    exact S1_inj
  rw [h1]
  split
  · rw [List.map_map, List.map_map]
    refine List.map_congr_left fun p _ => ?_
    show (if (Sum.inr (S [p.1]) : Key) = Sum.inr (S [k]) then ((Sum.inr (S [p.1]) : Key), AV.d (T r)) else kvA p) = kvA (if p.1 = k then (p.1, r) else p)
    by_cases h : p.1 = k
    · rw [if_pos h, if_pos (S1_inj.mpr h)]; rfl
    · rw [if_neg h, if_neg (fun z => h (S1_inj.mp z))]
  · rw [List.map_append]; rfl
theorem lk_putN (l : Pds) (k : Nat) (r : List Nat) (j : Nat) : lk (putN l k r) j = if j = k then some r else lk l j := by
  unfold putN
  split
  · rename_i h
    induction l with
    | nil => simp at h
    | cons p l ih =>
      rw [List.map_cons, lk_cons, lk_cons]
      by_cases hp : p.1 = k
      · rw [if_pos hp]
        by_cases hj : j = k
        · subst hj
          simp [hp]
        · have hpj : ¬ p.1 = j := fun z => hj (by rw [← z, hp])
          simp only [hp, hpj, if_false]
          rw [if_neg (fun z => hj z.symm), if_neg hj]
          by_cases ha : (l.any fun p => decide (p.1 = k)) = true
          · rw [ih ha, if_neg hj, if_neg (fun z => hj z.symm)]
          · have : (l.map fun p => if p.1 = k then (p.1, r) else p) = l := by
              have h2 : l.map (fun p => if p.1 = k then (p.1, r) else p) = l.map id := List.map_congr_left fun q hq => by
                have : ¬ q.1 = k := fun z => ha (List.any_eq_true.mpr ⟨q, hq, by simp [z]⟩)
                rw [if_neg this]; rfl
              rw [h2, List.map_id]
            rw [this, if_neg (fun z => hj z.symm)]
      · rw [if_neg hp]
        have ha : (l.any fun p => decide (p.1 = k)) = true := by
          rw [List.any_cons] at h
          simpa [hp] using h
        rw [ih ha]
        by_cases hj : p.1 = j
        · rw [if_pos hj, if_pos hj, if_neg (fun z => hp (by rw [hj, z]))]
        · rw [if_neg hj, if_neg hj]
  · rename_i h
    induction l with
    | nil =>
      rw [List.nil_append, lk_cons, lk_nil]
      by_cases hj : j = k
      · rw [if_pos hj, if_pos hj.symm]
      · rw [if_neg hj, if_neg (fun z => hj z.symm)]
    | cons p l ih =>
      rw [List.cons_append, lk_cons, lk_cons]
      have hp : ¬ p.1 = k := fun z => h (List.any_eq_true.mpr ⟨p, by simp, by simp [z]⟩)
      have ha : ¬ (l.any fun p => decide (p.1 = k)) = true := fun z => h (by rw [List.any_cons, z, Bool.or_true])
      rw [ih ha]
      by_cases hj : p.1 = j
      · rw [if_pos hj, if_pos hj, if_neg (fun z => hp (by rw [hj, z]))]
      · rw [if_neg hj, if_neg hj]
theorem putN_keys (l : Pds) (k : Nat) (r : List Nat) : ((putN l k r).map (·.1)) = if k ∈ l.map (·.1) then l.map (·.1) else l.map (·.1) ++ [k] := by
  have hm : (l.any fun p => decide (p.1 = k)) = true ↔ k ∈ l.map (·.1) := by
    rw [List.any_eq_true]
    constructor
    · rintro ⟨p, hp, e⟩; exact List.mem_map.mpr ⟨p, hp, by simpa using e⟩
    · intro h; obtain ⟨p, hp, e⟩ := List.mem_map.mp h; exact ⟨p, hp, by simp [e]⟩
  unfold putN
  by_cases h : k ∈ l.map (·.1)
  · rw [if_pos (hm.mpr h), if_pos h, List.map_map]
    refine List.map_congr_left fun p _ => ?_
    show (if p.1 = k then (p.1, r) else p).1 = p.1
    split <;> rfl
  · rw [if_neg (fun z => h (hm.mp z)), if_neg h, List.map_append]
    rfl
theorem putN_nd {l : Pds} (nd : (l.map (·.1)).Nodup) (k : Nat) (r : List Nat) : ((putN l k r).map (·.1)).Nodup := by
  rw [putN_keys]
  split
  · exact nd
  · rename_i h
    rw [List.nodup_append]
    exact ⟨nd, by simp, fun a ha b hb => by simp at hb; subst hb; exact fun z => h (by rw [← z]; exact ha)⟩
theorem putN_len (l : Pds) (k : Nat) (r : List Nat) : (putN l k r).length ≤ l.length + 1 := by
  unfold putN
  split
  · rw [List.length_map]; omega
  · simp
/-- rows laid into a book of rows -/
def lays (n : Nat) (l ps : Pds) : Pds := ps.foldl (fun l p => putN l p.1 (lay ((lk l p.1).getD (List.replicate n 46)) p.2)) l
theorem lays_cons (n : Nat) (l : Pds) (p : Nat × List Nat) (ps : Pds) : lays n l (p :: ps) = lays n (putN l p.1 (lay ((lk l p.1).getD (List.replicate n 46)) p.2)) ps := rfl
def comb (n : Nat) (a b : Option (List Nat)) : Option (List Nat) := match b with
  | some r => some (lay (a.getD (List.replicate n 46)) r)
  | none => a
theorem lays_lk (n : Nat) : ∀ (ps l : Pds) (j : Nat), (ps.map (·.1)).Nodup → lk (lays n l ps) j = comb n (lk l j) (lk ps j)
  | [], l, j, _ => rfl
  | p :: ps, l, j, nd => by
    rw [List.map_cons, List.nodup_cons] at nd
    rw [lays_cons, lays_lk n ps _ j nd.2, lk_putN, lk_cons]
    by_cases h : j = p.1
    · subst h
      have : lk ps p.1 = none := lk_none.mpr nd.1
      rw [this, if_pos rfl, if_pos rfl]
      rfl
    · rw [if_neg h, if_neg (fun z => h z.symm)]
theorem lays_nd (n : Nat) : ∀ (ps l : Pds), (l.map (·.1)).Nodup → ((lays n l ps).map (·.1)).Nodup
  | [], _, h => h
  | p :: ps, l, h => lays_nd n ps _ (putN_nd h _ _)
theorem lays_len (n : Nat) : ∀ (ps l : Pds), (lays n l ps).length ≤ l.length + ps.length
  | [], l => by simp [lays]
  | p :: ps, l => by
    rw [lays_cons]
    have h1 := lays_len n ps (putN l p.1 (lay ((lk l p.1).getD (List.replicate n 46)) p.2))
    have h2 := putN_len l p.1 (lay ((lk l p.1).getD (List.replicate n 46)) p.2)
    rw [List.length_cons]
    omega
/-! a row so many times -/
theorem vMul_rep (r : List Nat) (n : Nat) (h1 : n ≤ 1000000000) (h : n * r.length ≤ 16777216) : vMul (.str (S r)) (.int n) = some (T (rep n r)) := by
  have h1 : (-4611686018427387904 ≤ (n : Int) ∧ (n : Int) < 4611686018427387904) ∧ (S r).length * (n : Int).toNat ≤ 16777216 := by
    refine ⟨⟨by omega, by omega⟩, ?_⟩
    rw [S_len, Int.toNat_natCast, Nat.mul_comm]
    exact h
  have e : vMul (.str (S r)) (.int n) = if (-4611686018427387904 ≤ (n : Int) ∧ (n : Int) < 4611686018427387904) ∧ (S r).length * (n : Int).toNat ≤ 16777216 then some (.str (repS (S r) n)) else none := by unfold vMul; rfl
  rw [e, if_pos h1]
  unfold repS
  rw [S_list]
  simp [S, rep]
theorem rep_rest (n : Nat) : rep n [46] = List.replicate n 46 := by
  induction n with
  | zero => rfl
  | succ n ih => rw [rep_s, ih]; rfl
/-! fitted -/
def ftP (q m : Nat) (pads : Pds) : Pds := pads.map fun p => (p.1, ft q m p.2)
theorem ftP_keys (q m : Nat) (pads : Pds) : (ftP q m pads).map (·.1) = pads.map (·.1) := by
  unfold ftP
  rw [List.map_map]
  rfl
theorem pairsK_kv (l : Pds) : pairsK (l.map padD) = some (l.map fun p => (.inr (S [p.1]), T p.2)) := by
  induction l with
  | nil => rfl
  | cons p l ih =>
    rw [List.map_cons]
    show (pairsK (l.map padD)).map _ = _
    rw [ih]
    rfl
theorem kv_nd {l : Pds} (h : (l.map (·.1)).Nodup) : ((l.map fun p => ((.inr (S [p.1]) : Key), T p.2)).map (·.1)).Nodup := by
  rw [List.map_map]
  rw [List.nodup_iff_pairwise_ne] at h ⊢
  rw [List.pairwise_map] at h ⊢
  exact h.imp fun hne e => hne (S1_inj.mp e)
theorem fitted_ok (s g : Nat) (pads : Pds) (q m G SS : Nat) (M : Mu) (hG : G = g * q) (hSS : SS = m * (s * q)) (hs : 1 ≤ s) (hg : 1 ≤ g ∧ g ≤ 1000) (hq : 1 ≤ q ∧ q ≤ 1000) (hm : m ≤ 1000000) (h : ∀ p ∈ pads, p.2.length = s) (hsq : s * q ≤ 1000000) (hb : SS ≤ 1000000) (nd : (pads.map (·.1)).Nodup) (hl : pads.length ≤ 1000) :
    F_fitted [.d (patD s g pads), .d (.int (G : Nat)), .d (.int (SS : Nat))] M = some (.ok (.loc M.length) (M ++ [.dct ((ftP q m pads).map kvA)])) := by
  refine runA_of (R := [some (.d (patD s g pads)), some (.d (.int (G : Nat))), some (.d (.int (SS : Nat))), none, none, none, none]) rfl ?_
  have hp : 0 < s * q := Nat.mul_pos hs hq.1
  have d1 : vDiv (.int (G : Nat)) (.int (g : Nat)) = some (.int (q : Nat)) := by
    rw [vDiv_i (by omega), hG]
    congr 2
    rw [← Int.natCast_ediv, Nat.mul_div_cancel_left _ (by omega)]
  have d2 : vDiv (.int (SS : Nat)) (.int (s * q : Nat)) = some (.int (m : Nat)) := by
    rw [hSS]
    generalize s * q = z at *
    rw [vDiv_i (by omega)]
    congr 2
    rw [← Int.natCast_ediv, Nat.mul_div_cancel _ hp]
  have ef := finer_ok' s g pads q hq (fun p hp => by rw [h p hp]; exact hsq) hl
  rw [← hG] at ef
  have hrow : ∀ p ∈ fnP q pads, p.2.length = s * q := by
    intro p hp
    obtain ⟨p0, hp0, rfl⟩ := List.mem_map.mp hp
    rw [fin_len (by omega), h p0 hp0]
  have e0 : S_fitted_0 [some (.d (patD s g pads)), some (.d (.int (G : Nat))), some (.d (.int (SS : Nat))), none, none, none, none] M = some (.nx [some (.d (patD s g pads)), some (.d (.int (G : Nat))), some (.d (.int (SS : Nat))), some (.d (patD (s * q) G (fnP q pads))), none, none, none] M) := by
    refine zset_l ?_
    have e1 : f2 vIx (fVar 0) (fC (.int 1)) (pr [some (.d (patD s g pads)), some (.d (.int (G : Nat))), some (.d (.int (SS : Nat))), none, none, none, none]) = some (.int (g : Nat)) := rfl
    have e2 : fVar 1 (pr [some (.d (patD s g pads)), some (.d (.int (G : Nat))), some (.d (.int (SS : Nat))), none, none, none, none]) = some (.int (G : Nat)) := rfl
    have e3 : fVar 0 (pr [some (.d (patD s g pads)), some (.d (.int (G : Nat))), some (.d (.int (SS : Nat))), none, none, none, none]) = some (patD s g pads) := rfl
    have e4 : f2 vDiv (fVar 1) (f2 vIx (fVar 0) (fC (.int 1))) (pr [some (.d (patD s g pads)), some (.d (.int (G : Nat))), some (.d (.int (SS : Nat))), none, none, none, none]) = some (.int (q : Nat)) := f2_of e2 e1 d1
    rw [fn_ev, aCons_ev, aCons_ev, e3, e4]
    exact ef
  unfold G_fitted
  refine Eq.trans (zseq_nx e0) ?_
  generalize hP : patD s g pads = P
  have e1 : S_fitted_1 [some (.d P), some (.d (.int (G : Nat))), some (.d (.int (SS : Nat))), some (.d (patD (s * q) G (fnP q pads))), none, none, none] M = some (.nx [some (.d P), some (.d (.int (G : Nat))), some (.d (.int (SS : Nat))), some (.d (patD (s * q) G (fnP q pads))), some (.d (.int (m : Nat))), none, none] M) := by
    refine zset_l ?_
    exact f2_of (x := .int (SS : Nat)) rfl (f2_of (x := patD (s * q) G (fnP q pads)) (y := .int 0) rfl rfl rfl) d2
  refine Eq.trans (zseq_nx e1) ?_
  refine zret_of ?_
  have e2 := gLc_all (fi := iF (f2 vIx (fVar 3) (fC (.int 2)))) (h := hTup 2 (hCons (hName 5) (hCons (hName 6) hNil))) (ft := tYesF) (fe := fTup' (aCons (fVar 5) (aCons (f2 vMul (fVar 6) (fVar 4)) aNil))) (vs := [5, 6]) (ρ := pr [some (.d P), some (.d (.int (G : Nat))), some (.d (.int (SS : Nat))), some (.d (patD (s * q) G (fnP q pads))), some (.d (.int (m : Nat))), none, none]) (g := padD) (xs := fnP q pads) (fun p => padD (p.1, rep m p.2)) (by
      have : f2 vIx (fVar 3) (fC (.int 2)) (pr [some (.d P), some (.d (.int (G : Nat))), some (.d (.int (SS : Nat))), some (.d (patD (s * q) G (fnP q pads))), some (.d (.int (m : Nat))), none, none]) = some (.tuple ((fnP q pads).map padD)) := rfl
      rw [iF_ev, this]
      rfl) (by unfold fnP; rw [List.length_map]; omega) (fun p hp => ⟨[some (.val P), some (.val (.int (G : Nat))), some (.val (.int (SS : Nat))), some (.val (patD (s * q) G (fnP q pads))), some (.val (.int (m : Nat))), some (.val (T [p.1])), some (.val (T p.2))], rfl, rfl, by
        have hv := vMul_rep p.2 m (by omega) (by rw [hrow p hp, ← hSS]; omega)
        have hv2 : f2 vMul (fVar 6) (fVar 4) [some (.val P), some (.val (.int (G : Nat))), some (.val (.int (SS : Nat))), some (.val (patD (s * q) G (fnP q pads))), some (.val (.int (m : Nat))), some (.val (T [p.1])), some (.val (T p.2))] = some (T (rep m p.2)) := f2_of rfl rfl hv
        rw [fTup_ev, aCons_ev, aCons_ev, hv2]
        rfl⟩)
  have e3 : (fnP q pads).map (fun p => padD (p.1, rep m p.2)) = (ftP q m pads).map padD := by
    unfold fnP ftP
    rw [List.map_map, List.map_map]
    rfl
  rw [e3] at e2
  have nd2 : ((ftP q m pads).map (·.1)).Nodup := by rw [ftP_keys]; exact nd
  generalize hL : ftP q m pads = L at *
  show rb (bCons (lE (fOfF _)) bNil _ M) _ = _
  rw [bcons_of (lE_of (d := .list (L.map padD)) (by rw [fOfF_ev, e2]; rfl)) bnil_of]
  show (pairsK (L.map padD)).map _ = _
  rw [pairsK_kv, Option.map_some, mergeG_nd _ [] (by rw [List.nil_append]; exact kv_nd nd2), List.nil_append, List.map_map]
  rfl
end PM
namespace PM
open PySem PySem.Spec PyProof.Rows L2 PV WS
/-! sorted pads -/
theorem pad_lt {p q : Nat × List Nat} (h : p.1 ≠ q.1) : PySem.W.dataLe false id (padD p) (padD q) = decide (p.1 < q.1) := by
  have e : PySem.W.dataLe false id (padD p) (padD q) = !PySem.W.dataLt (padD q) (padD p) := rfl
  have e2 : PySem.W.dataLt (padD q) (padD p) = PySem.W.dataLt (T [q.1]) (T [p.1]) := by
    show PySem.W.dataLt (.tuple [T [q.1], T q.2]) (.tuple [T [p.1], T p.2]) = _
    rw [PySem.W.dataLt_tuple, PySem.W.dataLt_all_no rfl (by rw [eqv_T]; simp; exact fun z => h z.symm)]
  rw [e, e2, PySem.W.dataLt_str, S_list, S_list]
  have : ([q.1] < [p.1]) ↔ q.1 < p.1 := by
    rw [List.cons_lt_cons_iff]
    simp
  by_cases hl : p.1 < q.1
  · have : ¬ [q.1] < [p.1] := fun z => by have := this.mp z; omega
    simp [hl, this]
  · have : [q.1] < [p.1] := this.mpr (by omega)
    simp [hl, this]
theorem alike_pad (p q : Nat × List Nat) : PySem.W.alike (padD p) (padD q) = true := rfl
theorem pads_alike {l : Pds} (h : ∀ p ∈ l, p.1 < 1114112 ∧ Sg p.2) : alikeOk (l.map padD) = true ∧ sortOk (l.map padD) = true := by
  constructor
  · unfold alikeOk
    rw [Bool.and_eq_true]
    constructor
    · rw [List.all_eq_true]
      intro x hx
      obtain ⟨p, _, rfl⟩ := List.mem_map.mp hx
      rw [List.all_eq_true]
      intro y hy
      obtain ⟨q, _, rfl⟩ := List.mem_map.mp hy
      exact alike_pad p q
    · rw [List.all_eq_true]
      intro x hx
      obtain ⟨p, hp, rfl⟩ := List.mem_map.mp hx
      have h1 := sg_lay (h p hp).2
      have h2 := sg_lay (l := [p.1]) (fun c hc => by simp at hc; rw [hc]; exact (h p hp).1)
      simp [padD, PyData.canLay0, PyData.canLayAll0, PyData.depth, PyData.depthAll, h1, h2]
  · unfold sortOk
    rw [Bool.or_eq_true]
    left
    rw [List.all_eq_true]
    intro x hx
    obtain ⟨p, hp, rfl⟩ := List.mem_map.mp hx
    rfl
theorem sort_pads {l : Pds} {f : Nat → Option (List Nat)} (hp : List.Perm l (byK f)) (h : ∀ p ∈ l, Sg p.2) (hl : l.length ≤ 1000) : vSort (l.map padD) = some ((byK f).map padD) := by
  have hk : ∀ p ∈ byK f, p.1 ∈ keysL := fun p hp => (byK_sub f).subset (List.mem_map.mpr ⟨p, hp, rfl⟩)
  have asc : ((byK f).map (·.1)).Pairwise (· < ·) := List.Pairwise.sublist (byK_sub f) (by decide)
  have hlt : ∀ k ∈ keysL, k < 1114112 := by decide
  obtain ⟨a1, a2⟩ := pads_alike (l := l) fun p hp' => ⟨hlt _ (hk p (hp.mem_iff.mp hp')), h p hp'⟩
  unfold vSort
  rw [a1, a2, if_pos (by simp; omega)]
  congr 1
  refine List.Perm.eq_of_pairwise (le := fun a b => PySem.W.dataLe false id a b = true) (fun a b ha hb h1 h2 => ?_) (List.pairwise_mergeSort (le := PySem.W.dataLe false id) ?_ ?_ _) ?_ ((List.mergeSort_perm _ _).trans (hp.map padD))
  · obtain ⟨q, hq, rfl⟩ := List.mem_map.mp hb
    have ha' := (List.mergeSort_perm _ _).mem_iff.mp ha
    obtain ⟨p, hp', rfl⟩ := List.mem_map.mp ha'
    have hp2 := hp.mem_iff.mp hp'
    by_cases e : p.1 = q.1
    · have nd : ((byK f).map (·.1)).Nodup := keysL_nd.sublist (byK_sub f)
      have : p = q := by
        have i1 : lk (byK f) p.1 = some p.2 := (lk_some nd).mpr hp2
        have i2 : lk (byK f) q.1 = some q.2 := (lk_some nd).mpr hq
        rw [e, i2] at i1
        exact Prod.ext e (Option.some.inj i1).symm
      rw [this]
    · rw [pad_lt e, decide_eq_true_iff] at h1
      rw [pad_lt (fun z => e z.symm), decide_eq_true_iff] at h2
      omega
  · intro a b c h1 h2
    exact (PySem.W.sortLe_total (PyProof.Rows.listOrd PyProof.Rows.itemOrd) false fun b : D => PySem.W.keyToks (id b)).trans a b c h1 h2
  · intro a b
    rw [Bool.or_eq_true]
    exact (PySem.W.sortLe_total (PyProof.Rows.listOrd PyProof.Rows.itemOrd) false fun b : D => PySem.W.keyToks (id b)).total a b
  · rw [List.pairwise_map] at asc ⊢
    refine asc.imp fun {p q} hlt => ?_
    rw [pad_lt (by omega), decide_eq_true_iff]
    exact hlt
end PM
namespace PM
open PySem PySem.Spec PyProof.Rows L2 PV WS
section
variable {R R1 R2 : Ro} {M M1 M2 M3 : Mu} {fa fb fc fd fk fx fv : Ro → Mu → Option (RR AV)}
theorem zPutD_of {c kd : AV} {n : Nat} {k : Key} {l : List (Key × AV)} (e1 : fv R M = some (.ok c M1)) (e2 : fd R M1 = some (.ok (.loc n) M2)) (e3 : fk R M2 = some (.ok kd M3)) (e4 : keyOf kd = some k) (e5 : dctAt M3 n = some l) (hl : l.length < 16777216) : zPutD fd fk fv R M = some (.nx R (M3.set n (.dct (putA l k c)))) := by
  unfold zPutD oe
  simp -implicitDefEqProofs only [e1, e2, e3, e4, e5, Option.bind_some, hl, if_true]
theorem aGet2_of {c kd : AV} {n : Nat} {k : Key} {l l0 : List (Key × AV)} (e1 : fd R M = some (.ok (.loc n) M1)) (e0 : dctAt M1 n = some l0) (e2 : fk R M1 = some (.ok kd M2)) (e3 : fx R M2 = some (.ok c M3)) (e4 : keyOf kd = some k) (e5 : dctAt M3 n = some l) : aGet2 fd fk fx R M = some (.ok ((getA l k).getD c) M3) := by
  unfold aGet2 rb
  simp -implicitDefEqProofs only [e1, e0, e2, e3, e4, e5, Option.bind_some, Option.map_some]
theorem iItm_of {n : Nat} {l : List (Key × AV)} (e1 : fd R M = some (.ok (.loc n) M1)) (e5 : dctAt M1 n = some l) : iItm fd R M = some (.ok (l.map fun kv => .tup [.d (keyD kv.1), kv.2]) (M1.set n .dead)) := by
  unfold iItm rb
  simp -implicitDefEqProofs only [e1, e5, Option.map_some]
theorem zFor_of {fi : Ro → Mu → Option (RR (List AV))} {h : AV → Ro → Option Ro} {b : Ro → Mu → Option OutA} {l : List AV} (e : fi R M = some (.ok l M1)) : zFor fi h b R M = forA b h l R M1 := by unfold zFor; rw [e]; rfl
theorem forA_cons {h : AV → Ro → Option Ro} {b : Ro → Mu → Option OutA} {a : AV} {l : List AV} (e1 : h a R = some R1) (e2 : b R1 M = some (.nx R2 M2)) : forA b h (a :: l) R M = forA b h l R2 M2 := by
  rw [forA, e1, Option.bind_some, e2, Option.bind_some]
theorem zFz_of {k i : Nat} {g : Ro → Mu → Option OutA} {av : AV} {x : D} (e1 : R[i]? = some (some av)) (e2 : fzV k av M = some (x, M1)) : zFz k i g R M = g (R.set i (some (.d x))) M1 := by
  unfold zFz
  simp -implicitDefEqProofs only [e1, e2, Option.bind_some]
end
/-! together -/
theorem shared_ok (a b : Nat) (ha : 1 ≤ a) (hb : 1 ≤ b) (ha2 : a < 1000000000) (hb2 : b < 1000000000) : F_shared_multiple [.int (a : Nat), .int (b : Nat)] = some (.int (Nat.lcm a b : Nat)) := by
  refine run_of (ρ := [some (.val (.int (a : Nat))), some (.val (.int (b : Nat)))]) rfl ?_
  have hd := divisor_ok a b (by omega)
  have hg : 0 < Nat.gcd a b := Nat.gcd_pos_of_pos_left _ ha
  have hg2 : Nat.gcd a b ≤ a := Nat.gcd_le_left _ ha
  have e1 : vMul (.int (a : Nat)) (.int (b : Nat)) = some (.int ((a * b : Nat) : Int)) := by rw [vMul_i (by omega), cast_mul]
  have e2 : vDiv (.int ((a * b : Nat) : Int)) (.int (Nat.gcd a b : Nat)) = some (.int (Nat.lcm a b : Nat)) := by
    rw [vDiv_i (by omega), ← Int.natCast_ediv]
    rfl
  refine ret_of ?_
  refine f2_of (f2_of rfl rfl e1) ?_ e2
  rw [fn_ev]
  exact hd
def tgG (g g2 : Nat) : Nat := Nat.lcm g g2
def tgS (s g s2 g2 : Nat) : Nat := Nat.lcm (s * (tgG g g2 / g)) (s2 * (tgG g g2 / g2))
/-- how many rounds in a longer one -/
def tgM (s q n : Nat) : Nat := n / (s * q)
def tgF (s g : Nat) (p : Pds) (s2 g2 : Nat) (p2 : Pds) : Nat → Option (List Nat) := fun k =>
  comb (tgS s g s2 g2) (lk (ftP (tgG g g2 / g) (tgM s (tgG g g2 / g) (tgS s g s2 g2)) p) k) (lk (ftP (tgG g g2 / g2) (tgM s2 (tgG g g2 / g2) (tgS s g s2 g2)) p2) k)
def tgP (s g : Nat) (p : Pds) (s2 g2 : Nat) (p2 : Pds) : Pds := byK (tgF s g p s2 g2 p2)
/-- a pattern as the functions take it -/
structure PtOk (s g : Nat) (p : Pds) : Prop where
  st : 1 ≤ s
  gr : 1 ≤ g
  ks : (p.map (·.1)).Sublist keysL
  rw : ∀ x ∈ p, x.2.length = s ∧ ∀ c ∈ x.2, Mk c
theorem PtOk.nd {s g : Nat} {p : Pds} (h : PtOk s g p) : (p.map (·.1)).Nodup := keysL_nd.sublist h.ks
theorem PtOk.few {s g : Nat} {p : Pds} (h : PtOk s g p) : p.length ≤ 5 := by
  have := h.ks.length_le
  simpa [keysL] using this
theorem Pads.pt {s g : Nat} {p : Pds} (hs : 1 ≤ s) (hg : 1 ≤ g) (h : Pads s keysL p) : PtOk s g p := ⟨hs, hg, h.sub, h.row⟩
theorem lk_mem {p : Pds} {k : Nat} {r : List Nat} (h : lk p k = some r) : (k, r) ∈ p := by
  unfold lk at h
  obtain ⟨x, hx, rfl⟩ := Option.map_eq_some_iff.mp h
  have h1 := List.mem_of_find?_eq_some hx
  have h2 := List.find?_some hx
  have : x.1 = k := by simpa using h2
  rw [← this]
  exact h1
theorem ftP_lk (q m : Nat) (p : Pds) (k : Nat) : lk (ftP q m p) k = (lk p k).map (ft q m) := lk_map _ _ _
/-- the sizes of what is laid together -/
structure TgS (s g s2 g2 gg ss a1 a2 b1 b2 : Nat) : Prop where
  G : tgG g g2 = gg
  S : tgS s g s2 g2 = ss
  q1 : gg / g = a1
  q2 : gg / g2 = a2
  m1 : tgM s a1 ss = b1
  m2 : tgM s2 a2 ss = b2
  Gq1 : gg = g * a1
  Gq2 : gg = g2 * a2
  Sm1 : ss = b1 * (s * a1)
  Sm2 : ss = b2 * (s2 * a2)
  Gp : 0 < gg
  Sp : 0 < ss
  p1 : 0 < a1
  p2 : 0 < a2
theorem tg_sizes {s g s2 g2 : Nat} (hs : 1 ≤ s) (hg : 1 ≤ g) (hs2 : 1 ≤ s2) (hg2 : 1 ≤ g2) : ∃ G S q1 q2 m1 m2, TgS s g s2 g2 G S q1 q2 m1 m2 := by
  have hG : 0 < tgG g g2 := Nat.lcm_pos hg hg2
  have d1 : g ∣ tgG g g2 := Nat.dvd_lcm_left _ _
  have d2 : g2 ∣ tgG g g2 := Nat.dvd_lcm_right _ _
  have p1 : 0 < tgG g g2 / g := Nat.div_pos (Nat.le_of_dvd hG d1) hg
  have p2 : 0 < tgG g g2 / g2 := Nat.div_pos (Nat.le_of_dvd hG d2) hg2
  have z1 : 0 < s * (tgG g g2 / g) := Nat.mul_pos hs p1
  have z2 : 0 < s2 * (tgG g g2 / g2) := Nat.mul_pos hs2 p2
  have hS : 0 < tgS s g s2 g2 := Nat.lcm_pos z1 z2
  have e1 : s * (tgG g g2 / g) ∣ tgS s g s2 g2 := Nat.dvd_lcm_left _ _
  have e2 : s2 * (tgG g g2 / g2) ∣ tgS s g s2 g2 := Nat.dvd_lcm_right _ _
  exact ⟨_, _, _, _, _, _, ⟨rfl, rfl, rfl, rfl, rfl, rfl, (Nat.mul_div_cancel' d1).symm, (Nat.mul_div_cancel' d2).symm, (Nat.div_mul_cancel e1).symm, (Nat.div_mul_cancel e2).symm, hG, hS, p1, p2⟩⟩
theorem TgS.f {s g s2 g2 G S q1 q2 m1 m2 : Nat} (z : TgS s g s2 g2 G S q1 q2 m1 m2) (p p2 : Pds) (k : Nat) : tgF s g p s2 g2 p2 k = comb S ((lk p k).map (ft q1 m1)) ((lk p2 k).map (ft q2 m2)) := by
  unfold tgF
  rw [z.G, z.S, z.q1, z.q2, z.m1, z.m2, ftP_lk, ftP_lk]
theorem comb_ok {n : Nat} {a b : Option (List Nat)} (ha : ∀ r, a = some r → r.length = n ∧ ∀ c ∈ r, Mk c) (hb : ∀ r, b = some r → r.length = n ∧ ∀ c ∈ r, Mk c) {r : List Nat} (h : comb n a b = some r) : r.length = n ∧ ∀ c ∈ r, Mk c := by
  unfold comb at h
  cases b with
  | none => exact ha r h
  | some y =>
    cases h
    obtain ⟨h1, h2⟩ := hb y rfl
    cases a with
    | none =>
      exact ⟨by rw [lay_len (by simp [h1])]; simp, lay_mk (fun c hc => .inl (List.mem_replicate.mp hc).2) h2⟩
    | some x =>
      obtain ⟨h3, h4⟩ := ha x rfl
      exact ⟨by rw [lay_len (by simp [h1, h3])]; exact h3, lay_mk h4 h2⟩
theorem ft_row {s g : Nat} {p : Pds} (h : PtOk s g p) {q m S k : Nat} (hq : 0 < q) (hS : S = m * (s * q)) {r : List Nat} (e : (lk p k).map (ft q m) = some r) : r.length = S ∧ ∀ c ∈ r, Mk c := by
  obtain ⟨x, hx, rfl⟩ := Option.map_eq_some_iff.mp e
  obtain ⟨h1, h2⟩ := h.rw _ (lk_mem hx)
  have h1 : x.length = s := h1
  exact ⟨by rw [ft_len hq, h1, hS], ft_mk h2⟩
theorem tg_ok {s g s2 g2 : Nat} {p p2 : Pds} (h : PtOk s g p) (h2 : PtOk s2 g2 p2) : PtOk (tgS s g s2 g2) (tgG g g2) (tgP s g p s2 g2 p2) := by
  obtain ⟨G, S, q1, q2, m1, m2, z⟩ := tg_sizes h.st h.gr h2.st h2.gr
  refine ⟨by rw [z.S]; exact z.Sp, by rw [z.G]; exact z.Gp, byK_sub _, fun x hx => ?_⟩
  obtain ⟨k, hk, e⟩ := List.mem_filterMap.mp hx
  obtain ⟨r, er, rfl⟩ := Option.map_eq_some_iff.mp e
  rw [z.f] at er
  rw [z.S]
  exact comb_ok (fun r e => ft_row h z.p1 z.Sm1 e) (fun r e => ft_row h2 z.p2 z.Sm2 e) er
/-! the walk -/
def itA (p : Nat × List Nat) : AV := .tup [.d (T [p.1]), .d (T p.2)]
theorem dctAt_app (M X : Mu) (l : List (Key × AV)) : dctAt (M ++ .dct l :: X) M.length = some l := by
  unfold dctAt
  rw [List.getElem?_append_right (Nat.le_refl _), Nat.sub_self]
  rfl
theorem set_app (M X : Mu) (a b : Ob) : (M ++ a :: X).set M.length b = M ++ b :: X := by
  rw [List.set_append_right _ _ (Nat.le_refl _), Nat.sub_self]
  rfl
theorem lays_loop (n SS : Nat) (hn : SS = n) (hb : n ≤ 1000000) (P Q : D) (G : Int) (M : Mu) : ∀ (ps l : Pds) (x5 x6 : Option AV), (∀ p ∈ l, p.2.length = n ∧ ∀ c ∈ p.2, Mk c) → (∀ p ∈ ps, p.2.length = n ∧ ∀ c ∈ p.2, Mk c) → l.length + ps.length ≤ 1000 →
    ∃ y5 y6, forA (zPutD (aVar 4) (lE (fVar 5)) (aN F_laid (bCons (aGet2 (aVar 4) (lE (fVar 5)) (lE (f2 vMul (fC (.str ".")) (fVar 3)))) (bCons (lE (fVar 6)) bNil)))) (hT 2 (hC (PV.hN 5) (hC (PV.hN 6) hNl))) (ps.map itA)
      [some (.d P), some (.d Q), some (.d (.int G)), some (.d (.int (SS : Nat))), some (.loc M.length), x5, x6] (M ++ [.dct (l.map kvA), .dead]) =
      some (.nx [some (.d P), some (.d Q), some (.d (.int G)), some (.d (.int (SS : Nat))), some (.loc M.length), y5, y6] (M ++ [.dct ((lays n l ps).map kvA), .dead]))
  | [], l, x5, x6, _, _, _ => ⟨x5, x6, rfl⟩
  | p :: ps, l, x5, x6, h1, h2, h3 => by
    obtain ⟨hp1, hp2⟩ := h2 p (by simp)
    have hold : ((lk l p.1).getD (List.replicate n 46)).length = n ∧ ∀ c ∈ (lk l p.1).getD (List.replicate n 46), Mk c := by
      cases e : lk l p.1 with
      | none => exact ⟨by simp, fun c hc => .inl (List.mem_replicate.mp hc).2⟩
      | some r => exact h1 _ (lk_mem e)
    generalize hr : (lk l p.1).getD (List.replicate n 46) = r at hold
    have el := laid_ok r p.2 hold.2 hp2 (by rw [hold.1]; exact hb)
    have hl2 : ∀ x ∈ putN l p.1 (lay r p.2), x.2.length = n ∧ ∀ c ∈ x.2, Mk c := by
      intro x hx
      unfold putN at hx
      have hnew : (lay r p.2).length = n ∧ ∀ c ∈ lay r p.2, Mk c := ⟨by rw [lay_len (by rw [hold.1, hp1])]; exact hold.1, lay_mk hold.2 hp2⟩
      split at hx
      · obtain ⟨y, hy, rfl⟩ := List.mem_map.mp hx
        split
        · exact hnew
        · exact h1 y hy
      · rcases List.mem_append.mp hx with hx | hx
        · exact h1 x hx
        · simp at hx; subst hx; exact hnew
    have hl3 := putN_len l p.1 (lay r p.2)
    obtain ⟨y5, y6, ih⟩ := lays_loop n SS hn hb P Q G M ps (putN l p.1 (lay r p.2)) (some (.d (T [p.1]))) (some (.d (T p.2))) hl2 (fun x hx => h2 x (by simp [hx])) (by rw [List.length_cons] at h3; omega)
    refine ⟨y5, y6, ?_⟩
    rw [lays_cons, hr, ← ih, List.map_cons]
    have hm := vMul_rep [46] n (by omega) (by simp; omega)
    rw [rep_rest] at hm
    have eg : aGet2 (aVar 4) (lE (fVar 5)) (lE (f2 vMul (fC (.str ".")) (fVar 3))) [some (.d P), some (.d Q), some (.d (.int G)), some (.d (.int (SS : Nat))), some (.loc M.length), some (.d (T [p.1])), some (.d (T p.2))] (M ++ [.dct (l.map kvA), .dead]) = some (.ok (.d (T r)) (M ++ [.dct (l.map kvA), .dead])) := by
      rw [aGet2_of (n := M.length) (k := .inr (S [p.1])) (kd := .d (T [p.1])) (c := .d (T (List.replicate n 46))) (aVar_of rfl) (dctAt_app M _ _) (lE_of rfl) (lE_of (by
        rw [lit_dot]
        refine f2_of (x := .str (S [46])) (y := .int (SS : Nat)) rfl rfl ?_
        rw [hn]; exact hm)) rfl (dctAt_app M _ _)]
      rw [getA_kv, ← hr]
      cases lk l p.1 <;> rfl
    have ev : aN F_laid (bCons (aGet2 (aVar 4) (lE (fVar 5)) (lE (f2 vMul (fC (.str ".")) (fVar 3)))) (bCons (lE (fVar 6)) bNil)) [some (.d P), some (.d Q), some (.d (.int G)), some (.d (.int (SS : Nat))), some (.loc M.length), some (.d (T [p.1])), some (.d (T p.2))] (M ++ [.dct (l.map kvA), .dead]) = some (.ok (.d (T (lay r p.2))) (M ++ [.dct (l.map kvA), .dead])) :=
      aN_of (l := [.d (T r), .d (T p.2)]) (ds := [T r, T p.2]) (bcons_of eg (bcons_of (lE_of rfl) bnil_of)) rfl el
    have ez : zPutD (aVar 4) (lE (fVar 5)) (aN F_laid (bCons (aGet2 (aVar 4) (lE (fVar 5)) (lE (f2 vMul (fC (.str ".")) (fVar 3)))) (bCons (lE (fVar 6)) bNil))) [some (.d P), some (.d Q), some (.d (.int G)), some (.d (.int (SS : Nat))), some (.loc M.length), some (.d (T [p.1])), some (.d (T p.2))] (M ++ [.dct (l.map kvA), .dead]) = some (.nx [some (.d P), some (.d Q), some (.d (.int G)), some (.d (.int (SS : Nat))), some (.loc M.length), some (.d (T [p.1])), some (.d (T p.2))] (M ++ [.dct ((putN l p.1 (lay r p.2)).map kvA), .dead])) := by
      rw [zPutD_of (n := M.length) (k := .inr (S [p.1])) (kd := .d (T [p.1])) ev (aVar_of rfl) (lE_of rfl) rfl (dctAt_app M _ _) (by rw [List.length_map]; omega), putA_kv, set_app]
    exact forA_cons (R1 := [some (.d P), some (.d Q), some (.d (.int G)), some (.d (.int (SS : Nat))), some (.loc M.length), some (.d (T [p.1])), some (.d (T p.2))]) rfl ez
theorem fz_dct (M : Mu) (l : Pds) : ∀ (M0 : Mu), mapK (fzV 2) (l.map kvA) M0 = some (l.map kvD, M0) := by
  induction l with
  | nil => intro M0; rfl
  | cons p l ih =>
    intro M0
    rw [List.map_cons]
    show (mapK (fzV 2) (l.map kvA) M0).map _ = _
    rw [ih]
    rfl
theorem itsD_kv (l : Pds) : itsD (l.map kvD) = l.map padD := by
  unfold itsD
  rw [List.map_map]
  rfl
theorem together_ok {s g s2 g2 : Nat} {p p2 : Pds} (h : PtOk s g p) (h2 : PtOk s2 g2 p2) (hG : tgG g g2 ≤ 1000) (hS : tgS s g s2 g2 ≤ 1000000) (M : Mu) :
    ∃ M', F_together [.d (patD s g p), .d (patD s2 g2 p2)] M = some (.ok (.d (patD (tgS s g s2 g2) (tgG g g2) (tgP s g p s2 g2 p2))) M') := by
  obtain ⟨G, S, q1, q2, m1, m2, z⟩ := tg_sizes h.st h.gr h2.st h2.gr
  have hq1 : q1 ≤ G := by rw [z.Gq1]; exact Nat.le_mul_of_pos_left _ h.gr
  have hq2 : q2 ≤ G := by rw [z.Gq2]; exact Nat.le_mul_of_pos_left _ h2.gr
  have hg1 : g ≤ G := by rw [z.Gq1]; exact Nat.le_mul_of_pos_right _ z.p1
  have hg2 : g2 ≤ G := by rw [z.Gq2]; exact Nat.le_mul_of_pos_right _ z.p2
  have hm1 : 0 < m1 := Nat.pos_of_ne_zero fun e => by have := z.Sm1; have := z.Sp; rw [e, Nat.zero_mul] at *; omega
  have hm2 : 0 < m2 := Nat.pos_of_ne_zero fun e => by have := z.Sm2; have := z.Sp; rw [e, Nat.zero_mul] at *; omega
  have hz1 : 0 < s * q1 := Nat.mul_pos h.st z.p1
  have hz2 : 0 < s2 * q2 := Nat.mul_pos h2.st z.p2
  have hs1 : s * q1 ≤ S := by rw [z.Sm1]; exact Nat.le_mul_of_pos_left _ hm1
  have hs2 : s2 * q2 ≤ S := by rw [z.Sm2]; exact Nat.le_mul_of_pos_left _ hm2
  have hmS1 : m1 ≤ S := by rw [z.Sm1]; exact Nat.le_mul_of_pos_right _ hz1
  have hmS2 : m2 ≤ S := by rw [z.Sm2]; exact Nat.le_mul_of_pos_right _ hz2
  have hss : s ≤ s * q1 := Nat.le_mul_of_pos_right _ z.p1
  have hss2 : s2 ≤ s2 * q2 := Nat.le_mul_of_pos_right _ z.p2
  rw [z.G] at hG ⊢
  rw [z.S] at hS ⊢
  have hgr := h.gr
  have hgr2 := h2.gr
  have hst := h.st
  have hst2 := h2.st
  have fa1 := fitted_ok s g p q1 m1 G S M z.Gq1 z.Sm1 h.st ⟨h.gr, by omega⟩ ⟨z.p1, by omega⟩ (by omega) (fun x hx => (h.rw x hx).1) (by omega) hS h.nd (by have := h.few; omega)
  have f2' := fitted_ok s2 g2 p2 q2 m2 G S (M ++ [.dct ((ftP q1 m1 p).map kvA)]) z.Gq2 z.Sm2 h2.st ⟨h2.gr, by omega⟩ ⟨z.p2, by omega⟩ (by omega) (fun x hx => (h2.rw x hx).1) (by omega) hS h2.nd (by have := h2.few; omega)
  have sh1 := shared_ok g g2 h.gr h2.gr (by omega) (by omega)
  have sh2 := shared_ok (s * q1) (s2 * q2) hz1 hz2 (by omega) (by omega)
  have eG : Nat.lcm g g2 = G := z.G
  have eS : Nat.lcm (s * q1) (s2 * q2) = S := by
    have := z.S
    unfold tgS at this
    rw [z.G, z.q1, z.q2] at this
    exact this
  rw [eG] at sh1
  rw [eS] at sh2
  have d1 : vDiv (.int (G : Nat)) (.int (g : Nat)) = some (.int (q1 : Nat)) := by rw [vDiv_i (by omega), ← Int.natCast_ediv, z.q1]
  have d2 : vDiv (.int (G : Nat)) (.int (g2 : Nat)) = some (.int (q2 : Nat)) := by rw [vDiv_i (by omega), ← Int.natCast_ediv, z.q2]
  have c1 : vMul (.int (s : Nat)) (.int (q1 : Nat)) = some (.int ((s * q1 : Nat) : Int)) := by rw [vMul_i (by omega), cast_mul]
  have c2 : vMul (.int (s2 : Nat)) (.int (q2 : Nat)) = some (.int ((s2 * q2 : Nat) : Int)) := by rw [vMul_i (by omega), cast_mul]
  have r1 : ∀ x ∈ ftP q1 m1 p, x.2.length = S ∧ ∀ c ∈ x.2, Mk c := fun x hx => by
    obtain ⟨y, hy, rfl⟩ := List.mem_map.mp hx
    obtain ⟨y1, y2⟩ := h.rw y hy
    exact ⟨by show (ft q1 m1 y.2).length = S; rw [ft_len z.p1, y1, z.Sm1], ft_mk y2⟩
  have r2 : ∀ x ∈ ftP q2 m2 p2, x.2.length = S ∧ ∀ c ∈ x.2, Mk c := fun x hx => by
    obtain ⟨y, hy, rfl⟩ := List.mem_map.mp hx
    obtain ⟨y1, y2⟩ := h2.rw y hy
    exact ⟨by show (ft q2 m2 y.2).length = S; rw [ft_len z.p2, y1, z.Sm2], ft_mk y2⟩
  have nd1 : ((ftP q1 m1 p).map (·.1)).Nodup := by rw [ftP_keys]; exact h.nd
  have nd2 : ((ftP q2 m2 p2).map (·.1)).Nodup := by rw [ftP_keys]; exact h2.nd
  have k1 : ∀ k, k ∉ keysL → lk (ftP q1 m1 p) k = none := fun k hk => lk_none.mpr (by rw [ftP_keys]; exact fun z => hk (h.ks.subset z))
  have k2 : ∀ k, k ∉ keysL → lk (ftP q2 m2 p2) k = none := fun k hk => lk_none.mpr (by rw [ftP_keys]; exact fun z => hk (h2.ks.subset z))
  have l1 : (ftP q1 m1 p).length ≤ 5 := by unfold ftP; rw [List.length_map]; exact h.few
  have l2 : (ftP q2 m2 p2).length ≤ 5 := by unfold ftP; rw [List.length_map]; exact h2.few
  have eF : tgP s g p s2 g2 p2 = byK fun k => comb S (lk (ftP q1 m1 p) k) (lk (ftP q2 m2 p2) k) := by
    refine congrArg byK (funext fun k => ?_)
    rw [z.f, ftP_lk, ftP_lk]
  rw [eF]
  clear eF
  generalize ftP q1 m1 p = A at *
  generalize ftP q2 m2 p2 = B at *
  have hpatP : patD s g p = patD s g p := rfl
  have e0 : S_together_0 [some (.d (patD s g p)), some (.d (patD s2 g2 p2)), none, none, none, none, none] M = some (.nx [some (.d (patD s g p)), some (.d (patD s2 g2 p2)), some (.d (.int (G : Nat))), none, none, none, none] M) := by
    refine zset_l ?_
    have a1 : f2 vIx (fVar 0) (fC (.int 1)) (pr [some (.d (patD s g p)), some (.d (patD s2 g2 p2)), none, none, none, none, none]) = some (.int (g : Nat)) := rfl
    have a2 : f2 vIx (fVar 1) (fC (.int 1)) (pr [some (.d (patD s g p)), some (.d (patD s2 g2 p2)), none, none, none, none, none]) = some (.int (g2 : Nat)) := rfl
    rw [fn_ev, aCons_ev, aCons_ev, aNil_ev, a1, a2]
    simp -implicitDefEqProofs only [Option.bind_some]
    exact sh1
  have e1 : S_together_1 [some (.d (patD s g p)), some (.d (patD s2 g2 p2)), some (.d (.int (G : Nat))), none, none, none, none] M = some (.nx [some (.d (patD s g p)), some (.d (patD s2 g2 p2)), some (.d (.int (G : Nat))), some (.d (.int (S : Nat))), none, none, none] M) := by
    refine zset_l ?_
    have a1 : f2 vMul (f2 vIx (fVar 0) (fC (.int 0))) (f2 vDiv (fVar 2) (f2 vIx (fVar 0) (fC (.int 1)))) (pr [some (.d (patD s g p)), some (.d (patD s2 g2 p2)), some (.d (.int (G : Nat))), none, none, none, none]) = some (.int ((s * q1 : Nat) : Int)) := f2_of (x := .int (s : Nat)) (y := .int (q1 : Nat)) rfl (f2_of (x := .int (G : Nat)) (y := .int (g : Nat)) rfl rfl d1) c1
    have a2 : f2 vMul (f2 vIx (fVar 1) (fC (.int 0))) (f2 vDiv (fVar 2) (f2 vIx (fVar 1) (fC (.int 1)))) (pr [some (.d (patD s g p)), some (.d (patD s2 g2 p2)), some (.d (.int (G : Nat))), none, none, none, none]) = some (.int ((s2 * q2 : Nat) : Int)) := f2_of (x := .int (s2 : Nat)) (y := .int (q2 : Nat)) rfl (f2_of (x := .int (G : Nat)) (y := .int (g2 : Nat)) rfl rfl d2) c2
    rw [fn_ev, aCons_ev, aCons_ev, aNil_ev, a1, a2]
    simp -implicitDefEqProofs only [Option.bind_some]
    exact sh2
  generalize patD s g p = P at *
  generalize patD s2 g2 p2 = Q at *
  have e2 : S_together_2 [some (.d P), some (.d Q), some (.d (.int (G : Nat))), some (.d (.int (S : Nat))), none, none, none] M = some (.nx [some (.d P), some (.d Q), some (.d (.int (G : Nat))), some (.d (.int (S : Nat))), some (.loc M.length), none, none] (M ++ [.dct (A.map kvA)])) := by
    refine zset_nx ?_
    rw [aFn_of (l := [.d P, .d (.int (G : Nat)), .d (.int (S : Nat))]) (bcons_of (lE_of rfl) (bcons_of (lE_of rfl) (bcons_of (lE_of rfl) bnil_of)))]
    exact fa1
  obtain ⟨y5, y6, el⟩ := lays_loop S S rfl hS P Q (G : Nat) M B A none none r1 r2 (by omega)
  have hL : (M ++ [Ob.dct (A.map kvA)]).length = M.length + 1 := by simp
  have e3 : S_together_3 [some (.d P), some (.d Q), some (.d (.int (G : Nat))), some (.d (.int (S : Nat))), some (.loc M.length), none, none] (M ++ [.dct (A.map kvA)]) = some (.nx [some (.d P), some (.d Q), some (.d (.int (G : Nat))), some (.d (.int (S : Nat))), some (.loc M.length), y5, y6] (M ++ [.dct ((lays S A B).map kvA), .dead])) := by
    rw [← el]
    have ei : iItm (aFn F_fitted (bCons (lE (fVar 1)) (bCons (lE (fVar 2)) (bCons (lE (fVar 3)) bNil)))) [some (.d P), some (.d Q), some (.d (.int (G : Nat))), some (.d (.int (S : Nat))), some (.loc M.length), none, none] (M ++ [.dct (A.map kvA)]) = some (.ok (B.map itA) (M ++ [.dct (A.map kvA), .dead])) := by
      rw [iItm_of (n := (M ++ [Ob.dct (A.map kvA)]).length) (l := B.map kvA) (M1 := M ++ [.dct (A.map kvA)] ++ [.dct (B.map kvA)]) ((aFn_of (l := [.d Q, .d (.int (G : Nat)), .d (.int (S : Nat))]) (bcons_of (lE_of rfl) (bcons_of (lE_of rfl) (bcons_of (lE_of rfl) bnil_of)))).trans f2') (dctAt_app _ _ _), List.map_map, set_app, List.append_assoc]
      rfl
    exact zFor_of ei
  refine ⟨(M ++ [Ob.dct ((lays S A B).map kvA), Ob.dead]).set M.length Ob.dead, runA_of rfl ?_⟩
  unfold G_together
  refine Eq.trans (zseq_nx e0) ?_
  refine Eq.trans (zseq_nx e1) ?_
  refine Eq.trans (zseq_nx e2) ?_
  refine Eq.trans (zseq_nx e3) ?_
  have hperm : List.Perm (lays S A B) (byK fun k => comb S (lk A k) (lk B k)) := by
    refine pads_perm (lays_nd S B A nd1) (keysL_nd.sublist (byK_sub _)) fun k => ?_
    rw [lays_lk S B A k nd2]
    by_cases hk : k ∈ keysL
    · rw [byK_lk hk]
    · rw [k1 k hk, k2 k hk]
      symm
      exact lk_none.mpr fun z => hk ((byK_sub _).subset z)
  have hSg : ∀ x ∈ lays S A B, Sg x.2 := fun x hx => by
    obtain ⟨k, r⟩ := x
    have e := (lk_some (lays_nd S B A nd1)).mpr hx
    rw [lays_lk S B A k nd2] at e
    exact mk_sg (comb_ok (fun r e => r1 _ (lk_mem e)) (fun r e => r2 _ (lk_mem e)) e).2
  have hsort := sort_pads hperm hSg (by have := lays_len S B A; omega)
  generalize lays S A B = Z at *
  generalize (byK fun k => comb S (lk A k) (lk B k)) = F at *
  have efz : fzV 3 (.loc M.length) (M ++ [.dct (Z.map kvA), .dead]) = some (.dict (Z.map kvD), (M ++ [Ob.dct (Z.map kvA), Ob.dead]).set M.length Ob.dead) := by
    unfold fzV
    have : (M ++ [Ob.dct (Z.map kvA), Ob.dead])[M.length]? = some (.dct (Z.map kvA)) := by
      rw [List.getElem?_append_right (Nat.le_refl _), Nat.sub_self]
      rfl
    rw [this]
    show (mapK (fzV 2) (Z.map kvA) _).map _ = _
    rw [fz_dct M]
    rfl
  refine Eq.trans (zFz_of (av := .loc M.length) rfl efz) ?_
  refine zret_of (lE_of ?_)
  have es : f1 vSortIt (fVar 4) (pr ([some (.d P), some (.d Q), some (.d (.int (G : Nat))), some (.d (.int (S : Nat))), some (.loc M.length), y5, y6].set 4 (some (.d (.dict (Z.map kvD)))))) = some (.list (F.map padD)) := by
    show vSortIt (.dict (Z.map kvD)) = _
    show (vSort (itsD (Z.map kvD))).map _ = _
    rw [itsD_kv, hsort]
    rfl
  rw [fTup_ev, aCons_ev, aCons_ev, aCons_ev, fn_ev, aCons_ev, es]
  rfl
end PM
namespace PM
open PySem PySem.Spec PyProof.Rows L2 PV WS
/-! together: in any order -/
def RowO (n : Nat) (a : Option (List Nat)) : Prop := ∀ r, a = some r → r.length = n ∧ ∀ c ∈ r, Mk c
theorem comb_comm {n : Nat} {a b : Option (List Nat)} (ha : RowO n a) (hb : RowO n b) : comb n a b = comb n b a := by
  cases a with
  | none =>
    cases b with
    | none => rfl
    | some y =>
      obtain ⟨h1, h2⟩ := hb y rfl
      show some (lay (List.replicate n 46) y) = some y
      rw [← h1, lay_rest' h2]
  | some x =>
    obtain ⟨h1, h2⟩ := ha x rfl
    cases b with
    | none =>
      show some x = some (lay (List.replicate n 46) x)
      rw [← h1, lay_rest' h2]
    | some y =>
      obtain ⟨h3, h4⟩ := hb y rfl
      show some (lay x y) = some (lay y x)
      rw [lay_comm' h2 h4]
theorem comb_assoc {n : Nat} {a b c : Option (List Nat)} (ha : RowO n a) (hb : RowO n b) (hc : RowO n c) : comb n (comb n a b) c = comb n a (comb n b c) := by
  cases c with
  | none => rfl
  | some z =>
    obtain ⟨h5, h6⟩ := hc z rfl
    have hr : ∀ c ∈ List.replicate n 46, Mk c := fun c hc => .inl (List.mem_replicate.mp hc).2
    cases b with
    | none =>
      show some (lay (a.getD (List.replicate n 46)) z) = some (lay (a.getD (List.replicate n 46)) (lay (List.replicate n 46) z))
      rw [show lay (List.replicate n 46) z = z by rw [← h5, lay_rest' h6]]
    | some y =>
      obtain ⟨h3, h4⟩ := hb y rfl
      have ha' : ∀ c ∈ a.getD (List.replicate n 46), Mk c := by
        cases a with
        | none => exact hr
        | some x => exact (ha x rfl).2
      show some (lay (lay (a.getD (List.replicate n 46)) y) z) = some (lay (a.getD (List.replicate n 46)) (lay y z))
      rw [lay_assoc' ha' h4 h6]
theorem comb_self {n : Nat} {a : Option (List Nat)} : comb n a a = a := by
  cases a with
  | none => rfl
  | some x =>
    show some (lay x x) = some x
    rw [lay_self']
theorem comb_row {n : Nat} {a b : Option (List Nat)} (ha : RowO n a) (hb : RowO n b) : RowO n (comb n a b) := fun r e => comb_ok ha hb e
theorem ft_rests {q : Nat} (hq : 0 < q) (m n : Nat) : ft q m (List.replicate n 46) = List.replicate (m * (n * q)) 46 := by
  unfold ft
  rw [fin_rests hq]
  generalize n * q = z
  induction m with
  | zero => simp [rep]
  | succ m ih => rw [rep_s, ih, Nat.succ_mul, List.replicate_append_replicate, Nat.add_comm]
theorem comb_ft {n q m : Nat} (hq : 0 < q) {a b : Option (List Nat)} (ha : RowO n a) (hb : RowO n b) : (comb n a b).map (ft q m) = comb (m * (n * q)) (a.map (ft q m)) (b.map (ft q m)) := by
  cases b with
  | none => rfl
  | some y =>
    obtain ⟨h3, h4⟩ := hb y rfl
    cases a with
    | none =>
      show some (ft q m (lay (List.replicate n 46) y)) = some (lay (List.replicate (m * (n * q)) 46) (ft q m y))
      rw [ft_lay q m hq (by simp [h3]), ft_rests hq]
    | some x =>
      obtain ⟨h1, h2⟩ := ha x rfl
      show some (ft q m (lay x y)) = some (lay (ft q m x) (ft q m y))
      rw [ft_lay q m hq (by rw [h1, h3])]
theorem PtOk.row {s g : Nat} {p : Pds} (h : PtOk s g p) (k : Nat) : RowO s (lk p k) := fun r e => h.rw _ (lk_mem e)
theorem RowO.ft {s q m S : Nat} {a : Option (List Nat)} (h : RowO s a) (hq : 0 < q) (hS : S = m * (s * q)) : RowO S (a.map (ft q m)) := fun r e => by
  obtain ⟨x, rfl, rfl⟩ := Option.map_eq_some_iff.mp e
  obtain ⟨h1, h2⟩ := h x rfl
  exact ⟨by rw [ft_len hq, h1, hS], ft_mk h2⟩
theorem tgG_comm (g g2 : Nat) : tgG g g2 = tgG g2 g := Nat.lcm_comm _ _
theorem tgS_comm (s g s2 g2 : Nat) : tgS s g s2 g2 = tgS s2 g2 s g := by
  unfold tgS
  rw [tgG_comm g2 g, Nat.lcm_comm]
theorem tgP_comm {s g s2 g2 : Nat} {p p2 : Pds} (h : PtOk s g p) (h2 : PtOk s2 g2 p2) : tgP s g p s2 g2 p2 = tgP s2 g2 p2 s g p := by
  obtain ⟨G, S, q1, q2, m1, m2, z⟩ := tg_sizes h.st h.gr h2.st h2.gr
  have z' : TgS s2 g2 s g G S q2 q1 m2 m1 := ⟨by rw [tgG_comm]; exact z.G, by rw [tgS_comm]; exact z.S, z.q2, z.q1, z.m2, z.m1, z.Gq2, z.Gq1, z.Sm2, z.Sm1, z.Gp, z.Sp, z.p2, z.p1⟩
  refine congrArg byK (funext fun k => ?_)
  rw [z.f, z'.f]
  exact comb_comm ((h.row k).ft z.p1 z.Sm1) ((h2.row k).ft z.p2 z.Sm2)
theorem tgG_assoc (a b c : Nat) : tgG (tgG a b) c = tgG a (tgG b c) := Nat.lcm_assoc _ _ _
theorem tgS_three {s1 g1 s2 g2 s3 g3 : Nat} (h1 : 1 ≤ g1) (h2 : 1 ≤ g2) (h3 : 1 ≤ g3) :
    tgS (tgS s1 g1 s2 g2) (tgG g1 g2) s3 g3 = Nat.lcm (Nat.lcm (s1 * (tgG (tgG g1 g2) g3 / g1)) (s2 * (tgG (tgG g1 g2) g3 / g2))) (s3 * (tgG (tgG g1 g2) g3 / g3)) := by
  have hG : 0 < tgG g1 g2 := Nat.lcm_pos h1 h2
  obtain ⟨a, ha⟩ : g1 ∣ tgG g1 g2 := Nat.dvd_lcm_left _ _
  obtain ⟨b, hb⟩ : g2 ∣ tgG g1 g2 := Nat.dvd_lcm_right _ _
  obtain ⟨c, hc⟩ : tgG g1 g2 ∣ tgG (tgG g1 g2) g3 := Nat.dvd_lcm_left _ _
  have e1 : tgG (tgG g1 g2) g3 / g1 = a * c := by rw [hc]; conv => lhs; rw [ha]; rw [Nat.mul_assoc, Nat.mul_div_cancel_left _ h1]
  have e2 : tgG (tgG g1 g2) g3 / g2 = b * c := by rw [hc]; conv => lhs; rw [hb]; rw [Nat.mul_assoc, Nat.mul_div_cancel_left _ h2]
  have e3 : tgG (tgG g1 g2) g3 / tgG g1 g2 = c := by rw [hc, Nat.mul_div_cancel_left _ hG]
  have e4 : tgG g1 g2 / g1 = a := by conv => lhs; rw [ha]; rw [Nat.mul_div_cancel_left _ h1]
  have e5 : tgG g1 g2 / g2 = b := by conv => lhs; rw [hb]; rw [Nat.mul_div_cancel_left _ h2]
  unfold tgS
  rw [e1, e2, e3, e4, e5, ← Nat.mul_assoc, ← Nat.mul_assoc, Nat.lcm_mul_right]
theorem tgS_assoc {s1 g1 s2 g2 s3 g3 : Nat} (h1 : 1 ≤ g1) (h2 : 1 ≤ g2) (h3 : 1 ≤ g3) :
    tgS (tgS s1 g1 s2 g2) (tgG g1 g2) s3 g3 = tgS s1 g1 (tgS s2 g2 s3 g3) (tgG g2 g3) := by
  rw [tgS_three h1 h2 h3, tgS_comm s1 g1, tgS_three h2 h3 h1]
  have e : tgG (tgG g2 g3) g1 = tgG (tgG g1 g2) g3 := by rw [tgG_assoc g1, tgG_comm]
  rw [e, Nat.lcm_assoc, Nat.lcm_comm]
theorem tgP_assoc {s1 g1 s2 g2 s3 g3 : Nat} {p1 p2 p3 : Pds} (h1 : PtOk s1 g1 p1) (h2 : PtOk s2 g2 p2) (h3 : PtOk s3 g3 p3) :
    tgP (tgS s1 g1 s2 g2) (tgG g1 g2) (tgP s1 g1 p1 s2 g2 p2) s3 g3 p3 = tgP s1 g1 p1 (tgS s2 g2 s3 g3) (tgG g2 g3) (tgP s2 g2 p2 s3 g3 p3) := by
  have h12 := tg_ok h1 h2
  have h23 := tg_ok h2 h3
  obtain ⟨Ga, Sa, q1, q2, m1, m2, za⟩ := tg_sizes h1.st h1.gr h2.st h2.gr
  obtain ⟨Gb, Sb, r2, r3, n2, n3, zb⟩ := tg_sizes h2.st h2.gr h3.st h3.gr
  obtain ⟨G, S, qa, q3, ma, m3, z⟩ := tg_sizes h12.st h12.gr h3.st h3.gr
  obtain ⟨G', S', r1, rb, n1, nb, y⟩ := tg_sizes h1.st h1.gr h23.st h23.gr
  have eG : G' = G := by rw [← y.G, ← z.G, tgG_assoc]
  have eS : S' = S := by rw [← y.S, ← z.S, tgS_assoc h1.gr h2.gr h3.gr]
  subst eG eS
  rw [za.G, za.S] at z
  rw [zb.G, zb.S] at y
  have key : ∀ {g s q a r b m n c d Gx Sx : Nat}, 1 ≤ g → 1 ≤ s → Gx = g * q → G' = Gx * a → G' = g * r → Sx = m * (s * q) → S' = c * (Sx * a) → S' = d * (s * r) → 0 < r → a * q = r ∧ c * m = d := by
    intro g s q a r b m n c d Gx Sx hg hs e1 e2 e3 e4 e5 e6 hr
    have e7 : a * q = r := by
      have : g * (a * q) = g * r := by rw [← e3, e2, e1, Nat.mul_assoc, Nat.mul_comm q a]
      exact Nat.eq_of_mul_eq_mul_left hg this
    refine ⟨e7, ?_⟩
    have : (c * m) * (s * r) = d * (s * r) := by
      rw [← e6, e5, e4, ← e7]
      simp only [Nat.mul_assoc, Nat.mul_comm, Nat.mul_left_comm]
    exact Nat.eq_of_mul_eq_mul_right (Nat.mul_pos hs hr) this
  obtain ⟨k1, k2⟩ := key (b := 0) (n := 0) h1.gr h1.st za.Gq1 z.Gq1 y.Gq1 za.Sm1 z.Sm1 y.Sm1 y.p1
  have hq2 : 0 < qa * q2 := Nat.mul_pos z.p1 za.p2
  have j2 : G' = g2 * (qa * q2) := by rw [z.Gq1, za.Gq2, Nat.mul_assoc, Nat.mul_comm q2 qa]
  have j3 : S' = (ma * m2) * (s2 * (qa * q2)) := by rw [z.Sm1, za.Sm2]; simp only [Nat.mul_assoc, Nat.mul_comm, Nat.mul_left_comm]
  obtain ⟨k3, k4⟩ := key (b := 0) (n := 0) h2.gr h2.st zb.Gq1 y.Gq2 j2 zb.Sm1 y.Sm2 j3 hq2
  obtain ⟨k5, k6⟩ := key (b := 0) (n := 0) h3.gr h3.st zb.Gq2 y.Gq2 z.Gq2 zb.Sm2 y.Sm2 z.Sm2 z.p2
  refine congrArg byK (funext fun k => ?_)
  have f12 : ∀ k, k ∈ keysL → lk (tgP s1 g1 p1 s2 g2 p2) k = comb Sa ((lk p1 k).map (ft q1 m1)) ((lk p2 k).map (ft q2 m2)) := fun k hk => by
    unfold tgP
    rw [byK_lk hk, za.f]
  have f23 : ∀ k, k ∈ keysL → lk (tgP s2 g2 p2 s3 g3 p3) k = comb Sb ((lk p2 k).map (ft r2 n2)) ((lk p3 k).map (ft r3 n3)) := fun k hk => by
    unfold tgP
    rw [byK_lk hk, zb.f]
  rw [za.G, za.S, zb.G, zb.S, z.f, y.f]
  by_cases hk : k ∈ keysL
  · rw [f12 k hk, f23 k hk, comb_ft z.p1 ((h1.row k).ft za.p1 za.Sm1) ((h2.row k).ft za.p2 za.Sm2), comb_ft y.p2 ((h2.row k).ft zb.p1 zb.Sm1) ((h3.row k).ft zb.p2 zb.Sm2)]
    rw [← z.Sm1, ← y.Sm2]
    have mm : ∀ (a b c d : Nat), 0 < a → 0 < c → ∀ o : Option (List Nat), (o.map (ft c d)).map (ft a b) = o.map (ft (a * c) (b * d)) := fun a b c d ha hc o => by
      rw [Option.map_map]
      congr 1
      funext r
      exact ft_ft ha hc b d r
    rw [mm _ _ _ _ z.p1 za.p1, mm _ _ _ _ z.p1 za.p2, mm _ _ _ _ y.p2 zb.p1, mm _ _ _ _ y.p2 zb.p2, k1, k2, k3, k4, k5, k6]
    exact comb_assoc ((h1.row k).ft y.p1 y.Sm1) ((h2.row k).ft hq2 j3) ((h3.row k).ft z.p2 z.Sm2)
  · have n1' : lk (tgP s1 g1 p1 s2 g2 p2) k = none := lk_none.mpr fun z => hk ((byK_sub _).subset z)
    have n2' : lk (tgP s2 g2 p2 s3 g3 p3) k = none := lk_none.mpr fun z => hk ((byK_sub _).subset z)
    have n3' : lk p3 k = none := lk_none.mpr fun z => hk (h3.ks.subset z)
    have n4' : lk p1 k = none := lk_none.mpr fun z => hk (h1.ks.subset z)
    rw [n1', n2', n3', n4']
    rfl
/-! unlike pads -/
theorem lk_app (a b : Pds) (k : Nat) : lk (a ++ b) k = (lk a k).or (lk b k) := by
  induction a with
  | nil => rfl
  | cons p a ih =>
    rw [List.cons_append, lk_cons, lk_cons, ih]
    split <;> rfl
theorem tgP_apart {s g s2 g2 G S q1 q2 m1 m2 : Nat} {p p2 : Pds} (h : PtOk s g p) (h2 : PtOk s2 g2 p2) (z : TgS s g s2 g2 G S q1 q2 m1 m2) {k1 k2 : List Nat} (hk : keysL = k1 ++ k2) (hp : (p.map (·.1)).Sublist k1) (hp2 : (p2.map (·.1)).Sublist k2) :
    tgP s g p s2 g2 p2 = ftP q1 m1 p ++ ftP q2 m2 p2 := by
  have hsub : ((ftP q1 m1 p ++ ftP q2 m2 p2).map (·.1)).Sublist keysL := by
    rw [List.map_append, ftP_keys, ftP_keys, hk]
    exact List.Sublist.append hp hp2
  rw [← byK_self hsub]
  refine congrArg byK (funext fun k => ?_)
  rw [z.f, lk_app, ftP_lk, ftP_lk]
  cases e1 : lk p k with
  | none =>
    cases e2 : lk p2 k with
    | none => rfl
    | some r =>
      obtain ⟨h3, h4⟩ := (h2.row k).ft z.p2 z.Sm2 (ft q2 m2 r) (by rw [e2]; rfl)
      show some (lay (List.replicate S 46) (ft q2 m2 r)) = some (ft q2 m2 r)
      rw [← h3, lay_rest' h4]
  | some r =>
    cases e2 : lk p2 k with
    | none => rfl
    | some r2 =>
      exfalso
      have m1 : k ∈ k1 := hp.subset (List.mem_map.mpr ⟨_, lk_mem e1, rfl⟩)
      have m2 : k ∈ k2 := hp2.subset (List.mem_map.mpr ⟨_, lk_mem e2, rfl⟩)
      have nd := keysL_nd
      rw [hk, List.nodup_append] at nd
      exact nd.2.2 k m1 k m2 rfl
/-! how loud -/
theorem mksP_app (a b : Pds) : mksP (a ++ b) = mksP a ++ mksP b := by
  unfold mksP
  rw [List.map_append, List.flatten_append]
theorem ldA_app (a b : Pds) : ldA (a ++ b) = ldA a + ldA b := by
  unfold ldA
  rw [mksP_app, List.count_append]
  omega
theorem ldB_app (a b : Pds) : ldB (a ++ b) = ldB a + ldB b := by
  unfold ldB
  rw [mksP_app, List.count_append, List.count_append, List.length_append]
  omega
theorem count_rep (c m : Nat) (r : List Nat) : (rep m r).count c = m * r.count c := by
  induction m with
  | zero => simp [rep]
  | succ m ih => rw [rep_s, List.count_append, ih, Nat.succ_mul]; omega
theorem count_fin2 (q : Nat) (r : List Nat) : (fin q r).count 120 = r.count 120 ∧ (fin q r).count 46 = r.count 46 + r.length * (q - 1) := by
  induction r with
  | nil => exact ⟨rfl, by simp [fin]⟩
  | cons c r ih =>
    rw [fin_c, List.cons_append, List.count_cons, List.count_append, List.count_cons, List.count_cons, List.count_append, List.count_cons, ih.1, ih.2, List.length_cons, Nat.add_mul]
    have h1 : (List.replicate (q - 1) 46).count 120 = 0 := by
      rw [List.count_replicate]
      rfl
    have h2 : (List.replicate (q - 1) 46).count 46 = q - 1 := by
      rw [List.count_replicate]
      rfl
    rw [h1, h2]
    omega
theorem ld_ft {s q m : Nat} (hq : 0 < q) {p : Pds} : ldA (ftP q m p) = (m : Int) * ldA p ∧ ldB (ftP q m p) = (m : Int) * ldB p := by
  induction p with
  | nil => exact ⟨by show (0 : Int) = _; simp [ldA, mksP], by show ldB [] = _; simp [ldB, mksP]⟩
  | cons x p ih =>
    have e1 : ftP q m (x :: p) = [(x.1, ft q m x.2)] ++ ftP q m p := rfl
    have e2 : x :: p = [x] ++ p := rfl
    rw [e1, ldA_app, ldB_app, ih.1, ih.2, e2, ldA_app, ldB_app, Int.mul_add, Int.mul_add]
    have hs1 : mksP [(x.1, ft q m x.2)] = ft q m x.2 := by simp [mksP]
    have hs2 : mksP [x] = x.2 := by simp [mksP]
    unfold ldA ldB
    rw [hs1, hs2, ft_len hq]
    unfold ft
    rw [count_rep, count_rep, (count_fin2 q x.2).1, (count_fin2 q x.2).2]
    constructor
    · simp
    · have : x.2.length * q = x.2.length + x.2.length * (q - 1) := by
        conv => lhs; rw [show q = q - 1 + 1 by omega, Nat.mul_add, Nat.mul_one]
        omega
      rw [this, Nat.mul_add, Nat.mul_add]
      generalize x.2.length * (q - 1) = a
      generalize x.2.length = b
      generalize x.2.count 120 = c
      generalize x.2.count 46 = d
      have e : (m : Int) * ((b : Int) - c - d) = (m : Int) * b - (m : Int) * c - (m : Int) * d := by rw [Int.mul_sub, Int.mul_sub]
      rw [e]
      push_cast
      omega
end PM
namespace W_k24
open PySem PySem.Spec PyProof.Rows L2 PV WS
/-- law(_law_script): slots 0 _law_script, 1 _law_ones, 2 _law_others, 3 _law_both, 4 _law_here, 5 _law_there, 6 _law_due, 7 _law_k, 8 _law_pad, 9 _law_row, 10 _law_last, 11 _law_first, 12 _law_again -/
def S_law_0 : Ro → Mu → Option OutA := (zSet 1 (lE (fn F_only (aCons (fn F_law_pattern (aCons (fn F_law_mixed (aCons (fVar 0) (aCons (fC (.int 0)) aNil))) aNil)) (aCons (fC (.str "ahk")) aNil)))))
def S_law_1 : Ro → Mu → Option OutA := (zSet 2 (lE (fn F_only (aCons (fn F_law_pattern (aCons (fn F_law_mixed (aCons (fVar 0) (aCons (fC (.int 1)) aNil))) aNil)) (aCons (fC (.str "sz")) aNil)))))
def S_law_2 : Ro → Mu → Option OutA := (zSet 3 (aFn F_together (bCons (lE (fVar 1)) (bCons (lE (fVar 2)) bNil))))
def S_law_3 : Ro → Mu → Option OutA := (zPar 4 5 (bCons (lE (fn F_law_rounds (aCons (fVar 3) (aCons (fVar 1) aNil)))) (bCons (lE (fn F_law_rounds (aCons (fVar 3) (aCons (fVar 2) aNil)))) bNil)))
def S_law_4 : Ro → Mu → Option OutA := (zIf (lT (tOr1 (tB1 (f2 vNe (f2 vIx (fVar 4) (fC (.int 1))) (fC (.int 1)))) (tOr1 (tB1 (f2 vNe (f2 vIx (fVar 5) (fC (.int 1))) (fC (.int 1)))) (tOr1 (tB1 (f2 vNe (f2 vMod (f2 vIx (fVar 3) (fC (.int 1))) (f2 vIx (fVar 1) (fC (.int 1)))) (fC (.int 0)))) (tB1 (f2 vNe (f2 vMod (f2 vIx (fVar 3) (fC (.int 1))) (f2 vIx (fVar 2) (fC (.int 1)))) (fC (.int 0)))))))) (zRet (lE (fC (.bool false)))) zNext)
def S_law_5 : Ro → Mu → Option OutA := (zSet 6 (aOwn (gLst' aNil)))
def S_law_6 : Ro → Mu → Option OutA := (zFor (lI (iRg1 (fC (.int 2)))) (hN 7) (zApp (aVar 6) (lE (f2 vAdd (f2 vMul (f2 vIx (fn F_loudness (aCons (fVar 1) aNil)) (fVar 7)) (f2 vIx (fVar 4) (fC (.int 0)))) (f2 vMul (f2 vIx (fn F_loudness (aCons (fVar 2) aNil)) (fVar 7)) (f2 vIx (fVar 5) (fC (.int 0))))))))
def S_law_7 : Ro → Mu → Option OutA := (zFz 3 6 (zIf (bOr (lT (tB1 (f2 vNe (fn F_loudness (aCons (fVar 3) aNil)) (fn bTuple (aCons (fVar 6) aNil))))) (bT1 (a2 vNe (aFn F_together (bCons (lE (fVar 2)) (bCons (lE (fVar 1)) bNil))) (lE (fVar 3))))) (zRet (lE (fC (.bool false)))) zNext))
def S_law_8 : Ro → Mu → Option OutA := (zIf (lT (tB1 (f2 vNe (fOfF (gLc (iF (f2 vIx (fVar 3) (fC (.int 2)))) (hTup 2 (hCons (hName 8) (hCons (hName 9) hNil))) tYesF (fVar 8) [8, 9])) (fOfF (gLc (iF (f2 vAdd (f2 vIx (fVar 1) (fC (.int 2))) (f2 vIx (fVar 2) (fC (.int 2))))) (hTup 2 (hCons (hName 8) (hCons (hName 9) hNil))) tYesF (fVar 8) [8, 9]))))) (zRet (lE (fC (.bool false)))) zNext)
def S_law_9 : Ro → Mu → Option OutA := (zIf (lT (tB1 (f2 vGt (f2 vIx (fVar 3) (fC (.int 0))) (fC (.int 400))))) (zRet (lE (fC (.bool true)))) zNext)
def S_law_10 : Ro → Mu → Option OutA := (zSet 10 (lE (fn F_law_pattern (aCons (fn F_law_mixed (aCons (fVar 0) (aCons (fC (.int 2)) aNil))) aNil))))
def S_law_11 : Ro → Mu → Option OutA := (zSet 11 (aFn F_together (bCons (lE (fVar 3)) (bCons (lE (fTup' (aCons (f2 vIx (fVar 10) (fC (.int 0))) (aCons (f2 vIx (fVar 10) (fC (.int 1))) (aCons (fSl (f2 vIx (fVar 10) (fC (.int 2))) pNo (pSome (fC (.int 2)))) aNil))))) bNil))))
def S_law_12 : Ro → Mu → Option OutA := (zSet 12 (aFn F_together (bCons (lE (fVar 1)) (bCons (aFn F_together (bCons (lE (fVar 2)) (bCons (lE (fTup' (aCons (f2 vIx (fVar 10) (fC (.int 0))) (aCons (f2 vIx (fVar 10) (fC (.int 1))) (aCons (fSl (f2 vIx (fVar 10) (fC (.int 2))) pNo (pSome (fC (.int 2)))) aNil))))) bNil))) bNil))))
def S_law_13 : Ro → Mu → Option OutA := (zRet (lE (f2 vEq (fn F_coarser (aCons (fVar 11) aNil)) (fn F_coarser (aCons (fVar 12) aNil)))))
def G_law : Ro → Mu → Option OutA := (zSeq S_law_0 (zSeq S_law_1 (zSeq S_law_2 (zSeq S_law_3 (zSeq S_law_4 (zSeq S_law_5 (zSeq S_law_6 (zSeq S_law_7 (zSeq S_law_8 (zSeq S_law_9 (zSeq S_law_10 (zSeq S_law_11 (zSeq S_law_12 S_law_13)))))))))))))
def F_law : List AV → Mu → Option (RR AV) := runA 13 G_law
end W_k24
namespace W_k24
open PySem PySem.Spec PyProof.Rows L2 PV WS PM
theorem lit_ahk : (Str.ofString "ahk") = S [97, 104, 107] := by decide +kernel
theorem lit_sz : (Str.ofString "sz") = S [115, 122] := by decide +kernel
theorem num_den {a : Int} {b : Nat} (hb : b ≠ 0) : (mkRat a b).num * b = a * (mkRat a b).den := (Rat.mkRat_eq_iff (mkRat a b).den_nz hb).mp (Rat.mkRat_self _)
theorem num_le {a b : Nat} (hb : b ≠ 0) (ha : 1 ≤ a) : 1 ≤ (mkRat (a : Int) b).num ∧ (mkRat (a : Int) b).num ≤ a := by
  rw [Rat.num_mkRat, if_neg hb]
  have hg : 0 < Nat.gcd b (a : Int).natAbs := Nat.gcd_pos_of_pos_left _ (by omega)
  have hd : Nat.gcd b (a : Int).natAbs ∣ a := by
    have := Nat.gcd_dvd_right b (a : Int).natAbs
    simpa using this
  rw [← Int.natCast_ediv]
  have h1 := Nat.div_pos (Nat.le_of_dvd ha hd) hg
  have h2 := Nat.div_le_self a (Nat.gcd b (a : Int).natAbs)
  omega
theorem rounds_law {s g q m G SS : Nat} (P P2 : Pds) (eG : G = g * q) (eS : SS = m * (s * q)) (hs : 1 ≤ s) (hg : 1 ≤ g) (hq : 1 ≤ q) (hm : 1 ≤ m) (hb : SS ≤ 1000000) (hb2 : G ≤ 1000) :
    F_law_rounds [patD SS G P, patD s g P2] = some (.tuple [.int (m : Nat), .int 1]) := by
  refine run_of (ρ := [some (.val (patD SS G P)), some (.val (patD s g P2)), none, none]) rfl ?_
  have hgq : 0 < G := by rw [eG]; exact Nat.mul_pos hg hq
  have hss : s ≤ s * q := Nat.le_mul_of_pos_right _ hq
  have hsm : s * q ≤ SS := by rw [eS]; exact Nat.le_mul_of_pos_left _ hm
  have hgg : g ≤ G := by rw [eG]; exact Nat.le_mul_of_pos_right _ hq
  have hSp : 1 ≤ SS := by omega
  have b1 := beats_ok SS G (.tuple (P.map padD)) hgq (by omega)
  have b2 := beats_ok s g (.tuple (P2.map padD)) hg (by omega)
  have n1 := num_den (a := (SS : Int)) (b := G) (by omega)
  have n2 := num_den (a := (s : Int)) (b := g) (by omega)
  have l2 := num_le (a := s) (b := g) (by omega) hs
  have d1 := den_le (u := (SS : Int)) hgq
  have d1p := (mkRat (SS : Int) G).den_pos
  have d2p := (mkRat (s : Int) g).den_pos
  generalize hR1 : mkRat (SS : Int) G = r1 at *
  generalize hR2 : mkRat (s : Int) g = r2 at *
  obtain ⟨k, hk⟩ : ∃ k : Nat, r2.num = k := ⟨r2.num.toNat, by omega⟩
  have key : r1.num * r2.den = (m : Int) * ((r1.den : Int) * k) := by
    rw [hk] at n2
    have e1 : r1.num * g = (m : Int) * s * r1.den := by
      have h1 : (r1.num * g) * q = ((m : Int) * s * r1.den) * q := by
        rw [eG, eS] at n1
        push_cast at n1
        rw [Int.mul_assoc, n1]
        simp only [Int.mul_assoc, Int.mul_comm, Int.mul_left_comm]
      exact Int.eq_of_mul_eq_mul_right (by omega) h1
    have h2 : (r1.num * r2.den) * s = ((m : Int) * ((r1.den : Int) * k)) * s := by
      have h3 : (r1.num * r2.den) * s = r1.num * ((s : Int) * r2.den) := by simp only [Int.mul_assoc, Int.mul_comm, Int.mul_left_comm]
      rw [h3, ← n2]
      have h4 : r1.num * ((k : Int) * g) = (r1.num * g) * k := by simp only [Int.mul_assoc, Int.mul_comm, Int.mul_left_comm]
      rw [h4, e1]
      simp only [Int.mul_assoc, Int.mul_comm, Int.mul_left_comm]
    exact Int.eq_of_mul_eq_mul_right (by omega) h2
  have hkp : 1 ≤ k := by omega
  have hks : k ≤ s := by omega
  have hden : 0 < r1.den * k := Nat.mul_pos d1p hkp
  have hden2 : r1.den * k ≤ 1000 * 1000000 := Nat.mul_le_mul (by omega) (by omega)
  have lf := lawfrac_ok (r1.num * r2.den) (r1.den * k) hden (by omega)
  have em : mkRat (r1.num * r2.den) (r1.den * k) = mkRat (m : Int) 1 := by
    rw [Rat.mkRat_eq_iff (by omega) (by omega), key]
    push_cast
    simp
  rw [em] at lf
  have eq : qD (mkRat (m : Int) 1) = .tuple [.int (m : Nat), .int 1] := by
    rw [Rat.mkRat_one]
    rfl
  rw [eq] at lf
  have e0 : S_law_rounds_0 [some (.val (patD SS G P)), some (.val (patD s g P2)), none, none] = some (.nx [some (.val (patD SS G P)), some (.val (patD s g P2)), some (.val (qD r1)), some (.val (qD r2))]) := by
    unfold S_law_rounds_0 sPar
    rw [aCons_ev, aCons_ev, aNil_ev, fn_ev, fn_ev, aCons_ev, aCons_ev, aNil_ev]
    have v0 : fVar 0 [some (.val (patD SS G P)), some (.val (patD s g P2)), none, none] = some (patD SS G P) := rfl
    have v1 : fVar 1 [some (.val (patD SS G P)), some (.val (patD s g P2)), none, none] = some (patD s g P2) := rfl
    rw [v0, v1]
    simp -implicitDefEqProofs only [Option.bind_some, b1, b2]
    rfl
  unfold G_law_rounds
  refine Eq.trans (seq_nx e0) ?_
  refine ret_of ?_
  have m1 : vMul (.int r1.num) (.int (r2.den : Nat)) = some (.int (r1.num * r2.den)) := by
    refine vMul_i (.inr ?_)
    have := den_le (u := (s : Int)) (l := g) hg
    rw [hR2] at this
    omega
  have m2 : vMul (.int (r1.den : Nat)) (.int r2.num) = some (.int ((r1.den * k : Nat) : Int)) := by
    rw [hk, vMul_i (by omega), cast_mul]
  rw [fn_ev, aCons_ev, aCons_ev, aNil_ev]
  have f1 : f2 vMul (f2 vIx (fVar 2) (fC (.int 0))) (f2 vIx (fVar 3) (fC (.int 1))) [some (.val (patD SS G P)), some (.val (patD s g P2)), some (.val (qD r1)), some (.val (qD r2))] = some (.int (r1.num * r2.den)) := f2_of (f2_of rfl rfl rfl) (f2_of rfl rfl rfl) m1
  have f2' : f2 vMul (f2 vIx (fVar 2) (fC (.int 1))) (f2 vIx (fVar 3) (fC (.int 0))) [some (.val (patD SS G P)), some (.val (patD s g P2)), some (.val (qD r1)), some (.val (qD r2))] = some (.int ((r1.den * k : Nat) : Int)) := f2_of (f2_of rfl rfl rfl) (f2_of rfl rfl rfl) m2
  rw [f1, f2']
  simp -implicitDefEqProofs only [Option.bind_some]
  exact lf

@[simp] theorem pr_d (x : D) (R : Ro) : pr (some (.d x) :: R) = some (.val x) :: pr R := rfl
@[simp] theorem pr_n (R : Ro) : pr (none :: R) = none :: pr R := rfl
@[simp] theorem pr_l (n : Nat) (R : Ro) : pr (some (.loc n) :: R) = none :: pr R := rfl
@[simp] theorem pr_e : pr [] = [] := rfl
theorem zApp_of {R : Ro} {M M1 M2 : Mu} {fo fa : Ro → Mu → Option (RR AV)} {n : Nat} {b : AV} {l0 l : List AV} (e1 : fo R M = some (.ok (.loc n) M1)) (e0 : lstAt M1 n = some l0) (e2 : fa R M1 = some (.ok b M2)) (e3 : lstAt M2 n = some l) (hl : l.length < 16777216) : zApp fo fa R M = some (.nx R (M2.set n (.lst (l ++ [b])))) := by
  unfold zApp oe
  simp -implicitDefEqProofs only [e1, e0, e2, e3, Option.bind_some, hl, if_true]
theorem lstAt_app (M X : Mu) (l : List AV) : lstAt (M ++ .lst l :: X) M.length = some l := by
  unfold lstAt
  rw [List.getElem?_append_right (Nat.le_refl _), Nat.sub_self]
  rfl
theorem shaped_Ts {l : List Nat} (h : ∀ c ∈ l, c < 1114112) : SeqAt.shaped (.list (l.map fun c => T [c])) = true := by
  unfold SeqAt.shaped
  rw [Bool.and_eq_true, PyData.canLay0, decide_eq_true_eq, PyData.depth]
  refine ⟨canAll_map fun c hc => ?_, ?_⟩
  · exact sg_lay (fun x hx => by simp at hx; rw [hx]; exact h c hc)
  · have := depthAll_map (f := fun c => T [c]) (l := l) (n := 1) fun x _ => by simp [PyData.depth]
    omega
theorem pad_keys (ρ : Rho) (fi : Rho → Option (List D)) (pads : Pds) (hi : fi ρ = some (pads.map padD)) (hl : pads.length ≤ 1000) (h8 : 8 < ρ.length) (h9 : 9 < ρ.length) :
    fOfF (gLc fi (hTup 2 (hCons (hName 8) (hCons (hName 9) hNil))) tYesF (fVar 8) [8, 9]) ρ = some (.list ((pads.map (·.1)).map fun c => T [c])) := by
  have e := gLc_all (fi := fi) (h := hTup 2 (hCons (hName 8) (hCons (hName 9) hNil))) (ft := tYesF) (fe := fVar 8) (vs := [8, 9]) (ρ := ρ) (g := padD) (xs := pads) (fun p => T [p.1]) hi (by omega) (fun p hp => ⟨_, rfl, rfl, by
    rw [fVar_ev]
    have : ((wipeR ρ [8, 9]).set 8 (some (.val (T [p.1])))).length = ρ.length := by simp [wipeR]
    show getV (((((wipeR ρ [8, 9]).set 8 (some (.val (T [p.1])))).set 9 (some (.val (T p.2)))))[8]?) = _
    rw [List.getElem?_set_ne (by decide), List.getElem?_set_self (by simpa [wipeR] using h8)]
    rfl⟩)
  rw [fOfF_ev, e, Option.map_some, List.map_map]
  rfl
theorem on_pt {s g : Nat} {p : Pds} {ks : List Nat} (h : PtOk s g p) (hk : ks = keysL.filter fun k => decide (k ∈ ks)) : PtOk s g (onP ks p) ∧ ((onP ks p).map (·.1)).Sublist ks := by
  have e : (onP ks p).map (·.1) = (p.map (·.1)).filter fun k => decide (k ∈ ks) := by
    unfold onP
    rw [List.filter_map]
    rfl
  refine ⟨⟨h.st, h.gr, ?_, fun x hx => h.rw x ((List.mem_filter.mp hx).1)⟩, ?_⟩
  · rw [e]; exact List.filter_sublist.trans h.ks
  · rw [e]
    have := h.ks.filter fun k => decide (k ∈ ks)
    rw [← hk] at this
    exact this
theorem take_pt {s g : Nat} {p : Pds} (h : PtOk s g p) (n : Nat) : PtOk s g (p.take n) := ⟨h.st, h.gr, by rw [List.map_take]; exact (List.take_sublist _ _).trans h.ks, fun x hx => h.rw x (List.mem_of_mem_take hx)⟩
theorem mks_le {s g : Nat} {p : Pds} (h : PtOk s g p) : (mksP p).length ≤ 5 * s := by
  have hf := h.few
  have : ∀ p : Pds, (∀ x ∈ p, x.2.length = s) → (mksP p).length = p.length * s := by
    intro p
    induction p with
    | nil => intro _; simp [mksP]
    | cons x p ih =>
      intro hx
      have e : mksP (x :: p) = x.2 ++ mksP p := rfl
      rw [e, List.length_append, ih (fun y hy => hx y (by simp [hy])), hx x (by simp), List.length_cons, Nat.add_mul]
      omega
  rw [this p fun x hx => (h.rw x hx).1]
  exact Nat.mul_le_mul_right _ hf
theorem g12 {g : Nat} (h : 1 ≤ g ∧ g ≤ 4) : g ∣ 12 := by
  have : g = 1 ∨ g = 2 ∨ g = 3 ∨ g = 4 := by omega
  rcases this with rfl | rfl | rfl | rfl <;> decide
theorem keys_lt {s g : Nat} {p : Pds} (h : PtOk s g p) : ∀ x ∈ p, x.1 < 1114112 := fun x hx => by
  have hlt : ∀ k ∈ keysL, k < 1114112 := by decide
  exact hlt _ (h.ks.subset (List.mem_map.mpr ⟨x, hx, rfl⟩))
theorem pt_shaped {s g : Nat} {p : Pds} (h : PtOk s g p) : SeqAt.shaped (patD s g p) = true := shaped_pat fun x hx => ⟨keys_lt h x hx, mk_sg (h.rw x hx).2⟩
theorem stp_sg {q : Nat} {r : List Nat} (h : Sg r) : Sg (stp q r) := by
  intro c hc
  unfold stp at hc
  obtain ⟨j, _, rfl⟩ := List.mem_map.mp hc
  unfold cy
  rw [List.getD_eq_getElem?_getD]
  cases e : r[((((j * q : Nat) : Int)) % (r.length : Int)).toNat]? with
  | none => decide
  | some x => exact h x (List.mem_of_getElem? e)
theorem cs_shaped {s g : Nat} {p : Pds} (h : PtOk s g p) (a b q : Nat) : SeqAt.shaped (patD a b (csP q p)) = true := shaped_pat fun x hx => by
  obtain ⟨y, hy, rfl⟩ := List.mem_map.mp hx
  exact ⟨keys_lt h y hy, stp_sg (mk_sg (h.rw y hy).2)⟩
theorem pat_ne {s g : Nat} {p : Pds} {s2 g2 : Nat} {p2 : Pds} (h : SeqAt.shaped (patD s g p) = true) (h2 : SeqAt.shaped (patD s2 g2 p2) = true) (e : s = s2 ∧ g = g2 ∧ p = p2) : vNe (patD s g p) (patD s2 g2 p2) = some (.bool false) ∧ vEq (patD s g p) (patD s2 g2 p2) = some (.bool true) := by
  have h3 : PyData.eqv (patD s g p) (patD s2 g2 p2) = true := by rw [eqv_pat]; simp [e]
  exact ⟨vNe_of h h2 h3 (fun _ _ z => nomatch z.1) (fun _ _ z => nomatch z.1), vEq_of h h2 h3 (fun _ _ z => nomatch z.1) (fun _ _ z => nomatch z.1)⟩
theorem dist2 {s q n : Nat} (h : s * q ≤ n) (hq : 1 ≤ q) : s ≤ n := Nat.le_trans (Nat.le_mul_of_pos_right _ hq) h
/-- sizes that stay small -/
theorem tg_small {s g s2 g2 a b : Nat} (hs : 1 ≤ s ∧ s ≤ a) (hs2 : 1 ≤ s2 ∧ s2 ≤ b) (h1 : 1 ≤ g) (h2 : 1 ≤ g2) (hd : g ∣ 12) (hd2 : g2 ∣ 12) : tgG g g2 ∣ 12 ∧ tgG g g2 ≤ 12 ∧ tgS s g s2 g2 ≤ (a * 12) * (b * 12) := by
  have d := Nat.lcm_dvd hd hd2
  have l := Nat.le_of_dvd (by decide) d
  refine ⟨d, l, ?_⟩
  unfold tgS
  have l1 : s * (tgG g g2 / g) ≤ a * 12 := Nat.mul_le_mul hs.2 (Nat.le_trans (Nat.div_le_self _ _) l)
  have l2 : s2 * (tgG g g2 / g2) ≤ b * 12 := Nat.mul_le_mul hs2.2 (Nat.le_trans (Nat.div_le_self _ _) l)
  have hG : 0 < tgG g g2 := Nat.lcm_pos h1 h2
  have p1 : 0 < s * (tgG g g2 / g) := Nat.mul_pos hs.1 (Nat.div_pos (Nat.le_of_dvd hG (Nat.dvd_lcm_left _ _)) h1)
  have p2 : 0 < s2 * (tgG g g2 / g2) := Nat.mul_pos hs2.1 (Nat.div_pos (Nat.le_of_dvd hG (Nat.dvd_lcm_right _ _)) h2)
  exact Nat.le_trans (Nat.le_of_dvd (Nat.mul_pos p1 p2) (Nat.lcm_dvd_mul _ _)) (Nat.mul_le_mul l1 l2)

theorem law_true (ns : List Int) (h : ns.length ≤ 63) : ∃ M', F_law [.d (.list (ns.map .int))] [] = some (.ok (.d (.bool true)) M') := by
  obtain ⟨m0, ⟨hm0, _⟩, x0⟩ := mixed_ok ns 0 (by omega)
  obtain ⟨m1, ⟨hm1, _⟩, x1⟩ := mixed_ok ns 1 (by omega)
  obtain ⟨m2, ⟨hm2, _⟩, x2⟩ := mixed_ok ns 2 (by omega)
  obtain ⟨s1, g1, p1, hs1, hg1, hp1, y1⟩ := pattern_ok m0 hm0
  obtain ⟨s2, g2, p2, hs2, hg2, hp2, y2⟩ := pattern_ok m1 hm1
  obtain ⟨s3, g3, p3, hs3, hg3, hp3, y3⟩ := pattern_ok m2 hm2
  obtain ⟨o1, k1⟩ := on_pt (ks := [97, 104, 107]) (hp1.pt hs1.1 hg1.1) (by decide)
  obtain ⟨o2, k2⟩ := on_pt (ks := [115, 122]) (hp2.pt hs2.1 hg2.1) (by decide)
  have o3 := take_pt (hp3.pt hs3.1 hg3.1) 2
  have w1 := only_ok s1 g1 p1 [97, 104, 107] (by have := hp1.len; simp [keysL] at this; omega)
  have w2 := only_ok s2 g2 p2 [115, 122] (by have := hp2.len; simp [keysL] at this; omega)
  generalize hA : onP [97, 104, 107] p1 = A at *
  generalize hB : onP [115, 122] p2 = B at *
  generalize hC : p3.take 2 = C at *
  clear hA hB
  have h12 := tg_ok o1 o2
  have h23 := tg_ok o2 o3
  obtain ⟨b1, b2, b3⟩ := tg_small (a := 16) (b := 16) hs1 hs2 hg1.1 hg2.1 (g12 hg1) (g12 hg2)
  obtain ⟨c1, c2, c3⟩ := tg_small (a := 16) (b := 16) hs2 hs3 hg2.1 hg3.1 (g12 hg2) (g12 hg3)
  obtain ⟨G, SS, q1, q2, n1, n2, z⟩ := tg_sizes o1.st o1.gr o2.st o2.gr
  have apart := tgP_apart o1 o2 z (k1 := [97, 104, 107]) (k2 := [115, 122]) rfl k1 k2
  have comm := tgP_comm o1 o2
  have t12 := together_ok o1 o2 (by omega) (by omega)
  have t21 := together_ok o2 o1 (by rw [tgG_comm]; omega) (by rw [tgS_comm]; omega)
  rw [← comm, tgG_comm g2, tgS_comm s2] at t21
  have t23 := together_ok o2 o3 (by omega) (by omega)
  have l12 := loud_ok (tgS s1 g1 s2 g2) (tgG g1 g2) (tgP s1 g1 A s2 g2 B) (by have := h12.few; omega) (by have := mks_le h12; omega)
  have l1 := loud_ok s1 g1 A (by have := o1.few; omega) (by have := mks_le o1; omega)
  have l2 := loud_ok s2 g2 B (by have := o2.few; omega) (by have := mks_le o2; omega)
  have few12 := h12.few
  have shp := pt_shaped h12
  have asc := tgP_assoc o1 o2 o3
  have asg := tgG_assoc g1 g2 g3
  have ass := tgS_assoc (s1 := s1) (s2 := s2) (s3 := s3) o1.gr o2.gr o3.gr
  have hd3 := g12 hg3
  have bigS : tgS s1 g1 s2 g2 ≤ 400 → tgS (tgS s1 g1 s2 g2) (tgG g1 g2) s3 g3 ≤ 921600 ∧ tgG (tgG g1 g2) g3 ≤ 12 := fun hle => by
    obtain ⟨d1, d2, d3⟩ := tg_small (a := 400) (b := 16) ⟨h12.st, hle⟩ hs3 h12.gr hg3.1 b1 hd3
    exact ⟨d3, d2⟩
  have ldA12 : ldA (tgP s1 g1 A s2 g2 B) = ldA A * (n1 : Int) + ldA B * (n2 : Int) := by
    rw [apart, ldA_app, (ld_ft (s := 0) z.p1).1, (ld_ft (s := 0) z.p2).1, Int.mul_comm, Int.mul_comm (n2 : Int)]
  have ldB12 : ldB (tgP s1 g1 A s2 g2 B) = ldB A * (n1 : Int) + ldB B * (n2 : Int) := by
    rw [apart, ldB_app, (ld_ft (s := 0) z.p1).2, (ld_ft (s := 0) z.p2).2, Int.mul_comm, Int.mul_comm (n2 : Int)]
  have keys12 : (tgP s1 g1 A s2 g2 B).map (·.1) = (A ++ B).map (·.1) := by
    rw [apart, List.map_append, List.map_append, ftP_keys, ftP_keys]
  have eG := z.G
  have eS := z.S
  rw [eG] at h12 b2 asg
  rw [eS] at h12 b3 ass
  rw [eG, eS] at t12 t21 l12 shp asc bigS
  rw [eG] at ass
  have hn1 : 1 ≤ n1 := Nat.pos_of_ne_zero fun e => by have h1 := z.Sm1; have h2 := z.Sp; rw [e, Nat.zero_mul] at h1; omega
  have hn2 : 1 ≤ n2 := Nat.pos_of_ne_zero fun e => by have h1 := z.Sm2; have h2 := z.Sp; rw [e, Nat.zero_mul] at h1; omega
  generalize hP : tgP s1 g1 A s2 g2 B = P at *
  have r1 := rounds_law P A z.Gq1 z.Sm1 o1.st o1.gr z.p1 hn1 (by omega) (by omega)
  have r2 := rounds_law P B z.Gq2 z.Sm2 o2.st o2.gr z.p2 hn2 (by omega) (by omega)
  have eM : G % g1 = 0 ∧ G % g2 = 0 := ⟨by rw [z.Gq1]; exact Nat.mul_mod_right _ _, by rw [z.Gq2]; exact Nat.mul_mod_right _ _⟩
  have md1 : vMod (.int (G : Nat)) (.int (g1 : Nat)) = some (.int 0) := by rw [vMod_i (by have := o1.gr; omega)]; congr 2; have := eM.1; omega
  have md2 : vMod (.int (G : Nat)) (.int (g2 : Nat)) = some (.int 0) := by rw [vMod_i (by have := o2.gr; omega)]; congr 2; have := eM.2; omega
  have hk12 := keys_lt h12
  generalize hX : (.list (ns.map .int) : D) = X at *
  replace x0 : F_law_mixed [X, .int 0] = some (.int m0) := x0
  replace x1 : F_law_mixed [X, .int 1] = some (.int m1) := x1
  replace x2 : F_law_mixed [X, .int 2] = some (.int m2) := x2
  have nS1 : n1 ≤ SS := by rw [z.Sm1]; exact Nat.le_mul_of_pos_right _ (Nat.mul_pos o1.st z.p1)
  have nS2 : n2 ≤ SS := by rw [z.Sm2]; exact Nat.le_mul_of_pos_right _ (Nat.mul_pos o2.st z.p2)
  have e0 : S_law_0 [some (.d X), none, none, none, none, none, none, none, none, none, none, none, none] [] = some (.nx [some (.d X), some (.d (patD s1 g1 A)), none, none, none, none, none, none, none, none, none, none, none] []) := by
    refine zset_l ?_
    rw [lit_ahk]
    generalize patD s1 g1 A = v at *
    generalize patD s1 g1 p1 = v' at *
    simp -implicitDefEqProofs (disch := omega) [x0, y1, w1]
  have e1 : S_law_1 [some (.d X), some (.d (patD s1 g1 A)), none, none, none, none, none, none, none, none, none, none, none] [] = some (.nx [some (.d X), some (.d (patD s1 g1 A)), some (.d (patD s2 g2 B)), none, none, none, none, none, none, none, none, none, none] []) := by
    refine zset_l ?_
    rw [lit_sz]
    generalize patD s2 g2 B = v at *
    generalize patD s2 g2 p2 = v' at *
    simp -implicitDefEqProofs (disch := omega) [x1, y2, w2]
  obtain ⟨M1, t1⟩ := t12 []
  have e2 : S_law_2 [some (.d X), some (.d (patD s1 g1 A)), some (.d (patD s2 g2 B)), none, none, none, none, none, none, none, none, none, none] [] = some (.nx [some (.d X), some (.d (patD s1 g1 A)), some (.d (patD s2 g2 B)), some (.d (patD SS G P)), none, none, none, none, none, none, none, none, none] M1) := by
    refine zset_nx ?_
    rw [aFn_of (l := [.d (patD s1 g1 A), .d (patD s2 g2 B)]) (bcons_of (lE_of rfl) (bcons_of (lE_of rfl) bnil_of))]
    exact t1
  have e3 : S_law_3 [some (.d X), some (.d (patD s1 g1 A)), some (.d (patD s2 g2 B)), some (.d (patD SS G P)), none, none, none, none, none, none, none, none, none] M1 = some (.nx [some (.d X), some (.d (patD s1 g1 A)), some (.d (patD s2 g2 B)), some (.d (patD SS G P)), some (.d (.tuple [.int (n1 : Nat), .int 1])), some (.d (.tuple [.int (n2 : Nat), .int 1])), none, none, none, none, none, none, none] M1) := by
    unfold S_law_3 zPar
    rw [bcons_of (a := .d (.tuple [.int (n1 : Nat), .int 1])) (lE_of (by
      generalize patD s1 g1 A = v at *
      generalize patD SS G P = v' at *
      simp -implicitDefEqProofs (disch := omega) [r1])) (bcons_of (a := .d (.tuple [.int (n2 : Nat), .int 1])) (lE_of (by
      generalize patD s2 g2 B = v at *
      generalize patD SS G P = v' at *
      simp -implicitDefEqProofs (disch := omega) [r2])) bnil_of)]
    rfl
  have e4 : S_law_4 [some (.d X), some (.d (patD s1 g1 A)), some (.d (patD s2 g2 B)), some (.d (patD SS G P)), some (.d (.tuple [.int (n1 : Nat), .int 1])), some (.d (.tuple [.int (n2 : Nat), .int 1])), none, none, none, none, none, none, none] M1 = some (.nx [some (.d X), some (.d (patD s1 g1 A)), some (.d (patD s2 g2 B)), some (.d (patD SS G P)), some (.d (.tuple [.int (n1 : Nat), .int 1])), some (.d (.tuple [.int (n2 : Nat), .int 1])), none, none, none, none, none, none, none] M1) := by
    unfold S_law_4
    refine zif_f (lT_of ?_)
    have f1 : tB1 (f2 vNe (f2 vIx (fVar 4) (fC (.int 1))) (fC (.int 1))) (pr [some (.d X), some (.d (patD s1 g1 A)), some (.d (patD s2 g2 B)), some (.d (patD SS G P)), some (.d (.tuple [.int (n1 : Nat), .int 1])), some (.d (.tuple [.int (n2 : Nat), .int 1])), none, none, none, none, none, none, none]) = some false := rfl
    have f2' : tB1 (f2 vNe (f2 vIx (fVar 5) (fC (.int 1))) (fC (.int 1))) (pr [some (.d X), some (.d (patD s1 g1 A)), some (.d (patD s2 g2 B)), some (.d (patD SS G P)), some (.d (.tuple [.int (n1 : Nat), .int 1])), some (.d (.tuple [.int (n2 : Nat), .int 1])), none, none, none, none, none, none, none]) = some false := rfl
    have f3 : f2 vMod (f2 vIx (fVar 3) (fC (.int 1))) (f2 vIx (fVar 1) (fC (.int 1))) (pr [some (.d X), some (.d (patD s1 g1 A)), some (.d (patD s2 g2 B)), some (.d (patD SS G P)), some (.d (.tuple [.int (n1 : Nat), .int 1])), some (.d (.tuple [.int (n2 : Nat), .int 1])), none, none, none, none, none, none, none]) = some (.int 0) := f2_of (x := .int (G : Nat)) (y := .int (g1 : Nat)) rfl rfl md1
    have f4 : f2 vMod (f2 vIx (fVar 3) (fC (.int 1))) (f2 vIx (fVar 2) (fC (.int 1))) (pr [some (.d X), some (.d (patD s1 g1 A)), some (.d (patD s2 g2 B)), some (.d (patD SS G P)), some (.d (.tuple [.int (n1 : Nat), .int 1])), some (.d (.tuple [.int (n2 : Nat), .int 1])), none, none, none, none, none, none, none]) = some (.int 0) := f2_of (x := .int (G : Nat)) (y := .int (g2 : Nat)) rfl rfl md2
    rw [tOr1_ev, f1, tOr1_ev, f2', tOr1_ev, tB1_ev, f2_ev, f3, tB1_ev, f2_ev, f4]
    rfl
  have e5 : S_law_5 [some (.d X), some (.d (patD s1 g1 A)), some (.d (patD s2 g2 B)), some (.d (patD SS G P)), some (.d (.tuple [.int (n1 : Nat), .int 1])), some (.d (.tuple [.int (n2 : Nat), .int 1])), none, none, none, none, none, none, none] M1 = some (.nx [some (.d X), some (.d (patD s1 g1 A)), some (.d (patD s2 g2 B)), some (.d (patD SS G P)), some (.d (.tuple [.int (n1 : Nat), .int 1])), some (.d (.tuple [.int (n2 : Nat), .int 1])), some (.loc M1.length), none, none, none, none, none, none] (M1 ++ [.lst []])) := rfl
  have step : ∀ (k : Nat) (a b : Int) (o : Option AV) (l : List AV), (([ldA A, ldB A] : List Int)[k]? = some a) → (([ldA B, ldB B] : List Int)[k]? = some b) → l.length < 100 →
      (zApp (aVar 6) (lE (f2 vAdd (f2 vMul (f2 vIx (fn F_loudness (aCons (fVar 1) aNil)) (fVar 7)) (f2 vIx (fVar 4) (fC (.int 0)))) (f2 vMul (f2 vIx (fn F_loudness (aCons (fVar 2) aNil)) (fVar 7)) (f2 vIx (fVar 5) (fC (.int 0))))))) [some (.d X), some (.d (patD s1 g1 A)), some (.d (patD s2 g2 B)), some (.d (patD SS G P)), some (.d (.tuple [.int (n1 : Nat), .int 1])), some (.d (.tuple [.int (n2 : Nat), .int 1])), some (.loc M1.length), some (.d (.int (k : Nat))), none, none, none, none, none] (M1 ++ [.lst l]) =
      some (.nx [some (.d X), some (.d (patD s1 g1 A)), some (.d (patD s2 g2 B)), some (.d (patD SS G P)), some (.d (.tuple [.int (n1 : Nat), .int 1])), some (.d (.tuple [.int (n2 : Nat), .int 1])), some (.loc M1.length), some (.d (.int (k : Nat))), none, none, none, none, none] (M1 ++ [.lst (l ++ [.d (.int (a * (n1 : Int) + b * (n2 : Int)))])])) := by
    intro k a b o l ha hb hl
    have hk : k < 2 := by
      have := (List.getElem?_eq_some_iff.mp ha).1
      simpa using this
    have ia : vIx (.tuple [.int (ldA A), .int (ldB A)]) (.int (k : Nat)) = some (.int a) := by
      have : k = 0 ∨ k = 1 := by omega
      rcases this with rfl | rfl <;> (simp at ha; subst ha; rfl)
    have ib : vIx (.tuple [.int (ldA B), .int (ldB B)]) (.int (k : Nat)) = some (.int b) := by
      have : k = 0 ∨ k = 1 := by omega
      rcases this with rfl | rfl <;> (simp at hb; subst hb; rfl)
    have mm1 : vMul (.int a) (.int (n1 : Nat)) = some (.int (a * (n1 : Int))) := vMul_i (.inr (by omega))
    have mm2 : vMul (.int b) (.int (n2 : Nat)) = some (.int (b * (n2 : Int))) := vMul_i (.inr (by omega))
    have aa : vAdd (.int (a * (n1 : Int))) (.int (b * (n2 : Int))) = some (.int (a * (n1 : Int) + b * (n2 : Int))) := rfl
    have ev := zApp_of (R := [some (.d X), some (.d (patD s1 g1 A)), some (.d (patD s2 g2 B)), some (.d (patD SS G P)), some (.d (.tuple [.int (n1 : Nat), .int 1])), some (.d (.tuple [.int (n2 : Nat), .int 1])), some (.loc M1.length), some (.d (.int (k : Nat))), none, none, none, none, none]) (fo := aVar 6) (fa := (lE (f2 vAdd (f2 vMul (f2 vIx (fn F_loudness (aCons (fVar 1) aNil)) (fVar 7)) (f2 vIx (fVar 4) (fC (.int 0)))) (f2 vMul (f2 vIx (fn F_loudness (aCons (fVar 2) aNil)) (fVar 7)) (f2 vIx (fVar 5) (fC (.int 0))))))) (M := M1 ++ [.lst l]) (n := M1.length) (b := .d (.int (a * (n1 : Int) + b * (n2 : Int)))) (aVar_of rfl) (lstAt_app M1 [] l) (lE_of (by
      have g1' : fn F_loudness (aCons (fVar 1) aNil) (pr [some (.d X), some (.d (patD s1 g1 A)), some (.d (patD s2 g2 B)), some (.d (patD SS G P)), some (.d (.tuple [.int (n1 : Nat), .int 1])), some (.d (.tuple [.int (n2 : Nat), .int 1])), some (.loc M1.length), some (.d (.int (k : Nat))), none, none, none, none, none]) = some (.tuple [.int (ldA A), .int (ldB A)]) := by
        generalize patD s1 g1 A = v at *
        generalize patD s2 g2 B = v' at *
        generalize patD SS G P = v2 at *
        simp -implicitDefEqProofs (disch := omega) [l1]
      have g2' : fn F_loudness (aCons (fVar 2) aNil) (pr [some (.d X), some (.d (patD s1 g1 A)), some (.d (patD s2 g2 B)), some (.d (patD SS G P)), some (.d (.tuple [.int (n1 : Nat), .int 1])), some (.d (.tuple [.int (n2 : Nat), .int 1])), some (.loc M1.length), some (.d (.int (k : Nat))), none, none, none, none, none]) = some (.tuple [.int (ldA B), .int (ldB B)]) := by
        generalize patD s1 g1 A = v at *
        generalize patD s2 g2 B = v' at *
        generalize patD SS G P = v2 at *
        simp -implicitDefEqProofs (disch := omega) [l2]
      exact f2_of (f2_of (f2_of g1' rfl ia) (f2_of rfl rfl rfl) mm1) (f2_of (f2_of g2' rfl ib) (f2_of rfl rfl rfl) mm2) aa)) (lstAt_app M1 [] l) (by omega)
    rw [set_app] at ev
    exact ev
  have e6 : S_law_6 [some (.d X), some (.d (patD s1 g1 A)), some (.d (patD s2 g2 B)), some (.d (patD SS G P)), some (.d (.tuple [.int (n1 : Nat), .int 1])), some (.d (.tuple [.int (n2 : Nat), .int 1])), some (.loc M1.length), none, none, none, none, none, none] (M1 ++ [.lst []]) = some (.nx [some (.d X), some (.d (patD s1 g1 A)), some (.d (patD s2 g2 B)), some (.d (patD SS G P)), some (.d (.tuple [.int (n1 : Nat), .int 1])), some (.d (.tuple [.int (n2 : Nat), .int 1])), some (.loc M1.length), some (.d (.int (1 : Nat))), none, none, none, none, none] (M1 ++ [.lst [.d (.int (ldA A * (n1 : Int) + ldA B * (n2 : Int))), .d (.int (ldB A * (n1 : Int) + ldB B * (n2 : Int)))]])) := by
    unfold S_law_6
    refine Eq.trans (zFor_of (l := [.d (.int (0 : Nat)), .d (.int (1 : Nat))]) (M1 := M1 ++ [.lst []]) (lI_of (d := [.int (0 : Nat), .int (1 : Nat)]) rfl)) ?_
    refine (forA_cons (R1 := [some (.d X), some (.d (patD s1 g1 A)), some (.d (patD s2 g2 B)), some (.d (patD SS G P)), some (.d (.tuple [.int (n1 : Nat), .int 1])), some (.d (.tuple [.int (n2 : Nat), .int 1])), some (.loc M1.length), some (.d (.int (0 : Nat))), none, none, none, none, none]) rfl (step 0 _ _ none [] rfl rfl (by decide))).trans ?_
    exact (forA_cons (R1 := [some (.d X), some (.d (patD s1 g1 A)), some (.d (patD s2 g2 B)), some (.d (patD SS G P)), some (.d (.tuple [.int (n1 : Nat), .int 1])), some (.d (.tuple [.int (n2 : Nat), .int 1])), some (.loc M1.length), some (.d (.int (1 : Nat))), none, none, none, none, none]) rfl (step 1 _ _ none _ rfl rfl (by simp))).trans rfl
  have hst12 := h12.st
  have hgr12 := h12.gr
  have efz : fzV 3 (.loc M1.length) (M1 ++ [.lst [.d (.int (ldA A * (n1 : Int) + ldA B * (n2 : Int))), .d (.int (ldB A * (n1 : Int) + ldB B * (n2 : Int)))]]) = some ((.list [.int (ldA A * (n1 : Int) + ldA B * (n2 : Int)), .int (ldB A * (n1 : Int) + ldB B * (n2 : Int))]), M1 ++ [Ob.dead]) := by
    unfold fzV
    have : (M1 ++ [Ob.lst [.d (.int (ldA A * (n1 : Int) + ldA B * (n2 : Int))), .d (.int (ldB A * (n1 : Int) + ldB B * (n2 : Int)))]])[M1.length]? = some (.lst [.d (.int (ldA A * (n1 : Int) + ldA B * (n2 : Int))), .d (.int (ldB A * (n1 : Int) + ldB B * (n2 : Int)))]) := by
      rw [List.getElem?_append_right (Nat.le_refl _), Nat.sub_self]
      rfl
    rw [this]
    show (mapA (fzV 2) _ ((M1 ++ [Ob.lst [.d (.int (ldA A * (n1 : Int) + ldA B * (n2 : Int))), .d (.int (ldB A * (n1 : Int) + ldB B * (n2 : Int)))]]).set M1.length Ob.dead)).map _ = _
    rw [set_app]
    rfl
  obtain ⟨M2, t2⟩ := t21 (M1 ++ [Ob.dead])
  have pne := pat_ne shp shp ⟨rfl, rfl, rfl⟩
  have lne : vNe (.tuple [.int (ldA P), .int (ldB P)]) (.tuple [.int (ldA A * (n1 : Int) + ldA B * (n2 : Int)), .int (ldB A * (n1 : Int) + ldB B * (n2 : Int))]) = some (.bool false) := by
    rw [ldA12, ldB12]
    exact vNe_of (r := true) rfl rfl (by simp [PyData.eqv, PyData.eqvAll]) (fun _ _ z => nomatch z.1) (fun _ _ z => nomatch z.1)
  have e7 : S_law_7 [some (.d X), some (.d (patD s1 g1 A)), some (.d (patD s2 g2 B)), some (.d (patD SS G P)), some (.d (.tuple [.int (n1 : Nat), .int 1])), some (.d (.tuple [.int (n2 : Nat), .int 1])), some (.loc M1.length), some (.d (.int (1 : Nat))), none, none, none, none, none] (M1 ++ [.lst [.d (.int (ldA A * (n1 : Int) + ldA B * (n2 : Int))), .d (.int (ldB A * (n1 : Int) + ldB B * (n2 : Int)))]]) = some (.nx [some (.d X), some (.d (patD s1 g1 A)), some (.d (patD s2 g2 B)), some (.d (patD SS G P)), some (.d (.tuple [.int (n1 : Nat), .int 1])), some (.d (.tuple [.int (n2 : Nat), .int 1])), some (.d (.list [.int (ldA A * (n1 : Int) + ldA B * (n2 : Int)), .int (ldB A * (n1 : Int) + ldB B * (n2 : Int))])), some (.d (.int (1 : Nat))), none, none, none, none, none] M2) := by
    unfold S_law_7
    refine Eq.trans (zFz_of (av := .loc M1.length) rfl efz) ?_
    refine zif_f (M1 := M2) (bOr_f (M1 := M1 ++ [Ob.dead]) (lT_of ?_) (bT1_of (a2_of (M1 := M2) (x := patD SS G P) (y := patD SS G P) ?_ (lE_of rfl) pne.1)))
    · show tB1 (f2 vNe (fn F_loudness (aCons (fVar 3) aNil)) (fn bTuple (aCons (fVar 6) aNil))) (pr [some (.d X), some (.d (patD s1 g1 A)), some (.d (patD s2 g2 B)), some (.d (patD SS G P)), some (.d (.tuple [.int (n1 : Nat), .int 1])), some (.d (.tuple [.int (n2 : Nat), .int 1])), some (.d (.list [.int (ldA A * (n1 : Int) + ldA B * (n2 : Int)), .int (ldB A * (n1 : Int) + ldB B * (n2 : Int))])), some (.d (.int (1 : Nat))), none, none, none, none, none]) = some false
      have g1' : fn F_loudness (aCons (fVar 3) aNil) (pr [some (.d X), some (.d (patD s1 g1 A)), some (.d (patD s2 g2 B)), some (.d (patD SS G P)), some (.d (.tuple [.int (n1 : Nat), .int 1])), some (.d (.tuple [.int (n2 : Nat), .int 1])), some (.d (.list [.int (ldA A * (n1 : Int) + ldA B * (n2 : Int)), .int (ldB A * (n1 : Int) + ldB B * (n2 : Int))])), some (.d (.int (1 : Nat))), none, none, none, none, none]) = some (.tuple [.int (ldA P), .int (ldB P)]) := by
        generalize patD s1 g1 A = v at *
        generalize patD s2 g2 B = v' at *
        generalize patD SS G P = v2 at *
        simp -implicitDefEqProofs (disch := omega) [l12]
      have g2' : fn bTuple (aCons (fVar 6) aNil) (pr [some (.d X), some (.d (patD s1 g1 A)), some (.d (patD s2 g2 B)), some (.d (patD SS G P)), some (.d (.tuple [.int (n1 : Nat), .int 1])), some (.d (.tuple [.int (n2 : Nat), .int 1])), some (.d (.list [.int (ldA A * (n1 : Int) + ldA B * (n2 : Int)), .int (ldB A * (n1 : Int) + ldB B * (n2 : Int))])), some (.d (.int (1 : Nat))), none, none, none, none, none]) = some (.tuple [.int (ldA A * (n1 : Int) + ldA B * (n2 : Int)), .int (ldB A * (n1 : Int) + ldB B * (n2 : Int))]) := rfl
      rw [tB1_ev, f2_of g1' g2' lne]
      rfl
    · exact (aFn_of (l := [.d (patD s2 g2 B), .d (patD s1 g1 A)]) (bcons_of (lE_of rfl) (bcons_of (lE_of rfl) bnil_of))).trans t2
  have e8 : S_law_8 [some (.d X), some (.d (patD s1 g1 A)), some (.d (patD s2 g2 B)), some (.d (patD SS G P)), some (.d (.tuple [.int (n1 : Nat), .int 1])), some (.d (.tuple [.int (n2 : Nat), .int 1])), some (.d (.list [.int (ldA A * (n1 : Int) + ldA B * (n2 : Int)), .int (ldB A * (n1 : Int) + ldB B * (n2 : Int))])), some (.d (.int (1 : Nat))), none, none, none, none, none] M2 = some (.nx [some (.d X), some (.d (patD s1 g1 A)), some (.d (patD s2 g2 B)), some (.d (patD SS G P)), some (.d (.tuple [.int (n1 : Nat), .int 1])), some (.d (.tuple [.int (n2 : Nat), .int 1])), some (.d (.list [.int (ldA A * (n1 : Int) + ldA B * (n2 : Int)), .int (ldB A * (n1 : Int) + ldB B * (n2 : Int))])), some (.d (.int (1 : Nat))), none, none, none, none, none] M2) := by
    unfold S_law_8
    refine zif_f (lT_of ?_)
    have g1' := pad_keys (pr [some (.d X), some (.d (patD s1 g1 A)), some (.d (patD s2 g2 B)), some (.d (patD SS G P)), some (.d (.tuple [.int (n1 : Nat), .int 1])), some (.d (.tuple [.int (n2 : Nat), .int 1])), some (.d (.list [.int (ldA A * (n1 : Int) + ldA B * (n2 : Int)), .int (ldB A * (n1 : Int) + ldB B * (n2 : Int))])), some (.d (.int (1 : Nat))), none, none, none, none, none]) (iF (f2 vIx (fVar 3) (fC (.int 2)))) P rfl (by omega) (by simp) (by simp)
    have g2' := pad_keys (pr [some (.d X), some (.d (patD s1 g1 A)), some (.d (patD s2 g2 B)), some (.d (patD SS G P)), some (.d (.tuple [.int (n1 : Nat), .int 1])), some (.d (.tuple [.int (n2 : Nat), .int 1])), some (.d (.list [.int (ldA A * (n1 : Int) + ldA B * (n2 : Int)), .int (ldB A * (n1 : Int) + ldB B * (n2 : Int))])), some (.d (.int (1 : Nat))), none, none, none, none, none]) (iF (f2 vAdd (f2 vIx (fVar 1) (fC (.int 2))) (f2 vIx (fVar 2) (fC (.int 2))))) (A ++ B) (by
      have l5 := o1.few
      have l6 := o2.few
      have : f2 vAdd (f2 vIx (fVar 1) (fC (.int 2))) (f2 vIx (fVar 2) (fC (.int 2))) (pr [some (.d X), some (.d (patD s1 g1 A)), some (.d (patD s2 g2 B)), some (.d (patD SS G P)), some (.d (.tuple [.int (n1 : Nat), .int 1])), some (.d (.tuple [.int (n2 : Nat), .int 1])), some (.d (.list [.int (ldA A * (n1 : Int) + ldA B * (n2 : Int)), .int (ldB A * (n1 : Int) + ldB B * (n2 : Int))])), some (.d (.int (1 : Nat))), none, none, none, none, none]) = some (.tuple ((A ++ B).map padD)) := by
        refine f2_of (x := .tuple (A.map padD)) (y := .tuple (B.map padD)) rfl rfl ?_
        rw [List.map_append]
        show (if _ then _ else _) = _
        rw [if_pos (by simp; omega)]
      rw [iF_ev, this]
      rfl) (by have l5 := o1.few; have l6 := o2.few; simp; omega) (by simp) (by simp)
    rw [← keys12] at g2'
    rw [tB1_ev, f2_of g1' g2' (vNe_of (r := true) (shaped_Ts fun c hc => by obtain ⟨x, hx, rfl⟩ := List.mem_map.mp hc; exact hk12 x hx) (shaped_Ts fun c hc => by obtain ⟨x, hx, rfl⟩ := List.mem_map.mp hc; exact hk12 x hx) (by rw [PyData.eqv]; exact (faith_all (f := fun c => T [c]) (fun a b => by rw [eqv_T]; simp) _ _).trans (by simp)) (fun _ _ z => nomatch z.1) (fun _ _ z => nomatch z.1))]
    rfl
  have hgt : f2 vGt (f2 vIx (fVar 3) (fC (.int 0))) (fC (.int 400)) (pr [some (.d X), some (.d (patD s1 g1 A)), some (.d (patD s2 g2 B)), some (.d (patD SS G P)), some (.d (.tuple [.int (n1 : Nat), .int 1])), some (.d (.tuple [.int (n2 : Nat), .int 1])), some (.d (.list [.int (ldA A * (n1 : Int) + ldA B * (n2 : Int)), .int (ldB A * (n1 : Int) + ldB B * (n2 : Int))])), some (.d (.int (1 : Nat))), none, none, none, none, none]) = some (.bool (decide ((400 : Int) < (SS : Nat)))) := rfl
  by_cases hbig : 400 < SS
  · have hgt' : tB1 (f2 vGt (f2 vIx (fVar 3) (fC (.int 0))) (fC (.int 400))) (pr [some (.d X), some (.d (patD s1 g1 A)), some (.d (patD s2 g2 B)), some (.d (patD SS G P)), some (.d (.tuple [.int (n1 : Nat), .int 1])), some (.d (.tuple [.int (n2 : Nat), .int 1])), some (.d (.list [.int (ldA A * (n1 : Int) + ldA B * (n2 : Int)), .int (ldB A * (n1 : Int) + ldB B * (n2 : Int))])), some (.d (.int (1 : Nat))), none, none, none, none, none]) = some true := by
      rw [tB1_ev, hgt, decide_eq_true (by omega)]
      rfl
    refine ⟨M2, runA_of rfl ?_⟩
    unfold G_law
    refine Eq.trans (zseq_nx e0) ?_
    refine Eq.trans (zseq_nx e1) ?_
    refine Eq.trans (zseq_nx e2) ?_
    refine Eq.trans (zseq_nx e3) ?_
    refine Eq.trans (zseq_nx e4) ?_
    refine Eq.trans (zseq_nx e5) ?_
    refine Eq.trans (zseq_nx e6) ?_
    refine Eq.trans (zseq_nx e7) ?_
    refine Eq.trans (zseq_nx e8) ?_
    refine zseq_rt ?_
    unfold S_law_9
    exact (zif_t (lT_of hgt')).trans rfl
  · have hgt' : tB1 (f2 vGt (f2 vIx (fVar 3) (fC (.int 0))) (fC (.int 400))) (pr [some (.d X), some (.d (patD s1 g1 A)), some (.d (patD s2 g2 B)), some (.d (patD SS G P)), some (.d (.tuple [.int (n1 : Nat), .int 1])), some (.d (.tuple [.int (n2 : Nat), .int 1])), some (.d (.list [.int (ldA A * (n1 : Int) + ldA B * (n2 : Int)), .int (ldB A * (n1 : Int) + ldB B * (n2 : Int))])), some (.d (.int (1 : Nat))), none, none, none, none, none]) = some false := by
      rw [tB1_ev, hgt, decide_eq_false (by omega)]
      rfl
    obtain ⟨bg1, bg2⟩ := bigS (by omega)
    have t123 := together_ok h12 o3 (by omega) (by omega)
    have t1_23 := together_ok o1 h23 (by rw [← asg]; omega) (by rw [← ass]; omega)
    rw [← asc, ← asg, ← ass] at t1_23
    have h123 := tg_ok h12 o3
    have hco := coarser_ok' _ _ _ ⟨h123.st, by omega⟩ ⟨h123.gr, by omega⟩ (fun x hx => (h123.rw x hx).1) (by have := h123.few; omega)
    have hcs := cs_shaped h123
    generalize tgP SS G P s3 g3 C = Q at *
    generalize tgG G g3 = GG' at *
    generalize tgS SS G s3 g3 = SS' at *
    have e9 : S_law_9 [some (.d X), some (.d (patD s1 g1 A)), some (.d (patD s2 g2 B)), some (.d (patD SS G P)), some (.d (.tuple [.int (n1 : Nat), .int 1])), some (.d (.tuple [.int (n2 : Nat), .int 1])), some (.d (.list [.int (ldA A * (n1 : Int) + ldA B * (n2 : Int)), .int (ldB A * (n1 : Int) + ldB B * (n2 : Int))])), some (.d (.int (1 : Nat))), none, none, none, none, none] M2 = some (.nx [some (.d X), some (.d (patD s1 g1 A)), some (.d (patD s2 g2 B)), some (.d (patD SS G P)), some (.d (.tuple [.int (n1 : Nat), .int 1])), some (.d (.tuple [.int (n2 : Nat), .int 1])), some (.d (.list [.int (ldA A * (n1 : Int) + ldA B * (n2 : Int)), .int (ldB A * (n1 : Int) + ldB B * (n2 : Int))])), some (.d (.int (1 : Nat))), none, none, none, none, none] M2) := by
      unfold S_law_9
      exact (zif_f (lT_of hgt')).trans rfl
    have e10 : S_law_10 [some (.d X), some (.d (patD s1 g1 A)), some (.d (patD s2 g2 B)), some (.d (patD SS G P)), some (.d (.tuple [.int (n1 : Nat), .int 1])), some (.d (.tuple [.int (n2 : Nat), .int 1])), some (.d (.list [.int (ldA A * (n1 : Int) + ldA B * (n2 : Int)), .int (ldB A * (n1 : Int) + ldB B * (n2 : Int))])), some (.d (.int (1 : Nat))), none, none, none, none, none] M2 = some (.nx [some (.d X), some (.d (patD s1 g1 A)), some (.d (patD s2 g2 B)), some (.d (patD SS G P)), some (.d (.tuple [.int (n1 : Nat), .int 1])), some (.d (.tuple [.int (n2 : Nat), .int 1])), some (.d (.list [.int (ldA A * (n1 : Int) + ldA B * (n2 : Int)), .int (ldB A * (n1 : Int) + ldB B * (n2 : Int))])), some (.d (.int (1 : Nat))), none, none, some (.d (patD s3 g3 p3)), none, none] M2) := by
      refine zset_l ?_
      generalize patD s1 g1 A = v at *
      generalize patD s2 g2 B = v' at *
      generalize patD SS G P = v2 at *
      generalize patD s3 g3 p3 = v3 at *
      simp -implicitDefEqProofs (disch := omega) [x2, y3]
    have elast : ∀ R : Ro, fVar 10 (pr R) = some (patD s3 g3 p3) → fTup' (aCons (f2 vIx (fVar 10) (fC (.int 0))) (aCons (f2 vIx (fVar 10) (fC (.int 1))) (aCons (fSl (f2 vIx (fVar 10) (fC (.int 2))) pNo (pSome (fC (.int 2)))) aNil))) (pr R) = some (patD s3 g3 C) := by
      intro R hR
      have i0 : f2 vIx (fVar 10) (fC (.int 0)) (pr R) = some (.int (s3 : Nat)) := f2_of hR rfl rfl
      have i1 : f2 vIx (fVar 10) (fC (.int 1)) (pr R) = some (.int (g3 : Nat)) := f2_of hR rfl rfl
      have i2 : f2 vIx (fVar 10) (fC (.int 2)) (pr R) = some (.tuple (p3.map padD)) := f2_of hR rfl rfl
      have i3 : vSl (.tuple (p3.map padD)) none (some 2) = some (.tuple (C.map padD)) := by
        rw [← hC, List.map_take]
        exact vSl_tto (a := p3.map padD) (i := 2) (by omega)
      rw [fTup_ev, aCons_ev, aCons_ev, aCons_ev, aNil_ev, i0, i1, fSl_ev, i2]
      show (Option.bind (some (PyData.int (s3 : Nat))) fun x => (Option.bind (Option.bind (some (PyData.int (g3 : Nat))) fun x => _) _)).map _ = _
      simp -implicitDefEqProofs only [Option.bind_some, pNo_ev, pSome_ev, fC_ev, intK_i, i3]
      rfl
    obtain ⟨M3, t3⟩ := t123 M2
    have e11 : S_law_11 [some (.d X), some (.d (patD s1 g1 A)), some (.d (patD s2 g2 B)), some (.d (patD SS G P)), some (.d (.tuple [.int (n1 : Nat), .int 1])), some (.d (.tuple [.int (n2 : Nat), .int 1])), some (.d (.list [.int (ldA A * (n1 : Int) + ldA B * (n2 : Int)), .int (ldB A * (n1 : Int) + ldB B * (n2 : Int))])), some (.d (.int (1 : Nat))), none, none, some (.d (patD s3 g3 p3)), none, none] M2 = some (.nx [some (.d X), some (.d (patD s1 g1 A)), some (.d (patD s2 g2 B)), some (.d (patD SS G P)), some (.d (.tuple [.int (n1 : Nat), .int 1])), some (.d (.tuple [.int (n2 : Nat), .int 1])), some (.d (.list [.int (ldA A * (n1 : Int) + ldA B * (n2 : Int)), .int (ldB A * (n1 : Int) + ldB B * (n2 : Int))])), some (.d (.int (1 : Nat))), none, none, some (.d (patD s3 g3 p3)), some (.d (patD SS' GG' Q)), none] M3) := by
      refine zset_nx ?_
      exact (aFn_of (l := [.d (patD SS G P), .d (patD s3 g3 C)]) (bcons_of (lE_of rfl) (bcons_of (lE_of (elast _ rfl)) bnil_of))).trans t3
    obtain ⟨M4, t4⟩ := t23 M3
    obtain ⟨M5, t5⟩ := t1_23 M4
    have e12 : S_law_12 [some (.d X), some (.d (patD s1 g1 A)), some (.d (patD s2 g2 B)), some (.d (patD SS G P)), some (.d (.tuple [.int (n1 : Nat), .int 1])), some (.d (.tuple [.int (n2 : Nat), .int 1])), some (.d (.list [.int (ldA A * (n1 : Int) + ldA B * (n2 : Int)), .int (ldB A * (n1 : Int) + ldB B * (n2 : Int))])), some (.d (.int (1 : Nat))), none, none, some (.d (patD s3 g3 p3)), some (.d (patD SS' GG' Q)), none] M3 = some (.nx [some (.d X), some (.d (patD s1 g1 A)), some (.d (patD s2 g2 B)), some (.d (patD SS G P)), some (.d (.tuple [.int (n1 : Nat), .int 1])), some (.d (.tuple [.int (n2 : Nat), .int 1])), some (.d (.list [.int (ldA A * (n1 : Int) + ldA B * (n2 : Int)), .int (ldB A * (n1 : Int) + ldB B * (n2 : Int))])), some (.d (.int (1 : Nat))), none, none, some (.d (patD s3 g3 p3)), some (.d (patD SS' GG' Q)), some (.d (patD SS' GG' Q))] M5) := by
      refine zset_nx ?_
      refine (aFn_of (M1 := M4) (l := [.d (patD s1 g1 A), .d (patD (tgS s2 g2 s3 g3) (tgG g2 g3) (tgP s2 g2 B s3 g3 C))]) (bcons_of (lE_of rfl) (bcons_of (M1 := M4) ?_ bnil_of))).trans t5
      exact (aFn_of (l := [.d (patD s2 g2 B), .d (patD s3 g3 C)]) (bcons_of (lE_of rfl) (bcons_of (lE_of (elast _ rfl)) bnil_of))).trans t4
    refine ⟨M5, runA_of rfl ?_⟩
    unfold G_law
    refine Eq.trans (zseq_nx e0) ?_
    refine Eq.trans (zseq_nx e1) ?_
    refine Eq.trans (zseq_nx e2) ?_
    refine Eq.trans (zseq_nx e3) ?_
    refine Eq.trans (zseq_nx e4) ?_
    refine Eq.trans (zseq_nx e5) ?_
    refine Eq.trans (zseq_nx e6) ?_
    refine Eq.trans (zseq_nx e7) ?_
    refine Eq.trans (zseq_nx e8) ?_
    refine Eq.trans (zseq_nx e9) ?_
    refine Eq.trans (zseq_nx e10) ?_
    refine Eq.trans (zseq_nx e11) ?_
    refine Eq.trans (zseq_nx e12) ?_
    unfold S_law_13
    refine zret_of (lE_of ?_)
    have eqc := (pat_ne (hcs (SS' / GG SS' GG' Q) (GG' / GG SS' GG' Q) (GG SS' GG' Q)) (hcs (SS' / GG SS' GG' Q) (GG' / GG SS' GG' Q) (GG SS' GG' Q)) ⟨rfl, rfl, rfl⟩).2
    generalize patD (SS' / GG SS' GG' Q) (GG' / GG SS' GG' Q) (csP (GG SS' GG' Q) Q) = cc at *
    generalize patD SS' GG' Q = qq at *
    generalize patD s1 g1 A = v at *
    generalize patD s2 g2 B = v' at *
    generalize patD SS G P = v2 at *
    generalize patD s3 g3 p3 = v3 at *
    simp -implicitDefEqProofs (disch := omega) [hco, eqc]
end W_k24
namespace W_k24
open PySem PySem.Spec PyProof.Rows L2 PV WS
/-! ### the text: law_k24_whole_together_by_rounds -/
def topS (i : Nat) : Stmt := PySem.Challenge.pw_padrows_k24_whole_together_by_rounds.main.body.getD i (.Pass ⟨0, 0, 0, 0⟩)
structure Tx (mg : Str → Option Value) : Prop where
  n_abs : mg "abs" = none
  n_all : mg "all" = none
  n_dict : mg "dict" = none
  n_enumerate : mg "enumerate" = none
  n_len : mg "len" = none
  n_max : mg "max" = none
  n_range : mg "range" = none
  n_sorted : mg "sorted" = none
  n_tuple : mg "tuple" = none
  n_zip : mg "zip" = none
  g_MARKS : ∃ t, mg "MARKS" = some (.str ".xX" t)
  g_PLAIN : ∃ t, mg "PLAIN" = some (.str "x" t)
  g_REST : ∃ t, mg "REST" = some (.str "." t)
abbrev st_only : Stmt := topS 17
theorem sc_only : FnScope ["pattern", "pads", "part"] ["pattern", "pads"] (defScope st_only) := ⟨rfl, rfl, rfl, by decide +kernel, rfl, by decide +kernel, by decide +kernel⟩
abbrev st_law_drawn : Stmt := topS 22
theorem sc_law_drawn : FnScope ["_law_number", "_law_k", "_law_drawn_here"] ["_law_number", "_law_k"] (defScope st_law_drawn) := ⟨rfl, rfl, rfl, by decide +kernel, rfl, by decide +kernel, by decide +kernel⟩
abbrev st_law_marks : Stmt := topS 24
theorem sc_law_marks : FnScope ["_law_number", "_law_steps", "_law_found", "_law_k", "_law_drawn_here"] ["_law_number", "_law_steps"] (defScope st_law_marks) := ⟨rfl, rfl, rfl, by decide +kernel, rfl, by decide +kernel, by decide +kernel⟩
abbrev st_law_pattern : Stmt := topS 25
theorem sc_law_pattern : FnScope ["_law_number", "_law_steps", "_law_grid", "_law_pads", "_law_k", "_law_pad", "_law_drawn_here"] ["_law_number"] (defScope st_law_pattern) := ⟨rfl, rfl, rfl, by decide +kernel, rfl, by decide +kernel, by decide +kernel⟩
abbrev st_law_cell_at : Stmt := topS 20
theorem sc_law_cell_at : FnScope ["_law_script", "_law_k"] ["_law_script", "_law_k"] (defScope st_law_cell_at) := ⟨rfl, rfl, rfl, by decide +kernel, rfl, by decide +kernel, by decide +kernel⟩
abbrev st_law_mixed : Stmt := topS 21
theorem sc_law_mixed : FnScope ["_law_script", "_law_k", "_law_drawn_here"] ["_law_script", "_law_k"] (defScope st_law_mixed) := ⟨rfl, rfl, rfl, by decide +kernel, rfl, by decide +kernel, by decide +kernel⟩
abbrev st_divisor : Stmt := topS 1
theorem sc_divisor : FnScope ["one", "other"] ["one", "other"] (defScope st_divisor) := ⟨rfl, rfl, rfl, by decide +kernel, rfl, by decide +kernel, by decide +kernel⟩
abbrev st_shared_multiple : Stmt := topS 14
theorem sc_shared_multiple : FnScope ["one", "other"] ["one", "other"] (defScope st_shared_multiple) := ⟨rfl, rfl, rfl, by decide +kernel, rfl, by decide +kernel, by decide +kernel⟩
abbrev st_finer : Stmt := topS 11
theorem sc_finer : FnScope ["pattern", "many", "steps", "grid", "pads", "rest", "rows", "mark", "pad", "row"] ["pattern", "many"] (defScope st_finer) := ⟨rfl, rfl, rfl, by decide +kernel, rfl, by decide +kernel, by decide +kernel⟩
abbrev st_fitted : Stmt := topS 15
theorem sc_fitted : FnScope ["pattern", "grid", "steps", "some", "many", "pad", "row"] ["pattern", "grid", "steps"] (defScope st_fitted) := ⟨rfl, rfl, rfl, by decide +kernel, rfl, by decide +kernel, by decide +kernel⟩
abbrev st_laid : Stmt := topS 9
theorem sc_laid : FnScope ["one", "other", "here", "there"] ["one", "other"] (defScope st_laid) := ⟨rfl, rfl, rfl, by decide +kernel, rfl, by decide +kernel, by decide +kernel⟩
abbrev st_together : Stmt := topS 16
theorem sc_together : FnScope ["one", "other", "grid", "steps", "found", "pad", "row"] ["one", "other"] (defScope st_together) := ⟨rfl, rfl, rfl, by decide +kernel, rfl, by decide +kernel, by decide +kernel⟩
abbrev st_fraction : Stmt := topS 2
theorem sc_fraction : FnScope ["upper", "lower", "shared"] ["upper", "lower"] (defScope st_fraction) := ⟨rfl, rfl, rfl, by decide +kernel, rfl, by decide +kernel, by decide +kernel⟩
abbrev st_beats : Stmt := topS 5
theorem sc_beats : FnScope ["pattern"] ["pattern"] (defScope st_beats) := ⟨rfl, rfl, rfl, by decide +kernel, rfl, by decide +kernel, by decide +kernel⟩
abbrev st_law_frac : Stmt := topS 23
theorem sc_law_frac : FnScope ["_law_upper", "_law_lower", "_law_one", "_law_other"] ["_law_upper", "_law_lower"] (defScope st_law_frac) := ⟨rfl, rfl, rfl, by decide +kernel, rfl, by decide +kernel, by decide +kernel⟩
abbrev st_law_rounds : Stmt := topS 26
theorem sc_law_rounds : FnScope ["_law_whole", "_law_part", "_law_one", "_law_other"] ["_law_whole", "_law_part"] (defScope st_law_rounds) := ⟨rfl, rfl, rfl, by decide +kernel, rfl, by decide +kernel, by decide +kernel⟩
abbrev st_loudness : Stmt := topS 18
theorem sc_loudness : FnScope ["pattern", "marks", "pad", "row", "plain"] ["pattern"] (defScope st_loudness) := ⟨rfl, rfl, rfl, by decide +kernel, rfl, by decide +kernel, by decide +kernel⟩
abbrev st_is_finer : Stmt := topS 12
theorem sc_is_finer : FnScope ["pattern", "many", "steps", "grid", "pads", "at", "mark", "pad", "row"] ["pattern", "many"] (defScope st_is_finer) := ⟨rfl, rfl, rfl, by decide +kernel, rfl, by decide +kernel, by decide +kernel⟩
abbrev st_coarser : Stmt := topS 13
theorem sc_coarser : FnScope ["pattern", "steps", "grid", "pads", "many", "pad", "row"] ["pattern"] (defScope st_coarser) := ⟨rfl, rfl, rfl, by decide +kernel, rfl, by decide +kernel, by decide +kernel⟩
abbrev st_law : Stmt := topS 27
theorem sc_law : FnScope ["_law_script", "_law_ones", "_law_others", "_law_both", "_law_here", "_law_there", "_law_due", "_law_k", "_law_pad", "_law_row", "_law_last", "_law_first", "_law_again"] ["_law_script"] (defScope st_law) := ⟨rfl, rfl, rfl, by decide +kernel, rfl, by decide +kernel, by decide +kernel⟩
theorem w_only {P : Program} {w : World} {K : PySem.W.Frag} {mg : Str → Option Value} {base : Heap} {f : Addr} {fd : FuncData} (T : Tx mg) (Fd : FnP K "only" st_only f fd) (gx : mg "only" = some (.ref f)) : Fn P w K mg base 1 "only" 2 F_only :=
  fn_mk Fd sc_only rfl gx (fun _ _ _ _ _ _ us hl => match us, hl with | [_, _], _ => rfl) (fun cdv A outer s H E hr => ((yb_one (ys_ret (y_add (y_sl (y_var 0) yo_no (yo_some y_int)) (y_tup (ya_cons (y_ty call_tupF rn_tuple rfl T.n_tuple (by decide +kernel) (ya_cons (y_f (yf_lc rfl sc_only.nd (blkOk_by (own := [("part", 2)]) (N := ["pattern", "pads", "part"]) (sc := defScope st_only) (by decide +kernel)) (yi_seq (y_ix hr (y_var 0) y_int)) (fun _ _ _ _ _ => (yg_name 2 sc_only.nd rfl (by first | exact Or.inl rfl | exact Or.inr rfl))) (by decide) (fun _ _ _ _ _ => (yts_one (yt_cmp (op_inU hr) r_in (by rfl) (y_ix hr (y_var 2) y_int) (y_var 1)))) (fun _ _ _ _ _ => (y_var 2)))) ya_nil)) ya_nil)))))))
theorem w_law_drawn {P : Program} {w : World} {K : PySem.W.Frag} {mg : Str → Option Value} {base : Heap} {f : Addr} {fd : FuncData} (T : Tx mg) (Fd : FnP K "_law_drawn" st_law_drawn f fd) (gx : mg "_law_drawn" = some (.ref f)) : Fn P w K mg base 1 "_law_drawn" 2 F_law_drawn :=
  fn_mk Fd sc_law_drawn rfl gx (fun _ _ _ _ _ _ us hl => match us, hl with | [_, _], _ => rfl) (fun cdv A outer s H E hr => ((yb_cons (ys_set 2 sc_law_drawn.nd rfl (by first | exact Or.inl rfl | exact Or.inr rfl) (y_mod (y_mul (y_add (y_add (y_var 0) (y_mul y_int (y_var 1))) y_int) y_int) y_int))
    (yb_one (ys_ret (y_mod (y_add (y_add (y_mul (y_var 2) (y_var 2)) (y_mul y_int (y_var 2))) (y_var 1)) y_int))))))
theorem w_law_marks {P : Program} {w : World} {K : PySem.W.Frag} {mg : Str → Option Value} {base : Heap} {f : Addr} {fd : FuncData} (T : Tx mg) (Fd : FnP K "_law_marks" st_law_marks f fd) (gx : mg "_law_marks" = some (.ref f)) (h_law_drawn : Fn P w K mg base 1 "_law_drawn" 2 F_law_drawn) : Fn P w K mg base 2 "_law_marks" 2 F_law_marks :=
  fn_mk Fd sc_law_marks rfl gx (fun _ _ _ _ _ _ us hl => match us, hl with | [_, _], _ => rfl) (fun cdv A outer s H E hr => ((yb_cons (ys_set 2 sc_law_marks.nd rfl (by first | exact Or.inl rfl | exact Or.inr rfl) y_str)
    (yb_cons (ys_for PassesOwn.never rfl (yi_rg1 rfl T.n_range (y_var 1)) (yg_name 3 sc_law_marks.nd rfl (by first | exact Or.inl rfl | exact Or.inr rfl)) (yb_cons (ys_set 4 sc_law_marks.nd rfl (by first | exact Or.inl rfl | exact Or.inr rfl) (y_div (y_call h_law_drawn hr (by decide) rfl (ya_cons (y_var 0) (ya_cons (y_var 3) ya_nil))) y_int))
    (yb_one (ys_set 2 sc_law_marks.nd rfl (by first | exact Or.inl rfl | exact Or.inr rfl) (y_add (y_var 2) (y_ix hr y_str (y_mod (y_var 4) y_int)))))))
    (yb_one (ys_ret (y_var 2)))))))
theorem w_law_pattern {P : Program} {w : World} {K : PySem.W.Frag} {mg : Str → Option Value} {base : Heap} {f : Addr} {fd : FuncData} (T : Tx mg) (Fd : FnP K "_law_pattern" st_law_pattern f fd) (gx : mg "_law_pattern" = some (.ref f)) (h_law_drawn : Fn P w K mg base 1 "_law_drawn" 2 F_law_drawn) (h_law_marks : Fn P w K mg base 2 "_law_marks" 2 F_law_marks) : Fn P w K mg base 3 "_law_pattern" 1 F_law_pattern :=
  fn_mk Fd sc_law_pattern rfl gx (fun _ _ _ _ _ _ us hl => match us, hl with | [_], _ => rfl) (fun cdv A outer s H E hr => ((yb_cons (ys_set 1 sc_law_pattern.nd rfl (by first | exact Or.inl rfl | exact Or.inr rfl) (y_ix hr (y_tup (ya_cons (y_add y_int (y_mod (y_div (y_var 0) y_int) y_int)) (ya_cons y_int (ya_cons y_int (ya_cons (y_add y_int (y_mod (y_div (y_var 0) y_int) y_int)) ya_nil))))) (y_mod (y_var 0) y_int)))
    (yb_cons (ys_set 2 sc_law_pattern.nd rfl (by first | exact Or.inl rfl | exact Or.inr rfl) (y_add y_int (y_mod (y_div (y_var 0) y_int) y_int)))
    (yb_cons (ys_set 3 sc_law_pattern.nd rfl (by first | exact Or.inl rfl | exact Or.inr rfl) (y_tup ya_nil))
    (yb_cons (ys_for PassesOwn.never rfl (yi_enum rfl T.n_enumerate (y_tup (ya_cons y_str (ya_cons y_str (ya_cons y_str (ya_cons y_str (ya_cons y_str ya_nil))))))) (yg_tup rfl (ygs_cons (yg_name 4 sc_law_pattern.nd rfl (by first | exact Or.inl rfl | exact Or.inr rfl)) (ygs_cons (yg_name 5 sc_law_pattern.nd rfl (by first | exact Or.inl rfl | exact Or.inr rfl)) ygs_nil))) (yb_cons (ys_set 6 sc_law_pattern.nd rfl (by first | exact Or.inl rfl | exact Or.inr rfl) (y_div (y_call h_law_drawn hr (by decide) rfl (ya_cons (y_var 0) (ya_cons (y_add y_int (y_var 4)) ya_nil))) y_int))
    (yb_one (ys_if (yt_cmp o_lt r_lt (nomark _) (y_mod (y_var 6) y_int) (y_add y_int (y_mod (y_div (y_var 0) y_int) y_int))) (yb_one (ys_set 3 sc_law_pattern.nd rfl (by first | exact Or.inl rfl | exact Or.inr rfl) (y_add (y_var 3) (y_tup (ya_cons (y_tup (ya_cons (y_var 5) (ya_cons (y_call h_law_marks hr (by decide) rfl (ya_cons (y_div (y_var 6) y_int) (ya_cons (y_var 1) ya_nil))) ya_nil))) ya_nil))))) yb_nil))))
    (yb_one (ys_ret (y_tup (ya_cons (y_var 1) (ya_cons (y_var 2) (ya_cons (y_var 3) ya_nil))))))))))))
theorem w_law_cell_at {P : Program} {w : World} {K : PySem.W.Frag} {mg : Str → Option Value} {base : Heap} {f : Addr} {fd : FuncData} (T : Tx mg) (Fd : FnP K "_law_cell_at" st_law_cell_at f fd) (gx : mg "_law_cell_at" = some (.ref f)) : Fn P w K mg base 1 "_law_cell_at" 2 F_law_cell_at :=
  fn_mk Fd sc_law_cell_at rfl gx (fun _ _ _ _ _ _ us hl => match us, hl with | [_, _], _ => rfl) (fun cdv A outer s H E hr => ((yb_cons (ys_if (yt_cmp o_lt r_lt (nomark _) (y_var 1) (y_bi c_len rn_len rfl T.n_len PySem.boot_len (ya_cons (y_var 0) ya_nil))) (yb_one (ys_ret (y_ix hr (y_var 0) (y_var 1)))) yb_nil)
    (yb_one (ys_ret y_int)))))
theorem w_law_mixed {P : Program} {w : World} {K : PySem.W.Frag} {mg : Str → Option Value} {base : Heap} {f : Addr} {fd : FuncData} (T : Tx mg) (Fd : FnP K "_law_mixed" st_law_mixed f fd) (gx : mg "_law_mixed" = some (.ref f)) (h_law_cell_at : Fn P w K mg base 1 "_law_cell_at" 2 F_law_cell_at) : Fn P w K mg base 2 "_law_mixed" 2 F_law_mixed :=
  fn_mk Fd sc_law_mixed rfl gx (fun _ _ _ _ _ _ us hl => match us, hl with | [_, _], _ => rfl) (fun cdv A outer s H E hr => ((yb_cons (ys_set 2 sc_law_mixed.nd rfl (by first | exact Or.inl rfl | exact Or.inr rfl) (y_mod (y_mul (y_add (y_add (y_call h_law_cell_at hr (by decide) rfl (ya_cons (y_var 0) (ya_cons (y_var 1) ya_nil))) (y_mul y_int (y_var 1))) y_int) y_int) y_int))
    (yb_one (ys_ret (y_mod (y_add (y_add (y_mul (y_var 2) (y_var 2)) (y_mul y_int (y_var 2))) (y_var 1)) y_int))))))
theorem w_divisor {P : Program} {w : World} {K : PySem.W.Frag} {mg : Str → Option Value} {base : Heap} {f : Addr} {fd : FuncData} (T : Tx mg) (Fd : FnP K "divisor" st_divisor f fd) (gx : mg "divisor" = some (.ref f)) : Fn P w K mg base 1 "divisor" 2 F_divisor :=
  fn_mk Fd sc_divisor rfl gx (fun _ _ _ _ _ _ us hl => match us, hl with | [_, _], _ => rfl) (fun cdv A outer s H E hr => ((yb_cons (ys_while fuel PassesOwn.never (yt_cmp (o_ne hr) r_ne (nomark _) (y_var 1) y_int) (yb_one (ys_par 0 1 rfl sc_divisor.nd rfl rfl (by decide) rfl rfl (ya_cons (y_var 1) (ya_cons (y_mod (y_var 0) (y_var 1)) ya_nil)))))
    (yb_one (ys_ret (y_var 0))))))
theorem w_shared_multiple {P : Program} {w : World} {K : PySem.W.Frag} {mg : Str → Option Value} {base : Heap} {f : Addr} {fd : FuncData} (T : Tx mg) (Fd : FnP K "shared_multiple" st_shared_multiple f fd) (gx : mg "shared_multiple" = some (.ref f)) (h_divisor : Fn P w K mg base 1 "divisor" 2 F_divisor) : Fn P w K mg base 2 "shared_multiple" 2 F_shared_multiple :=
  fn_mk Fd sc_shared_multiple rfl gx (fun _ _ _ _ _ _ us hl => match us, hl with | [_, _], _ => rfl) (fun cdv A outer s H E hr => ((yb_one (ys_ret (y_div (y_mul (y_var 0) (y_var 1)) (y_call h_divisor hr (by decide) rfl (ya_cons (y_var 0) (ya_cons (y_var 1) ya_nil))))))))
theorem w_finer {P : Program} {w : World} {K : PySem.W.Frag} {mg : Str → Option Value} {base : Heap} {f : Addr} {fd : FuncData} (T : Tx mg) (Fd : FnP K "finer" st_finer f fd) (gx : mg "finer" = some (.ref f)) : Fn P w K mg base 1 "finer" 2 F_finer :=
  fn_mk Fd sc_finer rfl gx (fun _ _ _ _ _ _ us hl => match us, hl with | [_, _], _ => rfl) (fun cdv A outer s H E hr => ((yb_cons (ys_asg (y_var 0) (yg_tup rfl (ygs_cons (yg_name 2 sc_finer.nd rfl (by first | exact Or.inl rfl | exact Or.inr rfl)) (ygs_cons (yg_name 3 sc_finer.nd rfl (by first | exact Or.inl rfl | exact Or.inr rfl)) (ygs_cons (yg_name 4 sc_finer.nd rfl (by first | exact Or.inl rfl | exact Or.inr rfl)) ygs_nil)))))
    (yb_cons (ys_set 5 sc_finer.nd rfl (by first | exact Or.inl rfl | exact Or.inr rfl) (y_mul (y_gstr rfl T.g_REST) (y_sub (y_var 1) y_int)))
    (yb_cons (ys_set 6 sc_finer.nd rfl (by first | exact Or.inl rfl | exact Or.inr rfl) (y_ty call_tupF rn_tuple rfl T.n_tuple (by decide +kernel) (ya_cons (y_f (yf_lc rfl sc_finer.nd (blkOk_by (own := [("pad", 8), ("row", 9)]) (N := ["pattern", "many", "steps", "grid", "pads", "rest", "rows", "mark", "pad", "row"]) (sc := defScope st_finer) (by decide +kernel)) (yi_seq (y_var 4)) (fun _ _ _ _ _ => (yg_tup rfl (ygs_cons (yg_name 8 sc_finer.nd rfl (by first | exact Or.inl rfl | exact Or.inr rfl)) (ygs_cons (yg_name 9 sc_finer.nd rfl (by first | exact Or.inl rfl | exact Or.inr rfl)) ygs_nil)))) (by decide) (fun _ _ _ _ _ => yts_no) (fun _ _ _ _ _ => (y_tup (ya_cons (y_var 8) (ya_cons (y_join y_str (ya_cons (y_f (yf_lc rfl sc_finer.nd (blkOk_by (own := [("mark", 7)]) (by kernel_rfl)) (yi_seq (y_var 9)) (fun _ _ _ _ _ => (yg_name 7 sc_finer.nd rfl (by first | exact Or.inl rfl | exact Or.inr rfl))) (by decide) (fun _ _ _ _ _ => yts_no) (fun _ _ _ _ _ => (y_add (y_var 7) (y_var 5))))) ya_nil)) ya_nil)))))) ya_nil)))
    (yb_one (ys_ret (y_tup (ya_cons (y_mul (y_var 2) (y_var 1)) (ya_cons (y_mul (y_var 3) (y_var 1)) (ya_cons (y_var 6) ya_nil)))))))))))
theorem w_fitted {P : Program} {w : World} {K : PySem.W.Frag} {mg : Str → Option Value} {base : Heap} {f : Addr} {fd : FuncData} (T : Tx mg) (Fd : FnP K "fitted" st_fitted f fd) (gx : mg "fitted" = some (.ref f)) (h_finer : Fn P w K mg base 1 "finer" 2 F_finer) : FnA P w K mg base [] 2 "fitted" 3 F_fitted :=
  fnA_mk Fd sc_fitted rfl gx (fun _ _ _ _ _ _ us hl => match us, hl with | [_, _, _], _ => rfl) (fun cdv A outer s H E hr => by
    have tk : Takes (cxOf (L2.CX P w) P w K mg base ["pattern", "grid", "steps", "some", "many", "pad", "row"] "fitted" (defScope st_fitted) f cdv A outer s H E) (fun c d _ H => E c d H) := takes_of rfl rfl rfl rfl
    exact ((zb_cons (zs_set 3 sc_fitted.nd rfl (by first | exact Or.inl rfl | exact Or.inr rfl) (z_lift (y_call h_finer hr (by decide) rfl (ya_cons (y_var 0) (ya_cons (y_div (y_var 1) (y_ix hr (y_var 0) y_int)) ya_nil)))))
    (zb_cons (zs_set 4 sc_fitted.nd rfl (by first | exact Or.inl rfl | exact Or.inr rfl) (z_lift (y_div (y_var 2) (y_ix hr (y_var 3) y_int))))
    (zb_one (zs_ret (z_dict rfl rfl T.n_dict (za_cons (z_lift (y_f (yf_lc rfl sc_fitted.nd (blkOk_by (own := [("pad", 5), ("row", 6)]) (N := ["pattern", "grid", "steps", "some", "many", "pad", "row"]) (sc := defScope st_fitted) (by decide +kernel)) (yi_seq (y_ix hr (y_var 3) y_int)) (fun _ _ _ _ _ => (yg_tup rfl (ygs_cons (yg_name 5 sc_fitted.nd rfl (by first | exact Or.inl rfl | exact Or.inr rfl)) (ygs_cons (yg_name 6 sc_fitted.nd rfl (by first | exact Or.inl rfl | exact Or.inr rfl)) ygs_nil)))) (by decide) (fun _ _ _ _ _ => yts_no) (fun _ _ _ _ _ => (y_tup (ya_cons (y_var 5) (ya_cons (y_mul (y_var 6) (y_var 4)) ya_nil))))))) za_nil))))))))
theorem w_laid {P : Program} {w : World} {K : PySem.W.Frag} {mg : Str → Option Value} {base : Heap} {f : Addr} {fd : FuncData} (T : Tx mg) (Fd : FnP K "laid" st_laid f fd) (gx : mg "laid" = some (.ref f)) : Fn P w K mg base 1 "laid" 2 F_laid :=
  fn_mk Fd sc_laid rfl gx (fun _ _ _ _ _ _ us hl => match us, hl with | [_, _], _ => rfl) (fun cdv A outer s H E hr => ((yb_one (ys_ret (y_join y_str (ya_cons (y_f (yf_lc rfl sc_laid.nd (blkOk_by (own := [("here", 2), ("there", 3)]) (N := ["one", "other", "here", "there"]) (sc := defScope st_laid) (by decide +kernel)) (yi_zip2 rfl T.n_zip (y_var 0) (y_var 1)) (fun _ _ _ _ _ => (yg_tup rfl (ygs_cons (yg_name 2 sc_laid.nd rfl (by first | exact Or.inl rfl | exact Or.inr rfl)) (ygs_cons (yg_name 3 sc_laid.nd rfl (by first | exact Or.inl rfl | exact Or.inr rfl)) ygs_nil)))) (by decide) (fun _ _ _ _ _ => yts_no) (fun _ _ _ _ _ => (y_ix hr (y_gstr rfl T.g_MARKS) (y_bi (c_max2 hr rfl) rn_max2 rfl T.n_max (by decide +kernel) (ya_cons (y_index (y_gstr rfl T.g_MARKS) (ya_cons (y_var 2) ya_nil)) (ya_cons (y_index (y_gstr rfl T.g_MARKS) (ya_cons (y_var 3) ya_nil)) ya_nil))))))) ya_nil))))))
theorem w_together {P : Program} {w : World} {K : PySem.W.Frag} {mg : Str → Option Value} {base : Heap} {f : Addr} {fd : FuncData} (T : Tx mg) (Fd : FnP K "together" st_together f fd) (gx : mg "together" = some (.ref f)) (h_shared_multiple : Fn P w K mg base 2 "shared_multiple" 2 F_shared_multiple) (h_fitted : FnA P w K mg base [] 2 "fitted" 3 F_fitted) (h_laid : Fn P w K mg base 1 "laid" 2 F_laid) : FnA P w K mg base [] 3 "together" 2 F_together :=
  fnA_mk Fd sc_together rfl gx (fun _ _ _ _ _ _ us hl => match us, hl with | [_, _], _ => rfl) (fun cdv A outer s H E hr => by
    have tk : Takes (cxOf (L2.CX P w) P w K mg base ["one", "other", "grid", "steps", "found", "pad", "row"] "together" (defScope st_together) f cdv A outer s H E) (fun c d _ H => E c d H) := takes_of rfl rfl rfl rfl
    exact ((zb_cons (zs_set 2 sc_together.nd rfl (by first | exact Or.inl rfl | exact Or.inr rfl) (z_lift (y_call h_shared_multiple hr (by decide) rfl (ya_cons (y_ix hr (y_var 0) y_int) (ya_cons (y_ix hr (y_var 1) y_int) ya_nil)))))
    (zb_cons (zs_set 3 sc_together.nd rfl (by first | exact Or.inl rfl | exact Or.inr rfl) (z_lift (y_call h_shared_multiple hr (by decide) rfl (ya_cons (y_mul (y_ix hr (y_var 0) y_int) (y_div (y_var 2) (y_ix hr (y_var 0) y_int))) (ya_cons (y_mul (y_ix hr (y_var 1) y_int) (y_div (y_var 2) (y_ix hr (y_var 1) y_int))) ya_nil)))))
    (zb_cons (zs_set 4 sc_together.nd rfl (by first | exact Or.inl rfl | exact Or.inr rfl) (z_callA h_fitted tk hr (by decide) rfl (za_cons (z_lift (y_var 0)) (za_cons (z_lift (y_var 2)) (za_cons (z_lift (y_var 3)) za_nil)))))
    (zb_cons (zs_for (passes_of rfl) rfl (zi_items (z_callA h_fitted tk hr (by decide) rfl (za_cons (z_lift (y_var 1)) (za_cons (z_lift (y_var 2)) (za_cons (z_lift (y_var 3)) za_nil))))) (zg_tup rfl (zgs_cons (zg_name 5 sc_together.nd rfl (by first | exact Or.inl rfl | exact Or.inr rfl)) (zgs_cons (zg_name 6 sc_together.nd rfl (by first | exact Or.inl rfl | exact Or.inr rfl)) zgs_nil))) (zb_one (zs_putD hr (z_var 4) (z_lift (y_var 5)) (z_callP h_laid hr (by decide) rfl (za_cons (z_get2 hr (z_var 4) (z_lift (y_var 5)) (z_lift (y_mul (y_gstr rfl T.g_REST) (y_var 3)))) (za_cons (z_lift (y_var 6)) za_nil))))))
    (zb_one (zs_fz 3 4 (zs_ret (z_lift (y_tup (ya_cons (y_var 3) (ya_cons (y_var 2) (ya_cons (y_ty call_tupF rn_tuple rfl T.n_tuple (by decide +kernel) (ya_cons (y_sortIt hr rfl rfl T.n_sorted (y_var 4)) ya_nil)) ya_nil))))))))))))))
theorem w_fraction {P : Program} {w : World} {K : PySem.W.Frag} {mg : Str → Option Value} {base : Heap} {f : Addr} {fd : FuncData} (T : Tx mg) (Fd : FnP K "fraction" st_fraction f fd) (gx : mg "fraction" = some (.ref f)) (h_divisor : Fn P w K mg base 1 "divisor" 2 F_divisor) : Fn P w K mg base 2 "fraction" 2 F_fraction :=
  fn_mk Fd sc_fraction rfl gx (fun _ _ _ _ _ _ us hl => match us, hl with | [_, _], _ => rfl) (fun cdv A outer s H E hr => ((yb_cons (ys_set 2 sc_fraction.nd rfl (by first | exact Or.inl rfl | exact Or.inr rfl) (y_call h_divisor hr (by decide) rfl (ya_cons (y_bi call_abs rn_abs rfl T.n_abs (by decide +kernel) (ya_cons (y_var 0) ya_nil)) (ya_cons (y_var 1) ya_nil))))
    (yb_one (ys_ret (y_tup (ya_cons (y_div (y_var 0) (y_var 2)) (ya_cons (y_div (y_var 1) (y_var 2)) ya_nil))))))))
theorem w_beats {P : Program} {w : World} {K : PySem.W.Frag} {mg : Str → Option Value} {base : Heap} {f : Addr} {fd : FuncData} (T : Tx mg) (Fd : FnP K "beats" st_beats f fd) (gx : mg "beats" = some (.ref f)) (h_fraction : Fn P w K mg base 2 "fraction" 2 F_fraction) : Fn P w K mg base 3 "beats" 1 F_beats :=
  fn_mk Fd sc_beats rfl gx (fun _ _ _ _ _ _ us hl => match us, hl with | [_], _ => rfl) (fun cdv A outer s H E hr => ((yb_one (ys_ret (y_call h_fraction hr (by decide) rfl (ya_cons (y_ix hr (y_var 0) y_int) (ya_cons (y_ix hr (y_var 0) y_int) ya_nil)))))))
theorem w_law_frac {P : Program} {w : World} {K : PySem.W.Frag} {mg : Str → Option Value} {base : Heap} {f : Addr} {fd : FuncData} (T : Tx mg) (Fd : FnP K "_law_frac" st_law_frac f fd) (gx : mg "_law_frac" = some (.ref f)) : Fn P w K mg base 1 "_law_frac" 2 F_law_frac :=
  fn_mk Fd sc_law_frac rfl gx (fun _ _ _ _ _ _ us hl => match us, hl with | [_, _], _ => rfl) (fun cdv A outer s H E hr => ((yb_cons (ys_par 2 3 rfl sc_law_frac.nd rfl rfl (by decide) rfl rfl (ya_cons (y_bi call_abs rn_abs rfl T.n_abs (by decide +kernel) (ya_cons (y_var 0) ya_nil)) (ya_cons (y_var 1) ya_nil)))
    (yb_cons (ys_while fuel PassesOwn.never (yt_cmp (o_ne hr) r_ne (nomark _) (y_var 3) y_int) (yb_one (ys_par 2 3 rfl sc_law_frac.nd rfl rfl (by decide) rfl rfl (ya_cons (y_var 3) (ya_cons (y_mod (y_var 2) (y_var 3)) ya_nil)))))
    (yb_one (ys_ret (y_tup (ya_cons (y_div (y_var 0) (y_var 2)) (ya_cons (y_div (y_var 1) (y_var 2)) ya_nil)))))))))
theorem w_law_rounds {P : Program} {w : World} {K : PySem.W.Frag} {mg : Str → Option Value} {base : Heap} {f : Addr} {fd : FuncData} (T : Tx mg) (Fd : FnP K "_law_rounds" st_law_rounds f fd) (gx : mg "_law_rounds" = some (.ref f)) (h_beats : Fn P w K mg base 3 "beats" 1 F_beats) (h_law_frac : Fn P w K mg base 1 "_law_frac" 2 F_law_frac) : Fn P w K mg base 4 "_law_rounds" 2 F_law_rounds :=
  fn_mk Fd sc_law_rounds rfl gx (fun _ _ _ _ _ _ us hl => match us, hl with | [_, _], _ => rfl) (fun cdv A outer s H E hr => ((yb_cons (ys_par 2 3 rfl sc_law_rounds.nd rfl rfl (by decide) rfl rfl (ya_cons (y_call h_beats hr (by decide) rfl (ya_cons (y_var 0) ya_nil)) (ya_cons (y_call h_beats hr (by decide) rfl (ya_cons (y_var 1) ya_nil)) ya_nil)))
    (yb_one (ys_ret (y_call h_law_frac hr (by decide) rfl (ya_cons (y_mul (y_ix hr (y_var 2) y_int) (y_ix hr (y_var 3) y_int)) (ya_cons (y_mul (y_ix hr (y_var 2) y_int) (y_ix hr (y_var 3) y_int)) ya_nil))))))))
theorem w_loudness {P : Program} {w : World} {K : PySem.W.Frag} {mg : Str → Option Value} {base : Heap} {f : Addr} {fd : FuncData} (T : Tx mg) (Fd : FnP K "loudness" st_loudness f fd) (gx : mg "loudness" = some (.ref f)) : Fn P w K mg base 1 "loudness" 1 F_loudness :=
  fn_mk Fd sc_loudness rfl gx (fun _ _ _ _ _ _ us hl => match us, hl with | [_], _ => rfl) (fun cdv A outer s H E hr => ((yb_cons (ys_set 1 sc_loudness.nd rfl (by first | exact Or.inl rfl | exact Or.inr rfl) (y_join y_str (ya_cons (y_f (yf_lc rfl sc_loudness.nd (blkOk_by (own := [("pad", 2), ("row", 3)]) (N := ["pattern", "marks", "pad", "row", "plain"]) (sc := defScope st_loudness) (by decide +kernel)) (yi_seq (y_ix hr (y_var 0) y_int)) (fun _ _ _ _ _ => (yg_tup rfl (ygs_cons (yg_name 2 sc_loudness.nd rfl (by first | exact Or.inl rfl | exact Or.inr rfl)) (ygs_cons (yg_name 3 sc_loudness.nd rfl (by first | exact Or.inl rfl | exact Or.inr rfl)) ygs_nil)))) (by decide) (fun _ _ _ _ _ => yts_no) (fun _ _ _ _ _ => (y_var 3)))) ya_nil)))
    (yb_cons (ys_set 4 sc_loudness.nd rfl (by first | exact Or.inl rfl | exact Or.inr rfl) (y_count (y_var 1) (ya_cons (y_gstr rfl T.g_PLAIN) ya_nil)))
    (yb_one (ys_ret (y_tup (ya_cons (y_var 4) (ya_cons (y_sub (y_sub (y_bi c_len rn_len rfl T.n_len PySem.boot_len (ya_cons (y_var 1) ya_nil)) (y_var 4)) (y_count (y_var 1) (ya_cons (y_gstr rfl T.g_REST) ya_nil))) ya_nil)))))))))
theorem w_is_finer {P : Program} {w : World} {K : PySem.W.Frag} {mg : Str → Option Value} {base : Heap} {f : Addr} {fd : FuncData} (T : Tx mg) (Fd : FnP K "is_finer" st_is_finer f fd) (gx : mg "is_finer" = some (.ref f)) : Fn P w K mg base 1 "is_finer" 2 F_is_finer :=
  fn_mk Fd sc_is_finer rfl gx (fun _ _ _ _ _ _ us hl => match us, hl with | [_, _], _ => rfl) (fun cdv A outer s H E hr => ((yb_cons (ys_asg (y_var 0) (yg_tup rfl (ygs_cons (yg_name 2 sc_is_finer.nd rfl (by first | exact Or.inl rfl | exact Or.inr rfl)) (ygs_cons (yg_name 3 sc_is_finer.nd rfl (by first | exact Or.inl rfl | exact Or.inr rfl)) (ygs_cons (yg_name 4 sc_is_finer.nd rfl (by first | exact Or.inl rfl | exact Or.inr rfl)) ygs_nil)))))
    (yb_cons (ys_if (yt_w (yw_or (yt_cmp (o_ne hr) r_ne (nomark _) (y_mod (y_var 2) (y_var 1)) y_int) (yw_or1 (yt_cmp (o_ne hr) r_ne (nomark _) (y_mod (y_var 3) (y_var 1)) y_int)))) (yb_one (ys_ret y_bl)) yb_nil)
    (yb_one (ys_ret (y_bi (cr_all rfl) rn_all rfl T.n_all (by decide +kernel) (ya_cons (y_f (yf_lc rfl sc_is_finer.nd (blkOk_by (own := [("pad", 7), ("row", 8)]) (N := ["pattern", "many", "steps", "grid", "pads", "at", "mark", "pad", "row"]) (sc := defScope st_is_finer) (by decide +kernel)) (yi_seq (y_var 4)) (fun _ _ _ _ _ => (yg_tup rfl (ygs_cons (yg_name 7 sc_is_finer.nd rfl (by first | exact Or.inl rfl | exact Or.inr rfl)) (ygs_cons (yg_name 8 sc_is_finer.nd rfl (by first | exact Or.inl rfl | exact Or.inr rfl)) ygs_nil)))) (by decide) (fun _ _ _ _ _ => yts_no) (fun _ _ _ _ _ => (y_bi (cr_all rfl) rn_all rfl T.n_all (by decide +kernel) (ya_cons (y_f (yf_lc rfl sc_is_finer.nd (blkOk_by (own := [("at", 5), ("mark", 6)]) (by kernel_rfl)) (yi_enum rfl T.n_enumerate (y_var 8)) (fun _ _ _ _ _ => (yg_tup rfl (ygs_cons (yg_name 5 sc_is_finer.nd rfl (by first | exact Or.inl rfl | exact Or.inr rfl)) (ygs_cons (yg_name 6 sc_is_finer.nd rfl (by first | exact Or.inl rfl | exact Or.inr rfl)) ygs_nil)))) (by decide) (fun _ _ _ _ _ => (yts_one (yt_cmp (o_ne hr) r_ne (nomark _) (y_mod (y_var 5) (y_var 1)) y_int))) (fun _ _ _ _ _ => (y_cmp (o_eq hr) r_eq (nomark _) (y_var 6) (y_gstr rfl T.g_REST))))) ya_nil))))) ya_nil))))))))
theorem w_coarser {P : Program} {w : World} {K : PySem.W.Frag} {mg : Str → Option Value} {base : Heap} {f : Addr} {fd : FuncData} (T : Tx mg) (Fd : FnP K "coarser" st_coarser f fd) (gx : mg "coarser" = some (.ref f)) (h_is_finer : Fn P w K mg base 1 "is_finer" 2 F_is_finer) : Fn P w K mg base 2 "coarser" 1 F_coarser :=
  fn_mk Fd sc_coarser rfl gx (fun _ _ _ _ _ _ us hl => match us, hl with | [_], _ => rfl) (fun cdv A outer s H E hr => ((yb_cons (ys_asg (y_var 0) (yg_tup rfl (ygs_cons (yg_name 1 sc_coarser.nd rfl (by first | exact Or.inl rfl | exact Or.inr rfl)) (ygs_cons (yg_name 2 sc_coarser.nd rfl (by first | exact Or.inl rfl | exact Or.inr rfl)) (ygs_cons (yg_name 3 sc_coarser.nd rfl (by first | exact Or.inl rfl | exact Or.inr rfl)) ygs_nil)))))
    (yb_cons (ys_set 4 sc_coarser.nd rfl (by first | exact Or.inl rfl | exact Or.inr rfl) (y_bi (c_max2 hr rfl) rn_max2 rfl T.n_max (by decide +kernel) (ya_cons (y_f (yf_lc rfl sc_coarser.nd (blkOk_by (own := [("many", 4)]) (N := ["pattern", "steps", "grid", "pads", "many", "pad", "row"]) (sc := defScope st_coarser) (by decide +kernel)) (yi_rg2 rfl T.n_range y_int (y_add (y_var 1) y_int)) (fun _ _ _ _ _ => (yg_name 4 sc_coarser.nd rfl (by first | exact Or.inl rfl | exact Or.inr rfl))) (by decide) (fun _ _ _ _ _ => (yts_one (yt_val (y_call h_is_finer hr (by decide) rfl (ya_cons (y_var 0) (ya_cons (y_var 4) ya_nil)))))) (fun _ _ _ _ _ => (y_var 4)))) ya_nil)))
    (yb_one (ys_ret (y_tup (ya_cons (y_div (y_var 1) (y_var 4)) (ya_cons (y_div (y_var 2) (y_var 4)) (ya_cons (y_ty call_tupF rn_tuple rfl T.n_tuple (by decide +kernel) (ya_cons (y_f (yf_lc rfl sc_coarser.nd (blkOk_by (own := [("pad", 5), ("row", 6)]) (N := ["pattern", "steps", "grid", "pads", "many", "pad", "row"]) (sc := defScope st_coarser) (by decide +kernel)) (yi_seq (y_var 3)) (fun _ _ _ _ _ => (yg_tup rfl (ygs_cons (yg_name 5 sc_coarser.nd rfl (by first | exact Or.inl rfl | exact Or.inr rfl)) (ygs_cons (yg_name 6 sc_coarser.nd rfl (by first | exact Or.inl rfl | exact Or.inr rfl)) ygs_nil)))) (by decide) (fun _ _ _ _ _ => yts_no) (fun _ _ _ _ _ => (y_tup (ya_cons (y_var 5) (ya_cons (y_stepS (y_var 6) (y_var 4)) ya_nil)))))) ya_nil)) ya_nil))))))))))
theorem B_law {P : Program} {w : World} {K : PySem.W.Frag} {mg : Str → Option Value} {base : Heap} {f : Addr} (T : Tx mg) (h_only : Fn P w K mg base 1 "only" 2 F_only) (h_law_pattern : Fn P w K mg base 3 "_law_pattern" 1 F_law_pattern) (h_law_mixed : Fn P w K mg base 2 "_law_mixed" 2 F_law_mixed) (h_together : FnA P w K mg base [] 3 "together" 2 F_together) (h_law_rounds : Fn P w K mg base 4 "_law_rounds" 2 F_law_rounds) (h_loudness : Fn P w K mg base 1 "loudness" 1 F_loudness) (h_coarser : Fn P w K mg base 2 "coarser" 1 F_coarser) (cdv : Value) (A : Around) (outer : List Env) (s : Shared) (H : Hp) (E : XK) (hr : Room 4 (A.deeper (envOfC "law" (defScope st_law) s.heap.objs.size f cdv))) :
    ZB (cxOf (L2.CX P w) P w K mg base ["_law_script", "_law_ones", "_law_others", "_law_both", "_law_here", "_law_there", "_law_due", "_law_k", "_law_pad", "_law_row", "_law_last", "_law_first", "_law_again"] "law" (defScope st_law) f cdv A outer s H E) [] (fun c d _ H => E c d H) (defBody st_law) G_law := by
  have tk : Takes (cxOf (L2.CX P w) P w K mg base ["_law_script", "_law_ones", "_law_others", "_law_both", "_law_here", "_law_there", "_law_due", "_law_k", "_law_pad", "_law_row", "_law_last", "_law_first", "_law_again"] "law" (defScope st_law) f cdv A outer s H E) (fun c d _ H => E c d H) := takes_of rfl rfl rfl rfl
  exact ((zb_cons (zs_set 1 sc_law.nd rfl (by first | exact Or.inl rfl | exact Or.inr rfl) (z_lift (y_call h_only hr (by decide) rfl (ya_cons (y_call h_law_pattern hr (by decide) rfl (ya_cons (y_call h_law_mixed hr (by decide) rfl (ya_cons (y_var 0) (ya_cons y_int ya_nil))) ya_nil)) (ya_cons y_str ya_nil)))))
    (zb_cons (zs_set 2 sc_law.nd rfl (by first | exact Or.inl rfl | exact Or.inr rfl) (z_lift (y_call h_only hr (by decide) rfl (ya_cons (y_call h_law_pattern hr (by decide) rfl (ya_cons (y_call h_law_mixed hr (by decide) rfl (ya_cons (y_var 0) (ya_cons y_int ya_nil))) ya_nil)) (ya_cons y_str ya_nil)))))
    (zb_cons (zs_set 3 sc_law.nd rfl (by first | exact Or.inl rfl | exact Or.inr rfl) (z_callA h_together tk hr (by decide) rfl (za_cons (z_lift (y_var 1)) (za_cons (z_lift (y_var 2)) za_nil))))
    (zb_cons (zs_par 4 5 rfl sc_law.nd rfl rfl (by decide) rfl rfl (za_cons (z_lift (y_call h_law_rounds hr (by decide) rfl (ya_cons (y_var 3) (ya_cons (y_var 1) ya_nil)))) (za_cons (z_lift (y_call h_law_rounds hr (by decide) rfl (ya_cons (y_var 3) (ya_cons (y_var 2) ya_nil)))) za_nil)))
    (zb_cons (zs_if (zt_lift (yt_w (yw_or (yt_cmp (o_ne hr) r_ne (nomark _) (y_ix hr (y_var 4) y_int) y_int) (yw_or (yt_cmp (o_ne hr) r_ne (nomark _) (y_ix hr (y_var 5) y_int) y_int) (yw_or (yt_cmp (o_ne hr) r_ne (nomark _) (y_mod (y_ix hr (y_var 3) y_int) (y_ix hr (y_var 1) y_int)) y_int) (yw_or1 (yt_cmp (o_ne hr) r_ne (nomark _) (y_mod (y_ix hr (y_var 3) y_int) (y_ix hr (y_var 2) y_int)) y_int))))))) (zb_one (zs_ret (z_lift y_bl))) zb_nil)
    (zb_cons (zs_set 6 sc_law.nd rfl (by first | exact Or.inl rfl | exact Or.inr rfl) (z_own (yf_lst ya_nil)))
    (zb_cons (zs_for (passes_of rfl) rfl (zi_lift (yi_rg1 rfl T.n_range y_int)) (zg_name 7 sc_law.nd rfl (by first | exact Or.inl rfl | exact Or.inr rfl)) (zb_one (zs_app (z_var 6) (z_lift (y_add (y_mul (y_ix hr (y_call h_loudness hr (by decide) rfl (ya_cons (y_var 1) ya_nil)) (y_var 7)) (y_ix hr (y_var 4) y_int)) (y_mul (y_ix hr (y_call h_loudness hr (by decide) rfl (ya_cons (y_var 2) ya_nil)) (y_var 7)) (y_ix hr (y_var 5) y_int)))))))
    (zb_cons (zs_fz 3 6 (zs_if (zt_w (zw_or (zt_lift (yt_cmp (o_ne hr) r_ne (nomark _) (y_call h_loudness hr (by decide) rfl (ya_cons (y_var 3) ya_nil)) (y_ty call_tupF rn_tuple rfl T.n_tuple (by decide +kernel) (ya_cons (y_var 6) ya_nil)))) (zw_or1 (zt_cmp (o_ne hr) r_ne (nomark _) (z_callA h_together tk hr (by decide) rfl (za_cons (z_lift (y_var 2)) (za_cons (z_lift (y_var 1)) za_nil))) (z_lift (y_var 3)))))) (zb_one (zs_ret (z_lift y_bl))) zb_nil))
    (zb_cons (zs_if (zt_lift (yt_cmp (o_ne hr) r_ne (nomark _) (y_f (yf_lc rfl sc_law.nd (blkOk_by (own := [("_law_pad", 8), ("_law_row", 9)]) (N := ["_law_script", "_law_ones", "_law_others", "_law_both", "_law_here", "_law_there", "_law_due", "_law_k", "_law_pad", "_law_row", "_law_last", "_law_first", "_law_again"]) (sc := defScope st_law) (by decide +kernel)) (yi_seq (y_ix hr (y_var 3) y_int)) (fun _ _ _ _ _ => (yg_tup rfl (ygs_cons (yg_name 8 sc_law.nd rfl (by first | exact Or.inl rfl | exact Or.inr rfl)) (ygs_cons (yg_name 9 sc_law.nd rfl (by first | exact Or.inl rfl | exact Or.inr rfl)) ygs_nil)))) (by decide) (fun _ _ _ _ _ => yts_no) (fun _ _ _ _ _ => (y_var 8)))) (y_f (yf_lc rfl sc_law.nd (blkOk_by (own := [("_law_pad", 8), ("_law_row", 9)]) (N := ["_law_script", "_law_ones", "_law_others", "_law_both", "_law_here", "_law_there", "_law_due", "_law_k", "_law_pad", "_law_row", "_law_last", "_law_first", "_law_again"]) (sc := defScope st_law) (by decide +kernel)) (yi_seq (y_add (y_ix hr (y_var 1) y_int) (y_ix hr (y_var 2) y_int))) (fun _ _ _ _ _ => (yg_tup rfl (ygs_cons (yg_name 8 sc_law.nd rfl (by first | exact Or.inl rfl | exact Or.inr rfl)) (ygs_cons (yg_name 9 sc_law.nd rfl (by first | exact Or.inl rfl | exact Or.inr rfl)) ygs_nil)))) (by decide) (fun _ _ _ _ _ => yts_no) (fun _ _ _ _ _ => (y_var 8)))))) (zb_one (zs_ret (z_lift y_bl))) zb_nil)
    (zb_cons (zs_if (zt_lift (yt_cmp o_gt r_gt (nomark _) (y_ix hr (y_var 3) y_int) y_int)) (zb_one (zs_ret (z_lift y_bl))) zb_nil)
    (zb_cons (zs_set 10 sc_law.nd rfl (by first | exact Or.inl rfl | exact Or.inr rfl) (z_lift (y_call h_law_pattern hr (by decide) rfl (ya_cons (y_call h_law_mixed hr (by decide) rfl (ya_cons (y_var 0) (ya_cons y_int ya_nil))) ya_nil))))
    (zb_cons (zs_set 11 sc_law.nd rfl (by first | exact Or.inl rfl | exact Or.inr rfl) (z_callA h_together tk hr (by decide) rfl (za_cons (z_lift (y_var 3)) (za_cons (z_lift (y_tup (ya_cons (y_ix hr (y_var 10) y_int) (ya_cons (y_ix hr (y_var 10) y_int) (ya_cons (y_sl (y_ix hr (y_var 10) y_int) yo_no (yo_some y_int)) ya_nil))))) za_nil))))
    (zb_cons (zs_set 12 sc_law.nd rfl (by first | exact Or.inl rfl | exact Or.inr rfl) (z_callA h_together tk hr (by decide) rfl (za_cons (z_lift (y_var 1)) (za_cons (z_callA h_together tk hr (by decide) rfl (za_cons (z_lift (y_var 2)) (za_cons (z_lift (y_tup (ya_cons (y_ix hr (y_var 10) y_int) (ya_cons (y_ix hr (y_var 10) y_int) (ya_cons (y_sl (y_ix hr (y_var 10) y_int) yo_no (yo_some y_int)) ya_nil))))) za_nil))) za_nil))))
    (zb_one (zs_ret (z_lift (y_cmp (o_eq hr) r_eq (nomark _) (y_call h_coarser hr (by decide) rfl (ya_cons (y_var 11) ya_nil)) (y_call h_coarser hr (by decide) rfl (ya_cons (y_var 12) ya_nil))))))))))))))))))))
def d_only : He.DefD := ⟨("only", none), "only", "only", defArgs st_only, defBody st_only, defScope st_only, [], []⟩
def d_law_drawn : He.DefD := ⟨("_law_drawn", none), "_law_drawn", "_law_drawn", defArgs st_law_drawn, defBody st_law_drawn, defScope st_law_drawn, [], []⟩
def d_law_marks : He.DefD := ⟨("_law_marks", none), "_law_marks", "_law_marks", defArgs st_law_marks, defBody st_law_marks, defScope st_law_marks, [], []⟩
def d_law_pattern : He.DefD := ⟨("_law_pattern", none), "_law_pattern", "_law_pattern", defArgs st_law_pattern, defBody st_law_pattern, defScope st_law_pattern, [], []⟩
def d_law_cell_at : He.DefD := ⟨("_law_cell_at", none), "_law_cell_at", "_law_cell_at", defArgs st_law_cell_at, defBody st_law_cell_at, defScope st_law_cell_at, [], []⟩
def d_law_mixed : He.DefD := ⟨("_law_mixed", none), "_law_mixed", "_law_mixed", defArgs st_law_mixed, defBody st_law_mixed, defScope st_law_mixed, [], []⟩
def d_divisor : He.DefD := ⟨("divisor", none), "divisor", "divisor", defArgs st_divisor, defBody st_divisor, defScope st_divisor, [], []⟩
def d_shared_multiple : He.DefD := ⟨("shared_multiple", none), "shared_multiple", "shared_multiple", defArgs st_shared_multiple, defBody st_shared_multiple, defScope st_shared_multiple, [], []⟩
def d_finer : He.DefD := ⟨("finer", none), "finer", "finer", defArgs st_finer, defBody st_finer, defScope st_finer, [], []⟩
def d_fitted : He.DefD := ⟨("fitted", none), "fitted", "fitted", defArgs st_fitted, defBody st_fitted, defScope st_fitted, [], []⟩
def d_laid : He.DefD := ⟨("laid", none), "laid", "laid", defArgs st_laid, defBody st_laid, defScope st_laid, [], []⟩
def d_together : He.DefD := ⟨("together", none), "together", "together", defArgs st_together, defBody st_together, defScope st_together, [], []⟩
def d_fraction : He.DefD := ⟨("fraction", none), "fraction", "fraction", defArgs st_fraction, defBody st_fraction, defScope st_fraction, [], []⟩
def d_beats : He.DefD := ⟨("beats", none), "beats", "beats", defArgs st_beats, defBody st_beats, defScope st_beats, [], []⟩
def d_law_frac : He.DefD := ⟨("_law_frac", none), "_law_frac", "_law_frac", defArgs st_law_frac, defBody st_law_frac, defScope st_law_frac, [], []⟩
def d_law_rounds : He.DefD := ⟨("_law_rounds", none), "_law_rounds", "_law_rounds", defArgs st_law_rounds, defBody st_law_rounds, defScope st_law_rounds, [], []⟩
def d_loudness : He.DefD := ⟨("loudness", none), "loudness", "loudness", defArgs st_loudness, defBody st_loudness, defScope st_loudness, [], []⟩
def d_is_finer : He.DefD := ⟨("is_finer", none), "is_finer", "is_finer", defArgs st_is_finer, defBody st_is_finer, defScope st_is_finer, [], []⟩
def d_coarser : He.DefD := ⟨("coarser", none), "coarser", "coarser", defArgs st_coarser, defBody st_coarser, defScope st_coarser, [], []⟩
def d_law : He.DefD := ⟨("law", none), "law", "law", defArgs st_law, defBody st_law, defScope st_law, [], []⟩
def fnL : List He.DefD := [d_only, d_law_drawn, d_law_marks, d_law_pattern, d_law_cell_at, d_law_mixed, d_divisor, d_shared_multiple, d_finer, d_fitted, d_laid, d_together, d_fraction, d_beats, d_law_frac, d_law_rounds, d_loudness, d_is_finer, d_coarser, d_law]
def faL : List He.Fa := [.glo "only", .glo "_law_drawn", .glo "_law_marks", .glo "_law_pattern", .glo "_law_cell_at", .glo "_law_mixed", .glo "divisor", .glo "shared_multiple", .glo "finer", .glo "fitted", .glo "laid", .glo "together", .glo "fraction", .glo "beats", .glo "_law_frac", .glo "_law_rounds", .glo "loudness", .glo "is_finer", .glo "coarser", .glo "law", .free "abs", .free "all", .free "dict", .free "enumerate", .free "len", .free "max", .free "range", .free "sorted", .free "tuple", .free "zip", .str "MARKS" ".xX", .str "PLAIN" "x", .str "REST" "."]
abbrev R : PySem.W.OpenRow := PySem.W.OpenLaw.row PySem.Challenge.rw_padrows_k24_whole_together_by_rounds
abbrev hk : PySem.W.Hook := He.hookD 4 faL fnL
def ob (s : PySem.W.SharedT) : He.AlD := He.obsDG 4 faL fnL (HandSHeadRun.getT s)
theorem ob_eq (s : PySem.W.SharedT) : ob s = hk.obs s.abs := He.obsDG_eq (HandSHeadRun.getT_eq s)
abbrev looseL : List Str := ["divisor", "fraction", "MARKS", "beats", "REST", "PLAIN", "laid", "finer", "is_finer", "coarser", "shared_multiple", "fitted", "together", "only", "loudness", "_law_cell_at", "_law_mixed", "_law_drawn", "_law_frac", "_law_marks", "_law_pattern", "_law_rounds"]
theorem run (w : World) : HandSHeadRun.RunEq R (PySem.W.view R.prog [27]) hk ob 4000 looseL w := by
  intro os
  kernel_rfl
theorem facts {P : Program} {w : World} {K : PySem.W.Frag} {h : Heap} {mg : Str → Option Value} {f : Addr} (X : K.In h) (G : h.Ns mainGlobals mg) (hfa : mg ("law" : Str) = some (.ref f)) (c : He.SaysD faL fnL K) :
    ∃ fd : FuncData, (∀ (s : Shared) (v : Value), BindsTo s fd ⟨[v], []⟩ [("_law_script", v)]) ∧ ∀ base : Heap, K.In base → base.Ns mainGlobals mg → FnOk P w K mg base (CXw P) 5 f fd ["_law_script"] (spA K mg [] 1 F_law) := by
  obtain ⟨fd_only, Fd_only⟩ := c.def_ 0 (d := d_only) rfl
  have g_only := He.glo_ok X G (c.fact 0 (f := .glo "only") rfl)
  obtain ⟨fd_law_drawn, Fd_law_drawn⟩ := c.def_ 1 (d := d_law_drawn) rfl
  have g_law_drawn := He.glo_ok X G (c.fact 1 (f := .glo "_law_drawn") rfl)
  obtain ⟨fd_law_marks, Fd_law_marks⟩ := c.def_ 2 (d := d_law_marks) rfl
  have g_law_marks := He.glo_ok X G (c.fact 2 (f := .glo "_law_marks") rfl)
  obtain ⟨fd_law_pattern, Fd_law_pattern⟩ := c.def_ 3 (d := d_law_pattern) rfl
  have g_law_pattern := He.glo_ok X G (c.fact 3 (f := .glo "_law_pattern") rfl)
  obtain ⟨fd_law_cell_at, Fd_law_cell_at⟩ := c.def_ 4 (d := d_law_cell_at) rfl
  have g_law_cell_at := He.glo_ok X G (c.fact 4 (f := .glo "_law_cell_at") rfl)
  obtain ⟨fd_law_mixed, Fd_law_mixed⟩ := c.def_ 5 (d := d_law_mixed) rfl
  have g_law_mixed := He.glo_ok X G (c.fact 5 (f := .glo "_law_mixed") rfl)
  obtain ⟨fd_divisor, Fd_divisor⟩ := c.def_ 6 (d := d_divisor) rfl
  have g_divisor := He.glo_ok X G (c.fact 6 (f := .glo "divisor") rfl)
  obtain ⟨fd_shared_multiple, Fd_shared_multiple⟩ := c.def_ 7 (d := d_shared_multiple) rfl
  have g_shared_multiple := He.glo_ok X G (c.fact 7 (f := .glo "shared_multiple") rfl)
  obtain ⟨fd_finer, Fd_finer⟩ := c.def_ 8 (d := d_finer) rfl
  have g_finer := He.glo_ok X G (c.fact 8 (f := .glo "finer") rfl)
  obtain ⟨fd_fitted, Fd_fitted⟩ := c.def_ 9 (d := d_fitted) rfl
  have g_fitted := He.glo_ok X G (c.fact 9 (f := .glo "fitted") rfl)
  obtain ⟨fd_laid, Fd_laid⟩ := c.def_ 10 (d := d_laid) rfl
  have g_laid := He.glo_ok X G (c.fact 10 (f := .glo "laid") rfl)
  obtain ⟨fd_together, Fd_together⟩ := c.def_ 11 (d := d_together) rfl
  have g_together := He.glo_ok X G (c.fact 11 (f := .glo "together") rfl)
  obtain ⟨fd_fraction, Fd_fraction⟩ := c.def_ 12 (d := d_fraction) rfl
  have g_fraction := He.glo_ok X G (c.fact 12 (f := .glo "fraction") rfl)
  obtain ⟨fd_beats, Fd_beats⟩ := c.def_ 13 (d := d_beats) rfl
  have g_beats := He.glo_ok X G (c.fact 13 (f := .glo "beats") rfl)
  obtain ⟨fd_law_frac, Fd_law_frac⟩ := c.def_ 14 (d := d_law_frac) rfl
  have g_law_frac := He.glo_ok X G (c.fact 14 (f := .glo "_law_frac") rfl)
  obtain ⟨fd_law_rounds, Fd_law_rounds⟩ := c.def_ 15 (d := d_law_rounds) rfl
  have g_law_rounds := He.glo_ok X G (c.fact 15 (f := .glo "_law_rounds") rfl)
  obtain ⟨fd_loudness, Fd_loudness⟩ := c.def_ 16 (d := d_loudness) rfl
  have g_loudness := He.glo_ok X G (c.fact 16 (f := .glo "loudness") rfl)
  obtain ⟨fd_is_finer, Fd_is_finer⟩ := c.def_ 17 (d := d_is_finer) rfl
  have g_is_finer := He.glo_ok X G (c.fact 17 (f := .glo "is_finer") rfl)
  obtain ⟨fd_coarser, Fd_coarser⟩ := c.def_ 18 (d := d_coarser) rfl
  have g_coarser := He.glo_ok X G (c.fact 18 (f := .glo "coarser") rfl)
  obtain ⟨fd_law, Fd_law⟩ := c.def_ 19 (d := d_law) rfl
  have e := hfa.symm.trans (He.glo_ok X G (c.fact 19 (f := .glo "law") rfl))
  cases e
  have T : Tx mg := ⟨He.free_ok X G (c.fact 20 (f := .free "abs") rfl),
    He.free_ok X G (c.fact 21 (f := .free "all") rfl),
    He.free_ok X G (c.fact 22 (f := .free "dict") rfl),
    He.free_ok X G (c.fact 23 (f := .free "enumerate") rfl),
    He.free_ok X G (c.fact 24 (f := .free "len") rfl),
    He.free_ok X G (c.fact 25 (f := .free "max") rfl),
    He.free_ok X G (c.fact 26 (f := .free "range") rfl),
    He.free_ok X G (c.fact 27 (f := .free "sorted") rfl),
    He.free_ok X G (c.fact 28 (f := .free "tuple") rfl),
    He.free_ok X G (c.fact 29 (f := .free "zip") rfl),
    He.str_ok X G (c.fact 30 (f := .str "MARKS" ".xX") rfl),
    He.str_ok X G (c.fact 31 (f := .str "PLAIN" "x") rfl),
    He.str_ok X G (c.fact 32 (f := .str "REST" ".") rfl)⟩
  have b := FunD.bindsA (ps := ["_law_script"]) Fd_law fun _ _ _ _ _ _ us hl => match us, hl with | [_], _ => rfl
  refine ⟨fd_law, fun s v => b s [v] rfl, fun base _ _ => ?_⟩
  have h_only := w_only (P := P) (w := w) (base := base) T Fd_only g_only
  have h_law_drawn := w_law_drawn (P := P) (w := w) (base := base) T Fd_law_drawn g_law_drawn
  have h_law_marks := w_law_marks (P := P) (w := w) (base := base) T Fd_law_marks g_law_marks h_law_drawn
  have h_law_pattern := w_law_pattern (P := P) (w := w) (base := base) T Fd_law_pattern g_law_pattern h_law_drawn h_law_marks
  have h_law_cell_at := w_law_cell_at (P := P) (w := w) (base := base) T Fd_law_cell_at g_law_cell_at
  have h_law_mixed := w_law_mixed (P := P) (w := w) (base := base) T Fd_law_mixed g_law_mixed h_law_cell_at
  have h_divisor := w_divisor (P := P) (w := w) (base := base) T Fd_divisor g_divisor
  have h_shared_multiple := w_shared_multiple (P := P) (w := w) (base := base) T Fd_shared_multiple g_shared_multiple h_divisor
  have h_finer := w_finer (P := P) (w := w) (base := base) T Fd_finer g_finer
  have h_fitted := w_fitted (P := P) (w := w) (base := base) T Fd_fitted g_fitted h_finer
  have h_laid := w_laid (P := P) (w := w) (base := base) T Fd_laid g_laid
  have h_together := w_together (P := P) (w := w) (base := base) T Fd_together g_together h_shared_multiple h_fitted h_laid
  have h_fraction := w_fraction (P := P) (w := w) (base := base) T Fd_fraction g_fraction h_divisor
  have h_beats := w_beats (P := P) (w := w) (base := base) T Fd_beats g_beats h_fraction
  have h_law_frac := w_law_frac (P := P) (w := w) (base := base) T Fd_law_frac g_law_frac
  have h_law_rounds := w_law_rounds (P := P) (w := w) (base := base) T Fd_law_rounds g_law_rounds h_beats h_law_frac
  have h_loudness := w_loudness (P := P) (w := w) (base := base) T Fd_loudness g_loudness
  have h_is_finer := w_is_finer (P := P) (w := w) (base := base) T Fd_is_finer g_is_finer
  have h_coarser := w_coarser (P := P) (w := w) (base := base) T Fd_coarser g_coarser h_is_finer
  exact fnOk_w <| fnA_ok Fd_law sc_law rfl (fun cdv A outer s H E hr => (B_law T h_only h_law_pattern h_law_mixed h_together h_law_rounds h_loudness h_coarser cdv A outer s H E hr))
end W_k24
open PySem PySem.W PySem.Calls PyProof.Rows
theorem PySem.Challenge.cw_padrows_k24_whole_together_by_rounds_holds : PySem.Challenge.rw_padrows_k24_whole_together_by_rounds.Holds := by
  w_on; o_law
  refine HandSHeadRun.head_any (r := OpenLaw.row PySem.Challenge.rw_padrows_k24_whole_together_by_rounds) (q := view (OpenLaw.row PySem.Challenge.rw_padrows_k24_whole_together_by_rounds).prog [27]) (H := W_k24.hk) (ob := W_k24.ob) (M := 4000) (loose := W_k24.looseL) (d := HandSHeadRun.topDef (OpenLaw.row PySem.Challenge.rw_padrows_k24_whole_together_by_rounds).prog 27) (kwd := []) W_k24.ob_eq
    (by kernel_rfl) (fun s => by kernel_rfl) W_k24.run (by kernel_rfl) (by kernel_rfl) (by kernel_rfl) (by rfl) (by first | assumption | decide +kernel) (by decide +kernel) ⟨rfl, rfl, rfl, rfl, rfl, by decide +kernel⟩ ?hw ?hc
  case hw => w_witness2
  case hc =>
    refine L2.walk_ofE (l := PySem.Challenge.rw_padrows_k24_whole_together_by_rounds) (n := 63) (k := 5) (x := "_law_script") (CX := PV.CXw PySem.Challenge.rw_padrows_k24_whole_together_by_rounds.prog) rfl (by decide) (by kernel_rfl) ⟨rfl, by decide, by decide⟩ ?F (PV.cxw_end)
    intro w mg fa h Y G hmg0
    obtain ⟨K, KX, c⟩ := Y
    have hmg : mg ("law" : PySem.Str) = some (.ref fa) := by
      have e : (HandSHeadRun.topDef (OpenLaw.row PySem.Challenge.rw_padrows_k24_whole_together_by_rounds).prog 27).name = ("law" : PySem.Str) := by kernel_rfl
      rw [← e]
      exact hmg0
    obtain ⟨fd, hb, hF⟩ := W_k24.facts (P := (PySem.Challenge.rw_padrows_k24_whole_together_by_rounds).prog) (w := w) KX G hmg c
    exact ⟨K, fd, PV.spA K mg [] 1 W_k24.F_law, KX, hb, fun H a ns hl _ hS => PV.law_endA hS (W_k24.law_true ns hl), hF⟩
