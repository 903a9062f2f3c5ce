import PyProof.Rows.All
import Wide.All
import OpenK.AllK
import Wide.FinOn
import HandS.ForMost
import HandS.ForExc
import HandS.Flow
import HandS.Zip
import HandS.Walk
import HandS.IsInst
import HandS.Conv
import HandS.CallSlots
import HandS.Defaults
import HandS.TupAny
import KE.KDictPairs
import HandS.Style
import HandS.Deep
import KE.SortData
import HandS.DictTup
import HandS.More
import PySem.Challenge.RW_cornerplans_k04_whole_joins_and_limits
set_option Elab.async false
set_option linter.all false
set_option maxRecDepth 100000
set_option autoImplicit false
set_option maxHeartbeats 4000000
/-! CPTup: tuples of which it is known that they bear no dict of their own: made, cut, added; dict(such a tuple of pairs). -/
namespace CP
open PySem PySem.Spec L2
open PyProof.Rows hiding St

/-- a plain tuple -/
def PlT (K : PySem.W.Frag) (H : Hp) (a : Addr) (xs : List V) : Prop := (∃ o, H a = some (.frz o (.tup xs)) ∧ o.dict = none) ∨
  ∃ (o : Obj) (its : Array Value) (n : Nat), K.lookup a = some o ∧ o.cls = .type "tuple" ∧ o.dict = none ∧ o.data = .seq its n ∧ its.size ≤ sizeLine ∧ Vals xs its.toList
theorem PlT.sq {K : PySem.W.Frag} {H : Hp} {a : Addr} {xs : List V} (h : PlT K H a xs) : SqT K H a xs := by
  rcases h with ⟨o, h, _⟩ | ⟨o, its, n, h1, h2, _, h3, h4, h5⟩
  · exact .inl (.inr ⟨o, h⟩)
  · exact .inr ⟨o, its, n, h1, h2, h3, h4, h5⟩
theorem PlT.mono {K : PySem.W.Frag} {H H' : Hp} {a : Addr} {xs : List V} (e : Same H H') (h : PlT K H a xs) : PlT K H' a xs := by
  rcases h with ⟨o, h, d⟩ | h
  · exact .inl ⟨o, e _ _ h, d⟩
  · exact .inr h
theorem PlT.upd {K : PySem.W.Frag} {H : Hp} {p : Addr} {o : Obj} {xs : List V} (h : o.dict = none) : PlT K (L2.upd H p (.frz o (.tup xs))) p xs := .inl ⟨o, upd_same, h⟩
/-- a new plain tuple -/
def newT (H : Hp) (xs : List V) (Q : VK) : Prop := ∀ p o, H p = none → o.dict = none → Q (.ref p) (L2.upd H p (.frz o (.tup xs)))
section
variable {X : Cx} {pins : List (Addr × Obj)} {σ : St} {H : Hp} {s : Shared}
theorem ep_new {Q : VK} {xs : List V} {us : List Value} {t' : Nat} (I : Inv X pins σ H s) (z : xs.length ≤ sizeLine) (r : Vals xs us) (q : newT H xs Q) :
    EP X pins σ Q (.ref s.heap.objs.size) { s with heap := s.heap.push { cls := .type "tuple", data := .seq us.toArray }, toks := t' } := by
  refine ⟨.ref s.heap.objs.size, L2.upd H s.heap.objs.size (.frz { cls := .type "tuple", data := .seq us.toArray } (.tup xs)), I.laid (t' := t') (fun b u e => Heap.get?_push_of_some _ e) (Nat.le_refl _) ?_, rfl, q _ _ (I.hok.fresh (Nat.le_refl _)) rfl⟩
  exact ⟨Heap.get?_push_size _ rfl, z, us, r, ⟨_, Heap.get?_push_size _ rfl, rfl, _, rfl⟩⟩
def tTupF (t : TA) : TE := fun σ H Q => t σ H fun xs H1 => xs.length ≤ sizeLine ∧ newT H1 xs Q
theorem pe_tupF {es : List Expr} {t : TA} {pos : Pos} {x1 : Nat} (h : PA X es t) : PE X (.Tuple es x1 pos) (tTupF t) := by
  refine ⟨fun pins s σ H Q I hq => ?_⟩
  refine wpAny_Tuple_spliced (thn (h.run pos pins s σ H _ I hq) fun us s1 ⟨xs, H1, I1, r, z, q⟩ => ⟨by rw [← r.length]; exact z, ?_⟩)
  exact ep_new (t' := s1.toks) I1 z r q
def rTupF (K : PySem.W.Frag) : List V → Hp → VK → Prop := fun xs H Q => ∃ p ys, xs = [.ref p] ∧ ((SqL K H p ys ∧ newT H ys Q) ∨ (SqT K H p ys ∧ Q (.ref p) H))
theorem call_tupleF : CallR X (.type "tuple") (rTupF X.K) := by
  intro pins s σ H xs us Q I r h
  obtain ⟨p, ys, rfl, h⟩ := h
  obtain ⟨u, rfl, rx⟩ := vals1 r
  cases rx
  rcases h with ⟨hq, q⟩ | ⟨hq, q⟩
  · obtain ⟨its, r', pl, hz⟩ := I.list hq
    have hlen := r'.length
    refine call_tuple_list pl.isList (fun h' kp => ?_) (by simp only [List.size_toArray] <;> omega)
    have I1 : Inv X pins σ H { s with heap := h' } := I.kept (t' := s.toks) kp
    exact ep_new (t' := s.toks) I1 hz r' q
  · obtain ⟨its, r', pl, hz⟩ := I.tuple hq
    exact call_tuple_same pl ⟨.ref p, H, I, rfl, q⟩
def rCatF (K : PySem.W.Frag) : R2 := fun x y H Q => ∃ a b xs ys, x = .ref a ∧ y = .ref b ∧ SqT K H a xs ∧ SqT K H b ys ∧ xs.length + ys.length ≤ sizeLine ∧
  (xs = [] → Q (.ref b) H) ∧ (xs ≠ [] → ys = [] → Q (.ref a) H) ∧ (xs ≠ [] → ys ≠ [] → newT H (xs ++ ys) Q)
theorem op_catF : OpR X (binaryOp .Add) (rCatF X.K) := by
  intro pins s σ H x y v u Q I rx ry h
  obtain ⟨a, b, xs, ys, rfl, rfl, ha, hb, hz, q0, q1, q2⟩ := h
  cases rx
  cases ry
  obtain ⟨its, r1, p1, _⟩ := I.tuple ha
  obtain ⟨its2, r2, p2, _⟩ := I.tuple hb
  by_cases hx : xs = []
  · subst hx
    cases r1
    exact cat_tup0 p1 p2 ⟨.ref b, H, I, rfl, q0 rfl⟩
  · refine HT.cat_tup p1 p2 (fun z => hx (r1.nil_iff.mp z)) (fun z => ⟨.ref a, H, I, rfl, q1 hx (r2.nil_iff.mp z)⟩) (fun z => ?_) (by rw [← r1.length, ← r2.length]; exact hz)
    have e := ep_new (t' := s.toks) I (by rw [List.length_append]; exact hz) (r1.append r2) (q2 hx (fun w => z (r2.nil_iff.mpr w)))
    simpa using e
def rSlF (K : PySem.W.Frag) : V → Option Int → Option Int → Hp → VK → Prop := fun x lo hi H Q => ∃ a xs, x = .ref a ∧ SqT K H a xs ∧
  (HT.sIx xs.length 0 lo = 0 ∧ HT.sIx xs.length xs.length hi = xs.length → Q (.ref a) H) ∧ (¬ (HT.sIx xs.length 0 lo = 0 ∧ HT.sIx xs.length xs.length hi = xs.length) → newT H (cutV xs lo hi) Q)
theorem sl_tupF : L2.SlR X (rSlF X.K) := by
  intro pins s σ H x v vl vu lo hi sl Q I rx hs pl pu h
  obtain ⟨a, xs, rfl, hx, q1, q2⟩ := h
  cases rx
  obtain ⟨its, r, ht, hz⟩ := I.tuple hx
  have hlen : its.toArray.size = xs.length := by rw [List.size_toArray]; exact r.length.symm
  refine ⟨"tuple", _, PyProof.Rows.slot_tuple_getitem.lookup, ht.typeIs, ?_⟩
  by_cases hw : HT.sIx xs.length 0 lo = 0 ∧ HT.sIx xs.length xs.length hi = xs.length
  · exact getItem_tuple_whole ht hs pl pu (by rw [hlen]; exact hw) ⟨.ref a, H, I, rfl, q1 hw⟩
  · refine HT.getItem_tuple_cut ht hs pl pu (by rw [hlen]; exact hw) ?_ (by rw [hlen]; exact hz)
    rw [hlen]
    exact ep_new (t' := s.toks) I (Nat.le_trans (cutV_length xs lo hi) hz) ((r.drop (HT.sIx xs.length 0 lo)).take (HT.sIx xs.length xs.length hi - HT.sIx xs.length 0 lo)) (q2 hw)

/-! ### dict(t), t a plain tuple of pairs -/
open Classical in
theorem keys_of {ps : List Addr} {prs : List (Key × Value)} (h : ∀ (j : Nat) (q : Key × Value), prs[j]? = some q → ∃ (b : Addr) (u : Value), ps[j]? = some b ∧ IsTup s.heap b #[u, q.2] ∧ keyIs q.1 u = true) :
    ∃ ku : Nat → Value, ∀ (j : Nat) (q : Key × Value), prs[j]? = some q → ∃ b : Addr, ps[j]? = some b ∧ IsTup s.heap b #[ku j, q.2] ∧ keyIs q.1 (ku j) = true := by
  refine ⟨fun j => if hj : ∃ q, prs[j]? = some q then (h j _ (Classical.choose_spec hj)).choose_spec.choose else .none, fun j q e => ?_⟩
  have hj : ∃ q, prs[j]? = some q := ⟨q, e⟩
  have eq : Classical.choose hj = q := Option.some.inj ((Classical.choose_spec hj).symm.trans e)
  obtain ⟨h1, h2, h3⟩ := (h j _ (Classical.choose_spec hj)).choose_spec.choose_spec
  refine ⟨_, h1, ?_, ?_⟩
  · simp only [dif_pos hj]
    rw [← eq]
    exact h2
  · simp only [dif_pos hj]
    rw [← eq]
    exact h3
def rDictT (K : PySem.W.Frag) : List V → Hp → VK → Prop := fun xs H Q => ∃ (a : Addr) (ps : List Addr) (kvs : List (Key × V)), xs = [.ref a] ∧ PlT K H a (ps.map V.ref) ∧ Paired (fun p kv => SqT K H p [kV kv.1, kv.2]) ps kvs ∧
  ∀ p, H p = none → Q (.ref p) (L2.upd H p (.dK (mergeK [] kvs)))
theorem PlT.at {a : Addr} {xs : List V} (I : Inv X pins σ H s) (h : PlT X.K H a xs) : ∃ its : List Value, Vals xs its ∧ PySem.PlainSeq "tuple" s.heap a its.toArray ∧ xs.length ≤ sizeLine := by
  rcases h with ⟨o, h, hd⟩ | ⟨o, its, n, hk, hc, hd, hs, hz, r⟩
  · obtain ⟨e, z, its, r, o', e', c', n, d'⟩ := (show ObjOk X.prog X.w H s.heap a (.frz o (.tup xs)) from I.hok a _ h)
    rw [e] at e'
    cases e'
    exact ⟨its, r, ⟨o, n, e, c', hd, d'⟩, z⟩
  · refine ⟨its.toList, r, ⟨o, n, I.kIn a o hk, hc, hd, by simpa using hs⟩, ?_⟩
    have e := r.length
    simp only [Array.length_toList] at e
    omega
theorem call_dictT (hcalm : X.calm = true) : CallR X (.type "dict") (rDictT X.K) := by
  intro pins s σ H xs us Q I r q
  obtain ⟨a, ps, kvs, ex, hq, hp, q⟩ := q
  subst ex
  obtain ⟨u, eu, rx⟩ := vals1 r
  subst eu
  cases rx
  obtain ⟨its, rv, pl, hz⟩ := hq.at I
  have ei := refs_at rv
  subst ei
  rw [List.length_map] at hz
  obtain ⟨prs, rel, hl, hpr⟩ := pairs_of I hp
  obtain ⟨ku, hku⟩ := keys_of hpr
  have lm : (prs.mapIdx fun j q => (ku j, q.2)).length = prs.length := List.length_mapIdx
  have gm : ∀ (j : Nat) (k v : Value), (prs.mapIdx fun j q => (ku j, q.2))[j]? = some (k, v) → ∃ q, prs[j]? = some q ∧ k = ku j ∧ v = q.2 := fun j k v e => by
    rw [List.getElem?_mapIdx] at e
    cases h : prs[j]? with
    | none => rw [h] at e; cases e
    | some q => rw [h] at e; cases e; exact ⟨q, rfl, rfl, rfl⟩
  have PA' := PySem.PairArg.tuple (prog := X.prog) (w := X.w) a (ps.map Value.ref).toArray (fun j => ps.getD j 0) (prs.mapIdx fun j q => (ku j, q.2))
  refine PySem.call_dict_pairs (knd := mixKind X.prog X.w) (kvs := prs) PA' (I.ok.hd hcalm) ⟨pl, ?_, fun j k v e => ?_⟩ ⟨lm.symm, fun i key v e => ?_⟩ (by rw [lm, hl]; exact hz) fun h' tk hd' k => ?_
  · rw [List.size_toArray, List.length_map, lm, hl]
  · obtain ⟨q, hq, rfl, rfl⟩ := gm j k v e
    obtain ⟨b, h1, h2, _⟩ := hku j q hq
    have hg : ps.getD j 0 = b := by rw [List.getD_eq_getElem?_getD, h1]; rfl
    refine ⟨?_, .inl (show s.heap.IsTuple (ps.getD j 0) #[ku j, q.2] from by rw [hg]; exact h2)⟩
    show (ps.map Value.ref).toArray[j]? = some (.ref (ps.getD j 0))
    rw [hg]
    simp [h1]
  · obtain ⟨q, hq, rfl, rfl⟩ := gm i key v e
    obtain ⟨b, _, _, h3⟩ := hku i q hq
    exact ⟨q.1, hq, h3⟩
  · have hm : (s.heap.objs.size == sysModules) = false := beq_eq_false_iff_ne.mpr (Nat.ne_of_gt I.big)
    have hlen : (mergeK [] kvs).length ≤ sizeLine := by
      refine Nat.le_trans (length_mergeK kvs []) ?_
      rw [List.length_nil, Nat.zero_add, rel.length, hl]
      exact hz
    exact ⟨.ref s.heap.objs.size, L2.upd H s.heap.objs.size (.dK (mergeK [] kvs)), I.laid (t' := tk) (fun b o e => k b o (by simp) e) (Nat.le_refl _) (show ObjOk X.prog X.w _ _ _ (.dK (mergeK [] kvs)) from ⟨hlen, hm, merged [] prs, KV.merge rel .nil, hd'⟩), rfl, q _ (I.hok.fresh (Nat.le_refl _))⟩
end
end CP

/-! CPBase: data as plain trees (D), how a value of the layer bears one (R), the worlds (Ext, WS), readings by total functions (tG, tT, tA, tS). -/
namespace CP
open PySem PySem.Spec L2
open PyProof.Rows hiding St

/-- plain data -/
inductive D where
  | non | bl (b : Bool) | int (i : Int) | str (x : Str)
  | lst (xs : List D) | tup (xs : List D)
  | dic (kvs : List (Key × D))
  | obj (c : Nat) (fs : List (Str × D))
  | scr (ns : List Int)
  | st

/-- what is fixed through a law's run: the written part, the addresses of the source of draws, the classes -/
structure Gam where
  K : PySem.W.Frag
  sa : Addr
  la : Addr
  ca : Addr
  ct : Nat → Addr

/-- the source of draws -/
structure G where
  large : List Int
  cells : List Int
  rest : Int
  turn : Int

/-- a text of Python's own signs, not too long -/
def sOk (x : Str) : Bool := PySem.PyData.strOk x && decide (x.cps.size ≤ 1000000)
/-- a key of a dict -/
def kOk : Key → Bool
  | .inl _ => true
  | .inr x => sOk x
mutual
inductive R (c : Gam) (P : Hp) : V → D → Prop
  | non : R c P .non .non
  | bl (b : Bool) : R c P (.bl b) (.bl b)
  | int (i : Int) : R c P (.int i) (.int i)
  | str {x : Str} : sOk x = true → R c P (.str x) (.str x)
  | lst {a : Addr} {vs : List V} {ds : List D} : P a = some (.lst vs) → RAll c P vs ds → R c P (.ref a) (.lst ds)
  | tup {a : Addr} {vs : List V} {ds : List D} : PlT c.K P a vs → RAll c P vs ds → R c P (.ref a) (.tup ds)
  | dic {a : Addr} {kvs : List (Key × V)} {es : List (Key × D)} : P a = some (.dK kvs) → RKvs c P kvs es → R c P (.ref a) (.dic es)
  | obj {a dx : Addr} {k : Nat} {fs : List (Str × V)} {es : List (Str × D)} : P a = some (.ins (c.ct k) dx fs) → RFs c P fs es → R c P (.ref a) (.obj k es)
  | scr {a : Addr} {ns : List Int} : SqL c.K P a (ns.map V.int) → R c P (.ref a) (.scr ns)
  | st : R c P (.ref c.sa) .st
inductive RAll (c : Gam) (P : Hp) : List V → List D → Prop
  | nil : RAll c P [] []
  | cons {v : V} {d : D} {vs : List V} {ds : List D} : R c P v d → RAll c P vs ds → RAll c P (v :: vs) (d :: ds)
inductive RKvs (c : Gam) (P : Hp) : List (Key × V) → List (Key × D) → Prop
  | nil : RKvs c P [] []
  | cons {k : Key} {v : V} {d : D} {vs : List (Key × V)} {ds : List (Key × D)} : kOk k = true → R c P v d → RKvs c P vs ds → RKvs c P ((k, v) :: vs) ((k, d) :: ds)
inductive RFs (c : Gam) (P : Hp) : List (Str × V) → List (Str × D) → Prop
  | nil : RFs c P [] []
  | cons {k : Str} {v : V} {d : D} {vs : List (Str × V)} {ds : List (Str × D)} : R c P v d → RFs c P vs ds → RFs c P ((k, v) :: vs) ((k, d) :: ds)
end

theorem sqL_mono {K : PySem.W.Frag} {P P' : Hp} {a : Addr} {vs : List V} (e : Same P P') (h : SqL K P a vs) : SqL K P' a vs := e.seq h
theorem sqT_mono {K : PySem.W.Frag} {P P' : Hp} {a : Addr} {vs : List V} (e : Same P P') (h : SqT K P a vs) : SqT K P' a vs := by
  rcases h with (h | ⟨o, h⟩) | h
  · exact .inl (.inl (e _ _ h))
  · exact .inl (.inr ⟨o, e _ _ h⟩)
  · exact .inr h

mutual
theorem R.mono {c : Gam} {P P' : Hp} (e : Same P P') : ∀ {v : V} {d : D}, R c P v d → R c P' v d
  | _, _, .non => .non
  | _, _, .bl b => .bl b
  | _, _, .int i => .int i
  | _, _, .str h => .str h
  | _, _, .lst h r => .lst (e _ _ h) (RAll.mono e r)
  | _, _, .tup h r => .tup (h.mono e) (RAll.mono e r)
  | _, _, .dic h r => .dic (e _ _ h) (RKvs.mono e r)
  | _, _, .obj h r => .obj (e _ _ h) (RFs.mono e r)
  | _, _, .scr h => .scr (sqL_mono e h)
  | _, _, .st => .st
theorem RAll.mono {c : Gam} {P P' : Hp} (e : Same P P') : ∀ {vs : List V} {ds : List D}, RAll c P vs ds → RAll c P' vs ds
  | _, _, .nil => .nil
  | _, _, .cons h r => .cons (R.mono e h) (RAll.mono e r)
theorem RKvs.mono {c : Gam} {P P' : Hp} (e : Same P P') : ∀ {vs : List (Key × V)} {ds : List (Key × D)}, RKvs c P vs ds → RKvs c P' vs ds
  | _, _, .nil => .nil
  | _, _, .cons o h r => .cons o (R.mono e h) (RKvs.mono e r)
theorem RFs.mono {c : Gam} {P P' : Hp} (e : Same P P') : ∀ {vs : List (Str × V)} {ds : List (Str × D)}, RFs c P vs ds → RFs c P' vs ds
  | _, _, .nil => .nil
  | _, _, .cons h r => .cons (R.mono e h) (RFs.mono e r)
end

section
variable {c : Gam} {P : Hp}
theorem RAll.length : ∀ {vs : List V} {ds : List D}, RAll c P vs ds → vs.length = ds.length
  | _, _, .nil => rfl
  | _, _, .cons _ r => by rw [List.length_cons, List.length_cons, r.length]
theorem RAll.get : ∀ {vs : List V} {ds : List D} {i : Nat} {v : V}, RAll c P vs ds → vs[i]? = some v → ∃ d, ds[i]? = some d ∧ R c P v d
  | _, _, _, _, .nil, e => by simp at e
  | _, _, 0, _, .cons r _, e => by simp at e; subst e; exact ⟨_, rfl, r⟩
  | _, _, i + 1, v, .cons _ t, e => by
    obtain ⟨d, h1, h2⟩ := RAll.get (i := i) (v := v) t (by simpa using e)
    exact ⟨d, by simpa using h1, h2⟩
theorem RAll.getD : ∀ {vs : List V} {ds : List D} {i : Nat} {d : D}, RAll c P vs ds → ds[i]? = some d → ∃ v, vs[i]? = some v ∧ R c P v d
  | _, _, _, _, .nil, e => by simp at e
  | _, _, 0, _, .cons r _, e => by simp at e; subst e; exact ⟨_, rfl, r⟩
  | _, _, i + 1, v, .cons _ t, e => by
    obtain ⟨d, h1, h2⟩ := RAll.getD (i := i) (d := v) t (by simpa using e)
    exact ⟨d, by simpa using h1, h2⟩
theorem RAll.append : ∀ {vs ws : List V} {ds es : List D}, RAll c P vs ds → RAll c P ws es → RAll c P (vs ++ ws) (ds ++ es)
  | _, _, _, _, .nil, s => s
  | _, _, _, _, .cons r t, s => .cons r (RAll.append t s)
theorem RAll.take : ∀ {vs : List V} {ds : List D} (n : Nat), RAll c P vs ds → RAll c P (vs.take n) (ds.take n)
  | _, _, 0, _ => .nil
  | _, _, _ + 1, .nil => .nil
  | _, _, n + 1, .cons r t => .cons r (RAll.take n t)
theorem RAll.drop : ∀ {vs : List V} {ds : List D} (n : Nat), RAll c P vs ds → RAll c P (vs.drop n) (ds.drop n)
  | _, _, 0, r => r
  | _, _, _ + 1, .nil => .nil
  | _, _, n + 1, .cons _ t => RAll.drop n t
theorem RAll.one {v : V} {d : D} (h : R c P v d) : RAll c P [v] [d] := .cons h .nil
theorem RAll.snoc {vs : List V} {ds : List D} {v : V} {d : D} (h : RAll c P vs ds) (r : R c P v d) : RAll c P (vs ++ [v]) (ds ++ [d]) := h.append (.one r)
end

/-! ### worlds -/
/-- how the source of draws stands -/
structure GR (c : Gam) (g : G) (H : Hp) : Prop where
  s : H c.sa = some (.dK [(.inr "large", .ref c.la), (.inr "cells", .ref c.ca), (.inr "rest", .int g.rest), (.inr "turn", .int g.turn)])
  l : H c.la = some (.lst (g.large.map V.int))
  e : H c.ca = some (.lst (g.cells.map V.int))
  ne : c.la ≠ c.ca

/-- from one world (public part P, all H) to a later one -/
structure Ext (c : Gam) (P H P' H' : Hp) : Prop where
  pub : Same P P'
  sub : Same P' H'
  keep : ∀ a o, a ≠ c.sa → a ≠ c.la → H a = some o → H' a = some o
  there : ∀ a, H a ≠ none → H' a ≠ none
  new : ∀ a, P' a ≠ none → P a ≠ none ∨ H a = none

theorem Ext.refl {c : Gam} {P H : Hp} (s : Same P H) : Ext c P H P H := ⟨Same.refl _, s, fun _ _ _ _ h => h, fun _ h => h, fun _ h => .inl h⟩
theorem Ext.trans {c : Gam} {P H P1 H1 P2 H2 : Hp} (x : Ext c P H P1 H1) (y : Ext c P1 H1 P2 H2) : Ext c P H P2 H2 :=
  ⟨x.pub.trans y.pub, y.sub, fun a o n1 n2 h => y.keep a o n1 n2 (x.keep a o n1 n2 h), fun a h => y.there a (x.there a h), fun a h => by
    rcases y.new a h with h | h
    · exact x.new a h
    · refine .inr ?_
      cases e : H a with
      | none => rfl
      | some o => exact absurd h (x.there a (by rw [e]; exact fun z => nomatch z))⟩

/-- .. where nothing that stood has changed -/
structure ExtP (P H P' H' : Hp) : Prop where
  pub : Same P P'
  sub : Same P' H'
  all : Same H H'
  new : ∀ a, P' a ≠ none → P a ≠ none ∨ H a = none
theorem ExtP.refl {P H : Hp} (s : Same P H) : ExtP P H P H := ⟨Same.refl _, s, Same.refl _, fun _ h => .inl h⟩
theorem ExtP.trans {P H P1 H1 P2 H2 : Hp} (x : ExtP P H P1 H1) (y : ExtP P1 H1 P2 H2) : ExtP P H P2 H2 :=
  ⟨x.pub.trans y.pub, y.sub, x.all.trans y.all, fun a h => by
    rcases y.new a h with h | h
    · exact x.new a h
    · exact .inr (x.all.free h)⟩
theorem some_of_same {H H' : Hp} (e : Same H H') {a : Addr} (h : H a ≠ none) : H' a ≠ none := by
  cases q : H a with
  | none => exact absurd q h
  | some o => rw [e a o q]; exact fun z => nomatch z
theorem ExtP.ext {c : Gam} {P H P' H' : Hp} (x : ExtP P H P' H') : Ext c P H P' H' :=
  ⟨x.pub, x.sub, fun a o _ _ h => x.all a o h, fun a h => some_of_same x.all h, x.new⟩
theorem same_upd {H : Hp} {p : Addr} {o : HO} (h : H p = none) : Same H (upd H p o) := fun b x e => by
  rw [upd_ne (ne_of_none e h)]
  exact e
theorem same_upd2 {P H : Hp} {p : Addr} {o : HO} (s : Same P H) : Same (upd P p o) (upd H p o) := fun b x e => by
  by_cases hb : b = p
  · subst hb
    rw [upd_same] at e ⊢
    exact e
  · rw [upd_ne hb] at e ⊢
    exact s _ _ e
theorem ExtP.laid {P H : Hp} {p : Addr} {o : HO} (s : Same P H) (h : H p = none) : ExtP P H (upd P p o) (upd H p o) :=
  ⟨same_upd (s.free h), same_upd2 s, same_upd h, fun a ha => by
    by_cases e : a = p
    · subst e
      exact .inr h
    · rw [upd_ne e] at ha
      exact .inl ha⟩
theorem GR.same {c : Gam} {g : G} {H H' : Hp} (h : GR c g H) (e : Same H H') : GR c g H' := ⟨e _ _ h.s, e _ _ h.l, e _ _ h.e, h.ne⟩

/-! ### a def's slots -/
/-- what a slot holds: shared data (never changed any more), or a list, a dict of the def's own -/
inductive Sl where
  | sh (d : D) | ow (xs : List D) | od (kvs : List (Key × D))
abbrev Rho := List (Option Sl)

def SlR (c : Gam) (H0 P H : Hp) (v : V) : Sl → Prop
  | .sh d => R c P v d
  | .ow xs => ∃ a vs, v = .ref a ∧ H a = some (.lst vs) ∧ RAll c P vs xs ∧ P a = none ∧ H0 a = none
  | .od kvs => ∃ a es, v = .ref a ∧ H a = some (.dK es) ∧ RKvs c P es kvs ∧ P a = none ∧ H0 a = none
def Sl.own : Sl → Bool
  | .sh _ => false
  | .ow _ => true
  | .od _ => true
def ownAt (ρ : Rho) (i : Nat) : Prop := ∃ s, ρ[i]? = some (some s) ∧ s.own = true

structure WS (c : Gam) (P0 H0 P : Hp) (ρ : Rho) (g : G) (σ : St) (H : Hp) : Prop where
  len : ρ.length = σ.length
  ext : Ext c P0 H0 P H
  gr : GR c g H
  hs : H0 c.sa ≠ none
  hl : H0 c.la ≠ none
  hc : H0 c.ca ≠ none
  ps : P0 c.sa = none
  pl : P0 c.la = none
  pc : P0 c.ca = none
  env : ∀ (i : Nat) (s : Sl), ρ[i]? = some (some s) → ∃ v, σ[i]? = some (some v) ∧ SlR c H0 P H v s
  dis : ∀ (i j : Nat) (a : Addr), i ≠ j → ownAt ρ i → ownAt ρ j → σ[i]? = some (some (.ref a)) → σ[j]? = some (some (.ref a)) → False

section
variable {c : Gam} {P0 H0 P P' H H' : Hp} {ρ : Rho} {g g' : G} {σ : St}
theorem WS.sub (w : WS c P0 H0 P ρ g σ H) : Same P H := w.ext.sub
theorem SlR.ext {v : V} {s : Sl} (hs : H0 c.sa ≠ none) (hl : H0 c.la ≠ none) (h : SlR c H0 P H v s) (e : Ext c P H P' H') : SlR c H0 P' H' v s := by
  cases s with
  | sh d => exact R.mono e.pub h
  | ow xs =>
    obtain ⟨a, vs, rfl, h1, h2, h3, h4⟩ := h
    refine ⟨a, vs, rfl, e.keep a _ (fun z => hs (z ▸ h4)) (fun z => hl (z ▸ h4)) h1, h2.mono e.pub, ?_, h4⟩
    cases q : P' a with
    | none => rfl
    | some o =>
      rcases e.new a (by rw [q]; exact fun z => nomatch z) with z | z
      · exact absurd h3 z
      · rw [h1] at z; cases z
  | od kvs =>
    obtain ⟨a, vs, rfl, h1, h2, h3, h4⟩ := h
    refine ⟨a, vs, rfl, e.keep a _ (fun z => hs (z ▸ h4)) (fun z => hl (z ▸ h4)) h1, h2.mono e.pub, ?_, h4⟩
    cases q : P' a with
    | none => rfl
    | some o =>
      rcases e.new a (by rw [q]; exact fun z => nomatch z) with z | z
      · exact absurd h3 z
      · rw [h1] at z; cases z
/-- a later world, the slots as they were -/
theorem WS.next (w : WS c P0 H0 P ρ g σ H) (e : Ext c P H P' H') (gr : GR c g' H') : WS c P0 H0 P' ρ g' σ H' :=
  ⟨w.len, w.ext.trans e, gr, w.hs, w.hl, w.hc, w.ps, w.pl, w.pc, fun i s h => by
      obtain ⟨v, h1, h2⟩ := w.env i s h
      exact ⟨v, h1, h2.ext w.hs w.hl e⟩, w.dis⟩
theorem WS.nextP (w : WS c P0 H0 P ρ g σ H) (e : ExtP P H P' H') : WS c P0 H0 P' ρ g σ H' := w.next e.ext (w.gr.same e.all)
end

/-! ### what a piece of code gives -/
/-- an error: its class, its own fields -/
structure XV where
  c : Nat
  fs : List (Str × D)
inductive Res (α : Type) where
  | ok (a : α) (g : G) | ex (x : XV) (g : G) | fail
def Res.bind {α β : Type} (r : Res α) (f : α → G → Res β) : Res β :=
  match r with
  | .ok a g => f a g
  | .ex x g => .ex x g
  | .fail => .fail
inductive Fl where
  | nx (ρ : Rho) (g : G) | bk (ρ : Rho) (g : G) | ct (ρ : Rho) (g : G) | rt (d : D) (g : G) | ex (ρ : Rho) (x : XV) (g : G) | fail
abbrev SE := Rho → G → Res D
abbrev ST := Rho → G → Res Bool
abbrev SA := Rho → G → Res (List D)
abbrev SS := Rho → G → Fl

/-- a value of the data, or a tuple of which no more is known than its items -/
def RL (c : Gam) (P : Hp) (v : V) (d : D) : Prop := R c P v d ∨ ∃ a vs ds, v = .ref a ∧ d = .tup ds ∧ SqT c.K P a vs ∧ RAll c P vs ds
def RB (c : Gam) : Bool → Hp → V → D → Prop
  | true => RL c
  | false => R c
theorem RB.of {c : Gam} {b : Bool} {P : Hp} {v : V} {d : D} (h : R c P v d) : RB c b P v d := by
  cases b with
  | true => exact .inl h
  | false => exact h
theorem RB.mono {c : Gam} {b : Bool} {P P' : Hp} {v : V} {d : D} (e : Same P P') (h : RB c b P v d) : RB c b P' v d := by
  cases b with
  | false => exact R.mono e h
  | true =>
    rcases h with h | ⟨a, vs, ds, h1, h2, h3, h4⟩
    · exact .inl (h.mono e)
    · exact .inr ⟨a, vs, ds, h1, h2, sqT_mono e h3, h4.mono e⟩
theorem RB.tup {c : Gam} {b : Bool} {P : Hp} {v : V} {ds : List D} (h : RB c b P v (.tup ds)) : ∃ a vs, v = .ref a ∧ SqT c.K P a vs ∧ RAll c P vs ds := by
  have key : R c P v (.tup ds) → ∃ a vs, v = .ref a ∧ SqT c.K P a vs ∧ RAll c P vs ds := fun h => by
    cases h with | @tup a vs _ h1 h2 => exact ⟨a, vs, rfl, h1.sq, h2⟩
  cases b with
  | false => exact key h
  | true =>
    rcases h with h | ⟨a, vs, ds', h1, h2, h3, h4⟩
    · exact key h
    · cases h2; exact ⟨a, vs, h1, h3, h4⟩
/-- a flying error, in a world -/
def XR (c : Gam) (P H : Hp) (cls : Value) (dd : Option Addr) (x : XV) : Prop :=
  cls = .ref (c.ct x.c) ∧ ((dd = none ∧ x.fs = []) ∨ ∃ (d : Addr) (fs : List (Str × V)), dd = some d ∧ H d = some (.xd fs) ∧ RFs c P fs x.fs)

/-- what a value of the layer is to the data: shared; or, read in passing, a list or dict of the def's own -/
abbrev Rel := Hp → Hp → V → D → Prop
def RS (c : Gam) : Rel := fun P _ v d => R c P v d
def RX (c : Gam) : Rel := fun P H v d => R c P v d ∨ (∃ a vs ds, v = .ref a ∧ d = .lst ds ∧ H a = some (.lst vs) ∧ RAll c P vs ds ∧ a ≠ c.sa ∧ a ≠ c.la) ∨
  (∃ a es kvs, v = .ref a ∧ d = .dic kvs ∧ H a = some (.dK es) ∧ RKvs c P es kvs ∧ a ≠ c.sa ∧ a ≠ c.la)
theorem RX.of {c : Gam} {P H : Hp} {v : V} {d : D} (h : R c P v d) : RX c P H v d := .inl h
theorem RX.next {c : Gam} {P H P' H' : Hp} {v : V} {d : D} (h : RX c P H v d) (e : Ext c P H P' H') : RX c P' H' v d := by
  rcases h with h | ⟨a, vs, ds, h1, h2, h3, h4, h5, h6⟩ | ⟨a, vs, ds, h1, h2, h3, h4, h5, h6⟩
  · exact .inl (h.mono e.pub)
  · exact .inr (.inl ⟨a, vs, ds, h1, h2, e.keep _ _ h5 h6 h3, h4.mono e.pub, h5, h6⟩)
  · exact .inr (.inr ⟨a, vs, ds, h1, h2, e.keep _ _ h5 h6 h3, h4.mono e.pub, h5, h6⟩)

/-- what is wanted of a result: K of the later world and the value; an error is left to W -/
def Post {β : Type} (c : Gam) (W : WX) (σ : St) (k : Hp → Hp → β → Prop) (P H : Hp) : Res β → Prop
  | .ok b g => ∀ P' H', Ext c P H P' H' → GR c g H' → k P' H' b
  | .ex x g => ∀ P' H' cls dd, Ext c P H P' H' → GR c g H' → XR c P' H' cls dd x → W cls dd σ H'
  | .fail => False
def kE (rel : Rel) (Q : VK) : Hp → Hp → D → Prop := fun P H d => ∀ v, rel P H v d → Q v H
def kT (Q : Bool → Hp → Prop) : Hp → Hp → Bool → Prop := fun _ H b => Q b H
def kA (c : Gam) (Q : List V → Hp → Prop) : Hp → Hp → List D → Prop := fun P H ds => ∀ vs, RAll c P vs ds → Q vs H
theorem Post.next {β : Type} {c : Gam} {W : WX} {σ : St} {k : Hp → Hp → β → Prop} {P H P1 H1 : Hp} {r : Res β} (h : Post c W σ k P H r) (e : Ext c P H P1 H1) : Post c W σ k P1 H1 r := by
  cases r with
  | ok b g => exact fun P' H' e' gr => h P' H' (e.trans e') gr
  | ex x g => exact fun P' H' cls dd e' gr => h P' H' cls dd (e.trans e') gr
  | fail => exact h
def PostS (c : Gam) (W : WX) (P0 H0 : Hp) (D : Ends) : Fl → Prop
  | .nx ρ g => ∀ P' σ' H', WS c P0 H0 P' ρ g σ' H' → D.nx σ' H'
  | .bk ρ g => ∀ P' σ' H', WS c P0 H0 P' ρ g σ' H' → D.bk σ' H'
  | .ct ρ g => ∀ P' σ' H', WS c P0 H0 P' ρ g σ' H' → D.ct σ' H'
  | .rt d g => ∀ P' H' v, Ext c P0 H0 P' H' → GR c g H' → R c P' v d → D.rt v H'
  | .ex ρ x g => ∀ P' σ' H' cls dd, WS c P0 H0 P' ρ g σ' H' → XR c P' H' cls dd x → W cls dd σ' H'
  | .fail => False

def tG (c : Gam) (W : WX) (rel : Rel) (f : SE) : TE := fun σ H Q => ∃ P0 H0 P ρ g, WS c P0 H0 P ρ g σ H ∧ Post c W σ (kE rel Q) P H (f ρ g)
abbrev tE (c : Gam) (W : WX) (f : SE) : TE := tG c W (RS c) f
abbrev tX (c : Gam) (W : WX) (f : SE) : TE := tG c W (RX c) f
def tT (c : Gam) (W : WX) (f : ST) : TT := fun σ H Q => ∃ P0 H0 P ρ g, WS c P0 H0 P ρ g σ H ∧ Post c W σ (kT Q) P H (f ρ g)
def tA (c : Gam) (W : WX) (f : SA) : TA := fun σ H Q => ∃ P0 H0 P ρ g, WS c P0 H0 P ρ g σ H ∧ Post c W σ (kA c Q) P H (f ρ g)
def tS (c : Gam) (W : WX) (f : SS) : TS := fun D σ H => ∃ P0 H0 P ρ g, WS c P0 H0 P ρ g σ H ∧ PostS c W P0 H0 D (f ρ g)

/-! ### one after another -/
section
variable {c : Gam} {W : WX} {P0 H0 P H : Hp} {ρ : Rho} {g : G} {σ : St} {β : Type} {k : Hp → Hp → β → Prop}
theorem bind_E {rel : Rel} {f : SE} {n : D → G → Res β} {Q' : VK} (ws : WS c P0 H0 P ρ g σ H) (post : Post c W σ k P H ((f ρ g).bind n))
    (step : ∀ P1 H1 g1 v d, f ρ g = .ok d g1 → Ext c P H P1 H1 → WS c P0 H0 P1 ρ g1 σ H1 → rel P1 H1 v d → Post c W σ k P1 H1 (n d g1) → Q' v H1) : tG c W rel f σ H Q' := by
  refine ⟨P0, H0, P, ρ, g, ws, ?_⟩
  cases hf : f ρ g with
  | ok d g1 =>
    rw [hf] at post
    exact fun P1 H1 e gr v r => step P1 H1 g1 v d hf e (ws.next e gr) r (Post.next (r := n d g1) post e)
  | ex x g1 => rw [hf] at post; exact post
  | fail => rw [hf] at post; exact post
theorem bind_T {f : ST} {n : Bool → G → Res β} {Q' : Bool → Hp → Prop} (ws : WS c P0 H0 P ρ g σ H) (post : Post c W σ k P H ((f ρ g).bind n))
    (step : ∀ P1 H1 g1 b, f ρ g = .ok b g1 → Ext c P H P1 H1 → WS c P0 H0 P1 ρ g1 σ H1 → Post c W σ k P1 H1 (n b g1) → Q' b H1) : tT c W f σ H Q' := by
  refine ⟨P0, H0, P, ρ, g, ws, ?_⟩
  cases hf : f ρ g with
  | ok d g1 =>
    rw [hf] at post
    exact fun P1 H1 e gr => step P1 H1 g1 d hf e (ws.next e gr) (Post.next (r := n d g1) post e)
  | ex x g1 => rw [hf] at post; exact post
  | fail => rw [hf] at post; exact post
theorem bind_A {f : SA} {n : List D → G → Res β} {Q' : List V → Hp → Prop} (ws : WS c P0 H0 P ρ g σ H) (post : Post c W σ k P H ((f ρ g).bind n))
    (step : ∀ P1 H1 g1 vs ds, f ρ g = .ok ds g1 → Ext c P H P1 H1 → WS c P0 H0 P1 ρ g1 σ H1 → RAll c P1 vs ds → Post c W σ k P1 H1 (n ds g1) → Q' vs H1) : tA c W f σ H Q' := by
  refine ⟨P0, H0, P, ρ, g, ws, ?_⟩
  cases hf : f ρ g with
  | ok d g1 =>
    rw [hf] at post
    exact fun P1 H1 e gr vs r => step P1 H1 g1 vs d hf e (ws.next e gr) r (Post.next (r := n d g1) post e)
  | ex x g1 => rw [hf] at post; exact post
  | fail => rw [hf] at post; exact post
/-- a result within a statement -/
def toFl {α : Type} (ρ : Rho) (r : Res α) (n : α → G → Fl) : Fl :=
  match r with
  | .ok a g => n a g
  | .ex x g => .ex ρ x g
  | .fail => .fail
variable {D : Ends}
theorem bindS_E {rel : Rel} {f : SE} {n : CP.D → G → Fl} {Q' : VK} (ws : WS c P0 H0 P ρ g σ H) (post : PostS c W P0 H0 D (toFl ρ (f ρ g) n))
    (step : ∀ P1 H1 g1 v d, f ρ g = .ok d g1 → Ext c P H P1 H1 → WS c P0 H0 P1 ρ g1 σ H1 → rel P1 H1 v d → PostS c W P0 H0 D (n d g1) → Q' v H1) : tG c W rel f σ H Q' := by
  refine ⟨P0, H0, P, ρ, g, ws, ?_⟩
  cases hf : f ρ g with
  | ok d g1 =>
    rw [hf] at post
    exact fun P1 H1 e gr v r => step P1 H1 g1 v d hf e (ws.next e gr) r post
  | ex x g1 => rw [hf] at post; exact fun P1 H1 cls dd e gr xr => post P1 σ H1 cls dd (ws.next e gr) xr
  | fail => rw [hf] at post; exact post
theorem bindS_T {f : ST} {n : Bool → G → Fl} {Q' : Bool → Hp → Prop} (ws : WS c P0 H0 P ρ g σ H) (post : PostS c W P0 H0 D (toFl ρ (f ρ g) n))
    (step : ∀ P1 H1 g1 b, f ρ g = .ok b g1 → Ext c P H P1 H1 → WS c P0 H0 P1 ρ g1 σ H1 → PostS c W P0 H0 D (n b g1) → Q' b H1) : tT c W f σ H Q' := by
  refine ⟨P0, H0, P, ρ, g, ws, ?_⟩
  cases hf : f ρ g with
  | ok d g1 =>
    rw [hf] at post
    exact fun P1 H1 e gr => step P1 H1 g1 d hf e (ws.next e gr) post
  | ex x g1 => rw [hf] at post; exact fun P1 H1 cls dd e gr xr => post P1 σ H1 cls dd (ws.next e gr) xr
  | fail => rw [hf] at post; exact post
theorem bindS_A {f : SA} {n : List CP.D → G → Fl} {Q' : List V → Hp → Prop} (ws : WS c P0 H0 P ρ g σ H) (post : PostS c W P0 H0 D (toFl ρ (f ρ g) n))
    (step : ∀ P1 H1 g1 vs ds, f ρ g = .ok ds g1 → Ext c P H P1 H1 → WS c P0 H0 P1 ρ g1 σ H1 → RAll c P1 vs ds → PostS c W P0 H0 D (n ds g1) → Q' vs H1) : tA c W f σ H Q' := by
  refine ⟨P0, H0, P, ρ, g, ws, ?_⟩
  cases hf : f ρ g with
  | ok d g1 =>
    rw [hf] at post
    exact fun P1 H1 e gr v r => step P1 H1 g1 v d hf e (ws.next e gr) r post
  | ex x g1 => rw [hf] at post; exact fun P1 H1 cls dd e gr xr => post P1 σ H1 cls dd (ws.next e gr) xr
  | fail => rw [hf] at post; exact post
end
end CP

/-! CPExpr: expressions by total functions over plain data. -/
namespace CP
open PySem PySem.Spec L2
open PyProof.Rows hiding St

section
variable {X : Cx}
theorem PE.by {e : Expr} {t t' : TE} (h : PE X e t) (i : ∀ σ H Q, t' σ H Q → t σ H Q) : PE X e t' := ⟨fun pins s σ H Q I q => h.run pins s σ H Q I (i σ H Q q)⟩
theorem PT.by {e : Expr} {t t' : TT} (h : PT X e t) (i : ∀ σ H Q, t' σ H Q → t σ H Q) : PT X e t' := ⟨fun pins s σ H Q I q => h.run pins s σ H Q I (i σ H Q q)⟩
theorem PW.by {e : Expr} {t t' : TT} (h : PW X e t) (i : ∀ σ H Q, t' σ H Q → t σ H Q) : PW X e t' := ⟨fun wh pins s σ H Q I q => h.run wh pins s σ H Q I (i σ H Q q)⟩
theorem PA.by {e : List Expr} {t t' : TA} (h : PA X e t) (i : ∀ σ H Q, t' σ H Q → t σ H Q) : PA X e t' := ⟨fun pos pins s σ H Q I q => h.run pos pins s σ H Q I (i σ H Q q)⟩
theorem PS.by {e : Stmt} {t t' : TS} (h : PS X e t) (i : ∀ D σ H, t' D σ H → t D σ H) : PS X e t' := ⟨fun pins s σ H D I q => h.run pins s σ H D I (i D σ H q)⟩
theorem PSs.by {e : List Stmt} {t t' : TS} (h : PSs X e t) (i : ∀ D σ H, t' D σ H → t D σ H) : PSs X e t' := ⟨fun pins s σ H D I q => h.run pins s σ H D I (i D σ H q)⟩
theorem PI.by {tg e : Expr} {t t' : TI} (h : PI X tg e t) (i : ∀ σ H R, t' σ H R → t σ H R) : PI X tg e t' := ⟨fun pins s σ H R I q => h.run pins s σ H R I (i σ H R q)⟩
end

section
variable {X : Cx} {c : Gam} {W : WX}

theorem toX {e : Expr} {f : SE} (h : PE X e (tE c W f)) : PE X e (tX c W f) := PE.by h fun σ H Q ⟨P0, H0, P, ρ, g, ws, post⟩ => ⟨P0, H0, P, ρ, g, ws, by
  cases hf : f ρ g with
  | ok d g1 => rw [hf] at post; exact fun P' H' x gr v r => post P' H' x gr v (.of r)
  | ex x g1 => rw [hf] at post; exact post
  | fail => rw [hf] at post; exact post⟩

/-! ### constants, names -/
def eC (d : D) : SE := fun _ g => .ok d g
/-- a constant's value, which needs no heap -/
def Flat : V → D → Prop
  | .non, .non => True
  | .bl b, .bl b' => b = b'
  | .int i, .int i' => i = i'
  | .str x, .str x' => x = x' ∧ sOk x = true
  | _, _ => False
theorem Flat.r {v : V} {d : D} {P : Hp} (h : Flat v d) : R c P v d := by
  cases v <;> cases d <;> first | exact h.elim | (obtain ⟨rfl, h⟩ := h; exact .str h) | (cases h; constructor)
theorem re_c {e : Expr} {v : V} {d : D} (h : PE X e (tC v)) (fl : Flat v d) : PE X e (tE c W (eC d)) := PE.by h fun σ H Q ⟨P0, H0, P, ρ, g, ws, post⟩ =>
  post P H (Ext.refl ws.sub) ws.gr v fl.r
theorem re_int {i j pos} : PE X (.Constant (.int i) j pos) (tE c W (eC (.int i))) := re_c pe_int rfl
theorem re_str {x j pos} (h : sOk x = true := by decide +kernel) : PE X (.Constant (.str x) j pos) (tE c W (eC (.str x))) := re_c pe_str ⟨rfl, h⟩
theorem re_bl {b j pos} : PE X (.Constant (.bool b) j pos) (tE c W (eC (.bl b))) := re_c pe_bl rfl
theorem re_non {j pos} : PE X (.Constant .none j pos) (tE c W (eC .non)) := re_c pe_non trivial
/-- a module's constant without a heap -/
theorem re_glob {x : Str} {v : V} {u : Value} {d : D} {pos : Pos} (hg : Gl X x) (hm : X.mg x = some u) (r : RelV v u) (fl : Flat v d) (hd : (x == ("__debug__" : Str)) = false := by decide) : PE X (.Name x pos) (tE c W (eC d)) :=
  re_c (pe_glob hg hm r hd) fl

def eVar (i : Nat) : SE := fun ρ g => match ρ[i]? with
  | some (some (.sh d)) => .ok d g
  | _ => .fail
theorem re_var {i : Nat} {x : Str} {pos : Pos} (hN : X.N[i]? = some x) (hv : Vis X.env.scope x) (hd : (x == ("__debug__" : Str)) = false := by decide) (hcd : (x == ("__classdict__" : Str)) = false := by decide) :
    PE X (.Name x pos) (tE c W (eVar i)) := PE.by (pe_var hN hv hd hcd) fun σ H Q ⟨P0, H0, P, ρ, g, ws, post⟩ => by
  unfold eVar at post
  split at post
  · rename_i d e
    obtain ⟨v, e1, r⟩ := ws.env i _ e
    exact ⟨v, e1, post P H (Ext.refl ws.sub) ws.gr v r⟩
  · exact post.elim
/-- a name read in passing: its list or dict may be the def's own -/
def eAny (i : Nat) : SE := fun ρ g => match ρ[i]? with
  | some (some (.sh d)) => .ok d g
  | some (some (.ow xs)) => .ok (.lst xs) g
  | some (some (.od kvs)) => .ok (.dic kvs) g
  | _ => .fail
theorem rx_var {i : Nat} {x : Str} {pos : Pos} (hN : X.N[i]? = some x) (hv : Vis X.env.scope x) (hd : (x == ("__debug__" : Str)) = false := by decide) (hcd : (x == ("__classdict__" : Str)) = false := by decide) :
    PE X (.Name x pos) (tX c W (eAny i)) := PE.by (pe_var hN hv hd hcd) fun σ H Q ⟨P0, H0, P, ρ, g, ws, post⟩ => by
  unfold eAny at post
  split at post
  · rename_i d e
    obtain ⟨v, e1, r⟩ := ws.env i _ e
    exact ⟨v, e1, post P H (Ext.refl ws.sub) ws.gr v (.inl r)⟩
  · rename_i d e
    obtain ⟨v, e1, a, vs, e2, h1, h2, h3, h4⟩ := ws.env i _ e
    exact ⟨v, e1, post P H (Ext.refl ws.sub) ws.gr v (.inr (.inl ⟨a, vs, _, e2, rfl, h1, h2, fun z => ws.hs (z ▸ h4), fun z => ws.hl (z ▸ h4)⟩))⟩
  · rename_i d e
    obtain ⟨v, e1, a, vs, e2, h1, h2, h3, h4⟩ := ws.env i _ e
    exact ⟨v, e1, post P H (Ext.refl ws.sub) ws.gr v (.inr (.inr ⟨a, vs, _, e2, rfl, h1, h2, fun z => ws.hs (z ▸ h4), fun z => ws.hl (z ▸ h4)⟩))⟩
  · exact post.elim

/-! ### operations upon data -/
abbrev P1 := D → Option D
abbrev P2 := D → D → Option D
def ofOpt {α : Type} (o : Option α) (g : G) : Res α := match o with
  | some d => .ok d g
  | none => .fail
def e1 (p : P1) (a : SE) : SE := fun ρ g => (a ρ g).bind fun x g1 => ofOpt (p x) g1
def e2 (p : P2) (a b : SE) : SE := fun ρ g => (a ρ g).bind fun x g1 => (b ρ g1).bind fun y g2 => ofOpt (p x y) g2
def e3 (p : D → D → D → Option D) (a b z : SE) : SE := fun ρ g => (a ρ g).bind fun x g1 => (b ρ g1).bind fun y g2 => (z ρ g2).bind fun w g3 => ofOpt (p x y w) g3
/-- what an operation leaves: a value that is d in a world where nothing that stood has changed -/
def Gives (c : Gam) (P H : Hp) (d : D) (Q : VK) : Prop := ∀ P' H' v, ExtP P H P' H' → R c P' v d → Q v H'
theorem Gives.same {P H : Hp} {d : D} {Q : VK} {v : V} (s : Same P H) (h : Gives c P H d Q) (r : R c P v d) : Q v H := h P H v (.refl s) r
theorem Gives.laid {P H : Hp} {d : D} {Q : VK} {p : Addr} {o : HO} (s : Same P H) (h : Gives c P H d Q) (n : H p = none) (r : R c (upd P p o) (.ref p) d) : Q (.ref p) (upd H p o) := h _ _ _ (.laid s n) r
/-- behind the operation's arguments -/
theorem post_gives {P H : Hp} {d : D} {g : G} {σ : St} {Q : VK} {o : Option D} (post : Post c W σ (kE (RS c) Q) P H (ofOpt o g)) (e : o = some d) (gr : GR c g H) : Gives c P H d Q := by
  subst e
  exact fun P' H' v x r => post P' H' x.ext (gr.same x.all) v r
theorem post_opt {β : Type} {P H : Hp} {g : G} {σ : St} {k : Hp → Hp → β → Prop} {o : Option β} (post : Post c W σ k P H (ofOpt o g)) : ∃ d, o = some d := by
  cases o with
  | some d => exact ⟨d, rfl⟩
  | none => exact post.elim
/-- a new tuple -/
theorem Gives.tuple {P H : Hp} {ds : List D} {vs : List V} {Q : VK} (s : Same P H) (h : Gives c P H (.tup ds) Q) (r : RAll c P vs ds) : newT H vs Q := fun p o hp ho =>
  h.laid s hp (.tup (.upd ho) (r.mono (same_upd (Same.free s hp))))
def Ok1 (c : Gam) (r : V → Hp → VK → Prop) (p : P1) : Prop := ∀ P H x dx d Q, Same P H → RX c P H x dx → p dx = some d → Gives c P H d Q → r x H Q
def Ok2 (c : Gam) (r : V → V → Hp → VK → Prop) (p : P2) : Prop := ∀ P H x y dx dy d Q, Same P H → RX c P H x dx → RX c P H y dy → p dx dy = some d → Gives c P H d Q → r x y H Q
def Ok3 (c : Gam) (r : V → V → V → Hp → VK → Prop) (p : D → D → D → Option D) : Prop := ∀ P H x y z dx dy dz d Q, Same P H → RX c P H x dx → RX c P H y dy → RX c P H z dz → p dx dy dz = some d → Gives c P H d Q → r x y z H Q

/-- one argument -/
theorem go1 {f : SE} {r : V → Hp → VK → Prop} {p : P1} (ok : Ok1 c r p) {σ : St} {H : Hp} {Q : VK} (h : tE c W (e1 p f) σ H Q) : tX c W f σ H fun x H1 => r x H1 Q := by
  obtain ⟨P0, H0, P, ρ, g, ws, post⟩ := h
  refine bind_E ws post fun P1 H1 g1 v d _ x1 w1 r1 post1 => ?_
  obtain ⟨d', e⟩ := post_opt post1
  exact ok P1 H1 v d d' Q w1.sub r1 e (post_gives post1 e w1.gr)
/-- two -/
theorem go2 {f h : SE} {r : V → V → Hp → VK → Prop} {p : P2} (ok : Ok2 c r p) {σ : St} {H : Hp} {Q : VK} (q : tE c W (e2 p f h) σ H Q) : tX c W f σ H fun x H1 => tX c W h σ H1 fun y H2 => r x y H2 Q := by
  obtain ⟨P0, H0, P, ρ, g, ws, post⟩ := q
  refine bind_E ws post fun P1 H1 g1 v d _ x1 w1 r1 post1 => bind_E w1 post1 fun P2 H2 g2 v2 d2 _ x2 w2 r2 post2 => ?_
  obtain ⟨d', e⟩ := post_opt post2
  exact ok P2 H2 v v2 d d2 d' Q w2.sub (r1.next x2) r2 e (post_gives post2 e w2.gr)
theorem go3 {f h k : SE} {r : V → V → V → Hp → VK → Prop} {p : D → D → D → Option D} (ok : Ok3 c r p) {σ : St} {H : Hp} {Q : VK} (q : tE c W (e3 p f h k) σ H Q) :
    tX c W f σ H fun x H1 => tX c W h σ H1 fun y H2 => tX c W k σ H2 fun z H3 => r x y z H3 Q := by
  obtain ⟨P0, H0, P, ρ, g, ws, post⟩ := q
  refine bind_E ws post fun P1 H1 g1 v d _ x1 w1 r1 post1 => bind_E w1 post1 fun P2 H2 g2 v2 d2 _ x2 w2 r2 post2 => bind_E w2 post2 fun P3 H3 g3 v3 d3 _ x3 w3 r3 post3 => ?_
  obtain ⟨d', e⟩ := post_opt post3
  exact ok P3 H3 v v2 v3 d d2 d3 d' Q w3.sub ((r1.next x2).next x3) (r2.next x3) r3 e (post_gives post3 e w3.gr)

variable {e : Expr} {fa fb fd : SE}
/-- from the layer's readings to these -/
theorem v_op {r : V → V → Hp → VK → Prop} {p : P2} (ok : Ok2 c r p) (h : PE X e (tOp r (tX c W fa) (tX c W fb))) : PE X e (tE c W (e2 p fa fb)) := PE.by h fun _ _ _ q => go2 ok q
theorem v_un {r : V → Hp → VK → Prop} {p : P1} (ok : Ok1 c r p) (h : PE X e (tUn r (tX c W fa))) : PE X e (tE c W (e1 p fa)) := PE.by h fun _ _ _ q => go1 ok q
theorem v_b1 {r : List V → Hp → VK → Prop} {p : P1} (ok : Ok1 c (fun v => r [v]) p) (h : PE X e (tCB r (tCons (tX c W fa) tNil))) : PE X e (tE c W (e1 p fa)) := PE.by h fun _ _ _ q => go1 ok q
theorem v_b2 {r : List V → Hp → VK → Prop} {p : P2} (ok : Ok2 c (fun v u => r [v, u]) p) (h : PE X e (tCB r (tCons (tX c W fa) (tCons (tX c W fb) tNil)))) : PE X e (tE c W (e2 p fa fb)) := PE.by h fun _ _ _ q => go2 ok q
/-- a method of a built-in class: the object's kind is asked ahead of the arguments -/
def eM1 (kind : D → Bool) (p : P2) (a b : SE) : SE := fun ρ g => (a ρ g).bind fun x g1 => if kind x = true then (b ρ g1).bind fun y g2 => ofOpt (p x y) g2 else .fail
def KindOk (c : Gam) (T : String) (kind : D → Bool) : Prop := ∀ P H x dx, Same P H → RX c P H x dx → kind dx = true → tyV c.K T x H
theorem v_m0 {T : String} {K : PySem.W.Frag} {r : V → List V → Hp → VK → Prop} {p : P1} (hK : K = c.K) (ok : Ok1 c (fun v H Q => tyV c.K T v H ∧ r v [] H Q) p) (h : PE X e (tBM0 K T r (tX c W fa))) : PE X e (tE c W (e1 p fa)) := by
  subst hK
  exact PE.by h fun _ _ _ q => go1 ok q
theorem v_m1 {T : String} {K : PySem.W.Frag} {r : V → List V → Hp → VK → Prop} {kind : D → Bool} {p : P2} (hK : K = c.K) (kd : KindOk c T kind) (ok : Ok2 c (fun v u => r v [u]) p) (h : PE X e (tBM K T r (tX c W fa) (tCons (tX c W fb) tNil))) :
    PE X e (tE c W (eM1 kind p fa fb)) := by
  subst hK
  refine PE.by h fun σ H Q ⟨P0, H0, P, ρ, g, ws, post⟩ => ?_
  refine bind_E ws post fun P1 H1 g1 v d _ x1 w1 r1 post1 => ?_
  split at post1
  · rename_i hk
    refine ⟨kd P1 H1 v d w1.sub r1 hk, bind_E w1 post1 fun P2 H2 g2 v2 d2 _ x2 w2 r2 post2 => ?_⟩
    obtain ⟨d', e⟩ := post_opt post2
    exact ok P2 H2 v v2 d d2 d' Q w2.sub (r1.next x2) r2 e (post_gives post2 e w2.gr)
  · exact post1.elim

/-! ### tests -/
def toB (f : SE) : ST := fun ρ g => (f ρ g).bind fun d g1 => match d with
  | .bl b => .ok b g1
  | _ => .fail
theorem RX.bl {P H : Hp} {v : V} {b : Bool} (h : RX c P H v (.bl b)) : v = .bl b := by
  rcases h with h | ⟨_, _, _, _, h, _⟩ | ⟨_, _, _, _, h, _⟩
  · cases h; rfl
  · cases h
  · cases h
theorem go_B {f : SE} {σ : St} {H : Hp} {Q : Bool → Hp → Prop} (h : tT c W (toB f) σ H Q) : tB (tX c W f) σ H Q := by
  obtain ⟨P0, H0, P, ρ, g, ws, post⟩ := h
  refine bind_E ws post fun P1 H1 g1 v d _ x1 w1 r1 post1 => ?_
  split at post1
  · rename_i b _
    exact ⟨b, r1.bl, post1 P1 H1 (Ext.refl w1.sub) w1.gr⟩
  · exact post1.elim
theorem v_test {t : TE} (i : ∀ σ H Q, tX c W fa σ H Q → t σ H Q) (h : PT X e (tB t)) : PT X e (tT c W (toB fa)) := PT.by h fun σ H Q q => i σ H _ (go_B q)
/-- an expression as a test -/
theorem rt_val (h : PE X e (tX c W fa)) (he : ∀ whole, isTrue e X.env whole = (do let v ← whole; standAt e.pos; holding [v] (truthy v)) := by intro _; rfl) : PT X e (tT c W (toB fa)) := PT.by (pt_val h he) fun _ _ _ q => go_B q
theorem rt_cmp {op : CmpOp} {a b : Expr} {pos : Pos} {r : V → V → Hp → VK → Prop} {p : P2} (ok : Ok2 c r p) (ho : OpR X (compareOp op) r) (ha : PE X a (tX c W fa)) (hb : PE X b (tX c W fb)) (hm : behindInMarks op b = false := by first | exact nomark _ | rfl) :
    PT X (.Compare a [op] [b] pos) (tT c W (toB (e2 p fa fb))) := PT.by (pt_cmpR ho ha hb hm) fun σ H Q q => by
  have q1 : tX c W (e2 p fa fb) σ H _ := go_B q
  obtain ⟨P0, H0, P, ρ, g, ws, post⟩ := q1
  exact go2 ok ⟨P0, H0, P, ρ, g, ws, by
    cases hf : e2 p fa fb ρ g with
    | ok d g1 => rw [hf] at post; exact fun P' H' x gr v r => post P' H' x gr v (.of r)
    | ex x g1 => rw [hf] at post; exact post
    | fail => rw [hf] at post; exact post⟩
def tAndF (f h : ST) : ST := fun ρ g => (f ρ g).bind fun b g1 => if b = true then h ρ g1 else .ok false g1
def tOrF (f h : ST) : ST := fun ρ g => (f ρ g).bind fun b g1 => if b = true then .ok true g1 else h ρ g1
def tNotF (f : ST) : ST := fun ρ g => (f ρ g).bind fun b g1 => .ok (!b) g1
theorem go_and {f h : ST} {σ : St} {H : Hp} {Q : Bool → Hp → Prop} (q : tT c W (tAndF f h) σ H Q) : tAnd (tT c W f) (tT c W h) σ H Q := by
  obtain ⟨P0, H0, P, ρ, g, ws, post⟩ := q
  refine bind_T ws post fun P1 H1 g1 b _ x1 w1 post1 => ?_
  cases b with
  | true => exact ⟨P0, H0, P1, ρ, g1, w1, post1⟩
  | false => exact post1 P1 H1 (Ext.refl w1.sub) w1.gr
theorem go_or {f h : ST} {σ : St} {H : Hp} {Q : Bool → Hp → Prop} (q : tT c W (tOrF f h) σ H Q) : tOr (tT c W f) (tT c W h) σ H Q := by
  obtain ⟨P0, H0, P, ρ, g, ws, post⟩ := q
  refine bind_T ws post fun P1 H1 g1 b _ x1 w1 post1 => ?_
  cases b with
  | false => exact ⟨P0, H0, P1, ρ, g1, w1, post1⟩
  | true => exact post1 P1 H1 (Ext.refl w1.sub) w1.gr
theorem rt_and {a b : Expr} {rest : List Expr} {pos : Pos} {f h : ST} (ha : PT X a (tT c W f)) (hb : PW X (.BoolOp .And (b :: rest) pos) (tT c W h)) : PW X (.BoolOp .And (a :: b :: rest) pos) (tT c W (tAndF f h)) := PW.by (pw_and ha hb) fun _ _ _ q => go_and q
theorem rt_or {a b : Expr} {rest : List Expr} {pos : Pos} {f h : ST} (ha : PT X a (tT c W f)) (hb : PW X (.BoolOp .Or (b :: rest) pos) (tT c W h)) : PW X (.BoolOp .Or (a :: b :: rest) pos) (tT c W (tOrF f h)) := PW.by (pw_or ha hb) fun _ _ _ q => go_or q
theorem rt_not {a : Expr} {pos : Pos} {f : ST} (ha : PT X a (tT c W f)) : PT X (.UnaryOp .Not a pos) (tT c W (tNotF f)) := PT.by (pt_not ha) fun σ H Q ⟨P0, H0, P, ρ, g, ws, post⟩ =>
  bind_T ws post fun P1 H1 g1 b _ x1 w1 post1 => post1 P1 H1 (Ext.refl w1.sub) w1.gr
/-- and, or, not as values: the left one a bool -/
def eAnd (f h : SE) : SE := fun ρ g => (f ρ g).bind fun d g1 => match d with
  | .bl b => if b = true then h ρ g1 else .ok (.bl false) g1
  | _ => .fail
def eOr (f h : SE) : SE := fun ρ g => (f ρ g).bind fun d g1 => match d with
  | .bl b => if b = true then .ok (.bl true) g1 else h ρ g1
  | _ => .fail
def eNot (f : SE) : SE := fun ρ g => (f ρ g).bind fun d g1 => match d with
  | .bl b => .ok (.bl (!b)) g1
  | _ => .fail
theorem re_and {a b : Expr} {rest : List Expr} {pos : Pos} (ha : PE X a (tX c W fa)) (hb : PE X (.BoolOp .And (b :: rest) pos) (tE c W fb)) : PE X (.BoolOp .And (a :: b :: rest) pos) (tE c W (eAnd fa fb)) := PE.by (pe_and ha hb) fun σ H Q ⟨P0, H0, P, ρ, g, ws, post⟩ => by
  refine bind_E ws post fun P1 H1 g1 v d _ x1 w1 r1 post1 => ?_
  split at post1
  · rename_i b _
    refine ⟨b, r1.bl, ?_⟩
    cases b with
    | true => exact ⟨P0, H0, P1, ρ, g1, w1, post1⟩
    | false => exact post1 P1 H1 (Ext.refl w1.sub) w1.gr _ (.bl _)
  · exact post1.elim
theorem re_or {a b : Expr} {rest : List Expr} {pos : Pos} (ha : PE X a (tX c W fa)) (hb : PE X (.BoolOp .Or (b :: rest) pos) (tE c W fb)) : PE X (.BoolOp .Or (a :: b :: rest) pos) (tE c W (eOr fa fb)) := PE.by (pe_or ha hb) fun σ H Q ⟨P0, H0, P, ρ, g, ws, post⟩ => by
  refine bind_E ws post fun P1 H1 g1 v d _ x1 w1 r1 post1 => ?_
  split at post1
  · rename_i b _
    refine ⟨b, r1.bl, ?_⟩
    cases b with
    | false => exact ⟨P0, H0, P1, ρ, g1, w1, post1⟩
    | true => exact post1 P1 H1 (Ext.refl w1.sub) w1.gr _ (.bl _)
  · exact post1.elim
theorem re_not {a : Expr} {pos : Pos} (ha : PE X a (tX c W fa)) : PE X (.UnaryOp .Not a pos) (tE c W (eNot fa)) := PE.by (pe_not ha) fun σ H Q ⟨P0, H0, P, ρ, g, ws, post⟩ => by
  refine bind_E ws post fun P1 H1 g1 v d _ x1 w1 r1 post1 => ?_
  split at post1
  · rename_i b _
    exact ⟨b, r1.bl, post1 P1 H1 (Ext.refl w1.sub) w1.gr _ (.bl _)⟩
  · exact post1.elim
theorem re_one {op : BoolOp} {a : Expr} {pos : Pos} (h : PE X a (tE c W fa)) : PE X (.BoolOp op [a] pos) (tE c W fa) := pe_one h
def eIf (t : ST) (f h : SE) : SE := fun ρ g => (t ρ g).bind fun b g1 => if b = true then f ρ g1 else h ρ g1
theorem re_if {t a b : Expr} {pos : Pos} {f : ST} (ht : PT X t (tT c W f)) (ha : PE X a (tE c W fa)) (hb : PE X b (tE c W fb)) : PE X (.IfExp t a b pos) (tE c W (eIf f fa fb)) := PE.by (pe_ifExp ht ha hb) fun σ H Q ⟨P0, H0, P, ρ, g, ws, post⟩ => by
  refine bind_T ws post fun P1 H1 g1 b _ x1 w1 post1 => ?_
  cases b with
  | true => exact ⟨P0, H0, P1, ρ, g1, w1, post1⟩
  | false => exact ⟨P0, H0, P1, ρ, g1, w1, post1⟩

/-! ### argument lists, displays -/
def aNil : SA := fun _ g => .ok [] g
def aCons (f : SE) (h : SA) : SA := fun ρ g => (f ρ g).bind fun d g1 => (h ρ g1).bind fun ds g2 => .ok (d :: ds) g2
theorem ra_nil : PA X [] (tA c W aNil) := PA.by pa_nil fun σ H Q ⟨P0, H0, P, ρ, g, ws, post⟩ => post P H (Ext.refl ws.sub) ws.gr [] .nil
theorem ra_cons {e : Expr} {es : List Expr} {fs : SA} (ha : PE X e (tE c W fa)) (hr : PA X es (tA c W fs)) (hs : starEach (e :: es) X.env = (false, eval e X.env) :: starEach es X.env := by rfl) : PA X (e :: es) (tA c W (aCons fa fs)) := PA.by (pa_cons ha hr hs) fun σ H Q ⟨P0, H0, P, ρ, g, ws, post⟩ => by
  refine bind_E ws post fun P1 H1 g1 v d _ x1 w1 r1 post1 => bind_A w1 post1 fun P2 H2 g2 vs ds _ x2 w2 r2 post2 => ?_
  exact post2 P2 H2 (Ext.refl w2.sub) w2.gr _ (.cons (R.mono x2.pub r1) r2)
def eTup (f : SA) : SE := fun ρ g => (f ρ g).bind fun ds g1 => if ds.length ≤ 1000 then .ok (.tup ds) g1 else .fail
def eLst (f : SA) : SE := fun ρ g => (f ρ g).bind fun ds g1 => if ds.length ≤ 1000 then .ok (.lst ds) g1 else .fail
theorem le_line {n : Nat} (h : n ≤ 1000) : n ≤ sizeLine := by
  rw [sizeLine_eq]
  omega
theorem re_tup {es : List Expr} {fs : SA} {k : Nat} {pos : Pos} (h : PA X es (tA c W fs)) : PE X (.Tuple es k pos) (tE c W (eTup fs)) := PE.by (pe_tupF h) fun σ H Q ⟨P0, H0, P, ρ, g, ws, post⟩ => by
  refine bind_A ws post fun P1 H1 g1 vs ds _ x1 w1 r1 post1 => ?_
  split at post1
  · rename_i hl
    refine ⟨by rw [r1.length]; exact le_line hl, fun p o hp ho => ?_⟩
    have x := ExtP.laid (o := .frz o (.tup vs)) w1.sub hp
    exact post1 _ _ x.ext (w1.gr.same x.all) _ (.tup (.upd ho) (r1.mono x.pub))
  · exact post1.elim
theorem re_lst {es : List Expr} {fs : SA} {pos : Pos} (h : PA X es (tA c W fs)) : PE X (.List es pos) (tE c W (eLst fs)) := PE.by (pe_lst h) fun σ H Q ⟨P0, H0, P, ρ, g, ws, post⟩ => by
  refine bind_A ws post fun P1 H1 g1 vs ds _ x1 w1 r1 post1 => ?_
  split at post1
  · rename_i hl
    refine ⟨by rw [r1.length]; exact le_line hl, fun p hp => ?_⟩
    have x := ExtP.laid (o := .lst vs) w1.sub hp
    exact post1 _ _ x.ext (w1.gr.same x.all) _ (.lst upd_same (r1.mono x.pub))
  · exact post1.elim

/-! ### calls of defs -/
/-- a def's worth, by its arguments -/
abbrev Fn := List D → G → Res D
/-- the world is one that a def may be called in -/
structure Wd (c : Gam) (P : Hp) (g : G) (H : Hp) : Prop where
  sub : Same P H
  gr : GR c g H
  ps : P c.sa = none
  pl : P c.la = none
  pc : P c.ca = none
theorem none_of_ext {P0 H0 P H : Hp} {a : Addr} (x : Ext c P0 H0 P H) (h : P0 a = none) (n : H0 a ≠ none) : P a = none := by
  cases q : P a with
  | none => rfl
  | some o =>
    rcases x.new a (by rw [q]; exact fun z => nomatch z) with z | z
    · exact absurd h z
    · exact absurd z n
theorem WS.wd {P0 H0 P H : Hp} {ρ : Rho} {g : G} {σ : St} (w : WS c P0 H0 P ρ g σ H) : Wd c P g H :=
  ⟨w.sub, w.gr, none_of_ext w.ext w.ps w.hs, none_of_ext w.ext w.pl w.hl, none_of_ext w.ext w.pc w.hc⟩
def PostF (c : Gam) (P H : Hp) (Q : VK) (E : XK) : Res D → Prop
  | .ok d g => ∀ P' H' v, Ext c P H P' H' → GR c g H' → R c P' v d → Q v H'
  | .ex x g => ∀ P' H' cls dd, Ext c P H P' H' → GR c g H' → XR c P' H' cls dd x → E cls dd H'
  | .fail => False
/-- the promise of a def of n parameters that is worth F -/
def spF (c : Gam) (n : Nat) (F : Fn) : Sp := fun vs H Q E => ∃ P ds g, Wd c P g H ∧ RAll c P vs ds ∧ ds.length = n ∧ PostF c P H Q E (F ds g)
def eCall (n : Nat) (F : Fn) (fs : SA) : SE := fun ρ g => (fs ρ g).bind fun ds g1 => if ds.length = n then F ds g1 else .fail
theorem v_call {n : Nat} {F : Fn} {fs : SA} (h : PE X e (tCallS (spF c n F) (WE W) (tA c W fs))) : PE X e (tE c W (eCall n F fs)) := PE.by h fun σ H Q ⟨P0, H0, P, ρ, g, ws, post⟩ => by
  refine bind_A ws post fun P1 H1 g1 vs ds _ x1 w1 r1 post1 => ?_
  split at post1
  · rename_i hl
    refine ⟨P1, ds, g1, w1.wd, r1, hl, ?_⟩
    cases hF : F ds g1 with
    | ok d g2 => rw [hF] at post1; exact fun P' H' v x gr r => post1 P' H' x gr v r
    | ex x g2 => rw [hF] at post1; exact post1
    | fail => rw [hF] at post1; exact post1
  · exact post1.elim
end
end CP

/-! CPStmt: slices, chains, statements, loops, comprehensions by total functions over plain data. -/
namespace CP
open PySem PySem.Spec L2
open PyProof.Rows hiding St

section
variable {X : Cx} {c : Gam} {W : WX}
/-! ### slices, chains -/
abbrev SO := Rho → G → Res (Option Int)
def tO (c : Gam) (W : WX) (f : SO) : TO := fun σ H Q => ∃ P0 H0 P ρ g, WS c P0 H0 P ρ g σ H ∧ Post c W σ (fun _ H' o => Q o H') P H (f ρ g)
theorem PO.by {e : Option Expr} {t t' : TO} (h : PO X e t) (i : ∀ σ H Q, t' σ H Q → t σ H Q) : PO X e t' := ⟨fun pins s σ H Q I q => h.run pins s σ H Q I (i σ H Q q)⟩
def oNone : SO := fun _ g => .ok none g
def oSome (f : SE) : SO := fun ρ g => (f ρ g).bind fun d g1 => match d with
  | .int i => .ok (some i) g1
  | _ => .fail
theorem RX.int {P H : Hp} {v : V} {b : Int} (h : RX c P H v (.int b)) : v = .int b := by
  rcases h with h | ⟨_, _, _, _, h, _⟩ | ⟨_, _, _, _, h, _⟩
  · cases h; rfl
  · cases h
  · cases h
theorem ro_none : PO X none (tO c W oNone) := PO.by po_none fun σ H Q ⟨P0, H0, P, ρ, g, ws, post⟩ => post P H (Ext.refl ws.sub) ws.gr
theorem ro_some {e : Expr} {f : SE} (h : PE X e (tX c W f)) : PO X (some e) (tO c W (oSome f)) := PO.by (po_some h) fun σ H Q ⟨P0, H0, P, ρ, g, ws, post⟩ => by
  refine bind_E ws post fun P1 H1 g1 v d _ x1 w1 r1 post1 => ?_
  cases d with
  | int i => exact ⟨i, r1.int, post1 P1 H1 (Ext.refl w1.sub) w1.gr⟩
  | _ => exact post1.elim
abbrev PSl := D → Option Int → Option Int → Option D
def eSl (p : PSl) (f : SE) (lo hi : SO) : SE := fun ρ g => (f ρ g).bind fun x g1 => (lo ρ g1).bind fun l g2 => (hi ρ g2).bind fun u g3 => ofOpt (p x l u) g3
def OkSl (c : Gam) (r : V → Option Int → Option Int → Hp → VK → Prop) (p : PSl) : Prop := ∀ P H x dx l u d Q, Same P H → RX c P H x dx → p dx l u = some d → Gives c P H d Q → r x l u H Q
theorem bind_O {P0 H0 P H : Hp} {ρ : Rho} {g : G} {σ : St} {β : Type} {k : Hp → Hp → β → Prop} {f : SO} {n : Option Int → G → Res β} {Q' : Option Int → Hp → Prop} (ws : WS c P0 H0 P ρ g σ H) (post : Post c W σ k P H ((f ρ g).bind n))
    (step : ∀ P1 H1 g1 b, Ext c P H P1 H1 → WS c P0 H0 P1 ρ g1 σ H1 → Post c W σ k P1 H1 (n b g1) → Q' b H1) : tO c W f σ H Q' := by
  refine ⟨P0, H0, P, ρ, g, ws, ?_⟩
  cases hf : f ρ g with
  | ok d g1 =>
    rw [hf] at post
    exact fun P1 H1 e gr => step P1 H1 g1 d e (ws.next e gr) (Post.next (r := n d g1) post e)
  | ex x g1 => rw [hf] at post; exact post
  | fail => rw [hf] at post; exact post
theorem v_sl {e : Expr} {f : SE} {lo hi : SO} {r : V → Option Int → Option Int → Hp → VK → Prop} {p : PSl} (ok : OkSl c r p) (h : PE X e (tSl r (tX c W f) (tO c W lo) (tO c W hi))) : PE X e (tE c W (eSl p f lo hi)) := PE.by h fun σ H Q ⟨P0, H0, P, ρ, g, ws, post⟩ => by
  refine bind_E ws post fun P1 H1 g1 v d _ x1 w1 r1 post1 => bind_O w1 post1 fun P2 H2 g2 l x2 w2 post2 => bind_O w2 post2 fun P3 H3 g3 u x3 w3 post3 => ?_
  obtain ⟨d', e⟩ := post_opt post3
  exact ok P3 H3 v d l u d' Q w3.sub ((r1.next x2).next x3) e (post_gives post3 e w3.gr)
def eChain (p q : P2) (a b z : SE) : SE := fun ρ g => (a ρ g).bind fun x g1 => (b ρ g1).bind fun y g2 => match p x y with
  | some (.bl k) => if k = true then (z ρ g2).bind fun w g3 => ofOpt (q y w) g3 else .ok (.bl false) g2
  | _ => .fail
theorem v_chain {e : Expr} {fa fb fz : SE} {r r' : R2} {p q : P2} (ok : Ok2 c r p) (ok' : Ok2 c r' q) (h : PE X e (tChain r r' (tX c W fa) (tX c W fb) (tX c W fz))) : PE X e (tE c W (eChain p q fa fb fz)) := PE.by h fun σ H Q ⟨P0, H0, P, ρ, g, ws, post⟩ => by
  refine bind_E ws post fun P1 H1 g1 v d _ x1 w1 r1 post1 => bind_E w1 post1 fun P2 H2 g2 v2 d2 _ x2 w2 r2 post2 => ?_
  split at post2
  · rename_i k e
    refine ok P2 H2 v v2 d d2 _ _ w2.sub (r1.next x2) r2 e fun P3 H3 z x3 rz => ?_
    cases rz
    have w3 := w2.nextP x3
    refine ⟨k, rfl, ?_⟩
    have post3 := Post.next post2 (x3.ext (c := c))
    cases k with
    | true =>
      refine bind_E w3 post3 fun P4 H4 g4 v4 d4 _ x4 w4 r4 post4 => ?_
      obtain ⟨d', e⟩ := post_opt post4
      exact ok' P4 H4 v2 v4 d2 d4 d' Q w4.sub ((r2.next x3.ext).next x4) r4 e (post_gives post4 e w4.gr)
    | false => exact post3 P3 H3 (Ext.refl w3.sub) w3.gr _ (.bl _)
  · exact post2.elim

/-! ### slots stored -/
theorem ownAt_set {ρ : Rho} {i j : Nat} {d : D} (h : ownAt (ρ.set i (some (.sh d))) j) : ownAt ρ j ∧ j ≠ i := by
  obtain ⟨s, e, o⟩ := h
  by_cases hj : j = i
  · subst hj
    by_cases hl : j < ρ.length
    · rw [List.getElem?_set_self hl] at e
      cases e; cases o
    · rw [List.getElem?_eq_none (by simpa using hl)] at e; cases e
  · rw [List.getElem?_set_ne (Ne.symm hj)] at e
    exact ⟨⟨s, e, o⟩, hj⟩
theorem WS.set {P0 H0 P H : Hp} {ρ : Rho} {g : G} {σ : St} {i : Nat} {v : V} {d : D} (w : WS c P0 H0 P ρ g σ H) (r : R c P v d) : WS c P0 H0 P (ρ.set i (some (.sh d))) g (σ.set i (some v)) H where
  len := by rw [List.length_set, List.length_set]; exact w.len
  ext := w.ext
  gr := w.gr
  hs := w.hs
  hl := w.hl
  hc := w.hc
  ps := w.ps
  pl := w.pl
  pc := w.pc
  env := fun j s e => by
    by_cases hj : j = i
    · subst hj
      by_cases hl : j < ρ.length
      · rw [List.getElem?_set_self hl] at e
        cases e
        exact ⟨v, List.getElem?_set_self (by rw [← w.len]; exact hl), r⟩
      · rw [List.getElem?_eq_none (by simpa using hl)] at e; cases e
    · rw [List.getElem?_set_ne (Ne.symm hj)] at e ⊢
      exact w.env j s e
  dis := fun j k a n h1 h2 e1 e2 => by
    obtain ⟨h1, n1⟩ := ownAt_set h1
    obtain ⟨h2, n2⟩ := ownAt_set h2
    rw [List.getElem?_set_ne (Ne.symm n1)] at e1
    rw [List.getElem?_set_ne (Ne.symm n2)] at e2
    exact w.dis j k a n h1 h2 e1 e2
/-- a slot that nothing is known of any more -/
theorem WS.drop {P0 H0 P H : Hp} {ρ : Rho} {g : G} {σ : St} {i : Nat} {x : Option V} (w : WS c P0 H0 P ρ g σ H) : WS c P0 H0 P (ρ.set i none) g (σ.set i x) H where
  len := by rw [List.length_set, List.length_set]; exact w.len
  ext := w.ext
  gr := w.gr
  hs := w.hs
  hl := w.hl
  hc := w.hc
  ps := w.ps
  pl := w.pl
  pc := w.pc
  env := fun j s e => by
    by_cases hj : j = i
    · subst hj
      by_cases hl : j < ρ.length
      · rw [List.getElem?_set_self hl] at e; cases e
      · rw [List.getElem?_eq_none (by simpa using hl)] at e; cases e
    · rw [List.getElem?_set_ne (Ne.symm hj)] at e ⊢
      exact w.env j s e
  dis := fun j k a n h1 h2 e1 e2 => by
    have lem : ∀ j, ownAt (ρ.set i none) j → ownAt ρ j ∧ j ≠ i := fun j h => by
      obtain ⟨s, e, o⟩ := h
      by_cases hj : j = i
      · subst hj
        by_cases hl : j < ρ.length
        · rw [List.getElem?_set_self hl] at e; cases e
        · rw [List.getElem?_eq_none (by simpa using hl)] at e; cases e
      · rw [List.getElem?_set_ne (Ne.symm hj)] at e
        exact ⟨⟨s, e, o⟩, hj⟩
    obtain ⟨h1, n1⟩ := lem j h1
    obtain ⟨h2, n2⟩ := lem k h2
    rw [List.getElem?_set_ne (Ne.symm n1)] at e1
    rw [List.getElem?_set_ne (Ne.symm n2)] at e2
    exact w.dis j k a n h1 h2 e1 e2

/-! ### targets: sl, the slots that they store -/
theorem wipe_get {σ : St} {i : Nat} : ∀ {vs : List Nat}, i ∈ vs → i < σ.length → (wipe σ vs)[i]? = some none
  | v :: vs, h, hl => by
    unfold wipe
    by_cases e : i = v
    · subst e
      rw [List.getElem?_set_self (by rw [wipe_length]; exact hl)]
    · rw [List.getElem?_set_ne (Ne.symm e)]
      exact wipe_get ((List.mem_cons.mp h).resolve_left e) hl
theorem wipe_set {σ : St} {i : Nat} {x : Option V} {vs : List Nat} (h : i ∈ vs) : wipe (σ.set i x) vs = wipe σ vs := by
  refine List.ext_getElem? fun j => ?_
  by_cases hl : j < σ.length
  · by_cases hj : j ∈ vs
    · rw [wipe_get hj (by rw [List.length_set]; exact hl), wipe_get hj hl]
    · rw [wipe_out hj, wipe_out hj, List.getElem?_set_ne (fun (e : i = j) => hj (e ▸ h))]
  · rw [List.getElem?_eq_none (by rw [wipe_length, List.length_set]; omega), List.getElem?_eq_none (by rw [wipe_length]; omega)]
def Within (sl : List Nat) (σ σ' : St) : Prop := ∀ vs : List Nat, (∀ i ∈ sl, i ∈ vs) → wipe σ' vs = wipe σ vs
abbrev Pt := D → Rho → Option Rho
def tP (c : Gam) (b : Bool) (sl : List Nat) (p : Pt) : TG := fun v σ H Q => ∃ P0 H0 P ρ g d ρ', WS c P0 H0 P ρ g σ H ∧ RB c b P v d ∧ p d ρ = some ρ' ∧ ∀ σ', WS c P0 H0 P ρ' g σ' H → Within sl σ σ' → Q σ' H
abbrev Pts := List D → Rho → Option Rho
def tPs (c : Gam) (sl : List Nat) (p : Pts) : TGs := fun vs σ H Q => ∃ P0 H0 P ρ g ds ρ', WS c P0 H0 P ρ g σ H ∧ RAll c P vs ds ∧ p ds ρ = some ρ' ∧ ∀ σ', WS c P0 H0 P ρ' g σ' H → Within sl σ σ' → Q σ' H
theorem PG.by {e : Expr} {t t' : TG} (h : PG X e t) (i : ∀ v σ H Q, t' v σ H Q → t v σ H Q) : PG X e t' := ⟨fun pins s σ H v u Q I r q => h.run pins s σ H v u Q I r (i v σ H Q q)⟩
theorem PGs.by {e : List Expr} {t t' : TGs} (h : PGs X e t) (i : ∀ v σ H Q, t' v σ H Q → t v σ H Q) : PGs X e t' := ⟨fun pins s σ H v u Q I r q => h.run pins s σ H v u Q I r (i v σ H Q q)⟩
def pName (i : Nat) : Pt := fun d ρ => some (ρ.set i (some (.sh d)))
def pNil : Pts := fun ds ρ => match ds with
  | [] => some ρ
  | _ => none
def pCons (p : Pt) (q : Pts) : Pts := fun ds ρ => match ds with
  | d :: ds => (p d ρ).bind (q ds)
  | [] => none
def pTup (n : Nat) (p : Pts) : Pt := fun d ρ => match d with
  | .tup ds => if ds.length = n then p ds ρ else none
  | _ => none
theorem v_gname {e : Expr} {i : Nat} (h : PG X e (gName i)) : PG X e (tP c false [i] (pName i)) := PG.by h fun v σ H Q ⟨P0, H0, P, ρ, g, d, ρ', ws, r, e, q⟩ => by
  cases e
  exact q _ (ws.set r) fun vs hv => wipe_set (hv i List.mem_cons_self)
theorem v_gnil {e : List Expr} (h : PGs X e gNil) : PGs X e (tPs c [] pNil) := PGs.by h fun v σ H Q ⟨P0, H0, P, ρ, g, ds, ρ', ws, r, e, q⟩ => by
  cases r with
  | nil => cases e; exact ⟨rfl, q _ ws fun _ _ => rfl⟩
  | cons _ _ => cases e
theorem v_gcons {e : List Expr} {p : Pt} {ps : Pts} {s1 s2 : List Nat} (h : PGs X e (gCons (tP c false s1 p) (tPs c s2 ps))) : PGs X e (tPs c (s1 ++ s2) (pCons p ps)) := PGs.by h fun v σ H Q ⟨P0, H0, P, ρ, g, ds, ρ', ws, r, e, q⟩ => by
  cases r with
  | nil => cases e
  | @cons v1 d1 vs ds r1 rs =>
    have e' : (p d1 ρ).bind (ps ds) = some ρ' := e
    cases hp : p d1 ρ with
    | none => rw [hp] at e'; cases e'
    | some ρ1 =>
      rw [hp] at e'
      exact ⟨v1, vs, rfl, P0, H0, P, ρ, g, d1, ρ1, ws, r1, hp, fun σ1 w1 i1 => ⟨P0, H0, P, ρ1, g, ds, ρ', w1, rs, e', fun σ2 w2 i2 => q σ2 w2 fun vs hv =>
        (i2 vs fun i hi => hv i (List.mem_append_right _ hi)).trans (i1 vs fun i hi => hv i (List.mem_append_left _ hi))⟩⟩
theorem v_gtup {e : Expr} {n : Nat} {ps : Pts} {sl : List Nat} {K : PySem.W.Frag} {b : Bool} (hK : K = c.K) (h : PG X e (gTup K n (tPs c sl ps))) : PG X e (tP c b sl (pTup n ps)) := by
  subst hK
  refine PG.by h fun v σ H Q ⟨P0, H0, P, ρ, g, d, ρ', ws, r, e, q⟩ => ?_
  cases d with
  | tup ds =>
    obtain ⟨a, vs, rfl, hq, rs⟩ := r.tup
    have e' : (if ds.length = n then ps ds ρ else none) = some ρ' := e
    split at e'
    · rename_i hl
      exact ⟨a, vs, rfl, sqT_mono ws.sub hq, by rw [rs.length]; exact hl, P0, H0, P, ρ, g, ds, ρ', ws, rs, e', q⟩
    · cases e'
  | _ => cases e

/-! ### statements -/
variable {s : Stmt} {ss : List Stmt}
def sNext : SS := fun ρ g => .nx ρ g
def sSeq (f h : SS) : SS := fun ρ g => match f ρ g with
  | .nx ρ1 g1 => h ρ1 g1
  | r => r
theorem rs_nil : PSs X [] (tS c W sNext) := PSs.by pss_nil fun D σ H ⟨P0, H0, P, ρ, g, ws, post⟩ => post P σ H ws
theorem rs_cons {f h : SS} (h1 : PS X s (tS c W f)) (h2 : PSs X ss (tS c W h)) : PSs X (s :: ss) (tS c W (sSeq f h)) := PSs.by (pss_cons h1 h2) fun D σ H ⟨P0, H0, P, ρ, g, ws, post⟩ => by
  refine ⟨P0, H0, P, ρ, g, ws, ?_⟩
  unfold sSeq at post
  cases hf : f ρ g with
  | nx ρ1 g1 => rw [hf] at post; exact fun P' σ' H' w => ⟨P0, H0, P', ρ1, g1, w, post⟩
  | bk ρ1 g1 => rw [hf] at post; exact post
  | ct ρ1 g1 => rw [hf] at post; exact post
  | rt d g1 => rw [hf] at post; exact post
  | ex ρ1 x g1 => rw [hf] at post; exact post
  | fail => rw [hf] at post; exact post
theorem rs_one {f : SS} (h1 : PS X s (tS c W f)) : PSs X [s] (tS c W f) := pss_one h1
theorem rs_pass {pos : Pos} : PS X (.Pass pos) (tS c W sNext) := PS.by ps_pass fun D σ H ⟨P0, H0, P, ρ, g, ws, post⟩ => post P σ H ws
def sBreak : SS := fun ρ g => .bk ρ g
def sCont : SS := fun ρ g => .ct ρ g
def sFail : SS := fun _ _ => .fail
theorem rs_break {pos : Pos} : PS X (.Break pos) (tS c W sBreak) := PS.by ps_break fun D σ H ⟨P0, H0, P, ρ, g, ws, post⟩ => post P σ H ws
theorem rs_cont {pos : Pos} : PS X (.Continue pos) (tS c W sCont) := PS.by ps_continue fun D σ H ⟨P0, H0, P, ρ, g, ws, post⟩ => post P σ H ws
theorem rs_never : PS X s (tS c W sFail) := PS.by ps_never fun D σ H ⟨P0, H0, P, ρ, g, ws, post⟩ => post
def sRet (f : SE) : SS := fun ρ g => toFl ρ (f ρ g) fun d g1 => .rt d g1
theorem rs_ret {f : SE} (h : PS X s (tRet (tE c W f))) : PS X s (tS c W (sRet f)) := PS.by h fun D σ H ⟨P0, H0, P, ρ, g, ws, post⟩ =>
  bindS_E ws post fun P1 H1 g1 v d _ x1 w1 r1 post1 => post1 P1 H1 v w1.ext w1.gr r1
def sRetN : SS := fun _ g => .rt .non g
theorem rs_retN (h : PS X s tRetN) : PS X s (tS c W sRetN) := PS.by h fun D σ H ⟨P0, H0, P, ρ, g, ws, post⟩ => post P H .non ws.ext ws.gr .non
/-- return of the def's own list or dict: it is shared from now on -/
theorem Ext.publish {P0 H0 P H : Hp} {a : Addr} {o : HO} (x : Ext c P0 H0 P H) (h : H a = some o) (n0 : H0 a = none) : Ext c P0 H0 (upd P a o) H where
  pub := fun b u e => by
    by_cases hb : b = a
    · subst hb
      have := x.sub b u (x.pub b u e)
      rw [h] at this
      rw [upd_same]; exact this
    · rw [upd_ne hb]; exact x.pub b u e
  sub := fun b u e => by
    by_cases hb : b = a
    · subst hb
      rw [upd_same] at e
      rw [h]; exact e
    · rw [upd_ne hb] at e; exact x.sub b u e
  keep := x.keep
  there := x.there
  new := fun b e => by
    by_cases hb : b = a
    · subst hb; exact .inr n0
    · rw [upd_ne hb] at e; exact x.new b e
def sRetOwn (i : Nat) : SS := fun ρ g => match ρ[i]? with
  | some (some (.ow xs)) => .rt (.lst xs) g
  | some (some (.od kvs)) => .rt (.dic kvs) g
  | some (some (.sh d)) => .rt d g
  | _ => .fail
theorem same_pub {P : Hp} {a : Addr} {o : HO} (h : P a = none) : Same P (upd P a o) := same_upd h
theorem rs_retOwn {i : Nat} (h : PS X s (tRet (tVar i))) : PS X s (tS c W (sRetOwn i)) := PS.by h fun D σ H ⟨P0, H0, P, ρ, g, ws, post⟩ => by
  unfold sRetOwn at post
  split at post
  · rename_i xs e
    obtain ⟨v, e1, a, vs, e2, h1, h2, h3, h4⟩ := ws.env i _ e
    subst e2
    exact ⟨_, e1, post (upd P a (.lst vs)) H _ (ws.ext.publish h1 h4) ws.gr (.lst upd_same (h2.mono (same_upd h3)))⟩
  · rename_i xs e
    obtain ⟨v, e1, a, vs, e2, h1, h2, h3, h4⟩ := ws.env i _ e
    subst e2
    exact ⟨_, e1, post (upd P a (.dK vs)) H _ (ws.ext.publish h1 h4) ws.gr (.dic upd_same (h2.mono (same_upd h3)))⟩
  · rename_i d e
    obtain ⟨v, e1, r⟩ := ws.env i _ e
    exact ⟨_, e1, post P H _ ws.ext ws.gr r⟩
  · exact post.elim
def sExpr (f : SE) : SS := fun ρ g => toFl ρ (f ρ g) fun _ g1 => .nx ρ g1
theorem rs_expr {f : SE} {rel : Rel} (h : PS X s (tDrop (tG c W rel f))) : PS X s (tS c W (sExpr f)) := PS.by h fun D σ H ⟨P0, H0, P, ρ, g, ws, post⟩ =>
  bindS_E ws post fun P1 H1 g1 v d _ x1 w1 r1 post1 => post1 P1 σ H1 w1
theorem rs_doc {x : Str} {j : Nat} {pos pos' : Pos} : PS X (.Expr (.Constant (.str x) j pos) pos') (tS c W sNext) := PS.by ps_doc fun D σ H ⟨P0, H0, P, ρ, g, ws, post⟩ => post P σ H ws
def sIf (t : ST) (f h : SS) : SS := fun ρ g => toFl ρ (t ρ g) fun b g1 => if b = true then f ρ g1 else h ρ g1
theorem rs_if {t : ST} {f h : SS} (q : PS X s (tIfS (tT c W t) (tS c W f) (tS c W h))) : PS X s (tS c W (sIf t f h)) := PS.by q fun D σ H ⟨P0, H0, P, ρ, g, ws, post⟩ => by
  refine bindS_T ws post fun P1 H1 g1 b _ x1 w1 post1 => ?_
  cases b with
  | true => exact ⟨P0, H0, P1, ρ, g1, w1, post1⟩
  | false => exact ⟨P0, H0, P1, ρ, g1, w1, post1⟩
def sAsg (p : Pt) (f : SE) : SS := fun ρ g => toFl ρ (f ρ g) fun d g1 => match p d ρ with
  | some ρ' => .nx ρ' g1
  | none => .fail
theorem rs_asg {p : Pt} {f : SE} {sl : List Nat} (h : PS X s (tAsg (tE c W f) (tP c false sl p))) : PS X s (tS c W (sAsg p f)) := PS.by h fun D σ H ⟨P0, H0, P, ρ, g, ws, post⟩ => by
  refine bindS_E ws post fun P1 H1 g1 v d _ x1 w1 r1 post1 => ?_
  split at post1
  · rename_i ρ' e
    exact ⟨P0, H0, P1, ρ, g1, d, ρ', w1, r1, e, fun σ' w _ => post1 P1 σ' H1 w⟩
  · exact post1.elim
end
end CP

/-! CPLoop: for, while, comprehensions, lists of the def's own, the def's promise. -/
namespace CP
open PySem PySem.Spec L2
open PyProof.Rows hiding St

section
variable {X : Cx} {c : Gam} {W : WX}
/-! ### another base -/
theorem Ext.rebase {P0 H0 P1 H1 P H : Hp} (x : Ext c P0 H0 P1 H1) (y : Ext c P0 H0 P H) (s : Same P1 P) : Ext c P1 H0 P H :=
  ⟨s, y.sub, y.keep, y.there, fun a h => by
    rcases y.new a h with z | z
    · exact .inl (some_of_same x.pub z)
    · exact .inr z⟩
theorem Ext.back {P0 H0 P1 H1 P H : Hp} (x : Ext c P0 H0 P1 H1) (y : Ext c P1 H0 P H) : Ext c P0 H0 P H :=
  ⟨x.pub.trans y.pub, y.sub, y.keep, y.there, fun a h => by
    rcases y.new a h with z | z
    · exact x.new a z
    · exact .inr z⟩
theorem WS.rebase {P0 H0 P1 H1 P H : Hp} {ρ : Rho} {g : G} {σ : St} (x : Ext c P0 H0 P1 H1) (w : WS c P0 H0 P ρ g σ H) (s : Same P1 P) : WS c P1 H0 P ρ g σ H :=
  ⟨w.len, x.rebase w.ext s, w.gr, w.hs, w.hl, w.hc, none_of_ext x w.ps w.hs, none_of_ext x w.pl w.hl, none_of_ext x w.pc w.hc, w.env, w.dis⟩
theorem WS.back {P0 H0 P1 H1 P H : Hp} {ρ : Rho} {g : G} {σ : St} (x : Ext c P0 H0 P1 H1) (n : P0 c.sa = none ∧ P0 c.la = none ∧ P0 c.ca = none) (w : WS c P1 H0 P ρ g σ H) : WS c P0 H0 P ρ g σ H :=
  ⟨w.len, x.back w.ext, w.gr, w.hs, w.hl, w.hc, n.1, n.2.1, n.2.2, w.env, w.dis⟩

/-! ### what is walked -/
def ItD (c : Gam) (b : Bool) (P : Hp) (J : It) (ds : List D) : Prop := ∃ Y : Nat → Hp → V → Hp → Prop, Walk J ds.length (fun H => Same P H) Y ∧
  ∀ (i : Nat) (H : Hp) (x : V) (H' : Hp) (d : D), ds[i]? = some d → Y i H x H' → ∀ P1, Same P P1 → Same P1 H → ∃ P2, ExtP P1 H P2 H' ∧ RB c b P2 x d
def tI (c : Gam) (W : WX) (b : Bool) (f : SA) : TI := fun σ H R => ∃ P0 H0 P ρ g, WS c P0 H0 P ρ g σ H ∧ Post c W σ (fun P' H' ds => ∀ J, ItD c b P' J ds → R J H') P H (f ρ g)
theorem bindS_I {P0 H0 P H : Hp} {ρ : Rho} {g : G} {σ : St} {D : Ends} {b : Bool} {f : SA} {n : List CP.D → G → Fl} {Q' : It → Hp → Prop} (ws : WS c P0 H0 P ρ g σ H) (post : PostS c W P0 H0 D (toFl ρ (f ρ g) n))
    (step : ∀ P1 H1 g1 J ds, Ext c P H P1 H1 → WS c P0 H0 P1 ρ g1 σ H1 → ItD c b P1 J ds → PostS c W P0 H0 D (n ds g1) → Q' J H1) : tI c W b f σ H Q' := by
  refine ⟨P0, H0, P, ρ, g, ws, ?_⟩
  cases hf : f ρ g with
  | ok d g1 =>
    rw [hf] at post
    exact fun P1 H1 e gr J r => step P1 H1 g1 J d e (ws.next e gr) r post
  | ex x g1 => rw [hf] at post; exact fun P1 H1 cls dd e gr xr => post P1 σ H1 cls dd (ws.next e gr) xr
  | fail => rw [hf] at post; exact post
theorem bind_I {P0 H0 P H : Hp} {ρ : Rho} {g : G} {σ : St} {β : Type} {k : Hp → Hp → β → Prop} {b : Bool} {f : SA} {n : List D → G → Res β} {Q' : It → Hp → Prop} (ws : WS c P0 H0 P ρ g σ H) (post : Post c W σ k P H ((f ρ g).bind n))
    (step : ∀ P1 H1 g1 J ds, Ext c P H P1 H1 → WS c P0 H0 P1 ρ g1 σ H1 → ItD c b P1 J ds → Post c W σ k P1 H1 (n ds g1) → Q' J H1) : tI c W b f σ H Q' := by
  refine ⟨P0, H0, P, ρ, g, ws, ?_⟩
  cases hf : f ρ g with
  | ok d g1 =>
    rw [hf] at post
    exact fun P1 H1 e gr J r => step P1 H1 g1 J d e (ws.next e gr) r (Post.next (r := n d g1) post e)
  | ex x g1 => rw [hf] at post; exact post
  | fail => rw [hf] at post; exact post

/-! ### for -/
def forL (p : Pt) (b : SS) : List D → Rho → G → Fl
  | [], ρ, g => .nx ρ g
  | d :: ds, ρ, g => match p d ρ with
    | none => .fail
    | some ρ1 => match b ρ1 g with
      | .nx ρ2 g2 => forL p b ds ρ2 g2
      | .ct ρ2 g2 => forL p b ds ρ2 g2
      | .bk ρ2 g2 => .nx ρ2 g2
      | .rt d g2 => .rt d g2
      | .ex ρ2 x g2 => .ex ρ2 x g2
      | .fail => .fail
def sFor (f : SA) (p : Pt) (b : SS) : SS := fun ρ g => toFl ρ (f ρ g) fun ds g1 => forL p b ds ρ g1
theorem rs_for {s : Stmt} {lo : Bool} {f : SA} {sl : List Nat} {p : Pt} {b : SS} (h : PS X s (tFor (tI c W lo f) (tP c lo sl p) (tS c W b))) : PS X s (tS c W (sFor f p b)) := PS.by h fun D σ H ⟨P0, H0, P, ρ, g, ws, post⟩ => by
  refine bindS_I ws post fun P1 H1 g1 J ds x1 w1 it post1 => ?_
  obtain ⟨Y, wk, yl⟩ := it
  have n0 := And.intro w1.ps (And.intro w1.pl w1.pc)
  refine for_it wk (fun i σ H => ∃ P ρ g, WS c P0 H0 P ρ g σ H ∧ Same P1 P ∧ PostS c W P0 H0 D (forL p b (ds.drop i) ρ g)) ⟨P1, ρ, g1, w1, Same.refl _, by simpa using post1⟩ (fun i σ H _ ⟨P, ρ, g, w, s, _⟩ => s.trans w.sub) ?_ ?_
  · rintro i x σ H H' hi ⟨P, ρ, g, w, s, post⟩ y
    rw [List.drop_eq_getElem_cons hi] at post
    obtain ⟨P2, x2, r2⟩ := yl i H x H' ds[i] (by simp [hi]) y P s w.sub
    have w2 := w.nextP x2
    unfold forL at post
    cases hp : p ds[i] ρ with
    | none => rw [hp] at post; exact post.elim
    | some ρ1 =>
      rw [hp] at post
      dsimp only at post
      refine ⟨P0, H0, P2, ρ, g, ds[i], ρ1, w2, r2, hp, fun σ' w3 _ => ?_⟩
      refine ⟨P1, H0, P2, ρ1, g, w3.rebase w1.ext (s.trans x2.pub), ?_⟩
      cases hb : b ρ1 g with
      | nx ρ2 g2 => rw [hb] at post; exact fun P' σ' H' w => ⟨P', ρ2, g2, w.back w1.ext n0, w.ext.pub, post⟩
      | ct ρ2 g2 => rw [hb] at post; exact fun P' σ' H' w => ⟨P', ρ2, g2, w.back w1.ext n0, w.ext.pub, post⟩
      | bk ρ2 g2 => rw [hb] at post; exact fun P' σ' H' w => post P' σ' H' (w.back w1.ext n0)
      | rt d g2 => rw [hb] at post; exact fun P' H' v x gr r => post P' H' v (w1.ext.back x) gr r
      | ex ρ2 x g2 => rw [hb] at post; exact fun P' σ' H' cls dd w xr => post P' σ' H' cls dd (w.back w1.ext n0) xr
      | fail => rw [hb] at post; exact post
  · rintro σ H ⟨P, ρ, g, w, s, post⟩
    rw [List.drop_eq_nil_of_le (Nat.le_refl _)] at post
    exact post P σ H w

/-! ### while -/
def whileL (t : ST) (b : SS) : Nat → Rho → G → Fl
  | 0, _, _ => .fail
  | n + 1, ρ, g => toFl ρ (t ρ g) fun k g1 => if k = true then (match b ρ g1 with
      | .nx ρ2 g2 => whileL t b n ρ2 g2
      | .ct ρ2 g2 => whileL t b n ρ2 g2
      | .bk ρ2 g2 => .nx ρ2 g2
      | .rt d g2 => .rt d g2
      | .ex ρ2 x g2 => .ex ρ2 x g2
      | .fail => .fail) else .nx ρ g1
theorem rs_while {s : Stmt} {t : ST} {b : SS} (n : Nat) (h : PS X s (tWhile (tT c W t) (tS c W b))) : PS X s (tS c W (whileL t b n)) := PS.by h fun D σ H ⟨P0, H0, P, ρ, g, ws, post⟩ => by
  refine ⟨fun m σ H => ∃ P ρ g, WS c P0 H0 P ρ g σ H ∧ PostS c W P0 H0 D (whileL t b m ρ g), ⟨n, P, ρ, g, ws, post⟩, ?_⟩
  rintro m σ H ⟨P, ρ, g, w, post⟩
  cases m with
  | zero => exact post.elim
  | succ m =>
    unfold whileL at post
    refine bindS_T w post fun P1 H1 g1 k _ x1 w1 post1 => ?_
    cases k with
    | false => exact post1 P1 σ H1 w1
    | true =>
      refine ⟨fun σ H => ∃ P ρ g, WS c P0 H0 P ρ g σ H ∧ PostS c W P0 H0 D (whileL t b m ρ g), fun σ' H' h => ⟨m, Nat.lt_succ_self m, h⟩, P0, H0, P1, ρ, g1, w1, ?_⟩
      rw [if_pos rfl] at post1
      cases hb : b ρ g1 with
      | nx ρ2 g2 => rw [hb] at post1; exact fun P' σ' H' w => ⟨P', ρ2, g2, w, post1⟩
      | ct ρ2 g2 => rw [hb] at post1; exact fun P' σ' H' w => ⟨P', ρ2, g2, w, post1⟩
      | bk ρ2 g2 => rw [hb] at post1; exact post1
      | rt d g2 => rw [hb] at post1; exact post1
      | ex ρ2 x g2 => rw [hb] at post1; exact post1
      | fail => rw [hb] at post1; exact post1

/-! ### comprehensions -/
def wipeR (ρ : Rho) : List Nat → Rho
  | [] => ρ
  | v :: vs => (wipeR ρ vs).set v none
theorem WS.wipe {P0 H0 P H : Hp} {ρ : Rho} {g : G} {σ : St} (w : WS c P0 H0 P ρ g σ H) : ∀ vs : List Nat, WS c P0 H0 P (wipeR ρ vs) g (wipe σ vs) H
  | [] => w
  | v :: vs => (w.wipe vs).drop
def Res.noex {α : Type} : Res α → Res α
  | .ok a g => .ok a g
  | _ => .fail
def lcL (p : Pt) (t : ST) (f : SE) (ρ : Rho) : List D → G → Res (List D)
  | [], g => .ok [] g
  | d :: ds, g => match p d ρ with
    | none => .fail
    | some ρ1 => ((t ρ1 g).noex).bind fun b g1 => if b = true then ((f ρ1 g1).noex).bind fun y g2 => (lcL p t f ρ ds g2).bind fun ys g3 => .ok (y :: ys) g3 else lcL p t f ρ ds g1
def eLc (i : SA) (p : Pt) (t : ST) (f : SE) (vs : List Nat) : SA := fun ρ g => (i ρ g).bind fun ds g1 => ((lcL p t f (wipeR ρ vs) ds g1).noex).bind fun ys g2 => if ys.length ≤ 100000 then .ok ys g2 else .fail
def W0 : WX := fun _ _ _ _ => False
def tYesF : ST := fun _ g => .ok true g
theorem rts_nil : PTs X [] (tT c W tYesF) := ⟨fun pins s σ H Q I h => pts_nil.run pins s σ H Q I (by
  obtain ⟨P0, H0, P, ρ, g, ws, post⟩ := h
  exact post P H (Ext.refl ws.sub) ws.gr)⟩
theorem lcL_len {p : Pt} {t : ST} {f : SE} {ρ : Rho} : ∀ {ds : List D} {g g' : G} {ys : List D}, lcL p t f ρ ds g = .ok ys g' → ys.length ≤ ds.length
  | [], g, g', ys, h => by cases h; exact Nat.le_refl _
  | d :: ds, g, g', ys, h => by
    unfold lcL at h
    cases hp : p d ρ with
    | none => rw [hp] at h; cases h
    | some ρ1 =>
      rw [hp] at h
      cases ht : (t ρ1 g).noex with
      | ok b g1 =>
        simp only [ht, Res.bind] at h
        cases b with
        | true =>
          rw [if_pos rfl] at h
          cases hf : (f ρ1 g1).noex with
          | ok y g2 =>
            simp only [hf, Res.bind] at h
            cases hl : lcL p t f ρ ds g2 with
            | ok zs g3 =>
              simp only [hl, Res.bind] at h
              cases h
              have := lcL_len hl
              simp only [List.length_cons]
              omega
            | ex x g3 => simp only [hl, Res.bind] at h; cases h
            | fail => simp only [hl, Res.bind] at h; cases h
          | ex x g2 => simp only [hf, Res.bind] at h; cases h
          | fail => simp only [hf, Res.bind] at h; cases h
        | false =>
          rw [if_neg Bool.false_ne_true] at h
          have := lcL_len h
          simp only [List.length_cons]
          omega
      | ex x g1 => simp only [ht, Res.bind] at h; cases h
      | fail => simp only [ht, Res.bind] at h; cases h
/-- while the new list stands at T, unseen -/
structure Acc (c : Gam) (T : Addr) (P : Hp) (H : Hp) (acc : List V) (ds : List D) : Prop where
  at_ : H T = some (.lst acc)
  all : RAll c P acc ds
  un : P T = none
theorem Acc.next {T : Addr} {P H P' H' : Hp} {acc : List V} {ds : List D} (a : Acc c T P H acc ds) (h1 : T ≠ c.sa) (h2 : T ≠ c.la) (x : Ext c P H P' H') : Acc c T P' H' acc ds :=
  ⟨x.keep _ _ h1 h2 a.at_, a.all.mono x.pub, none_of_ext x a.un (by rw [a.at_]; exact fun z => nomatch z)⟩
theorem same_put {P H : Hp} {T : Addr} {o : HO} (s : Same P H) (n : P T = none) : Same P (upd H T o) := fun b u e => by
  rw [upd_ne (ne_of_none e n)]
  exact s _ _ e
/-- the list grows: the world but for T is as it was -/
theorem WS.put {P0 H0 P H : Hp} {ρ : Rho} {g : G} {σ : St} {T : Addr} {o : HO} (w : WS c P0 H0 P ρ g σ H) (n0 : H0 T = none) (n : P T = none) (own : ∀ i a, ownAt ρ i → σ[i]? = some (some (.ref a)) → a ≠ T) : WS c P0 H0 P ρ g σ (upd H T o) where
  len := w.len
  ext := ⟨w.ext.pub, same_put w.sub n, fun a u h1 h2 e => by
      rw [upd_ne (ne_of_none e n0)]
      exact w.ext.keep a u h1 h2 e, fun a h => by
      by_cases e : a = T
      · rw [e, upd_same]; exact fun z => nomatch z
      · rw [upd_ne e]; exact w.ext.there a h, w.ext.new⟩
  gr := ⟨by rw [upd_ne (fun (e : c.sa = T) => w.hs (e ▸ n0))]; exact w.gr.s, by rw [upd_ne (fun (e : c.la = T) => w.hl (e ▸ n0))]; exact w.gr.l, by rw [upd_ne (fun (e : c.ca = T) => w.hc (e ▸ n0))]; exact w.gr.e, w.gr.ne⟩
  hs := w.hs
  hl := w.hl
  hc := w.hc
  ps := w.ps
  pl := w.pl
  pc := w.pc
  env := fun i s e => by
    obtain ⟨v, e1, h⟩ := w.env i s e
    refine ⟨v, e1, ?_⟩
    cases s with
    | sh d => exact h
    | ow xs =>
      obtain ⟨a, vs, rfl, h1, h2, h3, h4⟩ := h
      exact ⟨a, vs, rfl, by rw [upd_ne (own i a ⟨_, e, rfl⟩ e1)]; exact h1, h2, h3, h4⟩
    | od kvs =>
      obtain ⟨a, vs, rfl, h1, h2, h3, h4⟩ := h
      exact ⟨a, vs, rfl, by rw [upd_ne (own i a ⟨_, e, rfl⟩ e1)]; exact h1, h2, h3, h4⟩
  dis := w.dis
theorem own_some {P0 H0 P H : Hp} {ρ : Rho} {g : G} {σ : St} (w : WS c P0 H0 P ρ g σ H) {i : Nat} {a : Addr} (h : ownAt ρ i) (e : σ[i]? = some (some (.ref a))) : H a ≠ none := by
  obtain ⟨s, e0, o⟩ := h
  obtain ⟨v, e1, h⟩ := w.env i s e0
  rw [e] at e1
  cases e1
  cases s with
  | sh d => cases o
  | ow xs =>
    obtain ⟨b, vs, e2, h1, _⟩ := h
    cases e2
    rw [h1]; exact fun z => nomatch z
  | od xs =>
    obtain ⟨b, vs, e2, h1, _⟩ := h
    cases e2
    rw [h1]; exact fun z => nomatch z
theorem none_back {P H P' H' : Hp} {a : Addr} (x : Ext c P H P' H') (h : H' a = none) : H a = none := by
  cases e : H a with
  | none => rfl
  | some o => exact absurd h (x.there a (by rw [e]; exact fun z => nomatch z))
theorem noex_ok {α : Type} {r : Res α} {a : α} {g : G} (h : r.noex = .ok a g) : r = .ok a g := by
  cases r with
  | ok b g1 => exact h
  | ex x g1 => cases h
  | fail => cases h
/-- a new list or dict that nobody else holds -/
abbrev SF := Rho → G → Res Sl
def FreshSl (c : Gam) (H0 Hs P H : Hp) (v : V) (s : Sl) : Prop := SlR c H0 P H v s ∧ ∃ T, v = .ref T ∧ Hs T = none
def tF (c : Gam) (W : WX) (f : SF) : TE := fun σ H Q => ∃ P0 H0 P ρ g, WS c P0 H0 P ρ g σ H ∧ Post c W σ (fun P' H' s => ∀ v, FreshSl c H0 H P' H' v s → Q v H') P H (f ρ g)
def fOw (f : SA) : SF := fun ρ g => (f ρ g).bind fun ds g1 => .ok (.ow ds) g1
def fLst (f : SA) : SE := fun ρ g => (f ρ g).bind fun ds g1 => .ok (.lst ds) g1
theorem pubL {e : Expr} {f : SA} (h : PE X e (tF c W (fOw f))) : PE X e (tE c W (fLst f)) := PE.by h fun σ H Q ⟨P0, H0, P, ρ, g, ws, post⟩ => ⟨P0, H0, P, ρ, g, ws, by
  unfold fOw
  unfold fLst at post
  cases hf : f ρ g with
  | ok ds g1 =>
    rw [hf] at post
    intro P' H' x gr v fr
    obtain ⟨⟨a, vs, rfl, h1, h2, h3, h4⟩, T, e, hT⟩ := fr
    cases e
    exact post (upd P' a (.lst vs)) H' (x.publish h1 hT) gr _ (.lst upd_same (h2.mono (same_upd h3)))
  | ex x g1 => rw [hf] at post; exact post
  | fail => rw [hf] at post; exact post⟩
theorem Res.bind_assoc {α β γ : Type} (r : Res α) (f : α → G → Res β) (h : β → G → Res γ) : (r.bind f).bind h = r.bind fun a g => (f a g).bind h := by
  cases r <;> rfl
theorem Ext.put {P0 H0 P H : Hp} {T : Addr} {o : HO} (x : Ext c P0 H0 P H) (n0 : H0 T = none) (n : P T = none) : Ext c P0 H0 P (upd H T o) :=
  ⟨x.pub, same_put x.sub n, fun a u h1 h2 e => by
      rw [upd_ne (ne_of_none e n0)]
      exact x.keep a u h1 h2 e, fun a h => by
      by_cases e : a = T
      · rw [e, upd_same]; exact fun z => nomatch z
      · rw [upd_ne e]; exact x.there a h, x.new⟩
theorem wipe_wipe (σ : St) (vs : List Nat) : wipe (wipe σ vs) vs = wipe σ vs := by
  refine List.ext_getElem? fun j => ?_
  by_cases hj : j ∈ vs
  · by_cases hl : j < σ.length
    · rw [wipe_get hj (by rw [wipe_length]; exact hl), wipe_get hj hl]
    · rw [List.getElem?_eq_none (by rw [wipe_length, wipe_length]; omega), List.getElem?_eq_none (by rw [wipe_length]; omega)]
  · rw [wipe_out hj]
theorem lt_line {n : Nat} (h : n ≤ 100000) : n < sizeLine := by
  rw [sizeLine_eq]
  omega
theorem go_lc {lo : Bool} {i : SA} {sl vs : List Nat} {p : Pt} {t : ST} {f : SE} (hv : ∀ k ∈ sl, k ∈ vs) {σ : St} {H : Hp} {Q : VK} (q : tF c W (fOw (eLc i p t f vs)) σ H Q) : tLc (tI c W lo i) (tP c lo sl p) (tT c W0 t) (tE c W0 f) vs σ H Q := by
  obtain ⟨P0, H0, P, ρ, g, ws, post⟩ := q
  unfold fOw eLc at post
  rw [Res.bind_assoc] at post
  refine bind_I ws post fun P1 H1 g1 J ds x1 w1 it post1 T hT => ?_
  obtain ⟨Y, wk, yl⟩ := it
  have ww := w1.wipe vs
  have hP : P1 T = none := Same.free w1.sub hT
  have h0T : H0 T = none := none_back w1.ext hT
  have hsT : T ≠ c.sa := fun z => w1.hs (z ▸ h0T)
  have hlT : T ≠ c.la := fun z => w1.hl (z ▸ h0T)
  have ownT : ∀ (i : Nat) (a : Addr), ownAt (wipeR ρ vs) i → (wipe σ vs)[i]? = some (some (.ref a)) → a ≠ T := fun i a h e z => own_some ww h e (z ▸ hT)
  cases hl : (lcL p t f (wipeR ρ vs) ds g1).noex with
  | ex x g2 => cases hq : lcL p t f (wipeR ρ vs) ds g1 <;> rw [hq] at hl <;> cases hl
  | fail => rw [hl] at post1; exact post1.elim
  | ok ys g2 =>
    rw [hl] at post1
    replace hl := noex_ok hl
    have post2 : Post c W σ (fun P' H' s => ∀ v, FreshSl c H0 H P' H' v s → Q v H') P1 H1 ((if ys.length ≤ 100000 then Res.ok ys g2 else .fail).bind fun ds g1 => Res.ok (Sl.ow ds) g1) := post1
    by_cases hy : ys.length ≤ 100000
    case neg => rw [if_neg hy] at post2; exact post2.elim
    rw [if_pos hy] at post2
    refine lc_it wk (fun i H => ∃ P g acc dn rest, WS c P0 H0 P (wipeR ρ vs) g (wipe σ vs) H ∧ Ext c P1 H1 P H ∧ Acc c T P H acc dn ∧ lcL p t f (wipeR ρ vs) (ds.drop i) g = .ok rest g2 ∧ dn ++ rest = ys)
      ⟨P1, g1, [], [], ys, ww.put h0T hP ownT, (Ext.refl w1.sub).put hT hP, ⟨upd_same, .nil, hP⟩, by simpa using hl, rfl⟩ (fun i H _ ⟨P, g, acc, dn, rest, w, x, _⟩ => x.pub.trans w.sub) ?_ ?_
    · rintro i x H H' hi ⟨P, g, acc, dn, rest, w, xx, ac, el, ey⟩ y
      rw [List.drop_eq_getElem_cons hi] at el
      obtain ⟨P2, x2, r2⟩ := yl i H x H' ds[i] (by simp [hi]) y P xx.pub w.sub
      have w2 := w.nextP x2
      have ac2 := ac.next hsT hlT (x2.ext (c := c))
      unfold lcL at el
      cases hp : p ds[i] (wipeR ρ vs) with
      | none => rw [hp] at el; cases el
      | some ρ1 =>
        rw [hp] at el
        dsimp only at el
        refine ⟨P0, H0, P2, wipeR ρ vs, g, ds[i], ρ1, w2, r2, hp, fun σ' w3 wi => ⟨(wi vs hv).trans (wipe_wipe σ vs), ?_⟩⟩
        refine ⟨P0, H0, P2, ρ1, g, w3, ?_⟩
        cases ht : t ρ1 g with
        | ex x g3 => rw [ht] at el; cases el
        | fail => rw [ht] at el; cases el
        | ok b g3 =>
          rw [ht] at el
          have el1 : (if b = true then ((f ρ1 g3).noex).bind fun y g2 => (lcL p t f (wipeR ρ vs) (ds.drop (i + 1)) g2).bind fun ys g3 => .ok (y :: ys) g3 else lcL p t f (wipeR ρ vs) (ds.drop (i + 1)) g3) = .ok rest g2 := el
          intro P3 H3 x3 gr3
          show if b = true then _ else _
          cases b with
          | false =>
            rw [if_neg Bool.false_ne_true] at el1 ⊢
            exact ⟨P3, g3, acc, dn, rest, w2.next x3 gr3, (xx.trans x2.ext).trans x3, ac2.next hsT hlT x3, el1, ey⟩
          | true =>
            rw [if_pos rfl] at el1 ⊢
            refine ⟨P0, H0, P3, ρ1, g3, w3.next x3 gr3, ?_⟩
            cases hf : f ρ1 g3 with
            | ex x g4 => rw [hf] at el1; cases el1
            | fail => rw [hf] at el1; cases el1
            | ok d g4 =>
              rw [hf] at el1
              have el2 : (lcL p t f (wipeR ρ vs) (ds.drop (i + 1)) g4).bind (fun ys g3 => .ok (d :: ys) g3) = .ok rest g2 := el1
              cases hz : lcL p t f (wipeR ρ vs) (ds.drop (i + 1)) g4 with
              | ex x g5 => rw [hz] at el2; cases el2
              | fail => rw [hz] at el2; cases el2
              | ok zs g5 =>
                rw [hz] at el2
                cases el2
                intro P4 H4 x4 gr4 v r4
                have ac4 := (ac2.next hsT hlT x3).next hsT hlT x4
                have w4 := (w2.next x3 gr3).next x4 gr4
                refine ⟨acc, ac4.at_, ?_, P4, g4, acc ++ [v], dn ++ [d], zs, w4.put h0T ac4.un ownT, (((xx.trans x2.ext).trans x3).trans x4).put hT ac4.un, ⟨upd_same, ac4.all.snoc r4, ac4.un⟩, hz, by rw [List.append_assoc]; exact ey⟩
                refine lt_line ?_
                have e1 := ac4.all.length
                have e2 := congrArg List.length ey
                rw [List.length_append] at e2
                omega
    · rintro H ⟨P, g, acc, dn, rest, w, xx, ac, el, ey⟩
      rw [List.drop_eq_nil_of_le (Nat.le_refl _)] at el
      cases el
      rw [List.append_nil] at ey
      subst ey
      exact post2 P H xx w.gr (.ref T) ⟨⟨T, acc, rfl, ac.at_, ac.all, ac.un, h0T⟩, T, rfl, none_back x1 hT⟩
theorem v_lc {e : Expr} {lo : Bool} {i : SA} {sl vs : List Nat} {p : Pt} {t : ST} {f : SE} (hv : ∀ k ∈ sl, k ∈ vs) (h : PE X e (tLc (tI c W lo i) (tP c lo sl p) (tT c W0 t) (tE c W0 f) vs)) : PE X e (tF c W (fOw (eLc i p t f vs))) := PE.by h fun _ _ _ q => go_lc hv q
theorem go_pub {f : SA} {σ : St} {H : Hp} {Q : VK} (q : tE c W (fLst f) σ H Q) : tF c W (fOw f) σ H Q := by
  obtain ⟨P0, H0, P, ρ, g, ws, post⟩ := q
  refine ⟨P0, H0, P, ρ, g, ws, ?_⟩
  unfold fOw
  unfold fLst at post
  cases hf : f ρ g with
  | ok ds g1 =>
    rw [hf] at post
    intro P' H' x gr v fr
    obtain ⟨⟨a, vs, rfl, h1, h2, h3, h4⟩, T, e, hT⟩ := fr
    cases e
    exact post (upd P' a (.lst vs)) H' (x.publish h1 hT) gr _ (.lst upd_same (h2.mono (same_upd h3)))
  | ex x g1 => rw [hf] at post; exact post
  | fail => rw [hf] at post; exact post
end
end CP

/-! CPDef: what is walked, a def's own lists and dicts, several targets, the promise of a def. -/
namespace CP
open PySem PySem.Spec L2
open PyProof.Rows hiding St

section
variable {X : Cx} {c : Gam} {W : WX}
/-! ### what is walked -/
def signs (z : Str) : List D := z.cps.toList.map fun n => .str ⟨#[n]⟩
theorem sOk_at {z : Str} {i n : Nat} (h : sOk z = true) (e : z.cps[i]? = some n) : sOk ⟨#[n]⟩ = true := by
  unfold sOk PySem.PyData.strOk at h ⊢
  rw [Bool.and_eq_true] at h
  have h1 := h.1
  rw [Array.all_eq_true] at h1
  obtain ⟨hi, q⟩ := Array.getElem?_eq_some_iff.mp e
  have := h1 i hi
  rw [q] at this
  simpa using this
def items : D → Option (List D)
  | .lst ds => some ds
  | .tup ds => some ds
  | .str z => some (signs z)
  | _ => none
def iSeq (f : SE) : SA := fun ρ g => (f ρ g).bind fun d g1 => ofOpt (items d) g1
theorem it_list {P : Hp} {a : Addr} {vs : List V} {ds : List D} (h : P a = some (.lst vs)) (r : RAll c P vs ds) : ItD c false P (Itl c.K a) ds := by
  refine ⟨YAt vs, (r.length ▸ walk_list (K := c.K) (a := a) (xs := vs)).mono (fun H s => .inl (.inl (s _ _ h))) (fun _ _ _ _ _ _ y => y), fun i H x H' d e y P1 s1 s2 => ?_⟩
  obtain ⟨rfl, y⟩ := y
  obtain ⟨d', e', r'⟩ := r.get y
  rw [e] at e'
  cases e'
  exact ⟨P1, .refl s2, r'.mono s1⟩
theorem it_tup {P : Hp} {a : Addr} {vs : List V} {ds : List D} (h : PlT c.K P a vs) (r : RAll c P vs ds) : ItD c false P (Itt c.K a) ds := by
  refine ⟨YAt vs, (r.length ▸ walk_tup (K := c.K) (a := a) (xs := vs)).mono (fun H s => sqT_mono s h.sq) (fun _ _ _ _ _ _ y => y), fun i H x H' d e y P1 s1 s2 => ?_⟩
  obtain ⟨rfl, y⟩ := y
  obtain ⟨d', e', r'⟩ := r.get y
  rw [e] at e'
  cases e'
  exact ⟨P1, .refl s2, r'.mono s1⟩
theorem it_str {P : Hp} {z : Str} (hz : sOk z = true) : ItD c false P (Its z) (signs z) := by
  have hl : (signs z).length = z.cps.size := by unfold signs; rw [List.length_map, Array.length_toList]
  refine ⟨_, (hl ▸ walk_str (z := z)).mono (fun _ _ => trivial) (fun _ _ _ _ _ _ y => y), fun i H x H' d e y P1 s1 s2 => ?_⟩
  obtain ⟨rfl, n, h1, rfl⟩ := y
  unfold signs at e
  rw [List.getElem?_map, Array.getElem?_toList, h1] at e
  cases e
  exact ⟨P1, .refl s2, .str (sOk_at hz h1)⟩
theorem ri_seq {tg e : Expr} {f : SE} {K : PySem.W.Frag} (hK : X.K = c.K) (h : PE X e (tE c W f)) : PI X tg e (tI c W false (iSeq f)) := by
  refine ⟨fun pins s σ H R I q => ?_⟩
  obtain ⟨P0, H0, P, ρ, g, ws, post⟩ := q
  have key : ∀ {Q' : VK}, (∀ P1 H1 g1 v d, f ρ g = .ok d g1 → Ext c P H P1 H1 → WS c P0 H0 P1 ρ g1 σ H1 → RS c P1 H1 v d → Post c W σ (fun P' H' ds => ∀ J, ItD c false P' J ds → R J H') P1 H1 (ofOpt (items d) g1) → Q' v H1) → tE c W f σ H Q' := fun st => bind_E ws post st
  cases hf : f ρ g with
  | ok d g1 =>
    cases d with
    | lst ds =>
      refine (pi_list h).run pins s σ H R I (key fun P1 H1 g2 v d hd x1 w1 r1 post1 => ?_)
      rw [hf] at hd
      cases hd
      have r1 : CP.R c P1 v (.lst ds) := r1
      cases r1 with
      | @lst a vs _ h1 h2 =>
        rw [hK]
        exact ⟨a, rfl, ⟨vs, .inl (.inl (w1.sub _ _ h1))⟩, post1 P1 H1 (Ext.refl w1.sub) w1.gr _ (it_list h1 h2)⟩
    | tup ds =>
      refine (pi_tup h).run pins s σ H R I (key fun P1 H1 g2 v d hd x1 w1 r1 post1 => ?_)
      rw [hf] at hd
      cases hd
      have r1 : CP.R c P1 v (.tup ds) := r1
      cases r1 with
      | @tup a vs _ h1 h2 =>
        rw [hK]
        exact ⟨a, rfl, ⟨vs, sqT_mono w1.sub h1.sq⟩, post1 P1 H1 (Ext.refl w1.sub) w1.gr _ (it_tup h1 h2)⟩
    | str z =>
      refine (pi_str h).run pins s σ H R I (key fun P1 H1 g2 v d hd x1 w1 r1 post1 => ?_)
      rw [hf] at hd
      cases hd
      have r1 : CP.R c P1 v (.str z) := r1
      cases r1 with
      | str hz => exact ⟨z, rfl, post1 P1 H1 (Ext.refl w1.sub) w1.gr _ (it_str hz)⟩
    | _ =>
      refine (pi_str h).run pins s σ H R I (key fun P1 H1 g2 v d hd x1 w1 r1 post1 => ?_)
      rw [hf] at hd
      cases hd
      exact post1.elim
  | ex x g1 =>
    refine (pi_str h).run pins s σ H R I (key fun P1 H1 g2 v d hd x1 w1 r1 post1 => ?_)
    rw [hf] at hd
    cases hd
  | fail =>
    refine (pi_str h).run pins s σ H R I (key fun P1 H1 g2 v d hd x1 w1 r1 post1 => ?_)
    rw [hf] at hd
    cases hd
/-- range(n), range(a, b) -/
def small (i : Int) : Bool := decide (-(2 ^ 60) ≤ i) && decide (i < 2 ^ 60)
theorem small_of {i : Int} (h : small i = true) : -(2 ^ 60) ≤ i ∧ i < 2 ^ 60 := by
  unfold small at h
  simpa using h
def rangeD (i j : Int) : List D := (List.range (j - i).toNat).map fun (k : Nat) => D.int (i + (k : Int))
def rng1 : D → Option (List D)
  | .int j => if small j = true then some (rangeD 0 j) else none
  | _ => none
def rng2 : D → D → Option (List D)
  | .int i, .int j => if small i = true ∧ small j = true then some (rangeD i j) else none
  | _, _ => none
def iRange1 (f : SE) : SA := fun ρ g => (f ρ g).bind fun d g1 => ofOpt (rng1 d) g1
def iRange2 (f h : SE) : SA := fun ρ g => (f ρ g).bind fun d g1 => (h ρ g1).bind fun e g2 => ofOpt (rng2 d e) g2
theorem it_range {P : Hp} {i j : Int} : ItD c false P (Itr i (j - i).toNat) (rangeD i j) := by
  have hl : (rangeD i j).length = (j - i).toNat := by unfold rangeD; rw [List.length_map, List.length_range]
  refine ⟨YFn fun k => .int (i + k), ?_, fun k H x H' d e y P1 s1 s2 => ?_⟩
  · rw [hl]
    exact (walk_range (lo := i) (n := (j - i).toNat)).mono (fun _ _ => trivial) (fun _ _ _ _ _ _ y => y)
  · obtain ⟨rfl, rfl⟩ := y
    unfold rangeD at e
    rw [List.getElem?_map] at e
    cases q : (List.range (j - i).toNat)[k]? with
    | none => rw [q] at e; cases e
    | some m =>
      rw [q] at e
      cases e
      obtain ⟨h1, h2⟩ := List.getElem?_eq_some_iff.mp q
      rw [List.getElem_range] at h2
      subst h2
      exact ⟨P1, .refl s2, .int _⟩
theorem v_range1 {tg e : Expr} {f : SE} (h : PI X tg e (iRng1 (tCons (tX c W f) tNil))) : PI X tg e (tI c W false (iRange1 f)) := PI.by h fun σ H R ⟨P0, H0, P, ρ, g, ws, post⟩ => by
  refine bind_E ws post fun P1 H1 g1 v d hf x1 w1 r1 post1 => ?_
  obtain ⟨ds, e⟩ := post_opt post1
  rw [e] at post1
  cases d with
  | int j =>
    have e' : (if small j = true then some (rangeD 0 j) else none) = some ds := e
    split at e'
    · rename_i hs
      cases e'
      obtain ⟨a, b⟩ := small_of hs
      refine ⟨j, by rw [r1.int], by omega, by omega, ?_⟩
      have := post1 P1 H1 (Ext.refl w1.sub) w1.gr (Itr 0 (j - 0).toNat) it_range
      simpa using this
    · cases e'
  | _ => cases e
theorem v_range2 {tg e : Expr} {f h : SE} (q : PI X tg e (iRng2 (tCons (tX c W f) (tCons (tX c W h) tNil)))) : PI X tg e (tI c W false (iRange2 f h)) := PI.by q fun σ H R ⟨P0, H0, P, ρ, g, ws, post⟩ => by
  refine bind_E ws post fun P1 H1 g1 v d hf x1 w1 r1 post1 => bind_E w1 post1 fun P2 H2 g2 v2 d2 _ x2 w2 r2 post2 => ?_
  obtain ⟨ds, e⟩ := post_opt post2
  rw [e] at post2
  cases d with
  | int i =>
    cases d2 with
    | int j =>
      have e' : (if small i = true ∧ small j = true then some (rangeD i j) else none) = some ds := e
      split at e'
      · rename_i hs
        cases e'
        obtain ⟨a, b⟩ := small_of hs.1
        obtain ⟨a', b'⟩ := small_of hs.2
        exact ⟨i, j, by rw [r1.int, r2.int], ⟨by omega, by omega, by omega, by omega⟩, post2 P2 H2 (Ext.refl w2.sub) w2.gr _ it_range⟩
      · cases e'
    | _ => cases e
  | _ => cases e
/-- zip of two lists or two tuples -/
def zipD : List D → List D → List D
  | x :: xs, y :: ys => .tup [x, y] :: zipD xs ys
  | _, _ => []
theorem zipD_len : ∀ xs ys : List D, (zipD xs ys).length = min xs.length ys.length
  | [], _ => by simp [zipD]
  | _ :: _, [] => by simp [zipD]
  | x :: xs, y :: ys => by simp only [zipD, List.length_cons, zipD_len xs ys]; omega
theorem zipD_get : ∀ {xs ys : List D} {i : Nat} {d : D}, (zipD xs ys)[i]? = some d → ∃ x y, xs[i]? = some x ∧ ys[i]? = some y ∧ d = .tup [x, y]
  | [], _, _, _, h => by simp [zipD] at h
  | _ :: _, [], _, _, h => by simp [zipD] at h
  | x :: xs, y :: ys, 0, d, h => by simp [zipD] at h; exact ⟨x, y, rfl, rfl, h.symm⟩
  | x :: xs, y :: ys, i + 1, d, h => by
    obtain ⟨a, b, h1, h2, h3⟩ := zipD_get (xs := xs) (ys := ys) (i := i) (d := d) (by simpa [zipD] using h)
    exact ⟨a, b, by simpa using h1, by simpa using h2, h3⟩
def zipped : D → D → Option (List D)
  | .lst xs, .lst ys => some (zipD xs ys)
  | .tup xs, .tup ys => some (zipD xs ys)
  | _, _ => none
def iZip2 (f h : SE) : SA := fun ρ g => (f ρ g).bind fun d g1 => (h ρ g1).bind fun e g2 => ofOpt (zipped d e) g2
theorem it_pair {P : Hp} {J : It} {xs ys : List D} {vs ws : List V} {G' : Hp → Prop} (wk : Walk J (min vs.length ws.length) G' (YPair (fun i => vs[i]?) (fun i => ws[i]?))) (hG : ∀ H, Same P H → G' H) (r1 : RAll c P vs xs) (r2 : RAll c P ws ys) : ItD c true P J (zipD xs ys) := by
  refine ⟨YPair (fun i => vs[i]?) (fun i => ws[i]?), ?_, fun i H x H' d e y P1 s1 s2 => ?_⟩
  · rw [zipD_len, ← r1.length, ← r2.length]
    exact wk.mono hG (fun _ _ _ _ _ _ y => y)
  · obtain ⟨T, a, b, rfl, hT, rfl, h1, h2⟩ := y
    obtain ⟨x', y', q1, q2, rfl⟩ := zipD_get e
    obtain ⟨xa, g1, ra⟩ := r1.get h1
    obtain ⟨xb, g2, rb⟩ := r2.get h2
    rw [q1] at g1
    rw [q2] at g2
    cases g1; cases g2
    have x := ExtP.laid (o := .tup [a, b]) s2 hT
    exact ⟨_, x, .inr ⟨T, _, _, rfl, rfl, .inl (.inl upd_same), .cons ((ra.mono s1).mono x.pub) (.cons ((rb.mono s1).mono x.pub) .nil)⟩⟩
theorem walk_zipT {K : PySem.W.Frag} {a b : Addr} {xs ys : List V} : Walk (RZ.ItzT K a b) (min xs.length ys.length) (fun H => SqT K H a xs ∧ SqT K H b ys) (YPair (fun i => xs[i]?) (fun i => ys[i]?)) := by
  refine ⟨fun i _ hi q => ?_, fun _ q => ⟨xs, ys, q.1, q.2, by omega⟩, fun i H v H' _ q y => ?_⟩
  · have h1 : i < xs.length := by omega
    have h2 : i < ys.length := by omega
    exact ⟨xs, ys, xs[i], ys[i], q.1, q.2, by simp [h1], by simp [h2]⟩
  · obtain ⟨T, x, z, h1, h2, h3, h4, h5⟩ := y
    exact ⟨T, x, z, h1, h2, h3, h4 xs q.1, h5 ys q.2⟩
theorem v_zip {tg e : Expr} {f h : SE} {K : PySem.W.Frag} (hK : K = c.K) (q : PI X tg e (RZ.iZipA K (tCons (tE c W f) (tCons (tE c W h) tNil)))) : PI X tg e (tI c W true (iZip2 f h)) := by
  subst hK
  refine PI.by q fun σ H R ⟨P0, H0, P, ρ, g, ws, post⟩ => ?_
  refine bind_E ws post fun P1 H1 g1 v d hf x1 w1 r1 post1 => bind_E w1 post1 fun P2 H2 g2 v2 d2 _ x2 w2 r2 post2 => ?_
  obtain ⟨ds, e⟩ := post_opt post2
  rw [e] at post2
  have r1 : CP.R c P2 v d := CP.R.mono x2.pub r1
  have r2 : CP.R c P2 v2 d2 := r2
  cases r1 with
  | @lst a vs xs h1 s1 =>
    cases r2 with
    | @lst b us ys h2 s2 =>
      cases e
      refine ⟨a, b, vs, us, rfl, .inl ⟨.inl (.inl (w2.sub _ _ h1)), .inl (.inl (w2.sub _ _ h2)), post2 P2 H2 (Ext.refl w2.sub) w2.gr _ (it_pair (walk_zip rfl) (fun H s => ⟨.inl (.inl (s _ _ h1)), .inl (.inl (s _ _ h2))⟩) s1 s2)⟩⟩
    | _ => cases e
  | @tup a vs xs h1 s1 =>
    cases r2 with
    | @tup b us ys h2 s2 =>
      cases e
      refine ⟨a, b, vs, us, rfl, .inr ⟨sqT_mono w2.sub h1.sq, sqT_mono w2.sub h2.sq, post2 P2 H2 (Ext.refl w2.sub) w2.gr _ (it_pair walk_zipT (fun H s => ⟨sqT_mono s h1.sq, sqT_mono s h2.sq⟩) s1 s2)⟩⟩
    | _ => cases e
  | _ => cases d2 <;> cases e
/-- enumerate of a list -/
def enumD : Nat → List D → List D
  | _, [] => []
  | n, x :: xs => .tup [.int (n : Nat), x] :: enumD (n + 1) xs
theorem enumD_len : ∀ (n : Nat) (xs : List D), (enumD n xs).length = xs.length
  | _, [] => rfl
  | n, x :: xs => by simp only [enumD, List.length_cons, enumD_len]
theorem enumD_get : ∀ {n : Nat} {xs : List D} {i : Nat} {d : D}, (enumD n xs)[i]? = some d → ∃ x, xs[i]? = some x ∧ d = .tup [.int ((n + i : Nat) : Int), x]
  | _, [], _, _, h => by simp [enumD] at h
  | n, x :: xs, 0, d, h => by simp [enumD] at h; exact ⟨x, rfl, h.symm⟩
  | n, x :: xs, i + 1, d, h => by
    obtain ⟨a, h1, h2⟩ := enumD_get (n := n + 1) (xs := xs) (i := i) (d := d) (by simpa [enumD] using h)
    exact ⟨a, by simpa using h1, by rw [h2, show n + 1 + i = n + (i + 1) by omega]⟩
def enumed : D → Option (List D)
  | .lst xs => some (enumD 0 xs)
  | _ => none
def iEnum1 (f : SE) : SA := fun ρ g => (f ρ g).bind fun d g1 => ofOpt (enumed d) g1
theorem v_enum {tg e : Expr} {f : SE} {K : PySem.W.Frag} (hK : K = c.K) (q : PI X tg e (iEnum K (tCons (tE c W f) tNil))) : PI X tg e (tI c W true (iEnum1 f)) := by
  subst hK
  refine PI.by q fun σ H R ⟨P0, H0, P, ρ, g, ws, post⟩ => ?_
  refine bind_E ws post fun P1 H1 g1 v d hf x1 w1 r1 post1 => ?_
  obtain ⟨ds, e⟩ := post_opt post1
  rw [e] at post1
  have r1 : CP.R c P1 v d := r1
  cases r1 with
  | @lst a vs xs h1 s1 =>
    cases e
    refine ⟨a, vs, rfl, .inl (.inl (w1.sub _ _ h1)), post1 P1 H1 (Ext.refl w1.sub) w1.gr _ ⟨YPair (fun i => some (.int (i : Nat))) (fun i => vs[i]?), ?_, fun i H x H' d e y P2 s2 s3 => ?_⟩⟩
    · rw [enumD_len, ← s1.length]
      exact (walk_enum (K := c.K) (a := a) (xs := vs)).mono (fun H s => .inl (.inl (s _ _ h1))) (fun _ _ _ _ _ _ y => y)
    · obtain ⟨T, u, b, rfl, hT, rfl, h2, h3⟩ := y
      cases h2
      obtain ⟨x', q1, rfl⟩ := enumD_get e
      obtain ⟨xb, g2, rb⟩ := s1.get h3
      rw [q1] at g2
      cases g2
      have x := ExtP.laid (o := .tup [.int (i : Nat), b]) s3 hT
      refine ⟨_, x, .inr ⟨T, _, _, rfl, rfl, .inl (.inl upd_same), .cons ?_ (.cons ((rb.mono s2).mono x.pub) .nil)⟩⟩
      rw [Nat.zero_add]
      exact .int _
  | _ => cases e
end
end CP

/-! CPOwn: a def's own lists and dicts, several targets at once, the promise of a def. -/
namespace CP
open PySem PySem.Spec L2
open PyProof.Rows hiding St

section
variable {X : Cx} {c : Gam} {W : WX}
/-! ### a slot stored, shared or own -/
theorem ownAt_set2 {ρ : Rho} {i j : Nat} {s : Sl} (h : ownAt (ρ.set i (some s)) j) : (j = i ∧ s.own = true) ∨ (ownAt ρ j ∧ j ≠ i) := by
  obtain ⟨s', e, o⟩ := h
  by_cases hj : j = i
  · subst hj
    by_cases hl : j < ρ.length
    · rw [List.getElem?_set_self hl] at e
      cases e
      exact .inl ⟨rfl, o⟩
    · rw [List.getElem?_eq_none (by simpa using hl)] at e; cases e
  · rw [List.getElem?_set_ne (Ne.symm hj)] at e
    exact .inr ⟨⟨s', e, o⟩, hj⟩
theorem WS.setSl {P0 H0 P H : Hp} {ρ : Rho} {g : G} {σ : St} {i : Nat} {v : V} {s : Sl} (w : WS c P0 H0 P ρ g σ H) (r : SlR c H0 P H v s)
    (fr : s.own = true → ∀ T, v = .ref T → ∀ j, ownAt ρ j → σ[j]? ≠ some (some (.ref T))) : WS c P0 H0 P (ρ.set i (some s)) g (σ.set i (some v)) H where
  len := by rw [List.length_set, List.length_set]; exact w.len
  ext := w.ext
  gr := w.gr
  hs := w.hs
  hl := w.hl
  hc := w.hc
  ps := w.ps
  pl := w.pl
  pc := w.pc
  env := fun j s' e => by
    by_cases hj : j = i
    · subst hj
      by_cases hl : j < ρ.length
      · rw [List.getElem?_set_self hl] at e
        cases e
        exact ⟨v, List.getElem?_set_self (by rw [← w.len]; exact hl), r⟩
      · rw [List.getElem?_eq_none (by simpa using hl)] at e; cases e
    · rw [List.getElem?_set_ne (Ne.symm hj)] at e ⊢
      exact w.env j s' e
  dis := fun j k a n h1 h2 e1 e2 => by
    have at_i : ∀ {m : Nat}, (σ.set i (some v))[i]? = some (some (.ref a)) → v = .ref a := fun {m} e => by
      by_cases hl : i < σ.length
      · rw [List.getElem?_set_self hl] at e; cases e; rfl
      · rw [List.getElem?_eq_none (by simpa using hl)] at e; cases e
    rcases ownAt_set2 h1 with ⟨z1, o1⟩ | ⟨k1, n1⟩
    · rcases ownAt_set2 h2 with ⟨z2, o2⟩ | ⟨k2, n2⟩
      · exact n (z1.trans z2.symm)
      · rw [List.getElem?_set_ne (Ne.symm n2)] at e2
        rw [z1] at e1
        exact fr o1 a (at_i (m := 0) e1) k k2 e2
    · rw [List.getElem?_set_ne (Ne.symm n1)] at e1
      rcases ownAt_set2 h2 with ⟨z2, o2⟩ | ⟨k2, n2⟩
      · rw [z2] at e2
        exact fr o2 a (at_i (m := 0) e2) j k1 e1
      · rw [List.getElem?_set_ne (Ne.symm n2)] at e2
        exact w.dis j k a n k1 k2 e1 e2

/-- x = a new list or dict -/
def sOwn (i : Nat) (f : SF) : SS := fun ρ g => toFl ρ (f ρ g) fun s g1 => .nx (ρ.set i (some s)) g1
theorem bindS_F {P0 H0 P H : Hp} {ρ : Rho} {g : G} {σ : St} {D : Ends} {f : SF} {n : Sl → G → Fl} {Q' : VK} (ws : WS c P0 H0 P ρ g σ H) (post : PostS c W P0 H0 D (toFl ρ (f ρ g) n))
    (step : ∀ P1 H1 g1 v s, Ext c P H P1 H1 → WS c P0 H0 P1 ρ g1 σ H1 → FreshSl c H0 H P1 H1 v s → PostS c W P0 H0 D (n s g1) → Q' v H1) : tF c W f σ H Q' := by
  refine ⟨P0, H0, P, ρ, g, ws, ?_⟩
  cases hf : f ρ g with
  | ok d g1 =>
    rw [hf] at post
    exact fun P1 H1 e gr v r => step P1 H1 g1 v d e (ws.next e gr) r post
  | ex x g1 => rw [hf] at post; exact fun P1 H1 cls dd e gr xr => post P1 σ H1 cls dd (ws.next e gr) xr
  | fail => rw [hf] at post; exact post
theorem rs_own {s : Stmt} {i : Nat} {f : SF} (h : PS X s (tAsg (tF c W f) (gName i))) : PS X s (tS c W (sOwn i f)) := PS.by h fun D σ H ⟨P0, H0, P, ρ, g, ws, post⟩ => by
  refine bindS_F ws post fun P1 H1 g1 v s x1 w1 fr post1 => ?_
  refine post1 P1 _ H1 (w1.setSl fr.1 fun _ T e j h1 h2 => ?_)
  obtain ⟨T', e', hT⟩ := fr.2
  rw [e] at e'
  cases e'
  exact own_some ws h1 h2 hT
/-- [..], {} as new ones -/
def fLstO (f : SA) : SF := fun ρ g => (f ρ g).bind fun ds g1 => if ds.length ≤ 1000 then .ok (.ow ds) g1 else .fail
theorem rf_lst {es : List Expr} {fs : SA} {pos : Pos} (h : PA X es (tA c W fs)) : PE X (.List es pos) (tF c W (fLstO fs)) := PE.by (pe_lst h) fun σ H Q ⟨P0, H0, P, ρ, g, ws, post⟩ => by
  refine bind_A ws post fun P1 H1 g1 vs ds _ x1 w1 r1 post1 => ?_
  split at post1
  · rename_i hl
    refine ⟨by rw [r1.length]; exact le_line hl, fun p hp => ?_⟩
    have hP := Same.free w1.sub hp
    refine post1 P1 _ ((Ext.refl w1.sub).put hp hP) ⟨?_, ?_, ?_, w1.gr.ne⟩ _ ⟨⟨p, vs, rfl, upd_same, r1, hP, none_back w1.ext hp⟩, p, rfl, none_back x1 hp⟩
    · rw [upd_ne (ne_of_none w1.gr.s hp)]; exact w1.gr.s
    · rw [upd_ne (ne_of_none w1.gr.l hp)]; exact w1.gr.l
    · rw [upd_ne (ne_of_none w1.gr.e hp)]; exact w1.gr.e
  · exact post1.elim
def fDic0 : SF := fun _ g => .ok (.od []) g
theorem rf_dic0 {pos : Pos} : PE X (.Dict [] [] pos) (tF c W fDic0) := PE.by pe_dnewK fun σ H Q ⟨P0, H0, P, ρ, g, ws, post⟩ => by
  intro p hp
  have hP := Same.free ws.sub hp
  refine post P _ ((Ext.refl ws.sub).put hp hP) ⟨?_, ?_, ?_, ws.gr.ne⟩ _ ⟨⟨p, [], rfl, upd_same, .nil, hP, none_back ws.ext hp⟩, p, rfl, hp⟩
  · rw [upd_ne (ne_of_none ws.gr.s hp)]; exact ws.gr.s
  · rw [upd_ne (ne_of_none ws.gr.l hp)]; exact ws.gr.l
  · rw [upd_ne (ne_of_none ws.gr.e hp)]; exact ws.gr.e

/-! ### several targets at once -/
inductive FSls (c : Gam) (H0 Hs P H : Hp) : List V → List Sl → Prop
  | nil : FSls c H0 Hs P H [] []
  | cons {v : V} {s : Sl} {vs : List V} {ss : List Sl} : SlR c H0 P H v s → (s.own = true → ∃ T, v = .ref T ∧ Hs T = none ∧ ∀ (k : Nat) (s' : Sl), ss[k]? = some s' → s'.own = true → vs[k]? ≠ some (.ref T)) → FSls c H0 Hs P H vs ss → FSls c H0 Hs P H (v :: vs) (s :: ss)
abbrev SFs := Rho → G → Res (List Sl)
def tFs (c : Gam) (W : WX) (f : SFs) : TA := fun σ H Q => ∃ P0 H0 P ρ g, WS c P0 H0 P ρ g σ H ∧ Post c W σ (fun P' H' ss => ∀ vs, FSls c H0 H P' H' vs ss → Q vs H') P H (f ρ g)
def fNil : SFs := fun _ g => .ok [] g
def fSh (f : SE) (h : SFs) : SFs := fun ρ g => (f ρ g).bind fun d g1 => (h ρ g1).bind fun ss g2 => .ok (.sh d :: ss) g2
def fOwn (f : SF) (h : SFs) : SFs := fun ρ g => (f ρ g).bind fun s g1 => (h ρ g1).bind fun ss g2 => .ok (s :: ss) g2
theorem FSls.older {H0 Hs Hs' P H : Hp} {vs : List V} {ss : List Sl} (h : FSls c H0 Hs P H vs ss) (o : ∀ a, Hs a = none → Hs' a = none) : FSls c H0 Hs' P H vs ss := by
  induction h with
  | nil => exact .nil
  | cons r fr _ ih => exact .cons r (fun z => let ⟨T, e, h1, h2⟩ := fr z; ⟨T, e, o T h1, h2⟩) ih
theorem FSls.fresh {H0 Hs P H : Hp} {vs : List V} {ss : List Sl} (h : FSls c H0 Hs P H vs ss) : ∀ (k : Nat) (s : Sl) (T : Addr), ss[k]? = some s → s.own = true → vs[k]? = some (.ref T) → Hs T = none := by
  induction h with
  | nil => intro k s T e; simp at e
  | @cons v s vs ss r fr _ ih =>
    intro k s' T e o e2
    cases k with
    | zero =>
      simp at e e2
      subst e
      obtain ⟨T', q, h1, _⟩ := fr o
      rw [e2] at q
      cases q
      exact h1
    | succ k => exact ih k s' T (by simpa using e) o (by simpa using e2)
theorem bind_Fs {P0 H0 P H : Hp} {ρ : Rho} {g : G} {σ : St} {β : Type} {k : Hp → Hp → β → Prop} {f : SFs} {n : List Sl → G → Res β} {Q' : List V → Hp → Prop} (ws : WS c P0 H0 P ρ g σ H) (post : Post c W σ k P H ((f ρ g).bind n))
    (step : ∀ P1 H1 g1 vs ss, Ext c P H P1 H1 → WS c P0 H0 P1 ρ g1 σ H1 → FSls c H0 H P1 H1 vs ss → Post c W σ k P1 H1 (n ss g1) → Q' vs H1) : tFs c W f σ H Q' := by
  refine ⟨P0, H0, P, ρ, g, ws, ?_⟩
  cases hf : f ρ g with
  | ok d g1 =>
    rw [hf] at post
    exact fun P1 H1 e gr vs r => step P1 H1 g1 vs d e (ws.next e gr) r (Post.next (r := n d g1) post e)
  | ex x g1 => rw [hf] at post; exact post
  | fail => rw [hf] at post; exact post
theorem bindS_Fs {P0 H0 P H : Hp} {ρ : Rho} {g : G} {σ : St} {D : Ends} {f : SFs} {n : List Sl → G → Fl} {Q' : List V → Hp → Prop} (ws : WS c P0 H0 P ρ g σ H) (post : PostS c W P0 H0 D (toFl ρ (f ρ g) n))
    (step : ∀ P1 H1 g1 vs ss, f ρ g = .ok ss g1 → Ext c P H P1 H1 → WS c P0 H0 P1 ρ g1 σ H1 → FSls c H0 H P1 H1 vs ss → PostS c W P0 H0 D (n ss g1) → Q' vs H1) : tFs c W f σ H Q' := by
  refine ⟨P0, H0, P, ρ, g, ws, ?_⟩
  cases hf : f ρ g with
  | ok d g1 =>
    rw [hf] at post
    exact fun P1 H1 e gr v r => step P1 H1 g1 v d hf e (ws.next e gr) r post
  | ex x g1 => rw [hf] at post; exact fun P1 H1 cls dd e gr xr => post P1 σ H1 cls dd (ws.next e gr) xr
  | fail => rw [hf] at post; exact post
theorem bind_F {P0 H0 P H : Hp} {ρ : Rho} {g : G} {σ : St} {β : Type} {k : Hp → Hp → β → Prop} {f : SF} {n : Sl → G → Res β} {Q' : VK} (ws : WS c P0 H0 P ρ g σ H) (post : Post c W σ k P H ((f ρ g).bind n))
    (step : ∀ P1 H1 g1 v s, Ext c P H P1 H1 → WS c P0 H0 P1 ρ g1 σ H1 → FreshSl c H0 H P1 H1 v s → Post c W σ k P1 H1 (n s g1) → Q' v H1) : tF c W f σ H Q' := by
  refine ⟨P0, H0, P, ρ, g, ws, ?_⟩
  cases hf : f ρ g with
  | ok d g1 =>
    rw [hf] at post
    exact fun P1 H1 e gr v r => step P1 H1 g1 v d e (ws.next e gr) r (Post.next (r := n d g1) post e)
  | ex x g1 => rw [hf] at post; exact post
  | fail => rw [hf] at post; exact post
theorem rfs_nil : PA X [] (tFs c W fNil) := PA.by pa_nil fun σ H Q ⟨P0, H0, P, ρ, g, ws, post⟩ => post P H (Ext.refl ws.sub) ws.gr [] .nil
theorem rfs_sh {e : Expr} {es : List Expr} {f : SE} {h : SFs} (ha : PE X e (tE c W f)) (hr : PA X es (tFs c W h)) (hs : starEach (e :: es) X.env = (false, eval e X.env) :: starEach es X.env := by rfl) : PA X (e :: es) (tFs c W (fSh f h)) := PA.by (pa_cons ha hr hs) fun σ H Q ⟨P0, H0, P, ρ, g, ws, post⟩ => by
  refine bind_E ws post fun P1 H1 g1 v d _ x1 w1 r1 post1 => bind_Fs w1 post1 fun P2 H2 g2 vs ss x2 w2 r2 post2 => ?_
  exact post2 P2 H2 (Ext.refl w2.sub) w2.gr _ (.cons (s := .sh d) (R.mono x2.pub r1) (fun z => nomatch z) (r2.older fun a h => none_back x1 h))
theorem rfs_own {e : Expr} {es : List Expr} {f : SF} {h : SFs} (ha : PE X e (tF c W f)) (hr : PA X es (tFs c W h)) (hs : starEach (e :: es) X.env = (false, eval e X.env) :: starEach es X.env := by rfl) : PA X (e :: es) (tFs c W (fOwn f h)) := PA.by (pa_cons ha hr hs) fun σ H Q ⟨P0, H0, P, ρ, g, ws, post⟩ => by
  refine bind_F ws post fun P1 H1 g1 v s x1 w1 r1 post1 => bind_Fs w1 post1 fun P2 H2 g2 vs ss x2 w2 r2 post2 => ?_
  refine post2 P2 H2 (Ext.refl w2.sub) w2.gr _ (.cons (r1.1.ext w1.hs w1.hl x2) (fun z => ?_) (r2.older fun a h => none_back x1 h))
  obtain ⟨T, e, hT⟩ := r1.2
  refine ⟨T, e, hT, fun k s' q1 q2 q3 => ?_⟩
  have hn := r2.fresh k s' T q1 q2 q3
  have h1 := r1.1
  subst e
  cases s with
  | sh d => cases z
  | ow xs => obtain ⟨a, vs, e, h1, _⟩ := h1; cases e; rw [hn] at h1; cases h1
  | od xs => obtain ⟨a, vs, e, h1, _⟩ := h1; cases e; rw [hn] at h1; cases h1
def setR (ρ : Rho) : List Nat → List Sl → Rho
  | i :: is, s :: ss => setR (ρ.set i (some s)) is ss
  | _, _ => ρ
def setS (σ : St) : List Nat → List V → St
  | i :: is, v :: vs => setS (σ.set i (some v)) is vs
  | _, _ => σ
theorem WS.setAll {P0 H0 Hs P H : Hp} {g : G} {vs : List V} {ss : List Sl} (h : FSls c H0 Hs P H vs ss) : ∀ {ρ : Rho} {σ : St} {is : List Nat}, WS c P0 H0 P ρ g σ H →
    (∀ (k : Nat) (s : Sl) (T : Addr), ss[k]? = some s → s.own = true → vs[k]? = some (.ref T) → ∀ j, ownAt ρ j → σ[j]? ≠ some (some (.ref T))) → WS c P0 H0 P (setR ρ is ss) g (setS σ is vs) H := by
  induction h with
  | nil => intro ρ σ is w _; cases is <;> exact w
  | @cons v s vs ss r fr _ ih =>
    intro ρ σ is w hf
    cases is with
    | nil => exact w
    | cons i is =>
      refine ih (ρ := ρ.set i (some s)) (σ := σ.set i (some v)) (w.setSl r fun o T e j h1 h2 => hf 0 s T rfl o (by rw [e]; rfl) j h1 h2) fun k s' T q1 q2 q3 j h1 h2 => ?_
      rcases ownAt_set2 h1 with ⟨rfl, o1⟩ | ⟨h1, n1⟩
      · obtain ⟨T', e, _, h3⟩ := fr o1
        have hv : v = .ref T := by
          by_cases hl : j < σ.length
          · rw [List.getElem?_set_self hl] at h2; cases h2; rfl
          · rw [List.getElem?_eq_none (by simpa using hl)] at h2; cases h2
        rw [hv] at e
        cases e
        exact h3 k s' q1 q2 q3
      · rw [List.getElem?_set_ne (Ne.symm n1)] at h2
        exact hf (k + 1) s' T (by simpa using q1) q2 (by simpa using q3) j h1 h2
def sPar (is : List Nat) (f : SFs) : SS := fun ρ g => toFl ρ (f ρ g) fun ss g1 => if ss.length = is.length then .nx (setR ρ is ss) g1 else .fail
theorem FSls.length {H0 Hs P H : Hp} {vs : List V} {ss : List Sl} (h : FSls c H0 Hs P H vs ss) : vs.length = ss.length := by
  induction h with
  | nil => rfl
  | cons _ _ _ ih => simp [ih]
theorem rs_par2 {s : Stmt} {i j : Nat} {f : SFs} (h : PS X s (tPar i j (tFs c W f))) : PS X s (tS c W (sPar [i, j] f)) := PS.by h fun D σ H ⟨P0, H0, P, ρ, g, ws, post⟩ => by
  refine bindS_Fs ws post fun P1 H1 g1 vs ss _ x1 w1 r1 post1 => ?_
  split at post1
  · rename_i hl
    have hl2 := r1.length.trans hl
    match vs, hl2 with
    | [v, u], _ => exact ⟨v, u, rfl, post1 P1 _ H1 (w1.setAll r1 (is := [i, j]) fun k s T q1 q2 q3 j h1 h2 => own_some ws h1 h2 (r1.fresh k s T q1 q2 q3))⟩
  · exact post1.elim
theorem rs_par3 {s : Stmt} {i j k : Nat} {f : SFs} (h : PS X s (tPar3 i j k (tFs c W f))) : PS X s (tS c W (sPar [i, j, k] f)) := PS.by h fun D σ H ⟨P0, H0, P, ρ, g, ws, post⟩ => by
  refine bindS_Fs ws post fun P1 H1 g1 vs ss _ x1 w1 r1 post1 => ?_
  split at post1
  · rename_i hl
    have hl2 := r1.length.trans hl
    match vs, hl2 with
    | [v, u, t], _ => exact ⟨v, u, t, rfl, post1 P1 _ H1 (w1.setAll r1 (is := [i, j, k]) fun k s T q1 q2 q3 j h1 h2 => own_some ws h1 h2 (r1.fresh k s T q1 q2 q3))⟩
  · exact post1.elim
def gNames : List Nat → TGs
  | [] => gNil
  | i :: is => gCons (gName i) (gNames is)
theorem gNames_go {Q : St → Hp → Prop} : ∀ {is : List Nat} {vs : List V} {σ : St} {H : Hp}, vs.length = is.length → Q (setS σ is vs) H → gNames is vs σ H Q
  | [], [], σ, H, _, q => ⟨rfl, q⟩
  | i :: is, v :: vs, σ, H, hl, q => ⟨v, vs, rfl, gNames_go (by simpa using hl) q⟩
theorem rs_parT {s : Stmt} {is : List Nat} {n : Nat} {f : SFs} {K : PySem.W.Frag} (hK : K = c.K) (hn : n = is.length) (h6 : is.length ≤ 1000) (h : PS X s (tAsg (tTup (tFs c W f)) (gTup K n (gNames is)))) : PS X s (tS c W (sPar is f)) := by
  subst hK
  subst hn
  refine PS.by h fun D σ H ⟨P0, H0, P, ρ, g, ws, post⟩ => ?_
  refine bindS_Fs ws post fun P1 H1 g1 vs ss _ x1 w1 r1 post1 => ?_
  split at post1
  · rename_i hl
    have hl2 := r1.length.trans hl
    refine ⟨by rw [hl2]; exact le_line h6, fun p hp => ⟨p, vs, rfl, .inl (.inl upd_same), hl2, ?_⟩⟩
    have w2 := w1.setAll r1 (is := is) fun k s T q1 q2 q3 j h1 h2 => own_some ws h1 h2 (r1.fresh k s T q1 q2 q3)
    have hP := Same.free w1.sub hp
    refine gNames_go hl2 (post1 P1 _ _ (w2.put (none_back w1.ext hp) hP fun j a h1 h2 z => own_some w2 h1 h2 (z ▸ hp)))
  · exact post1.elim
end
end CP

/-! CPAct: append, extend, d[k] = v, xs[i] = v upon a def's own; sharing one; the promise of a def. -/
namespace CP
open PySem PySem.Spec L2
open PyProof.Rows hiding St

section
variable {X : Cx} {c : Gam} {W : WX}
theorem WS.mutL {P0 H0 P H : Hp} {ρ : Rho} {g : G} {σ : St} {i : Nat} {a : Addr} {o : HO} {s : Sl} (w : WS c P0 H0 P ρ g σ H) (ow : ownAt ρ i) (e1 : σ[i]? = some (some (.ref a))) (h0 : H0 a = none) (hP : P a = none)
    (r : SlR c H0 P (upd H a o) (.ref a) s) : WS c P0 H0 P (ρ.set i (some s)) g σ (upd H a o) where
  len := by rw [List.length_set]; exact w.len
  ext := w.ext.put h0 hP
  gr := ⟨by rw [upd_ne (fun (e : c.sa = a) => w.hs (e ▸ h0))]; exact w.gr.s, by rw [upd_ne (fun (e : c.la = a) => w.hl (e ▸ h0))]; exact w.gr.l, by rw [upd_ne (fun (e : c.ca = a) => w.hc (e ▸ h0))]; exact w.gr.e, w.gr.ne⟩
  hs := w.hs
  hl := w.hl
  hc := w.hc
  ps := w.ps
  pl := w.pl
  pc := w.pc
  env := fun j s' e => by
    by_cases hj : j = i
    · subst hj
      by_cases hl : j < ρ.length
      · rw [List.getElem?_set_self hl] at e
        cases e
        exact ⟨_, e1, r⟩
      · rw [List.getElem?_eq_none (by simpa using hl)] at e; cases e
    · rw [List.getElem?_set_ne (Ne.symm hj)] at e
      obtain ⟨v, e2, h⟩ := w.env j s' e
      refine ⟨v, e2, ?_⟩
      cases s' with
      | sh d => exact h
      | ow xs =>
        obtain ⟨b, vs, rfl, h1, h2, h3, h4⟩ := h
        exact ⟨b, vs, rfl, by rw [upd_ne (fun (z : b = a) => w.dis j i a hj ⟨_, e, rfl⟩ ow (z ▸ e2) e1)]; exact h1, h2, h3, h4⟩
      | od xs =>
        obtain ⟨b, vs, rfl, h1, h2, h3, h4⟩ := h
        exact ⟨b, vs, rfl, by rw [upd_ne (fun (z : b = a) => w.dis j i a hj ⟨_, e, rfl⟩ ow (z ▸ e2) e1)]; exact h1, h2, h3, h4⟩
  dis := fun j k b n h1 h2 q1 q2 => by
    have lem : ∀ m, ownAt (ρ.set i (some s)) m → ownAt ρ m := fun m h => by
      rcases ownAt_set2 h with ⟨z, _⟩ | ⟨h, _⟩
      · rw [z]; exact ow
      · exact h
    exact w.dis j k b n (lem j h1) (lem k h2) q1 q2

/-- x.append(e) -/
def sApp (i : Nat) (f : SE) : SS := fun ρ g => match ρ[i]? with
  | some (some (.ow xs)) => toFl ρ (f ρ g) fun d g1 => if xs.length ≤ 100000 then .nx (ρ.set i (some (.ow (xs ++ [d])))) g1 else .fail
  | _ => .fail
theorem rs_app {s : Stmt} {i : Nat} {f : SE} {K : PySem.W.Frag} (hK : K = c.K) (h : PS X s (tDrop (tBM K "list" rAppend (tVar i) (tCons (tE c W f) tNil)))) : PS X s (tS c W (sApp i f)) := by
  subst hK
  refine PS.by h fun D σ H ⟨P0, H0, P, ρ, g, ws, post⟩ => ?_
  unfold sApp at post
  split at post
  · rename_i xs e
    obtain ⟨v, e1, a, vs, rfl, h1, h2, h3, h4⟩ := ws.env i _ e
    refine ⟨_, e1, .inl ⟨rfl, vs, SqL.of h1⟩, ?_⟩
    refine bindS_E ws post fun P1 H1 g1 v d _ x1 w1 r1 post1 => ?_
    split at post1
    · rename_i hl
      obtain ⟨v', e2, b, vs', q, k1, k2, k3, k4⟩ := w1.env i _ e
      rw [e1] at e2
      cases e2
      cases q
      exact ⟨a, vs', v, rfl, rfl, k1, lt_line (by rw [k2.length]; exact hl), post1 P1 σ _ (w1.mutL ⟨_, e, rfl⟩ e1 k4 k3 ⟨a, _, rfl, upd_same, k2.snoc r1, k3, k4⟩)⟩
    · exact post1.elim
  · exact post.elim
/-- x.extend(e), e a list -/
def sExt (i : Nat) (f : SE) : SS := fun ρ g => match ρ[i]? with
  | some (some (.ow xs)) => toFl ρ (f ρ g) fun d g1 => match d with
    | .lst ys => if xs.length + ys.length ≤ 100000 then .nx (ρ.set i (some (.ow (xs ++ ys)))) g1 else .fail
    | _ => .fail
  | _ => .fail
theorem rs_ext {s : Stmt} {i : Nat} {f : SE} {K : PySem.W.Frag} (hK : K = c.K) (h : PS X s (tDrop (tBM K "list" rExtend (tVar i) (tCons (tE c W f) tNil)))) : PS X s (tS c W (sExt i f)) := by
  subst hK
  refine PS.by h fun D σ H ⟨P0, H0, P, ρ, g, ws, post⟩ => ?_
  unfold sExt at post
  split at post
  · rename_i xs e
    obtain ⟨v, e1, a, vs, rfl, h1, h2, h3, h4⟩ := ws.env i _ e
    refine ⟨_, e1, .inl ⟨rfl, vs, SqL.of h1⟩, ?_⟩
    refine bindS_E ws post fun P1 H1 g1 v d _ x1 w1 r1 post1 => ?_
    have r1 : R c P1 v d := r1
    cases r1 with
    | @lst b us ys q1 q2 =>
      obtain ⟨v', e2, b', vs', q, k1, k2, k3, k4⟩ := w1.env i _ e
      rw [e1] at e2
      cases e2
      cases q
      by_cases hl : xs.length + ys.length ≤ 100000
      · have post2 : PostS c W P0 H0 D (if xs.length + ys.length ≤ 100000 then Fl.nx (ρ.set i (some (.ow (xs ++ ys)))) g1 else .fail) := post1
        rw [if_pos hl] at post2
        refine ⟨a, b, vs', us, rfl, rfl, k1, w1.sub _ _ q1, ?_, post2 P1 σ _ (w1.mutL ⟨_, e, rfl⟩ e1 k4 k3 ⟨a, _, rfl, upd_same, k2.append q2, k3, k4⟩)⟩
        rw [k2.length, q2.length]
        exact Nat.le_of_lt (lt_line hl)
      · have post2 : PostS c W P0 H0 D (if xs.length + ys.length ≤ 100000 then Fl.nx (ρ.set i (some (.ow (xs ++ ys)))) g1 else .fail) := post1
        rw [if_neg hl] at post2
        exact post2.elim
    | _ => exact post1.elim
  · exact post.elim

/-! ### dicts -/
def keyOf : D → Option Key
  | .int i => some (.inl i)
  | .str x => some (.inr x)
  | _ => none
theorem keyOf_v {P H : Hp} {v : V} {d : D} {k : Key} (r : RX c P H v d) (e : keyOf d = some k) : v = kV k := by
  rcases r with r | ⟨_, _, _, _, h, _⟩ | ⟨_, _, _, _, h, _⟩
  · cases r <;> cases e <;> rfl
  · subst h; cases e
  · subst h; cases e
theorem keyOf_ok {P H : Hp} {v : V} {d : D} {k : Key} (r : RX c P H v d) (e : keyOf d = some k) : kOk k = true := by
  rcases r with r | ⟨_, _, _, _, h, _⟩ | ⟨_, _, _, _, h, _⟩
  · cases r with
    | int i => cases e; rfl
    | str h => cases e; exact h
    | _ => cases e
  · subst h; cases e
  · subst h; cases e
def valD (kvs : List (Key × D)) (k : Key) : Option D := (kvs.find? fun kv => decide (kv.1 = k)).map (·.2)
def hasD (kvs : List (Key × D)) (k : Key) : Bool := kvs.any fun kv => decide (kv.1 = k)
def putD (kvs : List (Key × D)) (k : Key) (d : D) : List (Key × D) :=
  if hasD kvs k = true then kvs.map (fun kv => if kv.1 = k then (kv.1, d) else kv) else kvs ++ [(k, d)]
theorem RKvs.length {P : Hp} : ∀ {es : List (Key × V)} {kvs : List (Key × D)}, RKvs c P es kvs → es.length = kvs.length
  | _, _, .nil => rfl
  | _, _, .cons _ _ t => by rw [List.length_cons, List.length_cons, t.length]
theorem RKvs.val {P : Hp} {k : Key} : ∀ {es : List (Key × V)} {kvs : List (Key × D)}, RKvs c P es kvs → (∀ d, valD kvs k = some d → ∃ v, valV es k = some v ∧ R c P v d) ∧ (valD kvs k = none → valV es k = none)
  | _, _, .nil => ⟨fun d e => by simp [valD] at e, fun _ => rfl⟩
  | _, _, .cons (k := k') (vs := es) (ds := kvs) _ r t => by
    have ih := RKvs.val (k := k) t
    unfold valD valV at *
    by_cases hk : k' = k
    · simp only [List.find?_cons, hk, decide_true, Option.map_some]
      exact ⟨fun d e => ⟨_, rfl, by cases e; exact r⟩, fun z => nomatch z⟩
    · simp only [List.find?_cons, hk, decide_false]
      exact ih
theorem RKvs.any {P : Hp} {k : Key} : ∀ {es : List (Key × V)} {kvs : List (Key × D)}, RKvs c P es kvs → (es.any fun kv => decide (kv.1 = k)) = hasD kvs k
  | _, _, .nil => rfl
  | _, _, .cons _ _ t => by
    have ih := RKvs.any (k := k) t
    unfold hasD at *
    simp only [List.any_cons, ih]
theorem RKvs.snoc {P : Hp} {k : Key} {v : V} {d : D} (ko : kOk k = true) (r : R c P v d) : ∀ {es : List (Key × V)} {kvs : List (Key × D)}, RKvs c P es kvs → RKvs c P (es ++ [(k, v)]) (kvs ++ [(k, d)])
  | _, _, .nil => .cons ko r .nil
  | _, _, .cons o q t => .cons o q (t.snoc ko r)
theorem RKvs.mapput {P : Hp} {k : Key} {v : V} {d : D} (r : R c P v d) : ∀ {es : List (Key × V)} {kvs : List (Key × D)}, RKvs c P es kvs →
    RKvs c P (es.map fun kv => if kv.1 = k then (kv.1, v) else kv) (kvs.map fun kv => if kv.1 = k then (kv.1, d) else kv)
  | _, _, .nil => .nil
  | _, _, .cons (k := k') o q t => by
    simp only [List.map_cons]
    by_cases hk : k' = k
    · simp only [hk, if_true]
      exact .cons (hk ▸ o) r (t.mapput r)
    · simp only [hk, if_false]
      exact .cons o q (t.mapput r)
theorem RKvs.put {P : Hp} {k : Key} {v : V} {d : D} {es : List (Key × V)} {kvs : List (Key × D)} (h : RKvs c P es kvs) (ko : kOk k = true) (r : R c P v d) : RKvs c P (putK es k v) (putD kvs k d) := by
  unfold putK putD
  rw [h.any]
  by_cases e : hasD kvs k = true
  · rw [if_pos e, if_pos e]; exact h.mapput r
  · rw [if_neg e, if_neg e]; exact h.snoc ko r
/-- x[k] = e -/
def sPut (i : Nat) (fk fv : SE) : SS := fun ρ g => toFl ρ (fv ρ g) fun d g1 => match ρ[i]? with
  | some (some (.od kvs)) => toFl ρ (fk ρ g1) fun y g2 => match keyOf y with
    | some k => if kvs.length ≤ 100000 then .nx (ρ.set i (some (.od (putD kvs k d)))) g2 else .fail
    | none => .fail
  | _ => .fail
theorem rs_put {s : Stmt} {i : Nat} {fk fv : SE} (h : PS X s (sDPut (tVar i) (tX c W fk) (tE c W fv))) : PS X s (tS c W (sPut i fk fv)) := PS.by h fun D σ H ⟨P0, H0, P, ρ, g, ws, post⟩ => by
  refine bindS_E ws post fun P1 H1 g1 v d _ x1 w1 r1 post1 => ?_
  split at post1
  · rename_i kvs e
    obtain ⟨u, e1, a, es, rfl, h1, h2, h3, h4⟩ := w1.env i _ e
    refine ⟨_, e1, bindS_E w1 post1 fun P2 H2 g2 y dy _ x2 w2 r2 post2 => ?_⟩
    split at post2
    · rename_i k ek
      split at post2
      · rename_i hl
        obtain ⟨v', e2, b', vs', q, k1, k2, k3, k4⟩ := w2.env i _ e
        rw [e1] at e2
        cases e2
        cases q
        have ko := keyOf_ok r2 ek
        have ey := keyOf_v r2 ek
        subst ey
        exact ⟨a, _, rfl, DPut.k k1 (lt_line (by rw [k2.length]; exact hl)), post2 P2 σ _ (w2.mutL ⟨_, e, rfl⟩ e1 k4 k3 ⟨a, _, rfl, upd_same, k2.put ko (R.mono x2.pub r1), k3, k4⟩)⟩
      · exact post2.elim
    · exact post2.elim
  · exact post1.elim

/-! ### from own to shared -/
def frz (i : Nat) (ρ : Rho) : Rho := match ρ[i]? with
  | some (some (.ow xs)) => ρ.set i (some (.sh (.lst xs)))
  | some (some (.od kvs)) => ρ.set i (some (.sh (.dic kvs)))
  | _ => ρ
theorem set_same_get {σ : St} {i : Nat} {x : Option V} (h : σ[i]? = some x) : σ.set i x = σ := by
  refine List.ext_getElem? fun j => ?_
  by_cases e : j = i
  · subst e
    rw [List.getElem?_set_self (List.getElem?_eq_some_iff.mp h).1, h]
  · rw [List.getElem?_set_ne (Ne.symm e)]
theorem WS.share {P0 H0 P H : Hp} {ρ : Rho} {g : G} {σ : St} {i : Nat} {a : Addr} {o : HO} {d : D} (w : WS c P0 H0 P ρ g σ H) (ow : ownAt ρ i) (e1 : σ[i]? = some (some (.ref a))) (h1 : H a = some o) (h0 : H0 a = none) (hP : P a = none)
    (r : R c (upd P a o) (.ref a) d) : WS c P0 H0 (upd P a o) (ρ.set i (some (.sh d))) g σ H where
  len := by rw [List.length_set]; exact w.len
  ext := w.ext.publish h1 h0
  gr := w.gr
  hs := w.hs
  hl := w.hl
  hc := w.hc
  ps := w.ps
  pl := w.pl
  pc := w.pc
  env := fun j s' e => by
    by_cases hj : j = i
    · subst hj
      by_cases hl : j < ρ.length
      · rw [List.getElem?_set_self hl] at e
        cases e
        exact ⟨_, e1, r⟩
      · rw [List.getElem?_eq_none (by simpa using hl)] at e; cases e
    · rw [List.getElem?_set_ne (Ne.symm hj)] at e
      obtain ⟨v, e2, h⟩ := w.env j s' e
      refine ⟨v, e2, ?_⟩
      have sm := same_upd (o := o) hP
      cases s' with
      | sh d => exact R.mono sm h
      | ow xs =>
        obtain ⟨b, vs, rfl, h1, h2, h3, h4⟩ := h
        exact ⟨b, vs, rfl, h1, h2.mono sm, by rw [upd_ne (fun (z : b = a) => w.dis j i a hj ⟨_, e, rfl⟩ ow (z ▸ e2) e1)]; exact h3, h4⟩
      | od xs =>
        obtain ⟨b, vs, rfl, h1, h2, h3, h4⟩ := h
        exact ⟨b, vs, rfl, h1, h2.mono sm, by rw [upd_ne (fun (z : b = a) => w.dis j i a hj ⟨_, e, rfl⟩ ow (z ▸ e2) e1)]; exact h3, h4⟩
  dis := fun j k b n h1 h2 q1 q2 => by
    have lem : ∀ m, ownAt (ρ.set i (some (.sh d))) m → ownAt ρ m := fun m h => (ownAt_set h).1
    exact w.dis j k b n (lem j h1) (lem k h2) q1 q2
theorem WS.frz {P0 H0 P H : Hp} {ρ : Rho} {g : G} {σ : St} (i : Nat) (w : WS c P0 H0 P ρ g σ H) : ∃ P', WS c P0 H0 P' (frz i ρ) g σ H := by
  unfold CP.frz
  split
  · rename_i xs e
    obtain ⟨v, e1, a, vs, rfl, h1, h2, h3, h4⟩ := w.env i _ e
    exact ⟨_, w.share ⟨_, e, rfl⟩ e1 h1 h4 h3 (.lst upd_same (h2.mono (same_upd h3)))⟩
  · rename_i xs e
    obtain ⟨v, e1, a, vs, rfl, h1, h2, h3, h4⟩ := w.env i _ e
    exact ⟨_, w.share ⟨_, e, rfl⟩ e1 h1 h4 h3 (.dic upd_same (h2.mono (same_upd h3)))⟩
  · exact ⟨P, w⟩
def sFrz (i : Nat) (f : SS) : SS := fun ρ g => f (frz i ρ) g
theorem rs_frz {ss : List Stmt} {f : SS} (i : Nat) (h : PSs X ss (tS c W f)) : PSs X ss (tS c W (sFrz i f)) := PSs.by h fun D σ H ⟨P0, H0, P, ρ, g, ws, post⟩ => by
  obtain ⟨P', w⟩ := ws.frz i
  exact ⟨P0, H0, P', _, g, w, post⟩

/-! ### the promise of a def -/
def init (n : Nat) (ds : List D) : Rho := ds.map (fun d => some (.sh d)) ++ List.replicate (n - ds.length) none
def runB (n : Nat) (b : SS) : Fn := fun ds g => match b (init n ds) g with
  | .rt d g' => .ok d g'
  | .nx _ g' => .ok .non g'
  | .ex _ x g' => .ex x g'
  | _ => .fail
theorem ws_init {P H : Hp} {g : G} {N : List Str} {vs : List V} {ds : List D} (w : Wd c P g H) (r : RAll c P vs ds) : WS c P H P (init N.length ds) g (L2.start N vs) H where
  len := by unfold init L2.start; rw [List.length_append, List.length_append, List.length_map, List.length_map, r.length, List.length_replicate, List.length_replicate]
  ext := Ext.refl w.sub
  gr := w.gr
  hs := by rw [w.gr.s]; exact fun z => nomatch z
  hl := by rw [w.gr.l]; exact fun z => nomatch z
  hc := by rw [w.gr.e]; exact fun z => nomatch z
  ps := w.ps
  pl := w.pl
  pc := w.pc
  env := fun i s e => by
    unfold init at e
    by_cases hi : i < ds.length
    · rw [List.getElem?_append_left (by rw [List.length_map]; exact hi), List.getElem?_map] at e
      obtain ⟨d, hd⟩ : ∃ d, ds[i]? = some d := ⟨_, List.getElem?_eq_getElem hi⟩
      rw [hd] at e
      cases e
      obtain ⟨v, hv, rv⟩ := r.getD hd
      refine ⟨v, ?_, rv⟩
      unfold L2.start
      rw [List.getElem?_append_left (by rw [List.length_map, r.length]; exact hi), List.getElem?_map, hv]
      rfl
    · rw [List.getElem?_append_right (by rw [List.length_map]; omega), List.getElem?_replicate] at e
      split at e <;> cases e
  dis := fun i j a _ h _ _ _ => by
    obtain ⟨s, e, o⟩ := h
    unfold init at e
    by_cases hi : i < ds.length
    · rw [List.getElem?_append_left (by rw [List.length_map]; exact hi), List.getElem?_map] at e
      obtain ⟨d, hd⟩ : ∃ d, ds[i]? = some d := ⟨_, List.getElem?_eq_getElem hi⟩
      rw [hd] at e
      cases e
      cases o
    · rw [List.getElem?_append_right (by rw [List.length_map]; omega), List.getElem?_replicate] at e
      split at e <;> cases e
end
/-- an error that leaves the def -/
abbrev WO (E : XK) : WX := fun cls d _ H => E cls d H
theorem fn_ok {Pr : Program} {w : World} {mg : Str → Option Value} {base : Heap} {c : Gam} {x qual : Str} {st : Stmt} {f : Addr} {fd : FuncData} {N ps : List Str} {k : Nat} {b : SS} (F : Fun c.K x qual st f fd) (S : FnScope N ps (defScope st))
    (hbody : ∀ (cdv : Value) (A : Around) (outer : List Env) (s : Shared) (H : Hp) (E : XK), Room k (A.deeper (envOfC qual (defScope st) s.heap.objs.size f cdv)) →
      Takes (cxOf (CX Pr w) Pr w c.K mg base N qual (defScope st) f cdv A outer s H E) (WO E) →
      PSs (cxOf (CX Pr w) Pr w c.K mg base N qual (defScope st) f cdv A outer s H E) (defBody st) (tS c (WO E) b)) :
    FnOk Pr w c.K mg base (CX Pr w) (k + 1) f fd ps (spF c ps.length (runB N.length b)) := by
  refine F.okX S (fun vs H Q E h => ?_) (fun cdv A outer s H vs Q E hr h => ⟨_, hbody cdv A outer s H E hr (takes_of rfl rfl rfl rfl), ?_⟩)
  · obtain ⟨P, ds, g, _, r, hl, _⟩ := h
    rw [r.length, hl]
  · obtain ⟨P, ds, g, wd, r, hl, post⟩ := h
    refine ⟨P, H, P, _, g, ws_init wd r, ?_⟩
    unfold runB at post
    cases hb : b (init N.length ds) g with
    | nx ρ g1 => rw [hb] at post; exact fun P' σ' H' w => post P' H' .non w.ext w.gr .non
    | bk ρ g1 => rw [hb] at post; exact post.elim
    | ct ρ g1 => rw [hb] at post; exact post.elim
    | rt d g1 => rw [hb] at post; exact post
    | ex ρ x g1 => rw [hb] at post; exact fun P' σ' H' cls dd w xr => post P' H' cls dd w.ext w.gr xr
    | fail => rw [hb] at post; exact post.elim
end CP

/-! CPPrim: Python's own operations upon plain data. -/
namespace CP
open PySem PySem.Spec L2
open PyProof.Rows hiding St

section
variable {X : Cx} {c : Gam} {W : WX} {P H : Hp}
/-! ### what a value is, by its data -/
theorem RX.inv {v : V} {d : D} (h : RX c P H v d) : (R c P v d) ∨ (∃ a vs ds, v = .ref a ∧ d = .lst ds ∧ H a = some (.lst vs) ∧ RAll c P vs ds) ∨ (∃ a es kvs, v = .ref a ∧ d = .dic kvs ∧ H a = some (.dK es) ∧ RKvs c P es kvs) := by
  rcases h with h | ⟨a, vs, ds, h1, h2, h3, h4, _⟩ | ⟨a, vs, ds, h1, h2, h3, h4, _⟩
  · exact .inl h
  · exact .inr (.inl ⟨a, vs, ds, h1, h2, h3, h4⟩)
  · exact .inr (.inr ⟨a, vs, ds, h1, h2, h3, h4⟩)
theorem RX.str {v : V} {x : Str} (h : RX c P H v (.str x)) : v = .str x ∧ sOk x = true := by
  rcases h.inv with h | ⟨_, _, _, _, h, _⟩ | ⟨_, _, _, _, h, _⟩
  · cases h with | str h' => exact ⟨rfl, h'⟩
  · cases h
  · cases h
theorem RX.non {v : V} (h : RX c P H v .non) : v = .non := by
  rcases h.inv with h | ⟨_, _, _, _, h, _⟩ | ⟨_, _, _, _, h, _⟩
  · cases h; rfl
  · cases h
  · cases h
theorem RX.lst {v : V} {ds : List D} (s : Same P H) (h : RX c P H v (.lst ds)) : ∃ a vs, v = .ref a ∧ H a = some (.lst vs) ∧ RAll c P vs ds := by
  rcases h.inv with h | ⟨a, vs, _, h0, h, h1, h2⟩ | ⟨_, _, _, _, h, _⟩
  · cases h with | @lst a vs _ h1 h2 => exact ⟨a, vs, rfl, s _ _ h1, h2⟩
  · cases h; exact ⟨a, vs, h0, h1, h2⟩
  · cases h
theorem RX.tup {v : V} {ds : List D} (s : Same P H) (h : RX c P H v (.tup ds)) : ∃ a vs, v = .ref a ∧ PlT c.K P a vs ∧ SqT c.K H a vs ∧ RAll c P vs ds := by
  rcases h.inv with h | ⟨a, vs, _, h0, h, h1, h2⟩ | ⟨_, _, _, _, h, _⟩
  · cases h with | @tup a vs _ h1 h2 => exact ⟨a, vs, rfl, h1, sqT_mono s h1.sq, h2⟩
  · cases h
  · cases h
theorem RX.dic {v : V} {kvs : List (Key × D)} (s : Same P H) (h : RX c P H v (.dic kvs)) : ∃ a es, v = .ref a ∧ H a = some (.dK es) ∧ RKvs c P es kvs := by
  rcases h.inv with h | ⟨a, vs, _, h0, h, h1, h2⟩ | ⟨a, vs, _, h0, h, h1, h2⟩
  · cases h with | @dic a vs _ h1 h2 => exact ⟨a, vs, rfl, s _ _ h1, h2⟩
  · cases h
  · cases h; exact ⟨a, vs, h0, h1, h2⟩
theorem RX.scr {v : V} {ns : List Int} (s : Same P H) (h : RX c P H v (.scr ns)) : ∃ a, v = .ref a ∧ SqL c.K H a (ns.map V.int) := by
  rcases h.inv with h | ⟨a, vs, _, h0, h, h1, h2⟩ | ⟨_, _, _, _, h, _⟩
  · cases h with | @scr a _ h1 => exact ⟨a, rfl, sqL_mono s h1⟩
  · cases h
  · cases h
theorem sOk_len {x : Str} (h : sOk x = true) : x.cps.size ≤ 1000000 := by
  unfold sOk at h
  rw [Bool.and_eq_true] at h
  exact of_decide_eq_true h.2
theorem sOk_line {x : Str} (h : sOk x = true) : x.length ≤ sizeLine := by
  have := sOk_len h
  rw [sizeLine_eq]
  show x.cps.size ≤ 16777216
  omega

/-! ### kinds, isinstance -/
inductive Kd where
  | non | bl | int | str | lst | tup | dic
  deriving DecidableEq
def Kd.name : Kd → String
  | .non => "NoneType" | .bl => "bool" | .int => "int" | .str => "str" | .lst => "list" | .tup => "tuple" | .dic => "dict"
def D.kd : D → Option Kd
  | .non => some .non | .bl _ => some .bl | .int _ => some .int | .str _ => some .str | .lst _ => some .lst | .tup _ => some .tup | .dic _ => some .dic
  | _ => none
def isK (a b : Kd) : Bool := decide (a = b) || (decide (a = .bl) && decide (b = .int))
theorem isK_ok (a b : Kd) : kitB a.name b.name = some (isK a b) := by cases a <;> cases b <;> decide +kernel
theorem ty_of {v : V} {d : D} {k : Kd} (s : Same P H) (h : RX c P H v d) (e : d.kd = some k) : TyX c.K H v (.type k.name) := by
  cases d with
  | non => cases e; rw [h.non]; exact .base .non
  | bl b => cases e; rw [h.bl]; exact .base (.bl b)
  | int i => cases e; rw [h.int]; exact .base (.int i)
  | str x => cases e; rw [h.str.1]; exact .base (.str x)
  | lst ds => cases e; obtain ⟨a, vs, rfl, h1, _⟩ := h.lst s; exact .base (.lst h1)
  | tup ds =>
    cases e
    obtain ⟨a, vs, rfl, _, h1, _⟩ := h.tup s
    rcases h1 with (h1 | ⟨o, h1⟩) | ⟨o, its, n, h1, h2, _⟩
    · exact .base (.tup h1)
    · exact .fTuple h1
    · exact .kTuple h1 h2
  | dic kvs => cases e; obtain ⟨a, vs, rfl, h1, _⟩ := h.dic s; exact .base (.dK h1)
  | obj k fs => cases e
  | scr ns => cases e
  | st => cases e
def pIsi (ks : List Kd) : P1 := fun d => d.kd.map fun k => .bl (ks.any (isK k))
theorem v_isi {e : Expr} {f : SE} {K : PySem.W.Frag} (k : Kd) (hK : K = c.K) (h : PE X e (tCB (rIsi K) (tCons (tX c W f) (tCons (tC (.ty k.name)) tNil)))) : PE X e (tE c W (e1 (pIsi [k]) f)) := by
  subst hK
  refine PE.by h fun σ H Q q => go1 (r := fun x H Q => rIsi c.K [x, .ty k.name] H Q) (fun P H x dx d Q s rx e gv => ?_) q
  unfold pIsi at e
  cases hk : dx.kd with
  | none => rw [hk] at e; cases e
  | some k' =>
    rw [hk] at e
    cases e
    refine ⟨x, .ty k.name, .type k'.name, .type k.name, isK k' k, rfl, .ty _, ty_of s rx hk, kit_ty (isK_ok k' k), gv.same s ?_⟩
    rw [show isK k' k = [k].any (isK k') from by simp]
    exact .bl _
theorem v_isi2 {e : Expr} {f : SE} {K : PySem.W.Frag} (k1 k2 : Kd) (hK : K = c.K) (h : PE X e (tCB (rIsiT K) (tCons (tX c W f) (tCons (tTup (tCons (tC (.ty k1.name)) (tCons (tC (.ty k2.name)) tNil))) tNil)))) : PE X e (tE c W (e1 (pIsi [k1, k2]) f)) := by
  subst hK
  refine PE.by h fun σ H Q q => go1 (r := fun x H Q => 2 ≤ sizeLine ∧ ∀ p, H p = none → rIsiT c.K [x, .ref p] (upd H p (.tup [.ty k1.name, .ty k2.name])) Q) (fun P H x dx d Q s rx e gv => ?_) q
  unfold pIsi at e
  cases hk : dx.kd with
  | none => rw [hk] at e; cases e
  | some k' =>
    rw [hk] at e
    cases e
    refine ⟨by rw [sizeLine_eq]; decide, fun p hp => ?_⟩
    have x := ExtP.laid (o := .tup [.ty k1.name, .ty k2.name]) s hp
    refine ⟨_, p, _, .type k'.name, [.type k1.name, .type k2.name], [k1, k2].any (isK k'), rfl, upd_same, .cons (.ty _) (.cons (.ty _) .nil), ty_of x.sub (rx.next (x.ext (c := c))) hk, ?_, gv _ _ _ x (.bl _)⟩
    unfold PySem.W.kitAny PySem.W.kitAny PySem.W.kitAny
    rw [kit_ty (isK_ok k' k1), kit_ty (isK_ok k' k2)]
    cases h1 : isK k' k1 <;> cases h2 : isK k' k2 <;> simp [h1, h2]

/-! ### len -/
def pLen : P1
  | .str x => some (.int x.cps.size)
  | .lst ds => some (.int ds.length)
  | .tup ds => some (.int ds.length)
  | .scr ns => some (.int ns.length)
  | .dic kvs => some (.int kvs.length)
  | _ => none
def rLenA (K : PySem.W.Frag) : List V → Hp → VK → Prop := fun xs H Q => (∃ x n, xs = [x] ∧ LenV K x H n ∧ Q (.int n) H) ∨ (∃ a kvs, xs = [V.ref a] ∧ H a = some (.dK kvs) ∧ Q (.int kvs.length) H)
theorem call_lenA : CallR X (.builtin "len") (rLenA X.K) := fun pins s σ H xs us Q I r h => h.elim (call_len pins s σ H xs us Q I r) (call_lenD pins s σ H xs us Q I r)
theorem ok_len : Ok1 c (fun v => rLenA c.K [v]) pLen := fun P H x dx d Q s r e gv => by
  cases dx with
  | str z =>
    cases e
    obtain ⟨rfl, hz⟩ := r.str
    exact .inl ⟨_, z.cps.size, rfl, ⟨sOk_line hz, rfl⟩, gv.same s (.int _)⟩
  | lst ds =>
    cases e
    obtain ⟨a, vs, rfl, h1, h2⟩ := r.lst s
    exact .inl ⟨_, ds.length, rfl, .inl ⟨vs, SqL.of h1, h2.length.symm⟩, gv.same s (.int _)⟩
  | tup ds =>
    cases e
    obtain ⟨a, vs, rfl, _, h1, h2⟩ := r.tup s
    exact .inl ⟨_, ds.length, rfl, .inr ⟨vs, h1, h2.length.symm⟩, gv.same s (.int _)⟩
  | scr ns =>
    cases e
    obtain ⟨a, rfl, h1⟩ := r.scr s
    exact .inl ⟨_, ns.length, rfl, .inl ⟨_, h1, by rw [List.length_map]⟩, gv.same s (.int _)⟩
  | dic kvs =>
    cases e
    obtain ⟨a, es, rfl, h1, h2⟩ := r.dic s
    refine .inr ⟨_, es, rfl, h1, ?_⟩
    rw [h2.length]
    exact gv.same s (.int _)
  | _ => cases e

/-! ### numbers -/
def pSub : P2
  | .int i, .int j => some (.int (i - j))
  | _, _ => none
theorem ok_sub : Ok2 c (rI0 fun i j => .int (i - j)) pSub := fun P H x y dx dy d Q s rx ry e gv => by
  cases dx <;> cases dy <;> first | cases e | skip
  exact ⟨_, _, rx.int, ry.int, gv.same s (.int _)⟩
def pNeg : P1
  | .int i => some (.int (-i))
  | _ => none
theorem ok_neg : Ok1 c (rU fun i => .int (-i)) pNeg := fun P H x dx d Q s rx e gv => by
  cases dx <;> first | cases e | skip
  exact ⟨_, rx.int, gv.same s (.int _)⟩
def pMax : P2
  | .int i, .int j => some (.int (if j > i then j else i))
  | _, _ => none
def pMin : P2
  | .int i, .int j => some (.int (if j < i then j else i))
  | _, _ => none
theorem ok_max : Ok2 c (fun v u H Q => (fun xs H Q => ∃ i j, xs = [V.int i, .int j] ∧ Q (.int (if j > i then j else i)) H) [v, u] H Q) pMax := fun P H x y dx dy d Q s rx ry e gv => by
  cases dx <;> cases dy <;> first | cases e | skip
  exact ⟨_, _, by rw [rx.int, ry.int], gv.same s (.int _)⟩
theorem ok_min : Ok2 c (fun v u H Q => (fun xs H Q => ∃ i j, xs = [V.int i, .int j] ∧ Q (.int (if j < i then j else i)) H) [v, u] H Q) pMin := fun P H x y dx dy d Q s rx ry e gv => by
  cases dx <;> cases dy <;> first | cases e | skip
  exact ⟨_, _, by rw [rx.int, ry.int], gv.same s (.int _)⟩
def pMul : P2
  | .int i, .int j => if (-(2 ^ 64) < i ∧ i < 2 ^ 64) ∨ (-(2 ^ 64) < j ∧ j < 2 ^ 64) then some (.int (i * j)) else none
  | _, _ => none
theorem ok_mul : Ok2 c (rI CMul fun i j => .int (i * j)) pMul := fun P H x y dx dy d Q s rx ry e gv => by
  cases dx <;> cases dy <;> first | cases e | skip
  rename_i i j
  have e' : (if (-(2 ^ 64) < i ∧ i < 2 ^ 64) ∨ (-(2 ^ 64) < j ∧ j < 2 ^ 64) then some (D.int (i * j)) else none) = some d := e
  split at e'
  · rename_i h
    cases e'
    exact ⟨i, j, rx.int, ry.int, h, gv.same s (.int _)⟩
  · cases e'
def pPow : P2
  | .int i, .int j => if 0 ≤ j ∧ j ≤ 1000000 ∧ i.natAbs < 2 ^ 64 then some (.int (i ^ j.toNat)) else none
  | _, _ => none
theorem ok_pow : Ok2 c (rI CPow fun i j => .int (i ^ j.toNat)) pPow := fun P H x y dx dy d Q s rx ry e gv => by
  cases dx <;> cases dy <;> first | cases e | skip
  rename_i i j
  have e' : (if 0 ≤ j ∧ j ≤ 1000000 ∧ i.natAbs < 2 ^ 64 then some (D.int (i ^ j.toNat)) else none) = some d := e
  split at e'
  · rename_i h
    cases e'
    exact ⟨i, j, rx.int, ry.int, h, gv.same s (.int _)⟩
  · cases e'

/-! ### order -/
def pLt : P2
  | .int i, .int j => some (.bl (decide (i < j)))
  | .str x, .str y => some (.bl (decide (x.cps.toList < y.cps.toList)))
  | _, _ => none
def pLe : P2
  | .int i, .int j => some (.bl (decide (i ≤ j)))
  | _, _ => none
def pGt : P2
  | .int i, .int j => some (.bl (decide (j < i)))
  | _, _ => none
def pGe : P2
  | .int i, .int j => some (.bl (decide (j ≤ i)))
  | _, _ => none
def rLtA : R2 := fun x y H Q => (rI0 fun i j => .bl (decide (i < j))) x y H Q ∨ (∃ i j, x = .str i ∧ y = .str j ∧ Q (.bl (decide (i.cps.toList < j.cps.toList))) H)
theorem op_ltA : OpR X (compareOp .Lt) rLtA := OpR.or op_lt op_lt_str
theorem ok_lt : Ok2 c rLtA pLt := fun P H x y dx dy d Q s rx ry e gv => by
  cases dx <;> cases dy <;> first | cases e | skip
  · exact .inl ⟨_, _, rx.int, ry.int, gv.same s (.bl _)⟩
  · exact .inr ⟨_, _, rx.str.1, ry.str.1, gv.same s (.bl _)⟩
theorem ok_le : Ok2 c (rI0 fun i j => .bl (decide (i ≤ j))) pLe := fun P H x y dx dy d Q s rx ry e gv => by
  cases dx <;> cases dy <;> first | cases e | skip
  exact ⟨_, _, rx.int, ry.int, gv.same s (.bl _)⟩
theorem ok_gt : Ok2 c (rI0 fun i j => .bl (decide (j < i))) pGt := fun P H x y dx dy d Q s rx ry e gv => by
  cases dx <;> cases dy <;> first | cases e | skip
  exact ⟨_, _, rx.int, ry.int, gv.same s (.bl _)⟩
theorem ok_ge : Ok2 c (rI0 fun i j => .bl (decide (j ≤ i))) pGe := fun P H x y dx dy d Q s rx ry e gv => by
  cases dx <;> cases dy <;> first | cases e | skip
  exact ⟨_, _, rx.int, ry.int, gv.same s (.bl _)⟩
/-- is None -/
def D.isNon : D → Bool
  | .non => true
  | _ => false
theorem isNon_v {v : V} {d : D} (s : Same P H) (h : RX c P H v d) : decide (v = .non) = d.isNon := by
  cases d with
  | non => rw [h.non]; rfl
  | bl b => rw [h.bl]; rfl
  | int i => rw [h.int]; rfl
  | str x => rw [h.str.1]; rfl
  | lst ds => obtain ⟨a, vs, rfl, _⟩ := h.lst s; rfl
  | tup ds => obtain ⟨a, vs, rfl, _⟩ := h.tup s; rfl
  | dic ds => obtain ⟨a, vs, rfl, _⟩ := h.dic s; rfl
  | scr ds => obtain ⟨a, rfl, _⟩ := h.scr s; rfl
  | obj k fs =>
    rcases h.inv with h | ⟨_, _, _, _, h, _⟩ | ⟨_, _, _, _, h, _⟩
    · cases h; rfl
    · cases h
    · cases h
  | st =>
    rcases h.inv with h | ⟨_, _, _, _, h, _⟩ | ⟨_, _, _, _, h, _⟩
    · cases h; rfl
    · cases h
    · cases h
def pIsN : P1 := fun d => some (.bl d.isNon)
def pNotN : P1 := fun d => some (.bl (!d.isNon))
theorem v_isN {e : Expr} {f : SE} (h : PE X e (tIsN (tX c W f))) : PE X e (tE c W (e1 pIsN f)) := PE.by h fun σ H Q q => go1 (r := fun x H Q => Q (.bl (decide (x = .non))) H) (fun P H x dx d Q s rx e gv => by
  cases e
  rw [isNon_v s rx]
  exact gv.same s (.bl _)) q
theorem v_notN {e : Expr} {f : SE} (h : PE X e (tNotN (tX c W f))) : PE X e (tE c W (e1 pNotN f)) := PE.by h fun σ H Q q => go1 (r := fun x H Q => Q (.bl (!decide (x = .non))) H) (fun P H x dx d Q s rx e gv => by
  cases e
  rw [isNon_v s rx]
  exact gv.same s (.bl _)) q

/-! ### + -/
def pAdd : P2
  | .int i, .int j => some (.int (i + j))
  | .str x, .str y => if sOk (x ++ y) = true then some (.str (x ++ y)) else none
  | .lst xs, .lst ys => if xs.length + ys.length ≤ 100000 then some (.lst (xs ++ ys)) else none
  | .tup xs, .tup ys => if xs.length + ys.length ≤ 100000 then some (.tup (xs ++ ys)) else none
  | _, _ => none
def rAddA (K : PySem.W.Frag) : R2 := fun x y H Q => (rI0 fun i j => .int (i + j)) x y H Q ∨ (∃ i j, x = .str i ∧ y = .str j ∧ i.length + j.length ≤ sizeLine ∧ Q (.str (i ++ j)) H) ∨ rCat x y H Q ∨ rCatF K x y H Q
theorem op_addA : OpR X (binaryOp .Add) (rAddA X.K) := OpR.or op_add (OpR.or op_add_str (OpR.or op_cat op_catF))
theorem line2 {n : Nat} (h : n ≤ 100000) : n ≤ sizeLine := Nat.le_of_lt (lt_line h)
theorem sOk_append {x y : Str} (hx : sOk x = true) (hy : sOk y = true) : x.length + y.length ≤ sizeLine := by
  have h1 := sOk_len hx
  have h2 := sOk_len hy
  rw [sizeLine_eq]
  show x.cps.size + y.cps.size ≤ 16777216
  omega
theorem ok_add : Ok2 c (rAddA c.K) pAdd := fun P H x y dx dy d Q s rx ry e gv => by
  cases dx <;> cases dy <;> first | cases e | skip
  · exact .inl ⟨_, _, rx.int, ry.int, gv.same s (.int _)⟩
  · rename_i a b
    have e' : (if sOk (a ++ b) = true then some (D.str (a ++ b)) else none) = some d := e
    split at e'
    · rename_i h
      cases e'
      exact .inr (.inl ⟨a, b, rx.str.1, ry.str.1, sOk_append rx.str.2 ry.str.2, gv.same s (.str h)⟩)
    · cases e'
  · rename_i xs ys
    have e' : (if xs.length + ys.length ≤ 100000 then some (D.lst (xs ++ ys)) else none) = some d := e
    split at e'
    · rename_i h
      cases e'
      obtain ⟨a, vs, rfl, h1, h2⟩ := rx.lst s
      obtain ⟨b, us, rfl, h3, h4⟩ := ry.lst s
      refine .inr (.inr (.inl ⟨a, b, vs, us, rfl, rfl, h1, h3, by rw [h2.length, h4.length]; exact line2 h, fun p hp => gv.laid s hp ?_⟩))
      have sm := same_upd (o := .lst (vs ++ us)) (Same.free s hp)
      exact .lst upd_same ((h2.append h4).mono sm)
    · cases e'
  · rename_i xs ys
    have e' : (if xs.length + ys.length ≤ 100000 then some (D.tup (xs ++ ys)) else none) = some d := e
    split at e'
    · rename_i h
      cases e'
      obtain ⟨a, vs, rfl, h0, h1, h2⟩ := rx.tup s
      obtain ⟨b, us, rfl, h0', h3, h4⟩ := ry.tup s
      refine .inr (.inr (.inr ⟨a, b, vs, us, rfl, rfl, h1, h3, by rw [h2.length, h4.length]; exact line2 h, fun z => ?_, fun z1 z2 => ?_, fun z1 z2 => gv.tuple s (h2.append h4)⟩))
      · subst z
        cases h2
        exact gv.same s (.tup h0' h4)
      · subst z2
        cases h4
        rw [List.append_nil] at gv
        exact gv.same s (.tup h0 h2)
    · cases e'

/-! ### subscripts -/
def pIx : P2
  | .lst ds, .int i => atI ds i
  | .tup ds, .int i => atI ds i
  | .str z, .int i => (atI z.cps.toList i).map fun n => .str ⟨#[n]⟩
  | _, _ => none
theorem RAll.atI {vs : List V} {ds : List D} {i : Int} {d : D} (r : RAll c P vs ds) (e : L2.atI ds i = some d) : ∃ v, L2.atI vs i = some v ∧ R c P v d := by
  unfold L2.atI at e ⊢
  rw [r.length]
  cases h : ixN ds.length i with
  | none => rw [h] at e; cases e
  | some j =>
    rw [h] at e
    exact r.getD e
theorem ok_ix : Ok2 c (rIx c.K) pIx := fun P H x y dx dy d Q s rx ry e gv => by
  cases dx <;> cases dy <;> first | cases e | skip
  · rename_i z i
    have e' : (L2.atI z.cps.toList i).map (fun n => D.str ⟨#[n]⟩) = some d := e
    cases h : L2.atI z.cps.toList i with
    | none => rw [h] at e'; cases e'
    | some n =>
      rw [h] at e'
      cases e'
      refine .inr (.inr ⟨z, i, n, rx.str.1, ry.int, sOk_line rx.str.2, h, gv.same s (.str ?_)⟩)
      unfold L2.atI at h
      cases hj : ixN z.cps.toList.length i with
      | none => rw [hj] at h; cases h
      | some j =>
        rw [hj] at h
        have h' : z.cps.toList[j]? = some n := h
        rw [Array.getElem?_toList] at h'
        exact sOk_at rx.str.2 h'
  · obtain ⟨a, vs, rfl, h1, h2⟩ := rx.lst s
    obtain ⟨v, hv, rv⟩ := h2.atI e
    exact .inl ⟨a, vs, _, v, rfl, ry.int, SqL.of h1, hv, gv.same s rv⟩
  · obtain ⟨a, vs, rfl, _, h1, h2⟩ := rx.tup s
    obtain ⟨v, hv, rv⟩ := h2.atI e
    exact .inr (.inl ⟨a, vs, _, v, rfl, ry.int, h1, hv, gv.same s rv⟩)
end
end CP

/-! CPPrim2: equality, membership, slices, conversions upon plain data. -/
namespace CP
open PySem PySem.Spec L2
open PyProof.Rows hiding St

/-! ### data as the library's data -/
mutual
def toPy : D → PyData
  | .non => .none
  | .bl b => .bool b
  | .int i => .int i
  | .str x => .str x
  | .lst xs => .list (toPys xs)
  | .tup xs => .tuple (toPys xs)
  | _ => .dict []
def toPys : List D → List PyData
  | [] => []
  | x :: xs => toPy x :: toPys xs
end
theorem toPys_map : ∀ xs : List D, toPys xs = xs.map toPy
  | [] => rfl
  | x :: xs => by rw [toPys, toPys_map xs, List.map_cons]
def okD : Nat → D → Bool
  | _, .non => true
  | _, .bl _ => true
  | _, .int _ => true
  | _, .str _ => true
  | n + 1, .lst xs => xs.all (okD n)
  | n + 1, .tup xs => xs.all (okD n)
  | _, _ => false
def eqDD (x y : D) : Bool := PyData.eqv (toPy x) (toPy y)

section
variable {X : Cx} {c : Gam} {W : WX} {P H : Hp}
theorem strOk_of {x : Str} (h : sOk x = true) : PySem.PyData.strOk x = true := by
  unfold sOk at h
  rw [Bool.and_eq_true] at h
  exact h.1
theorem dp_of (s : Same P H) : ∀ (n : Nat) (d : D) (v : V), R c P v d → okD n d = true → Dp c.K H v (toPy d) ∧ (toPy d).canLay0 = true ∧ (toPy d).depth ≤ n := by
  intro n
  induction n with
  | zero =>
    intro d v r o
    cases r with
    | non => exact ⟨.non, by simp [toPy, PyData.canLay0], by simp [toPy, PyData.depth]⟩
    | bl b => exact ⟨.bl b, by simp [toPy, PyData.canLay0], by simp [toPy, PyData.depth]⟩
    | int i => exact ⟨.int i, by simp [toPy, PyData.canLay0], by simp [toPy, PyData.depth]⟩
    | str h => exact ⟨.str _, by simp [toPy, PyData.canLay0, strOk_of h], by simp [toPy, PyData.depth]⟩
    | _ => simp [okD] at o
  | succ n ih =>
    have all : ∀ (ds : List D) (vs : List V), RAll c P vs ds → ds.all (okD n) = true → DpAll c.K H vs (toPys ds) ∧ PyData.canLayAll0 (toPys ds) = true ∧ PyData.depthAll (toPys ds) ≤ n := by
      intro ds
      induction ds with
      | nil => intro vs r _; cases r; exact ⟨.nil, by simp [toPys, PyData.canLayAll0], by simp [toPys, PyData.depthAll]⟩
      | cons d ds ih2 =>
        intro vs r o
        cases r with
        | cons r1 r2 =>
          rw [List.all_cons, Bool.and_eq_true] at o
          obtain ⟨a1, a2, a3⟩ := ih d _ r1 o.1
          obtain ⟨b1, b2, b3⟩ := ih2 _ r2 o.2
          refine ⟨?_, ?_, ?_⟩
          · rw [toPys]; exact .cons a1 b1
          · rw [toPys, PyData.canLayAll0, a2, b2]; rfl
          · rw [toPys, PyData.depthAll]; omega
    intro d v r o
    cases r with
    | non => exact ⟨.non, by simp [toPy, PyData.canLay0], by simp [toPy, PyData.depth]⟩
    | bl b => exact ⟨.bl b, by simp [toPy, PyData.canLay0], by simp [toPy, PyData.depth]⟩
    | int i => exact ⟨.int i, by simp [toPy, PyData.canLay0], by simp [toPy, PyData.depth]⟩
    | str h => exact ⟨.str _, by simp [toPy, PyData.canLay0, strOk_of h], by simp [toPy, PyData.depth]⟩
    | @lst a vs ds h1 h2 =>
      obtain ⟨a1, a2, a3⟩ := all ds vs h2 (by simpa [okD] using o)
      refine ⟨?_, ?_, ?_⟩
      · rw [toPy]; exact .lst (SqL.of (s _ _ h1)) a1
      · rw [toPy, PyData.canLay0]; exact a2
      · rw [toPy, PyData.depth]; omega
    | @tup a vs ds h1 h2 =>
      obtain ⟨a1, a2, a3⟩ := all ds vs h2 (by simpa [okD] using o)
      refine ⟨?_, ?_, ?_⟩
      · rw [toPy]; exact .tup (sqT_mono s h1.sq) a1
      · rw [toPy, PyData.canLay0]; exact a2
      · rw [toPy, PyData.depth]; omega
    | _ => simp [okD] at o
theorem dpx_of (s : Same P H) {d : D} {v : V} (r : RX c P H v d) (o : okD 60 d = true) : Dp c.K H v (toPy d) ∧ SeqAt.shaped (toPy d) = true := by
  have fin : ∀ {d : D} {v : V}, R c P v d → okD 60 d = true → Dp c.K H v (toPy d) ∧ SeqAt.shaped (toPy d) = true := fun {d v} r o => by
    obtain ⟨a1, a2, a3⟩ := dp_of s 60 d v r o
    refine ⟨a1, ?_⟩
    unfold SeqAt.shaped
    rw [a2, decide_eq_true (by omega)]
    rfl
  rcases r.inv with r | ⟨a, vs, ds, rfl, rfl, h1, h2⟩ | ⟨a, vs, ds, rfl, rfl, h1, h2⟩
  · exact fin r o
  · -- a list of the def's own: share it for a moment
    have all : ∀ (ds : List D) (vs : List V), RAll c P vs ds → ds.all (okD 59) = true → DpAll c.K H vs (toPys ds) ∧ PyData.canLayAll0 (toPys ds) = true ∧ PyData.depthAll (toPys ds) ≤ 59 := by
      intro ds
      induction ds with
      | nil => intro vs r _; cases r; exact ⟨.nil, by simp [toPys, PyData.canLayAll0], by simp [toPys, PyData.depthAll]⟩
      | cons d ds ih2 =>
        intro vs r o
        cases r with
        | cons r1 r2 =>
          rw [List.all_cons, Bool.and_eq_true] at o
          obtain ⟨a1, a2, a3⟩ := dp_of s 59 d _ r1 o.1
          obtain ⟨b1, b2, b3⟩ := ih2 _ r2 o.2
          refine ⟨?_, ?_, ?_⟩
          · rw [toPys]; exact .cons a1 b1
          · rw [toPys, PyData.canLayAll0, a2, b2]; rfl
          · rw [toPys, PyData.depthAll]; omega
    obtain ⟨a1, a2, a3⟩ := all ds vs h2 (by simpa [okD] using o)
    refine ⟨?_, ?_⟩
    · rw [toPy]; exact .lst (SqL.of h1) a1
    · unfold SeqAt.shaped
      rw [toPy, PyData.canLay0, a2, PyData.depth, decide_eq_true (by omega)]
      rfl
  · simp [okD] at o

/-! ### == -/
def pEq : P2 := fun x y => if okD 60 x && okD 60 y then some (.bl (eqDD x y)) else none
def pNe : P2 := fun x y => if okD 60 x && okD 60 y then some (.bl (!eqDD x y)) else none
theorem ok_eq : Ok2 c (rEqD c.K) pEq := fun P H x y dx dy d Q s rx ry e gv => by
  unfold pEq at e
  split at e
  · rename_i h
    cases e
    rw [Bool.and_eq_true] at h
    obtain ⟨a1, a2⟩ := dpx_of s rx h.1
    obtain ⟨b1, b2⟩ := dpx_of s ry h.2
    exact ⟨_, _, a1, b1, a2, b2, gv.same s (.bl _)⟩
  · cases e
theorem ok_ne : Ok2 c (rNeD c.K) pNe := fun P H x y dx dy d Q s rx ry e gv => by
  unfold pNe at e
  split at e
  · rename_i h
    cases e
    rw [Bool.and_eq_true] at h
    obtain ⟨a1, a2⟩ := dpx_of s rx h.1
    obtain ⟨b1, b2⟩ := dpx_of s ry h.2
    exact ⟨_, _, a1, b1, a2, b2, gv.same s (.bl _)⟩
  · cases e

/-! ### in, not in -/
def flatD : D → Bool
  | .non => true | .bl _ => true | .int _ => true | .str _ => true
  | _ => false
def inD (x : D) (ds : List D) : Bool := ds.any fun z => eqDD z x
def pIn : P2 := fun x y => match y with
  | .dic kvs => (keyOf x).map fun k => .bl (hasD kvs k)
  | .lst ds => if okD 60 x && okD 60 (.lst ds) then some (.bl (inD x ds)) else none
  | .tup ds => if flatD x && ds.all flatD then some (.bl (inD x ds)) else none
  | .str z => match x with
    | .str q => match q.cps.toList with
      | [n] => some (.bl (decide (n ∈ z.cps.toList)))
      | _ => none
    | _ => none
  | _ => none
def notD : D → Option D
  | .bl b => some (.bl (!b))
  | _ => none
def pNotIn : P2 := fun x y => (pIn x y).bind notD
theorem flat_eqV {v u : V} {x y : D} (s : Same P H) (rv : RX c P H v x) (ru : RX c P H u y) (fx : flatD x = true) (fy : flatD y = true) : eqV v u = eqDD x y ∧ flatV v = true ∧ flatV u = true := by
  cases x <;> first | cases fx | skip
  all_goals (cases y <;> first | cases fy | skip)
  all_goals first
    | (rw [rv.non]; first | rw [ru.non] | rw [ru.bl] | rw [ru.int] | rw [ru.str.1])
    | (rw [rv.bl]; first | rw [ru.non] | rw [ru.bl] | rw [ru.int] | rw [ru.str.1])
    | (rw [rv.int]; first | rw [ru.non] | rw [ru.bl] | rw [ru.int] | rw [ru.str.1])
    | (rw [rv.str.1]; first | rw [ru.non] | rw [ru.bl] | rw [ru.int] | rw [ru.str.1])
  all_goals exact ⟨by simp [eqV, eqDD, toPy, PyData.eqv], rfl, rfl⟩
theorem flat_all {x : D} {v : V} (s : Same P H) (rv : RX c P H v x) (fx : flatD x = true) : ∀ {ds : List D} {vs : List V}, RAll c P vs ds → ds.all flatD = true → inV v vs = inD x ds ∧ vs.all flatV = true
  | [], _, .nil, _ => ⟨rfl, rfl⟩
  | d :: ds, _, .cons r1 r2, h => by
    rw [List.all_cons, Bool.and_eq_true] at h
    obtain ⟨h1, h2⟩ := flat_all s rv fx r2 h.2
    obtain ⟨e1, e2, _⟩ := flat_eqV s (.of r1) rv h.1 fx
    unfold inV inD at *
    refine ⟨?_, ?_⟩
    · rw [List.any_cons, List.any_cons, h1, e1]
    · rw [List.all_cons, e2, h2]; rfl
/-- in, but for dicts -/
def rInA (K : PySem.W.Frag) : R2 := fun x y H Q => rInD K x y H Q ∨ rIn K false x y H Q ∨ (∃ (n : Nat) (z : Str), x = .str ⟨#[n]⟩ ∧ y = .str z ∧ Q (.bl (decide (n ∈ z.cps.toList))) H)
theorem op_inA (hu : X.A.units + 65 < cLine) : OpR X (compareOp .In) (rInA X.K) := OpR.or (op_inD hu) (OpR.or op_in_seq op_in_sign)
def rNotInA (K : PySem.W.Frag) : R2 := fun x y H Q => rNotInD K x y H Q ∨ rIn K true x y H Q ∨ (∃ (n : Nat) (z : Str), x = .str ⟨#[n]⟩ ∧ y = .str z ∧ Q (.bl (!decide (n ∈ z.cps.toList))) H)
theorem op_notInA (hu : X.A.units + 65 < cLine) : OpR X (compareOp .NotIn) (rNotInA X.K) := OpR.or (op_notInD hu) (OpR.or op_notIn_seq op_notIn_sign)
theorem str_one {q : Str} {n : Nat} (h : q.cps.toList = [n]) : q = ⟨#[n]⟩ := by
  cases q with
  | mk a =>
    have : a = #[n] := Array.toList_inj.mp h
    rw [this]
/-- what 'in' gives, the container being no dict -/
theorem in_gives {x y : V} {dx dy : D} {b : Bool} (s : Same P H) (rx : RX c P H x dx) (ry : RX c P H y dy) (nd : ∀ kvs, dy ≠ .dic kvs) (e : pIn dx dy = some (.bl b)) {Q : VK} (k : ∀ b', b' = b → Q (.bl b') H) : rInA c.K x y H Q := by
  cases dy with
  | dic kvs => exact absurd rfl (nd kvs)
  | lst ds =>
    have e' : (if okD 60 dx && okD 60 (.lst ds) then some (D.bl (inD dx ds)) else none) = some (.bl b) := e
    split at e'
    · rename_i h
      cases e'
      rw [Bool.and_eq_true] at h
      obtain ⟨a1, a2⟩ := dpx_of s rx h.1
      obtain ⟨b1, b2⟩ := dpx_of s ry h.2
      rw [toPy] at b1 b2
      refine .inl ⟨_, _, a1, b1, a2, b2, k _ ?_⟩
      rw [toPys_map, List.any_map]; rfl
    · cases e'
  | tup ds =>
    have e' : (if flatD dx && ds.all flatD then some (D.bl (inD dx ds)) else none) = some (.bl b) := e
    split at e'
    · rename_i h
      cases e'
      rw [Bool.and_eq_true] at h
      obtain ⟨a, vs, rfl, _, h1, h2⟩ := ry.tup s
      obtain ⟨q1, q2⟩ := flat_all s rx h.1 h2 h.2
      have fx : flatV x = true := (flat_eqV s rx rx h.1 h.1).2.1
      exact .inr (.inl ⟨a, vs, rfl, .inr h1, fx, q2, k _ q1⟩)
    · cases e'
  | str z =>
    cases dx with
    | str q =>
      have e' : (match q.cps.toList with | [n] => some (D.bl (decide (n ∈ z.cps.toList))) | _ => none) = some (.bl b) := e
      split at e'
      · rename_i n hq
        cases e'
        refine .inr (.inr ⟨n, z, ?_, ry.str.1, k _ rfl⟩)
        rw [rx.str.1, str_one hq]
      · cases e'
    | _ => cases e
  | _ => cases e
theorem in_gives_not {x y : V} {dx dy : D} {b : Bool} (s : Same P H) (rx : RX c P H x dx) (ry : RX c P H y dy) (nd : ∀ kvs, dy ≠ .dic kvs) (e : pIn dx dy = some (.bl b)) {Q : VK} (k : Q (.bl (!b)) H) : rNotInA c.K x y H Q := by
  rcases in_gives s rx ry nd e (Q := fun v _ => v = .bl b) (fun b' h => by rw [h]) with ⟨d, ds, h1, h2, h3, h4, h5⟩ | ⟨p, xs, h1, h2, h3, h4, h5⟩ | ⟨n, z, h1, h2, h5⟩
  · have h6 := V.bl.inj h5
    exact .inl ⟨d, ds, h1, h2, h3, h4, by rw [h6]; exact k⟩
  · have h6 : inV x xs = b := V.bl.inj h5
    exact .inr (.inl ⟨p, xs, h1, h2, h3, h4, by rw [if_pos rfl, h6]; exact k⟩)
  · have h6 := V.bl.inj h5
    exact .inr (.inr ⟨n, z, h1, h2, by rw [h6]; exact k⟩)
theorem pIn_bl {x y d : D} (h : pIn x y = some d) : ∃ b, d = .bl b := by
  unfold pIn at h
  split at h
  · cases hk : keyOf x with
    | none => rw [hk] at h; cases h
    | some k => rw [hk] at h; cases h; exact ⟨_, rfl⟩
  · split at h
    · cases h; exact ⟨_, rfl⟩
    · cases h
  · split at h
    · cases h; exact ⟨_, rfl⟩
    · cases h
  · split at h
    · split at h
      · cases h; exact ⟨_, rfl⟩
      · cases h
    · cases h
  · cases h
theorem PE.or {e : Expr} {t t' : TE} (h : PE X e t) (h' : PE X e t') : PE X e (fun σ H Q => t σ H Q ∨ t' σ H Q) := ⟨fun pins s σ H Q I q => q.elim (h.run pins s σ H Q I) (h'.run pins s σ H Q I)⟩
theorem dic_get {y : V} {kvs : List (Key × D)} {k : Key} (s : Same P H) (ry : RX c P H y (.dic kvs)) : ∃ a o, y = .ref a ∧ DGet H a (kV k) o ∧ o.isSome = hasD kvs k ∧ (∀ d, valD kvs k = some d → ∃ v, o = some v ∧ R c P v d) ∧ (valD kvs k = none → o = none) := by
  obtain ⟨a, es, rfl, h1, h2⟩ := ry.dic s
  refine ⟨a, _, rfl, DGet.k h1, ?_, (h2.val (k := k)).1, (h2.val (k := k)).2⟩
  rw [← h2.any (k := k), ← valV_any]
theorem go_in {fa fb : SE} {σ : St} {H : Hp} {Q : VK} (hK : X.K = c.K) (q : tE c W (e2 pIn fa fb) σ H Q) : tOp (rInA X.K) (tX c W fa) (tX c W fb) σ H Q ∨ tDIn (tX c W fa) (tX c W fb) σ H Q := by
  obtain ⟨P0, H0, P, ρ, g, ws, post⟩ := q
  by_cases hd : ∃ x g1 kvs g2, fa ρ g = .ok x g1 ∧ fb ρ g1 = .ok (.dic kvs) g2
  · obtain ⟨x, g1, kvs, g2, e1, e2⟩ := hd
    refine .inr (bind_E ws post fun P1 H1 g1' v d q1 x1 w1 r1 post1 => bind_E w1 post1 fun P2 H2 g2' v2 d2 q2 x2 w2 r2 post2 => ?_)
    rw [e1] at q1; cases q1
    rw [e2] at q2; cases q2
    obtain ⟨d', e⟩ := post_opt post2
    have gv := post_gives post2 e w2.gr
    have e' : (keyOf x).map (fun k => D.bl (hasD kvs k)) = some d' := e
    cases hk : keyOf x with
    | none => rw [hk] at e'; cases e'
    | some k =>
      rw [hk] at e'
      cases e'
      obtain ⟨a, o, ea, hg, ho, _⟩ := dic_get (k := k) w2.sub r2
      rw [keyOf_v (r1.next x2) hk]
      refine ⟨a, o, ea, hg, ?_⟩
      rw [ho]
      exact gv.same w2.sub (.bl _)
  · refine .inl (bind_E ws post fun P1 H1 g1 v d q1 x1 w1 r1 post1 => bind_E w1 post1 fun P2 H2 g2 v2 d2 q2 x2 w2 r2 post2 => ?_)
    obtain ⟨d', e⟩ := post_opt post2
    have gv := post_gives post2 e w2.gr
    obtain ⟨b, rfl⟩ := pIn_bl e
    rw [hK]
    exact in_gives w2.sub (r1.next x2) r2 (fun kvs z => hd ⟨d, g1, kvs, g2, q1, by rw [q2, z]⟩) e fun b' h => by rw [h]; exact gv.same w2.sub (.bl _)
theorem re_in {a b : Expr} {fa fb : SE} {pos : Pos} (hK : X.K = c.K) (hu : X.A.units + 66 < cLine) (ha : PE X a (tX c W fa)) (hb : PE X b (tX c W fb)) (hm : behindInMarks .In b = false := by rfl) : PE X (.Compare a [.In] [b] pos) (tE c W (e2 pIn fa fb)) :=
  PE.by (PE.or (pe_cmpR (op_inA (by omega)) ha hb hm) (pe_cmp (pc_din (by omega) ha hb) hm)) fun _ _ _ q => go_in hK q
theorem go_notIn {fa fb : SE} {σ : St} {H : Hp} {Q : VK} (hK : X.K = c.K) (q : tE c W (e2 pNotIn fa fb) σ H Q) : tOp (rNotInA X.K) (tX c W fa) (tX c W fb) σ H Q ∨ tDNotIn (tX c W fa) (tX c W fb) σ H Q := by
  obtain ⟨P0, H0, P, ρ, g, ws, post⟩ := q
  by_cases hd : ∃ x g1 kvs g2, fa ρ g = .ok x g1 ∧ fb ρ g1 = .ok (.dic kvs) g2
  · obtain ⟨x, g1, kvs, g2, e1, e2⟩ := hd
    refine .inr (bind_E ws post fun P1 H1 g1' v d q1 x1 w1 r1 post1 => bind_E w1 post1 fun P2 H2 g2' v2 d2 q2 x2 w2 r2 post2 => ?_)
    rw [e1] at q1; cases q1
    rw [e2] at q2; cases q2
    obtain ⟨d', e⟩ := post_opt post2
    have gv := post_gives post2 e w2.gr
    have e' : ((keyOf x).map (fun k => D.bl (hasD kvs k))).bind notD = some d' := e
    cases hk : keyOf x with
    | none => rw [hk] at e'; cases e'
    | some k =>
      rw [hk] at e'
      cases e'
      obtain ⟨a, o, ea, hg, ho, _⟩ := dic_get (k := k) w2.sub r2
      rw [keyOf_v (r1.next x2) hk]
      refine ⟨a, o, ea, hg, ?_⟩
      rw [ho]
      exact gv.same w2.sub (.bl _)
  · refine .inl (bind_E ws post fun P1 H1 g1 v d q1 x1 w1 r1 post1 => bind_E w1 post1 fun P2 H2 g2 v2 d2 q2 x2 w2 r2 post2 => ?_)
    obtain ⟨d', e⟩ := post_opt post2
    have gv := post_gives post2 e w2.gr
    have e' : (pIn d d2).bind notD = some d' := e
    cases hp : pIn d d2 with
    | none => rw [hp] at e'; cases e'
    | some d3 =>
      obtain ⟨b, rfl⟩ := pIn_bl hp
      rw [hp] at e'
      cases e'
      rw [hK]
      exact in_gives_not w2.sub (r1.next x2) r2 (fun kvs z => hd ⟨d, g1, kvs, g2, q1, by rw [q2, z]⟩) hp (gv.same w2.sub (.bl _))
theorem re_notIn {a b : Expr} {fa fb : SE} {pos : Pos} (hK : X.K = c.K) (hu : X.A.units + 66 < cLine) (ha : PE X a (tX c W fa)) (hb : PE X b (tX c W fb)) (hm : behindInMarks .NotIn b = false := by rfl) : PE X (.Compare a [.NotIn] [b] pos) (tE c W (e2 pNotIn fa fb)) :=
  PE.by (PE.or (pe_cmpR (op_notInA (by omega)) ha hb hm) (pe_cmp (pc_dnotin (by omega) ha hb) hm)) fun _ _ _ q => go_notIn hK q
/-- o[k]: a list, tuple, text by its place; a dict by its key -/
def pSubs : P2 := fun x y => match x with
  | .dic kvs => (keyOf y).bind (valD kvs)
  | _ => pIx x y
theorem re_sub {a b : Expr} {fa fb : SE} {pos : Pos} (hK : X.K = c.K) (hu : X.A.units + 66 < cLine) (ha : PE X a (tX c W fa)) (hb : PE X b (tX c W fb)) (hs : PlainIx b := by exact fun _ _ => rfl) (hn : NoSl b := by exact fun _ _ => rfl) :
    PE X (.Subscript a b pos) (tE c W (e2 pSubs fa fb)) := by
  refine PE.by (PE.or (pe_ix ix_seq ha hb hs) (pe_dget (by omega) ha hb hn)) fun σ H Q ⟨P0, H0, P, ρ, g, ws, post⟩ => ?_
  by_cases hd : ∃ kvs g1, fa ρ g = .ok (.dic kvs) g1
  · obtain ⟨kvs, g1, e1⟩ := hd
    refine .inr (bind_E ws post fun P1 H1 g1' v d q1 x1 w1 r1 post1 => bind_E w1 post1 fun P2 H2 g2' v2 d2 q2 x2 w2 r2 post2 => ?_)
    rw [e1] at q1; cases q1
    obtain ⟨d', e⟩ := post_opt post2
    have gv := post_gives post2 e w2.gr
    have e' : (keyOf d2).bind (valD kvs) = some d' := e
    cases hk : keyOf d2 with
    | none => rw [hk] at e'; cases e'
    | some k =>
      rw [hk] at e'
      obtain ⟨a, o, ea, hg, ho, hv, _⟩ := dic_get (k := k) w2.sub (r1.next x2)
      obtain ⟨u, rfl, ru⟩ := hv d' e'
      rw [keyOf_v r2 hk]
      exact ⟨a, u, ea, hg, gv.same w2.sub ru⟩
  · refine .inl (bind_E ws post fun P1 H1 g1 v d q1 x1 w1 r1 post1 => bind_E w1 post1 fun P2 H2 g2 v2 d2 q2 x2 w2 r2 post2 => ?_)
    obtain ⟨d', e⟩ := post_opt post2
    have gv := post_gives post2 e w2.gr
    have e' : pIx d d2 = some d' := by
      cases d with
      | dic kvs => exact absurd ⟨kvs, g1, q1⟩ hd
      | _ => exact e
    rw [hK]
    exact ok_ix P2 H2 v v2 d d2 d' Q w2.sub (r1.next x2) r2 e' gv
/-! ### as tests -/
theorem go_XE {f : SE} {σ : St} {H : Hp} {Q : VK} (q : tX c W f σ H Q) : tE c W f σ H Q := by
  obtain ⟨P0, H0, P, ρ, g, ws, post⟩ := q
  refine ⟨P0, H0, P, ρ, g, ws, ?_⟩
  cases hf : f ρ g with
  | ok d g1 => rw [hf] at post; exact fun P' H' x gr v r => post P' H' x gr v (.of r)
  | ex x g1 => rw [hf] at post; exact post
  | fail => rw [hf] at post; exact post
theorem PT.or {e : Expr} {t t' : TT} (h : PT X e t) (h' : PT X e t') : PT X e (fun σ H Q => t σ H Q ∨ t' σ H Q) := ⟨fun pins s σ H Q I q => q.elim (h.run pins s σ H Q I) (h'.run pins s σ H Q I)⟩
theorem rt_in {a b : Expr} {fa fb : SE} {pos : Pos} (hK : X.K = c.K) (hu : X.A.units + 66 < cLine) (ha : PE X a (tX c W fa)) (hb : PE X b (tX c W fb)) (hm : behindInMarks .In b = false := by rfl) : PT X (.Compare a [.In] [b] pos) (tT c W (toB (e2 pIn fa fb))) :=
  PT.by (PT.or (pt_cmpR (op_inA (by omega)) ha hb hm) (pt_cmp (pc_din (by omega) ha hb) hm)) fun _ _ _ q => go_in hK (go_XE (go_B q))
theorem rt_notIn {a b : Expr} {fa fb : SE} {pos : Pos} (hK : X.K = c.K) (hu : X.A.units + 66 < cLine) (ha : PE X a (tX c W fa)) (hb : PE X b (tX c W fb)) (hm : behindInMarks .NotIn b = false := by rfl) : PT X (.Compare a [.NotIn] [b] pos) (tT c W (toB (e2 pNotIn fa fb))) :=
  PT.by (PT.or (pt_cmpR (op_notInA (by omega)) ha hb hm) (pt_cmp (pc_dnotin (by omega) ha hb) hm)) fun _ _ _ q => go_notIn hK (go_XE (go_B q))
theorem go_isN {f : SE} {σ : St} {H : Hp} {Q : VK} (q : tE c W (e1 pIsN f) σ H Q) : tIsN (tX c W f) σ H Q := go1 (r := fun x H Q => Q (.bl (decide (x = .non))) H) (fun P H x dx d Q s rx e gv => by
  cases e
  rw [isNon_v s rx]
  exact gv.same s (.bl _)) q
theorem go_notN {f : SE} {σ : St} {H : Hp} {Q : VK} (q : tE c W (e1 pNotN f) σ H Q) : tNotN (tX c W f) σ H Q := go1 (r := fun x H Q => Q (.bl (!decide (x = .non))) H) (fun P H x dx d Q s rx e gv => by
  cases e
  rw [isNon_v s rx]
  exact gv.same s (.bl _)) q
theorem rt_isN {e : Expr} {f : SE} (h : PT X e (tB (tIsN (tX c W f)))) : PT X e (tT c W (toB (e1 pIsN f))) := PT.by h fun _ _ _ q => go_isN (go_XE (go_B q))
theorem rt_notN {e : Expr} {f : SE} (h : PT X e (tB (tNotN (tX c W f)))) : PT X e (tT c W (toB (e1 pNotN f))) := PT.by h fun _ _ _ q => go_notN (go_XE (go_B q))
end
end CP

/-! CPPrim3: slices, conversions, all, any, join, get upon plain data. -/
namespace CP
open PySem PySem.Spec L2
open PyProof.Rows hiding St

section
variable {X : Cx} {c : Gam} {W : WX} {P H : Hp}
/-! ### slices -/
def cutD {α : Type} (xs : List α) (lo hi : Option Int) : List α := (xs.drop (HT.sIx xs.length 0 lo)).take (HT.sIx xs.length xs.length hi - HT.sIx xs.length 0 lo)
def pSl : PSl
  | .lst ds, lo, hi => some (.lst (cutD ds lo hi))
  | .tup ds, lo, hi => some (.tup (cutD ds lo hi))
  | .str z, lo, hi => some (.str (cutS z lo hi))
  | _, _, _ => none
def rSlX (K : PySem.W.Frag) : V → Option Int → Option Int → Hp → VK → Prop := fun x lo hi H Q => rSlL K x lo hi H Q ∨ rSlF K x lo hi H Q ∨ rSlS x lo hi H Q
theorem sl_any : L2.SlR X (rSlX X.K) := L2.SlR.or sl_list (L2.SlR.or sl_tupF sl_str)
theorem RAll.cut {vs : List V} {ds : List D} (r : RAll c P vs ds) (lo hi : Option Int) : RAll c P (cutV vs lo hi) (cutD ds lo hi) := by
  unfold cutV cutD
  rw [r.length]
  exact (r.drop _).take _
theorem sOk_sub {x : Str} {l : List Nat} (h : sOk x = true) (sub : ∀ n ∈ l, n ∈ x.cps.toList) (hl : l.length ≤ x.cps.size) : sOk ⟨l.toArray⟩ = true := by
  have h2 := sOk_len h
  have h1 := strOk_of h
  unfold PySem.PyData.strOk at h1
  rw [Array.all_eq_true_iff_forall_mem] at h1
  unfold sOk PySem.PyData.strOk
  rw [Bool.and_eq_true]
  refine ⟨?_, decide_eq_true (by show l.toArray.size ≤ 1000000; rw [List.size_toArray]; omega)⟩
  rw [Array.all_eq_true_iff_forall_mem]
  intro n hn
  exact h1 n (by have := sub n (by simpa using hn); simpa using this)
theorem ok_sl : OkSl c (rSlX c.K) pSl := fun P H x dx l u d Q s r e gv => by
  cases dx with
  | lst ds =>
    cases e
    obtain ⟨a, vs, rfl, h1, h2⟩ := r.lst s
    refine .inl ⟨a, vs, rfl, SqL.of h1, fun p hp => gv.laid s hp ?_⟩
    exact .lst upd_same ((h2.cut l u).mono (same_upd (Same.free s hp)))
  | tup ds =>
    cases e
    obtain ⟨a, vs, rfl, h0, h1, h2⟩ := r.tup s
    refine .inr (.inl ⟨a, vs, rfl, h1, fun ⟨z1, z2⟩ => gv.same s ?_, fun _ => gv.tuple s (h2.cut l u)⟩)
    · have e : cutD ds l u = ds := by
        unfold cutD
        rw [← h2.length, z1, z2, List.drop_zero, Nat.sub_zero]
        exact List.take_of_length_le (by rw [h2.length]; exact Nat.le_refl _)
      rw [e]
      exact .tup h0 h2
  | str z =>
    cases e
    refine .inr (.inr ⟨z, r.str.1, sOk_line r.str.2, gv.same s (.str ?_)⟩)
    unfold cutS
    refine sOk_sub r.str.2 (fun n hn => List.mem_of_mem_drop (List.mem_of_mem_take hn)) ?_
    rw [List.length_take, List.length_drop, Array.length_toList]
    omega
  | _ => cases e

/-! ### tuple(x), list(x) -/
def pTuple : P1
  | .lst ds => some (.tup ds)
  | .tup ds => some (.tup ds)
  | _ => none
def pList : P1
  | .lst ds => some (.lst ds)
  | .tup ds => some (.lst ds)
  | _ => none
theorem ok_tuple : Ok1 c (fun v => rTupF c.K [v]) pTuple := fun P H x dx d Q s r e gv => by
  cases dx with
  | lst ds =>
    cases e
    obtain ⟨a, vs, rfl, h1, h2⟩ := r.lst s
    exact ⟨a, vs, rfl, .inl ⟨SqL.of h1, gv.tuple s h2⟩⟩
  | tup ds =>
    cases e
    obtain ⟨a, vs, rfl, h0, h1, h2⟩ := r.tup s
    exact ⟨a, vs, rfl, .inr ⟨h1, gv.same s (.tup h0 h2)⟩⟩
  | _ => cases e
theorem ok_list : Ok1 c (fun v H Q => (fun xs H Q => ∃ p ys, xs = [V.ref p] ∧ (SqL c.K H p ys ∨ SqT c.K H p ys) ∧ ∀ l, H l = none → Q (.ref l) (upd H l (.lst ys))) [v] H Q) pList := fun P H x dx d Q s r e gv => by
  cases dx with
  | lst ds =>
    cases e
    obtain ⟨a, vs, rfl, h1, h2⟩ := r.lst s
    exact ⟨a, vs, rfl, .inl (SqL.of h1), fun l hl => gv.laid s hl (.lst upd_same (h2.mono (same_upd (Same.free s hl))))⟩
  | tup ds =>
    cases e
    obtain ⟨a, vs, rfl, h0, h1, h2⟩ := r.tup s
    exact ⟨a, vs, rfl, .inr h1, fun l hl => gv.laid s hl (.lst upd_same (h2.mono (same_upd (Same.free s hl))))⟩
  | _ => cases e
/-- list(x) as the def's own -/
def fList (f : SE) : SF := fun ρ g => (f ρ g).bind fun d g1 => match pList d with
  | some (.lst ds) => .ok (.ow ds) g1
  | _ => .fail
theorem v_flist {e : Expr} {f : SE} {K : PySem.W.Frag} (hK : K = c.K) (h : PE X e (tCB (fun xs H Q => ∃ p ys, xs = [V.ref p] ∧ (SqL K H p ys ∨ SqT K H p ys) ∧ ∀ l, H l = none → Q (.ref l) (upd H l (.lst ys))) (tCons (tX c W f) tNil))) : PE X e (tF c W (fList f)) := by
  subst hK
  refine PE.by h fun σ H Q ⟨P0, H0, P, ρ, g, ws, post⟩ => ?_
  refine bind_E ws post fun P1 H1 g1 v d _ x1 w1 r1 post1 => ?_
  split at post1
  · rename_i ds e
    have fin : ∀ vs, RAll c P1 vs ds → ∀ l, H1 l = none → Q (.ref l) (upd H1 l (.lst vs)) := fun vs r l hl => by
      have hP := Same.free w1.sub hl
      refine post1 P1 _ ((Ext.refl w1.sub).put hl hP) ⟨?_, ?_, ?_, w1.gr.ne⟩ _ ⟨⟨l, vs, rfl, upd_same, r, hP, none_back w1.ext hl⟩, l, rfl, none_back x1 hl⟩
      · rw [upd_ne (ne_of_none w1.gr.s hl)]; exact w1.gr.s
      · rw [upd_ne (ne_of_none w1.gr.l hl)]; exact w1.gr.l
      · rw [upd_ne (ne_of_none w1.gr.e hl)]; exact w1.gr.e
    cases d with
    | lst ds' =>
      cases e
      obtain ⟨a, vs, rfl, h1, h2⟩ := r1.lst w1.sub
      exact ⟨a, vs, rfl, .inl (SqL.of h1), fin vs h2⟩
    | tup ds' =>
      cases e
      obtain ⟨a, vs, rfl, h0, h1, h2⟩ := r1.tup w1.sub
      exact ⟨a, vs, rfl, .inr h1, fin vs h2⟩
    | _ => cases e
  · exact post1.elim

/-! ### all, any -/
def boolsOf : List D → Option (List Bool)
  | [] => some []
  | .bl b :: r => (boolsOf r).map (b :: ·)
  | _ => none
theorem bools_v : ∀ {ds : List D} {vs : List V} {bs : List Bool}, RAll c P vs ds → boolsOf ds = some bs → vs = bs.map V.bl
  | [], _, _, .nil, e => by cases e; rfl
  | .bl b :: ds, _, bs, .cons (.bl _) r, e => by
    unfold boolsOf at e
    cases h : boolsOf ds with
    | none => rw [h] at e; cases e
    | some bs' =>
      rw [h] at e
      cases e
      rw [List.map_cons, bools_v r h]
  | .non :: _, _, _, _, e => nomatch e
  | .int _ :: _, _, _, _, e => nomatch e
  | .str _ :: _, _, _, _, e => nomatch e
  | .lst _ :: _, _, _, _, e => nomatch e
  | .tup _ :: _, _, _, _, e => nomatch e
  | .dic _ :: _, _, _, _, e => nomatch e
  | .obj _ _ :: _, _, _, _, e => nomatch e
  | .scr _ :: _, _, _, _, e => nomatch e
  | .st :: _, _, _, _, e => nomatch e
def pAll : P1
  | .lst ds => (boolsOf ds).map fun bs => .bl (bs.all id)
  | _ => none
def pAny : P1
  | .lst ds => (boolsOf ds).map fun bs => .bl (bs.any id)
  | _ => none
theorem ok_all : Ok1 c (fun v => rAll c.K [v]) pAll := fun P H x dx d Q s r e gv => by
  cases dx with
  | lst ds =>
    have e' : (boolsOf ds).map (fun bs => D.bl (bs.all id)) = some d := e
    cases h : boolsOf ds with
    | none => rw [h] at e'; cases e'
    | some bs =>
      rw [h] at e'
      cases e'
      obtain ⟨a, vs, rfl, h1, h2⟩ := r.lst s
      rw [bools_v h2 h] at h1
      exact ⟨a, bs, rfl, SqL.of h1, gv.same s (.bl _)⟩
  | _ => cases e
theorem ok_any : Ok1 c (fun v => rAny c.K [v]) pAny := fun P H x dx d Q s r e gv => by
  cases dx with
  | lst ds =>
    have e' : (boolsOf ds).map (fun bs => D.bl (bs.any id)) = some d := e
    cases h : boolsOf ds with
    | none => rw [h] at e'; cases e'
    | some bs =>
      rw [h] at e'
      cases e'
      obtain ⟨a, vs, rfl, h1, h2⟩ := r.lst s
      rw [bools_v h2 h] at h1
      exact ⟨a, bs, rfl, SqL.of h1, gv.same s (.bl _)⟩
  | _ => cases e

/-! ### sep.join(xs) -/
def strsOf : List D → Option (List Str)
  | [] => some []
  | .str b :: r => (strsOf r).map (b :: ·)
  | _ => none
theorem strs_v : ∀ {ds : List D} {vs : List V} {bs : List Str}, RAll c P vs ds → strsOf ds = some bs → vs = bs.map V.str
  | [], _, _, .nil, e => by cases e; rfl
  | .str b :: ds, _, bs, .cons (.str _) r, e => by
    unfold strsOf at e
    cases h : strsOf ds with
    | none => rw [h] at e; cases e
    | some bs' =>
      rw [h] at e
      cases e
      rw [List.map_cons, strs_v r h]
  | .non :: _, _, _, _, e => nomatch e
  | .int _ :: _, _, _, _, e => nomatch e
  | .bl _ :: _, _, _, _, e => nomatch e
  | .lst _ :: _, _, _, _, e => nomatch e
  | .tup _ :: _, _, _, _, e => nomatch e
  | .dic _ :: _, _, _, _, e => nomatch e
  | .obj _ _ :: _, _, _, _, e => nomatch e
  | .scr _ :: _, _, _, _, e => nomatch e
  | .st :: _, _, _, _, e => nomatch e
def joinS (sep : Str) (ys : List Str) : Option D := if (ys.map (·.length)).sum + ys.length * sep.length ≤ 16777216 ∧ sOk (Txt.join sep ys) = true then some (.str (Txt.join sep ys)) else none
def pJoin : P2
  | .str sep, .lst ds => (strsOf ds).bind (joinS sep)
  | _, _ => none
def isStrD : D → Bool
  | .str _ => true
  | _ => false
theorem go_join {e : Expr} {fa fb : SE} (h : PE X e (tM1 (fun x xs H Q => ∃ a p, ∃ ys : List Str, x = .str a ∧ xs = [.ref p] ∧ (SqL X.K H p (ys.map V.str) ∨ SqT X.K H p (ys.map V.str)) ∧ (ys.map (·.length)).sum + ys.length * a.length ≤ 16777216 ∧ Q (.str (Txt.join a ys)) H) (tX c W fa) (tX c W fb))) :
    PE X e (tE c W (eM1 isStrD pJoin fa fb)) := by
  refine PE.by h fun σ H Q ⟨P0, H0, P, ρ, g, ws, post⟩ => ?_
  refine bind_E ws post fun P1 H1 g1 v d _ x1 w1 r1 post1 => ?_
  split at post1
  · rename_i hk
    cases d with
    | str sep =>
      refine ⟨⟨sep, r1.str.1⟩, bind_E w1 post1 fun P2 H2 g2 v2 d2 _ x2 w2 r2 post2 => ?_⟩
      obtain ⟨d', e⟩ := post_opt post2
      have gv := post_gives post2 e w2.gr
      cases d2 with
      | lst ds =>
        have e' : (strsOf ds).bind (joinS sep) = some d' := e
        cases hs : strsOf ds with
        | none => rw [hs] at e'; cases e'
        | some ys =>
          rw [hs] at e'
          have e'' : joinS sep ys = some d' := e'
          unfold joinS at e''
          split at e''
          · rename_i hc
            cases e''
            obtain ⟨a, vs, rfl, h1, h2⟩ := r2.lst w2.sub
            rw [strs_v h2 hs] at h1
            exact ⟨sep, a, ys, r1.str.1, rfl, .inl (SqL.of h1), hc.1, gv.same w2.sub (.str hc.2)⟩
          · cases e''
      | _ => cases e
    | _ => cases hk
  · exact post1.elim

/-! ### int(x), abs(x) -/
def pInt : P1
  | .int i => some (.int i)
  | .bl b => some (.int (if b then 1 else 0))
  | _ => none
theorem ok_int : Ok1 c (fun v H Q => (fun xs H Q => (∃ i, xs = [V.int i] ∧ Q (.int i) H) ∨ ∃ k, xs = [V.bl k] ∧ Q (.int (if k then 1 else 0)) H) [v] H Q) pInt := fun P H x dx d Q s r e gv => by
  cases dx with
  | int i => cases e; exact .inl ⟨i, by rw [r.int], gv.same s (.int _)⟩
  | bl b => cases e; exact .inr ⟨b, by rw [r.bl], gv.same s (.int _)⟩
  | _ => cases e
def pAbs : P1
  | .int i => some (.int (if i < 0 then -i else i))
  | _ => none
theorem ok_abs : Ok1 c (fun v H Q => (fun xs H Q => ∃ i, xs = [V.int i] ∧ Q (.int (if i < 0 then -i else i)) H) [v] H Q) pAbs := fun P H x dx d Q s r e gv => by
  cases dx with
  | int i => cases e; exact ⟨i, by rw [r.int], gv.same s (.int _)⟩
  | _ => cases e

/-! ### d.get(k, x) -/
def isDicD : D → Bool
  | .dic _ => true
  | _ => false
def pGet : D → D → D → Option D
  | .dic kvs, k, x => (keyOf k).map fun k => (valD kvs k).getD x
  | _, _, _ => none
def eGet2 (a b z : SE) : SE := fun ρ g => (a ρ g).bind fun x g1 => if isDicD x = true then (b ρ g1).bind fun y g2 => (z ρ g2).bind fun w g3 => ofOpt (pGet x y w) g3 else .fail
theorem v_get2 {e : Expr} {fa fb fz : SE} (h : PE X e (tDGet2 (tX c W fa) (tX c W fb) (tE c W fz))) : PE X e (tE c W (eGet2 fa fb fz)) := PE.by h fun σ H Q ⟨P0, H0, P, ρ, g, ws, post⟩ => by
  refine bind_E ws post fun P1 H1 g1 v d _ x1 w1 r1 post1 => ?_
  split at post1
  · rename_i hk
    cases d with
    | dic kvs =>
      obtain ⟨a, es, rfl, h1, h2⟩ := r1.dic w1.sub
      refine ⟨a, rfl, .inl ⟨es, .inl h1⟩, bind_E w1 post1 fun P2 H2 g2 v2 d2 _ x2 w2 r2 post2 => bind_E w2 post2 fun P3 H3 g3 v3 d3 _ x3 w3 r3 post3 => ?_⟩
      obtain ⟨d', e⟩ := post_opt post3
      have gv := post_gives post3 e w3.gr
      have e' : (keyOf d2).map (fun k => (valD kvs k).getD d3) = some d' := e
      cases hk : keyOf d2 with
      | none => rw [hk] at e'; cases e'
      | some k =>
        rw [hk] at e'
        cases e'
        obtain ⟨a', o, ea, hg, ho, hv, hn⟩ := dic_get (k := k) w3.sub ((r1.next x2).next x3)
        cases ea
        rw [keyOf_v (r2.next x3) hk]
        dsimp only at gv
        refine ⟨o, hg, ?_⟩
        cases hd : valD kvs k with
        | some d =>
          obtain ⟨u, rfl, ru⟩ := hv d hd
          rw [hd] at gv
          exact gv.same w3.sub ru
        | none =>
          rw [hn hd]
          rw [hd] at gv
          exact gv.same w3.sub r3
    | _ => cases hk
  · exact post1.elim
end
end CP

/-! CPSort: sorted(list of data), sorted(d.items()), dict(pairs). -/
namespace CP
open PySem PySem.Spec L2
open PyProof.Rows hiding St
open PySem.W (EachIs AllAlike Sortable dataLe)

section
variable {X : Cx} {pins : List (Addr × Obj)} {σ : St} {H : Hp} {s : Shared}
theorem each_of (I : Inv X pins σ H s) : ∀ {xs : List V} {ps : List PyData} {us : List Value}, DpAll X.K H xs ps → Vals xs us →
    EachIs (fun (u : Value) (b : V × PyData) => RelV b.1 u) us (xs.zip ps) ∧ EachIs (fun (u : Value) (b : V × PyData) => ∃ as, Reads s.heap u b.2 as) us (xs.zip ps) ∧ (xs.zip ps).map Prod.snd = ps
  | _, _, _, .nil, r => by cases r; exact ⟨.nil, .nil, rfl⟩
  | _, _, _, .cons h t, r => by
    cases r with
    | cons r1 r2 =>
      obtain ⟨a1, a2, a3⟩ := each_of I t r2
      exact ⟨.cons r1 a1, .cons (Dp.reads I _ _ _ h r1) a2, by rw [List.zip_cons_cons, List.map_cons, a3]⟩
theorem vals_each : ∀ {out : List Value} {bs : List (V × PyData)}, EachIs (fun (u : Value) (b : V × PyData) => RelV b.1 u) out bs → Vals (bs.map Prod.fst) out
  | _, _, .nil => .nil
  | _, _, .cons r t => .cons r (vals_each t)
def rSortP (K : PySem.W.Frag) : List V → Hp → VK → Prop := fun vs H Q => ∃ (a : Addr) (xs : List V) (ps : List PyData), vs = [.ref a] ∧ SqL K H a xs ∧ DpAll K H xs ps ∧ AllAlike ps ∧ Sortable ps ∧ (∀ p ∈ ps, p.depth ≤ 60) ∧
  ∀ p, H p = none → Q (.ref p) (upd H p (.lst (((xs.zip ps).mergeSort (dataLe false Prod.snd)).map Prod.fst)))
theorem cr_sortP (hu : X.A.units + 66 < cLine) : CallR X (.builtin "sorted") (rSortP X.K) := by
  intro pins s σ H vs us Q I r h
  obtain ⟨a, xs, ps, rfl, hs, hd, hal, hk, hdp, q⟩ := h
  obtain rfl := Vals.ref1 r
  obtain ⟨its, rv, pl, hz⟩ := I.list hs
  obtain ⟨e1, e2, e3⟩ := each_of I hd rv
  have hl : (xs.zip ps).length = xs.length := by
    have := congrArg List.length e3
    rw [List.length_map] at this
    rw [List.length_zip] at this ⊢
    have h2 := e1.length
    rw [List.length_zip, ← rv.length] at h2
    omega
  refine PySem.W.sorted_data pl.isList e1 e2 (by rw [e3]; exact hal) (by rw [e3]; exact hk) (by rw [hl]; exact hz) (fun b hb => ?_) fun out ho eo => ?_
  · have := hdp b.2 (by rw [← e3]; exact List.mem_map.mpr ⟨b, hb, rfl⟩)
    omega
  · obtain ⟨n, hat⟩ := PyProof.Rows.sortedAll_at s.heap its out.toArray
    have rv2 := vals_each eo
    refine ⟨.ref (s.heap.objs.size + 1), upd H (s.heap.objs.size + 1) (.lst (((xs.zip ps).mergeSort (dataLe false Prod.snd)).map Prod.fst)), I.laid (t' := s.toks) (fun b u e => PyProof.Rows.sortedAll_old e) (Nat.le_succ _) ⟨?_, out, n, rv2, hat⟩, rfl, q _ (I.hok.fresh (Nat.le_succ _))⟩
    rw [List.length_map, List.length_mergeSort, hl]
    exact hz
end

/-! ### upon plain data -/
def leD : D → D → Bool := dataLe false toPy
def alikeD (ds : List D) : Bool := ds.all fun d => ds.all fun e => PySem.W.alike (toPy d) (toPy e)
def isTup1 : D → Bool
  | .tup (_ :: _) => true
  | _ => false
def noTup : D → Bool
  | .tup _ => false
  | .non => false
  | _ => true
def sortD (ds : List D) : Option D := if ds.all (okD 50) = true ∧ alikeD ds = true ∧ (ds.all isTup1 = true ∨ ds.all noTup = true) then some (.lst (ds.mergeSort leD)) else none
def pSorted : P1
  | .lst ds => sortD ds
  | _ => none
section
variable {X : Cx} {c : Gam} {W : WX} {P H : Hp}
theorem okD_mono : ∀ {n m : Nat} {d : D}, n ≤ m → okD n d = true → okD m d = true := by
  intro n
  induction n with
  | zero => intro m d _ h; cases d <;> first | (cases m <;> rfl) | simp [okD] at h
  | succ n ih =>
    intro m d hm h
    cases m with
    | zero => omega
    | succ m =>
      cases d with
      | lst xs => simp only [okD, List.all_eq_true] at h ⊢; exact fun x hx => ih (by omega) (h x hx)
      | tup xs => simp only [okD, List.all_eq_true] at h ⊢; exact fun x hx => ih (by omega) (h x hx)
      | _ => first | rfl | simp [okD] at h
theorem dpAll_of (s : Same P H) {n : Nat} : ∀ {ds : List D} {vs : List V}, RAll c P vs ds → ds.all (okD n) = true → DpAll c.K H vs (ds.map toPy) ∧ ∀ p ∈ ds.map toPy, p.depth ≤ n
  | _, _, .nil, _ => ⟨.nil, (fun _ h => nomatch h)⟩
  | _, _, .cons r t, o => by
    rw [List.all_cons, Bool.and_eq_true] at o
    obtain ⟨a1, _, a3⟩ := dp_of s n _ _ r o.1
    obtain ⟨b1, b2⟩ := dpAll_of s t o.2
    refine ⟨.cons a1 b1, fun p hp => ?_⟩
    rw [List.map_cons] at hp
    rcases List.mem_cons.mp hp with rfl | hp
    · exact a3
    · exact b2 p hp
theorem alike_of {ds : List D} (h : alikeD ds = true) : AllAlike (ds.map toPy) := by
  unfold alikeD at h
  intro d hd e he
  obtain ⟨x, hx, rfl⟩ := List.mem_map.mp hd
  obtain ⟨y, hy, rfl⟩ := List.mem_map.mp he
  exact List.all_eq_true.mp (List.all_eq_true.mp h x hx) y hy
theorem sortable_of {ds : List D} (o : ds.all (okD 50) = true) (h : ds.all isTup1 = true ∨ ds.all noTup = true) : Sortable (ds.map toPy) := by
  rcases h with h | h
  · refine .inl fun d hd => ?_
    obtain ⟨x, hx, rfl⟩ := List.mem_map.mp hd
    have := List.all_eq_true.mp h x hx
    cases x with
    | tup xs =>
      cases xs with
      | nil => cases this
      | cons y ys => exact ⟨toPy y, toPys ys, by rw [toPy, toPys]⟩
    | _ => cases this
  · refine .inr fun d hd => ?_
    obtain ⟨x, hx, rfl⟩ := List.mem_map.mp hd
    have := List.all_eq_true.mp h x hx
    cases x with
    | tup xs => cases this
    | non => cases this
    | _ => exact ⟨fun z => by simp [toPy] at z, fun xs z => by simp [toPy] at z⟩
theorem rall_zip : ∀ {L : List (V × D)}, (∀ z ∈ L, R c P z.1 z.2) → RAll c P (L.map Prod.fst) (L.map Prod.snd)
  | [], _ => RAll.nil
  | z :: L, h => RAll.cons (h z List.mem_cons_self) (rall_zip fun y hy => h y (List.mem_cons_of_mem _ hy))
theorem zip_rall : ∀ {vs : List V} {ds : List D}, RAll c P vs ds → (∀ z ∈ vs.zip ds, R c P z.1 z.2) ∧ (vs.zip ds).map Prod.snd = ds ∧ (vs.zip ds).map (fun z => (z.1, toPy z.2)) = vs.zip (ds.map toPy)
  | _, _, .nil => ⟨(fun _ h => nomatch h), rfl, rfl⟩
  | _, _, .cons r t => by
    obtain ⟨h1, h2, h3⟩ := zip_rall t
    refine ⟨fun z hz => ?_, by rw [List.zip_cons_cons, List.map_cons, h2], by rw [List.zip_cons_cons, List.map_cons, h3, List.map_cons, List.zip_cons_cons]⟩
    rw [List.zip_cons_cons] at hz
    rcases List.mem_cons.mp hz with rfl | hz
    · exact r
    · exact h1 z hz
theorem rall_sort {vs : List V} {ds : List D} (r : RAll c P vs ds) : RAll c P (((vs.zip (ds.map toPy)).mergeSort (dataLe false Prod.snd)).map Prod.fst) (ds.mergeSort leD) := by
  obtain ⟨h1, h2, h3⟩ := zip_rall r
  have e1 : ((vs.zip ds).mergeSort (fun a b => leD a.2 b.2)).map Prod.snd = ds.mergeSort leD := by
    have := PySem.W.sort_maps (r := fun (a b : V × D) => leD a.2 b.2) (s := leD) (l := vs.zip ds) Prod.snd (fun a _ b _ => rfl)
    rw [this, h2]
  have e2 : ((vs.zip ds).mergeSort (fun a b => leD a.2 b.2)).map (fun z => (z.1, toPy z.2)) = (vs.zip (ds.map toPy)).mergeSort (dataLe false Prod.snd) := by
    rw [← h3]
    exact PySem.W.sort_maps (r := fun (a b : V × D) => leD a.2 b.2) (s := dataLe false Prod.snd) (fun (z : V × D) => (z.1, toPy z.2)) (fun a _ b _ => rfl)
  rw [← e1, ← e2, List.map_map]
  exact rall_zip (L := (vs.zip ds).mergeSort (fun a b => leD a.2 b.2)) fun z hz => h1 z (List.mem_mergeSort.mp hz)
theorem ok_sorted : Ok1 c (fun v => rSortP c.K [v]) pSorted := fun P H x dx d Q s r e gv => by
  cases dx with
  | lst ds =>
    have e' : sortD ds = some d := e
    unfold sortD at e'
    split at e'
    · rename_i hc
      cases e'
      obtain ⟨a, vs, rfl, h1, h2⟩ := r.lst s
      obtain ⟨b1, b2⟩ := dpAll_of s h2 hc.1
      refine ⟨a, vs, ds.map toPy, rfl, SqL.of h1, b1, alike_of hc.2.1, sortable_of hc.1 hc.2.2, fun p hp => by have := b2 p hp; omega, fun p hp => gv.laid s hp ?_⟩
      exact .lst upd_same ((rall_sort h2).mono (same_upd (Same.free s hp)))
    · cases e'
  | _ => cases e
end
end CP

/-! CPItems: sorted(d.items()), dict(pairs). -/
namespace CP
open PySem PySem.Spec L2
open PyProof.Rows hiding St
open PySem.W (EachIs AllAlike Sortable dataLe)

mutual
theorem reads_lt {h : Heap} : ∀ {v : Value} {d : PyData} {as : List Addr}, Reads h v d as → ∀ b ∈ as, b < h.objs.size
  | _, _, _, .none, _, hb => nomatch hb
  | _, _, _, .bool _, _, hb => nomatch hb
  | _, _, _, .int _ _, _, hb => nomatch hb
  | _, _, _, .str _ _, _, hb => nomatch hb
  | _, _, _, .list h1 _ _ r, b, hb => by
    rcases List.mem_cons.mp hb with e | hb
    · rw [e]; exact Heap.lt_size h1
    · exact readsAll_lt r b hb
  | _, _, _, .tuple _ _ _ r, b, hb => readsAll_lt r b hb
  | _, _, _, .dict h1 _ _ r1 r2, b, hb => by
    rcases List.mem_append.mp hb with hb | hb
    · rcases List.mem_cons.mp hb with e | hb
      · rw [e]; exact Heap.lt_size h1
      · exact readsAll_lt r1 b hb
    · exact readsAll_lt r2 b hb
theorem readsAll_lt {h : Heap} : ∀ {vs : List Value} {ds : List PyData} {as : List Addr}, ReadsAll h vs ds as → ∀ b ∈ as, b < h.objs.size
  | _, _, _, .nil, _, hb => nomatch hb
  | _, _, _, .cons r1 r2, b, hb => by
    rcases List.mem_append.mp hb with hb | hb
    · exact reads_lt r1 b hb
    · exact readsAll_lt r2 b hb
end

def keyPy : Key → PyData
  | .inl i => .int i
  | .inr x => .str x
def encP (z : (Key × V) × PyData) : PyData := .tuple [keyPy z.1.1, z.2]

section
variable {X : Cx} {pins : List (Addr × Obj)} {σ : St} {H : Hp} {s : Shared}
/-- d.items() -/
def rItemsK : V → List V → Hp → VK → Prop := fun x xs H Q => ∃ (a : Addr) (kvs : List (Key × V)), x = .ref a ∧ xs = [] ∧ H a = some (.dK kvs) ∧ ∀ p, H p = none → Q (.ref p) (upd H p (DX.itemsO p a))
theorem mt_itemsK : MtR X "dict.items" rItemsK := by
  intro pins s σ H x xs v us Q I rx rxs h
  obtain ⟨a, kvs, rfl, rfl, ha, q⟩ := h
  cases rx
  cases rxs
  obtain ⟨z, hd, vs, rel, o, es, ep, ho, hx, hdat, _⟩ := dk_of I.hok ha
  refine DT.callItems (es := es) (ep := ep) hd ⟨o, ho, hx, hdat⟩ ?_
  have hf : H s.heap.objs.size = none := I.hok.fresh (Nat.le_refl _)
  exact ⟨.ref s.heap.objs.size, upd H s.heap.objs.size (DX.itemsO s.heap.objs.size a), I.laid (t' := s.toks) (fun b u e => Heap.get?_push_of_some _ e) (Nat.le_refl _) (DX.itemsO_ok (Heap.get?_push_size _ rfl)), rfl, q _ hf⟩
def rSortIt (K : PySem.W.Frag) : List V → Hp → VK → Prop := fun vs H Q => ∃ (p a : Addr) (kvs : List (Key × V)) (ps : List PyData), vs = [.ref p] ∧ H p = some (DX.itemsO p a) ∧ H a = some (.dK kvs) ∧ DpAll K H (kvs.map Prod.snd) ps ∧
  AllAlike ((kvs.zip ps).map encP) ∧ (∀ p ∈ ps, p.depth ≤ 50) ∧
  ∀ (H' : Hp) (l : Addr) (ts : List (Addr × (Key × V) × PyData)), Same H H' → H l = none → (∀ t ∈ ts, H t.1 = none ∧ PlT K H' t.1 [kV t.2.1.1, t.2.1.2]) → H' l = some (.lst (ts.map fun t => V.ref t.1)) →
    ts.map Prod.snd = (kvs.zip ps).mergeSort (dataLe false encP) → Q (.ref l) H'
theorem pairs_get {K : Type} [DecidableEq K] {prog : Program} {w : World} {knd : PySem.KeyKind prog w K} : ∀ {es : List DictEntry} {kvs : List (K × Value)}, Pairs knd es kvs → es.length = kvs.length ∧ ∀ (j : Nat) (kv : K × Value), kvs[j]? = some kv → ∃ e, es[j]? = some e ∧ knd.is kv.1 e.key = true ∧ e.val = kv.2
  | _, _, .nil => ⟨rfl, fun j kv h => by simp at h⟩
  | _, _, .cons h1 h2 t => by
    obtain ⟨a, b⟩ := pairs_get t
    refine ⟨by simp [a], fun j kv h => ?_⟩
    cases j with
    | zero => simp at h; subst h; exact ⟨_, rfl, h1, h2⟩
    | succ j => obtain ⟨e, q⟩ := b j kv (by simpa using h); exact ⟨e, by simpa using q.1, q.2⟩
theorem kv_get : ∀ {kvs : List (Key × V)} {vs : List (Key × Value)}, KV kvs vs → kvs.length = vs.length ∧ ∀ (j : Nat) (kv : Key × V), kvs[j]? = some kv → ∃ u, vs[j]? = some (kv.1, u) ∧ RelV kv.2 u := fun {kvs vs} h => by
  unfold KV at h
  induction h with
  | nil => exact ⟨rfl, fun j kv h => by simp at h⟩
  | @cons p q ps qs r t ih =>
    refine ⟨by simp [ih.1], fun j kv h => ?_⟩
    cases j with
    | zero =>
      simp at h
      subst h
      refine ⟨q.2, ?_, r.2⟩
      rw [r.1]
      rfl
    | succ j => obtain ⟨u, h1, h2⟩ := ih.2 j kv (by simpa using h); exact ⟨u, by simpa using h1, h2⟩
theorem dpAll_get : ∀ {K : PySem.W.Frag} {vs : List V} {ps : List PyData}, DpAll K H vs ps → vs.length = ps.length ∧ ∀ (j : Nat) (v : V), vs[j]? = some v → ∃ p, ps[j]? = some p ∧ Dp K H v p
  | _, _, _, .nil => ⟨rfl, fun j v h => by simp at h⟩
  | _, _, _, .cons h t => by
    obtain ⟨a, b⟩ := dpAll_get t
    refine ⟨by simp [a], fun j v q => ?_⟩
    cases j with
    | zero => simp at q; subst q; exact ⟨_, rfl, h⟩
    | succ j => obtain ⟨p, q1, q2⟩ := b j v (by simpa using q); exact ⟨p, by simpa using q1, q2⟩
theorem each_idx {α β : Type} {R : α → β → Prop} : ∀ {as : List α} {bs : List β}, as.length = bs.length → (∀ (j : Nat) (a : α) (b : β), as[j]? = some a → bs[j]? = some b → R a b) → EachIs R as bs
  | [], [], _, _ => .nil
  | a :: as, b :: bs, hl, h => .cons (h 0 a b rfl rfl) (each_idx (by simpa using hl) fun j x y h1 h2 => h (j + 1) x y (by simpa using h1) (by simpa using h2))
theorem reads_key {h : Heap} {k : Key} {u : Value} (e : keyIs k u = true) : Reads h u (keyPy k) [] := by
  rcases keyIs_shape e with ⟨i, t, rfl, rfl⟩ | ⟨x, t, rfl, rfl⟩
  · exact .int i t
  · exact .str x t
/-- tuples already laid are tracked, as plain ones -/
theorem takeF {pins : List (Addr × Obj)} {σ : St} {H0 : Hp} {s : Shared} {h' : Heap} {tk : Nat} {Pr : Addr → List V → Prop} (I0 : Inv X pins σ H0 s) : ∀ (L : List Addr) (H1 : Hp), Inv X pins σ H1 { s with heap := h', toks := tk } → L.Nodup →
    (∀ a ∈ L, s.heap.objs.size ≤ a ∧ H1 a = none ∧ ∃ vs o, Pr a vs ∧ o.dict = none ∧ ∀ H2, ObjOk X.prog X.w H2 h' a (.frz o (.tup vs))) →
    ∃ H2, Inv X pins σ H2 { s with heap := h', toks := tk } ∧ (∀ b o, H1 b = some o → H2 b = some o) ∧ ∀ a ∈ L, ∃ vs, Pr a vs ∧ PlT X.K H2 a vs
  | [], H1, I1, _, _ => ⟨H1, I1, fun _ _ e => e, fun _ h => nomatch h⟩
  | a :: L, H1, I1, hn, h => by
    obtain ⟨hb, hnone, vs, o, hP, hd, ok⟩ := h a List.mem_cons_self
    have I2 : Inv X pins σ (upd H1 a (.frz o (.tup vs))) { s with heap := h', toks := tk } := I1.take (h' := h') (t' := tk) (fun b ob _ e => e) (I0.fpOk hb hnone) (ok _)
    rw [List.nodup_cons] at hn
    obtain ⟨H2, I3, g, q⟩ := takeF I0 L (upd H1 a (.frz o (.tup vs))) I2 hn.2 fun d hd' => by
      obtain ⟨c1, c2, c3⟩ := h d (List.mem_cons_of_mem _ hd')
      exact ⟨c1, by rw [upd_ne (fun z => hn.1 (by rw [← z]; exact hd'))]; exact c2, c3⟩
    refine ⟨H2, I3, fun b ob e => g b ob (by rw [upd_ne (ne_of_none e hnone)]; exact e), fun d hd' => ?_⟩
    rcases List.mem_cons.mp hd' with rfl | hd'
    · exact ⟨vs, hP, .inl ⟨o, g _ _ upd_same, hd⟩⟩
    · exact q d hd'
theorem vals_refs : ∀ {out : List Value} {ts : List (Addr × (Key × V) × PyData)}, EachIs (fun (u : Value) (b : Addr × (Key × V) × PyData) => u = .ref b.1) out ts → Vals (ts.map fun t => V.ref t.1) out
  | _, _, .nil => .nil
  | _, _, .cons r t => .cons r (vals_refs t)
theorem cr_sortIt (hc : X.calm = true) (hu : X.A.units + 66 < cLine) : CallR X (.builtin "sorted") (rSortIt X.K) := by
  intro pins s σ H xs us Q I r h
  obtain ⟨p, a, kvs, ps, rfl, hp, ha, hdp, hal, hde, q⟩ := h
  obtain rfl := Vals.ref1 r
  have view : s.heap.IsItemsView p a := (show ObjOk X.prog X.w H s.heap p (DX.itemsO p a) from I.hok p _ hp).1
  obtain ⟨z, hd, vs, rel, o, es, ep, ho, hx, hdat, _, hprs, _⟩ := dk_of I.hok ha
  obtain ⟨l1, g1⟩ := kv_get rel
  obtain ⟨l2, g2⟩ := pairs_get hprs
  obtain ⟨l3, g3⟩ := dpAll_get hdp
  rw [List.length_map] at l3
  have l4 : es.size = kvs.length := by rw [l1, ← l2, Array.length_toList]
  have hh : X.A.handled = none := I.ok.hd hc
  refine DT.sortedI (es := es) (ep := ep) hh view ⟨o, ho, hx, hdat⟩ (by rw [l4]; exact z) fun h' tk as hk hlt hl hG => ?_
  have lak : as.length = kvs.length := by omega
  have nd : as.Nodup := List.Pairwise.imp (fun h => Nat.ne_of_lt h) hG.rise
  -- the pairs that were made
  have pr : ∀ (j : Nat) (b : Addr), as[j]? = some b → ∃ (kv : Key × V) (pd : PyData) (ku vu : Value), kvs[j]? = some kv ∧ ps[j]? = some pd ∧ keyIs kv.1 ku = true ∧ RelV kv.2 vu ∧ Dp X.K H kv.2 pd ∧ h'.get? b = some { cls := .type "tuple", data := .seq #[ku, vu] } := by
    intro j b hj
    obtain ⟨en, he, hg⟩ := hG.pairs j b hj
    have hjl : j < kvs.length := by rw [← lak]; exact (List.getElem?_eq_some_iff.mp hj).1
    obtain ⟨u, hu1, hu2⟩ := g1 j kvs[j] (by simp [hjl])
    obtain ⟨en', he', hi, hv⟩ := g2 j _ hu1
    rw [Array.getElem?_toList, he] at he'
    cases he'
    obtain ⟨pd, hp1, hp2⟩ := g3 j kvs[j].2 (by rw [List.getElem?_map]; simp [hjl])
    exact ⟨kvs[j], pd, en.key, en.val, by simp [hjl], hp1, hi, by rw [hv]; exact hu2, hp2, hg⟩
  have ne0 : ∀ b o, h'.get? b = some o → b ≠ h'.objs.size := fun b o e => Nat.ne_of_lt (Heap.lt_size e)
  have hob : (h'.push { cls := .type "list", data := .seq (as.map Value.ref).toArray }).get? h'.objs.size = some (seqObj "list" (as.map Value.ref).toArray 0) := Heap.get?_push_size _ rfl
  have ka : ∀ b o, h'.get? b = some o → (h'.push { cls := .type "list", data := .seq (as.map Value.ref).toArray }).get? b = some o := fun b o e => Heap.get?_push_of_some _ e
  have lz : (as.zip (kvs.zip ps)).length = as.length := by rw [List.length_zip, List.length_zip]; omega
  have zat : ∀ (j : Nat) (u : Value) (b : Addr × (Key × V) × PyData), (as.map Value.ref)[j]? = some u → (as.zip (kvs.zip ps))[j]? = some b → u = .ref b.1 ∧ as[j]? = some b.1 ∧ kvs[j]? = some b.2.1 ∧ ps[j]? = some b.2.2 := by
    intro j u b h1 h2
    obtain ⟨q1, q2⟩ := List.getElem?_zip_eq_some.mp h2
    obtain ⟨q3, q4⟩ := List.getElem?_zip_eq_some.mp q2
    rw [List.getElem?_map, q1] at h1
    cases h1
    exact ⟨rfl, q1, q3, q4⟩
  have er : EachIs (fun (u : Value) (b : Addr × (Key × V) × PyData) => ∃ ads, Reads (h'.push { cls := .type "list", data := .seq (as.map Value.ref).toArray }) u (encP b.2) ads ∧ h'.objs.size ∉ ads) (as.map Value.ref) (as.zip (kvs.zip ps)) := by
    refine each_idx (by rw [List.length_map, lz]) fun j u b h1 h2 => ?_
    obtain ⟨rfl, q1, q2, q3⟩ := zat j u b h1 h2
    obtain ⟨kv, pd, ku, vu, e1, e2, e3, e4, e5, e6⟩ := pr j b.1 q1
    rw [q2] at e1
    rw [q3] at e2
    cases e1; cases e2
    obtain ⟨ads, hr⟩ := Dp.reads I _ _ _ e5 e4
    refine ⟨[] ++ (ads ++ []), .tuple (ka _ _ e6) rfl rfl (.cons (reads_key e3) (.cons (PyProof.Rows.Reads.keeps (fun b o e => ka b o (hk b o e)) hr) .nil)), fun hm => ?_⟩
    have hm' : h'.objs.size ∈ ads := by simpa using hm
    exact absurd (reads_lt hr _ hm') (Nat.not_lt_of_lt hlt)
  have em : (as.zip (kvs.zip ps)).map (fun b => encP b.2) = (kvs.zip ps).map encP := by
    have e1 : (as.zip (kvs.zip ps)).map Prod.snd = kvs.zip ps := List.map_snd_zip (by rw [List.length_zip]; omega)
    have e2 := congrArg (List.map encP) e1
    rw [List.map_map] at e2
    exact e2
  refine PySem.W.list_sort_data (s := { s with heap := h'.push { cls := .type "list", data := .seq (as.map Value.ref).toArray }, toks := tk }) (enc := fun b => encP b.2) (R := fun (u : Value) (b : Addr × (Key × V) × PyData) => u = .ref b.1) (bs := as.zip (kvs.zip ps)) hob (each_idx (by rw [List.length_map, lz]) fun j u b h1 h2 => (zat j u b h1 h2).1) er (by rw [em]; exact hal) ?_ (by rw [lz, lak]; exact z) ?_ fun out hout eo => ?_
  · rw [em]
    exact .inl fun d hd => by
      obtain ⟨b, _, rfl⟩ := List.mem_map.mp hd
      exact ⟨_, _, rfl⟩
  · intro b hb
    obtain ⟨j, hj⟩ := List.mem_iff_getElem?.mp hb
    obtain ⟨q1, q2⟩ := List.getElem?_zip_eq_some.mp hj
    obtain ⟨q3, q4⟩ := List.getElem?_zip_eq_some.mp q2
    have := hde b.2.2 (List.mem_of_getElem? q4)
    have hk0 : ∀ k : Key, (keyPy k).depth = 0 := fun k => by cases k <;> simp [keyPy, PyData.depth]
    show X.A.in1.units + 1 + (encP b.2).depth < cLine
    have hd2 : (encP b.2).depth ≤ b.2.2.depth + 1 := by simp [encP, PyData.depth, PyData.depthAll, hk0]
    show X.A.units + 1 + 1 + _ < cLine
    omega
  · show EP X pins σ Q (.ref h'.objs.size) { s with heap := sortedHeap (h'.push { cls := .type "list", data := .seq (as.map Value.ref).toArray }) h'.objs.size (as.map Value.ref) out.toArray, toks := tk }
    generalize hts : (as.zip (kvs.zip ps)).mergeSort (dataLe false fun b => encP b.2) = ts at eo
    have hmem : ∀ t ∈ ts, ∃ j : Nat, as[j]? = some t.1 ∧ kvs[j]? = some t.2.1 ∧ ps[j]? = some t.2.2 := fun t ht => by
      rw [← hts] at ht
      obtain ⟨j, hj⟩ := List.mem_iff_getElem?.mp (List.mem_mergeSort.mp ht)
      obtain ⟨q1, q2⟩ := List.getElem?_zip_eq_some.mp hj
      obtain ⟨q3, q4⟩ := List.getElem?_zip_eq_some.mp q2
      exact ⟨j, q1, q3, q4⟩
    have kF : ∀ b o, b ≠ h'.objs.size → (h'.push { cls := .type "list", data := .seq (as.map Value.ref).toArray }).get? b = some o → (sortedHeap (h'.push { cls := .type "list", data := .seq (as.map Value.ref).toArray }) h'.objs.size (as.map Value.ref) out.toArray).get? b = some o := fun b o hb e => (PyProof.Rows.sortedHeap_old hb (Heap.lt_size e)).trans e
    have kS : ∀ b o, s.heap.get? b = some o → (sortedHeap (h'.push { cls := .type "list", data := .seq (as.map Value.ref).toArray }) h'.objs.size (as.map Value.ref) out.toArray).get? b = some o := fun b o e => kF b o (ne0 _ _ (hk b o e)) (ka _ _ (hk b o e))
    obtain ⟨eF, heF⟩ := PyProof.Rows.sortedHeap_at (vs := as.map Value.ref) (out := out.toArray) hob
    have I1 : Inv X pins σ H { s with heap := sortedHeap (h'.push { cls := .type "list", data := .seq (as.map Value.ref).toArray }) h'.objs.size (as.map Value.ref) out.toArray, toks := tk } := I.kept (t' := tk) kS
    have hn0 : H h'.objs.size = none := I.hok.fresh (Nat.le_of_lt hlt)
    have tlen : ts.length = as.length := by rw [← hts, List.length_mergeSort, lz]
    have rv : Vals (ts.map fun t => V.ref t.1) out := vals_refs eo
    have hlen : (ts.map fun t => V.ref t.1).length ≤ sizeLine := by rw [List.length_map, tlen, lak]; exact z
    have I2 : Inv X pins σ (upd H h'.objs.size (.lst (ts.map fun t => V.ref t.1))) { s with heap := sortedHeap (h'.push { cls := .type "list", data := .seq (as.map Value.ref).toArray }) h'.objs.size (as.map Value.ref) out.toArray, toks := tk } :=
      I1.take (h' := sortedHeap (h'.push { cls := .type "list", data := .seq (as.map Value.ref).toArray }) h'.objs.size (as.map Value.ref) out.toArray) (t' := tk) (fun b ob _ e => e) (I.fpOk (Nat.le_of_lt hlt) hn0) ⟨hlen, out, eF, rv, heF⟩
    obtain ⟨H2, I3, g, qt⟩ := takeF (Pr := fun b vs => ∃ (j : Nat) (kv : Key × V), as[j]? = some b ∧ kvs[j]? = some kv ∧ vs = [kV kv.1, kv.2]) I as _ I2 nd fun b hb => by
      obtain ⟨j, hj⟩ := List.mem_iff_getElem?.mp hb
      obtain ⟨kv, pd, ku, vu, e1, e2, e3, e4, e5, e6⟩ := pr j b hj
      have hbl : s.heap.objs.size ≤ b := Nat.le_of_lt (hG.above b hb)
      refine ⟨hbl, ?_, [kV kv.1, kv.2], _, ⟨j, kv, hj, e1, rfl⟩, rfl, fun H3 => ⟨kF _ _ (ne0 _ _ e6) (ka _ _ e6), (by rw [sizeLine_eq]; show 2 ≤ 16777216; omega), [ku, vu], .cons ?_ (.cons e4 .nil), ⟨_, kF _ _ (ne0 _ _ e6) (ka _ _ e6), rfl, 0, rfl⟩⟩⟩
      · rw [upd_ne (ne0 _ _ e6)]
        exact I.hok.fresh hbl
      · rcases keyIs_shape e3 with ⟨i, t, q1, rfl⟩ | ⟨x, t, q1, rfl⟩
        · rw [q1]; exact ⟨t, rfl⟩
        · rw [q1]; exact ⟨t, rfl⟩
    have gr : ∀ b o, H b = some o → H2 b = some o := fun b o e => g b o (by rw [upd_ne (ne_of_none e hn0)]; exact e)
    refine ⟨.ref h'.objs.size, H2, I3, rfl, q H2 h'.objs.size ts gr hn0 (fun t ht => ?_) (g _ _ upd_same) ?_⟩
    · obtain ⟨i, i1, i2, i3⟩ := hmem t ht
      obtain ⟨vs', ⟨j, kv, j1, j2, ev⟩, hH⟩ := qt t.1 (List.mem_of_getElem? i1)
      have eij : i = j := (List.getElem?_inj (List.getElem?_eq_some_iff.mp i1).1 nd).mp (i1.trans j1.symm)
      subst eij
      rw [i2] at j2
      cases j2
      rw [ev] at hH
      exact ⟨I.hok.fresh (Nat.le_of_lt (hG.above t.1 (List.mem_of_getElem? i1))), hH⟩
    · have e1 : (as.zip (kvs.zip ps)).map Prod.snd = kvs.zip ps := List.map_snd_zip (by rw [List.length_zip]; omega)
      have e2 := PySem.W.sort_maps (r := dataLe false fun (b : Addr × (Key × V) × PyData) => encP b.2) (s := dataLe false encP) (l := as.zip (kvs.zip ps)) Prod.snd (fun a _ b _ => rfl)
      rw [← hts, e2, e1]
end

/-! ### upon plain data -/
def keyD : Key → D
  | .inl i => .int i
  | .inr x => .str x
def itemsD (kvs : List (Key × D)) : List D := kvs.map fun kv => .tup [keyD kv.1, kv.2]
def pSortedItems : P1
  | .dic kvs => sortD (itemsD kvs)
  | _ => none
section
variable {X : Cx} {c : Gam} {W : WX} {P H : Hp}
theorem toPy_key (k : Key) : toPy (keyD k) = keyPy k := by cases k <;> simp [keyD, keyPy, toPy]
theorem r_key {k : Key} (h : kOk k = true) : R c P (kV k) (keyD k) := by
  cases k with
  | inl i => exact .int i
  | inr x => exact .str h
theorem RKvs.all : ∀ {es : List (Key × V)} {kvs : List (Key × D)}, RKvs c P es kvs → RAll c P (es.map Prod.snd) (kvs.map Prod.snd)
  | _, _, .nil => .nil
  | _, _, .cons _ r t => .cons r t.all
/-- the pairs of both, at once -/
abbrev Z2 := (Key × V) × (Key × D)
def f1 (z : Z2) : (Key × V) × PyData := (z.1, toPy z.2.2)
def f2 (z : Z2) : D := .tup [keyD z.2.1, z.2.2]
theorem RKvs.zs : ∀ {es : List (Key × V)} {kvs : List (Key × D)}, RKvs c P es kvs → (∀ z ∈ es.zip kvs, z.1.1 = z.2.1 ∧ kOk z.2.1 = true ∧ R c P z.1.2 z.2.2) ∧ (es.zip kvs).map f1 = es.zip (kvs.map fun kv => toPy kv.2) ∧ (es.zip kvs).map f2 = itemsD kvs
  | _, _, .nil => ⟨(fun _ h => nomatch h), rfl, rfl⟩
  | _, _, .cons o r t => by
    obtain ⟨h1, h2, h3⟩ := t.zs
    refine ⟨fun z hz => ?_, ?_, ?_⟩
    · rw [List.zip_cons_cons] at hz
      rcases List.mem_cons.mp hz with rfl | hz
      · exact ⟨rfl, o, r⟩
      · exact h1 z hz
    · rw [List.zip_cons_cons, List.map_cons, h2, List.map_cons, List.zip_cons_cons]; rfl
    · rw [List.zip_cons_cons, List.map_cons, h3]; rfl
theorem enc_f {z : Z2} (h : z.1.1 = z.2.1) : encP (f1 z) = toPy (f2 z) := by
  unfold encP f1 f2
  rw [toPy, toPys, toPys, toPys, toPy_key, h]
theorem rall_ts {P' : Hp} : ∀ {ts : List (Addr × (Key × V) × PyData)} {L : List Z2}, ts.map Prod.snd = L.map f1 → (∀ t ∈ ts, PlT c.K P' t.1 [kV t.2.1.1, t.2.1.2]) → (∀ z ∈ L, z.1.1 = z.2.1 ∧ kOk z.2.1 = true ∧ R c P' z.1.2 z.2.2) → RAll c P' (ts.map fun t => V.ref t.1) (L.map f2)
  | [], [], _, _, _ => .nil
  | t :: ts, z :: L, e, h1, h2 => by
    rw [List.map_cons, List.map_cons] at e
    obtain ⟨e1, e2⟩ := List.cons.inj e
    refine .cons ?_ (rall_ts e2 (fun t ht => h1 t (List.mem_cons_of_mem _ ht)) fun z hz => h2 z (List.mem_cons_of_mem _ hz))
    obtain ⟨k1, k2, k3⟩ := h2 z List.mem_cons_self
    have ht := h1 t List.mem_cons_self
    rw [e1] at ht
    have ht' : PlT c.K P' t.1 [kV z.1.1, z.1.2] := ht
    rw [k1] at ht'
    exact .tup ht' (.cons (r_key k2) (.cons k3 .nil))
  | [], _ :: _, e, _, _ => nomatch e
  | _ :: _, [], e, _, _ => nomatch e
theorem v_sortIt {e : Expr} {f : SE} {K : PySem.W.Frag} (hK : K = c.K) (h : PE X e (tCB (rSortIt K) (tCons (tBM0 K "dict" rItemsK (tX c W f)) tNil))) : PE X e (tE c W (e1 pSortedItems f)) := by
  subst hK
  refine PE.by h fun σ H Q q => go1 (r := fun x H Q => tyV c.K "dict" x H ∧ rItemsK x [] H (fun v H1 => rSortIt c.K [v] H1 Q)) (fun P H x dx d Q s rx e gv => ?_) q
  cases dx with
  | dic kvs =>
    have e' : sortD (itemsD kvs) = some d := e
    unfold sortD at e'
    split at e'
    · rename_i hc
      cases e'
      obtain ⟨a, es, rfl, h1, h2⟩ := rx.dic s
      refine ⟨.inr (.inr (.inl ⟨rfl, .inl ⟨es, h1⟩⟩)), a, es, rfl, rfl, h1, fun p hp => ?_⟩
      have hP := Same.free s hp
      have s1 : Same P (upd H p (DX.itemsO p a)) := same_put s hP
      obtain ⟨z1, z2, z3⟩ := h2.zs
      have ok2 : (kvs.map Prod.snd).all (okD 49) = true := by
        rw [List.all_eq_true]
        intro d hd
        obtain ⟨kv, hkv, rfl⟩ := List.mem_map.mp hd
        have := List.all_eq_true.mp hc.1 (.tup [keyD kv.1, kv.2]) (List.mem_map.mpr ⟨kv, hkv, rfl⟩)
        simp only [okD, List.all_cons, List.all_nil, Bool.and_true, Bool.and_eq_true] at this
        exact this.2
      obtain ⟨b1, b2⟩ := dpAll_of s1 h2.all ok2
      have ep : (kvs.map Prod.snd).map toPy = kvs.map fun kv => toPy kv.2 := by rw [List.map_map]; rfl
      rw [ep] at b1 b2
      have emap : (es.zip (kvs.map fun kv => toPy kv.2)).map encP = (itemsD kvs).map toPy := by
        rw [← z2, ← z3, List.map_map, List.map_map]
        exact List.map_congr_left fun z hz => enc_f (z1 z hz).1
      refine ⟨p, a, es, kvs.map (fun kv => toPy kv.2), rfl, upd_same, by rw [upd_ne (ne_of_none h1 hp)]; exact h1, b1, by rw [emap]; exact alike_of hc.2.1, fun q hq => by have := b2 q hq; omega, fun H' l ts sm hl hts hlist hsort => ?_⟩
      have hl0 : H l = none := (same_upd hp).free hl
      have ht0 : ∀ t ∈ ts, H t.1 = none := fun t ht => (same_upd hp).free (hts t ht).1
      have e1 := PySem.W.sort_maps (r := fun (z y : Z2) => leD (f2 z) (f2 y)) (s := leD) (l := es.zip kvs) f2 (fun a _ b _ => rfl)
      have e2 := PySem.W.sort_maps (r := fun (z y : Z2) => leD (f2 z) (f2 y)) (s := dataLe false encP) (l := es.zip kvs) f1 (fun a ha b hb => by
        show dataLe false toPy (f2 a) (f2 b) = dataLe false encP (f1 a) (f1 b)
        unfold dataLe PySem.W.sortLe
        dsimp only
        rw [enc_f (z1 a ha).1, enc_f (z1 b hb).1])
      rw [z3] at e1
      rw [z2] at e2
      rw [← e2] at hsort
      -- the world behind it
      let P' : Hp := fun b => if b = l ∨ b ∈ ts.map Prod.fst then H' b else P b
      have P'l : P' l = H' l := if_pos (.inl rfl)
      have P't : ∀ t ∈ ts, P' t.1 = H' t.1 := fun t ht => if_pos (.inr (List.mem_map.mpr ⟨t, ht, rfl⟩))
      have hn : ∀ b, (b = l ∨ b ∈ ts.map Prod.fst) → H b = none := fun b hb => by
        rcases hb with rfl | hb
        · exact hl0
        · obtain ⟨t, ht, rfl⟩ := List.mem_map.mp hb
          exact ht0 t ht
      have smH : Same H H' := (same_upd hp).trans sm
      have pub : Same P P' := fun b o e => by
        show (if _ then _ else _) = _
        rw [if_neg (fun hb => by have := s b o e; rw [hn b hb] at this; cases this)]
        exact e
      have x : ExtP P H P' H' := ⟨pub, fun b o e => by
        have e' : (if b = l ∨ b ∈ ts.map Prod.fst then H' b else P b) = some o := e
        split at e'
        · exact e'
        · exact smH b o (s b o e'), smH, fun b e => by
        have e' : (if b = l ∨ b ∈ ts.map Prod.fst then H' b else P b) ≠ none := e
        split at e'
        · rename_i hb; exact .inr (hn b hb)
        · exact .inl e'⟩
      refine gv P' H' _ x ?_
      rw [← e1]
      refine .lst (by rw [P'l]; exact hlist) (rall_ts hsort (fun t ht => by
        rcases (hts t ht).2 with ⟨o, h1, h2⟩ | h1
        · exact .inl ⟨o, by rw [P't t ht]; exact h1, h2⟩
        · exact .inr h1) fun z hz => ?_)
      obtain ⟨k1, k2, k3⟩ := z1 z (List.mem_mergeSort.mp hz)
      exact ⟨k1, k2, k3.mono pub⟩
    · cases e'
  | _ => cases e

/-! ### dict(pairs) -/
def pairsOf : List D → Option (List (Key × D))
  | [] => some []
  | .tup [k, v] :: r => match keyOf k, pairsOf r with
    | some k, some kvs => some ((k, v) :: kvs)
    | _, _ => none
  | _ => none
def mergeD (kvs more : List (Key × D)) : List (Key × D) := more.foldl (fun acc kv => putD acc kv.1 kv.2) kvs
def pDict : P1
  | .lst ds => (pairsOf ds).map fun kvs => .dic (mergeD [] kvs)
  | .tup ds => (pairsOf ds).map fun kvs => .dic (mergeD [] kvs)
  | .dic kvs => some (.dic kvs)
  | _ => none
theorem RKvs.merge : ∀ {more : List (Key × V)} {moreD : List (Key × D)} {es : List (Key × V)} {kvs : List (Key × D)}, RKvs c P more moreD → RKvs c P es kvs → RKvs c P (mergeK es more) (mergeD kvs moreD)
  | _, _, _, _, .nil, h => h
  | _, _, es, kvs, .cons (k := k) (v := v) (d := d) o r t, h => RKvs.merge (es := putK es k v) (kvs := putD kvs k d) t (h.put o r)
theorem pairs_v (s : Same P H) : ∀ {ds : List D} {vs : List V} {kvs : List (Key × D)}, RAll c P vs ds → pairsOf ds = some kvs → ∃ (ps : List Addr) (es : List (Key × V)), vs = ps.map V.ref ∧ Paired (fun p kv => SqT c.K H p [kV kv.1, kv.2]) ps es ∧ RKvs c P es kvs
  | [], _, _, .nil, e => by cases e; exact ⟨[], [], rfl, .nil, .nil⟩
  | d :: ds, _, kvs, .cons r1 r2, e => by
    unfold pairsOf at e
    split at e
    · rename_i heq; cases heq
    · rename_i k v r heq
      cases heq
      split at e
      · rename_i k' kvs' hk hp
        cases e
        obtain ⟨ps, es, e1, e2, e3⟩ := pairs_v s r2 hp
        cases r1 with
        | @tup a us _ h1 h2 =>
          cases h2 with
          | cons q1 q2 =>
            cases q2 with
            | cons q2 q3 =>
              cases q3
              have hv := keyOf_v (H := H) (.of q1) hk
              have ho := keyOf_ok (H := H) (.of q1) hk
              subst hv
              refine ⟨a :: ps, (k', _) :: es, by rw [List.map_cons, e1], .cons (sqT_mono s h1.sq) e2, .cons ho q2 e3⟩
      · cases e
    · cases e
/-- dict(xs), xs a list or a plain tuple of pairs, or a dict -/
def rDictA (K : PySem.W.Frag) : List V → Hp → VK → Prop := fun xs H Q => (∃ (a : Addr) (ps : List Addr) (kvs : List (Key × V)), xs = [.ref a] ∧ SqL K H a (ps.map V.ref) ∧ Paired (fun p kv => SqT K H p [kV kv.1, kv.2]) ps kvs ∧
    ∀ p, H p = none → Q (.ref p) (upd H p (.dK (mergeK [] kvs)))) ∨ rDictT K xs H Q ∨ (∃ (a : Addr) (kvs : List (Key × V)), xs = [.ref a] ∧ Rd H a (.dK kvs) ∧ ∀ p, H p = none → Q (.ref p) (upd H p (.dK kvs)))
theorem call_dictA (hc : X.calm = true) : CallR X (.type "dict") (rDictA X.K) := fun pins s σ H xs us Q I r h => by
  rcases h with h | h | h
  · exact call_dictP hc pins s σ H xs us Q I r h
  · exact call_dictT hc pins s σ H xs us Q I r h
  · exact call_dictD pins s σ H xs us Q I r h
/-- what stands behind dict(..): a new dict, not yet shared -/
theorem dict_new {x : V} {dx d : D} {Q : VK} (s : Same P H) (rx : RX c P H x dx) (e : pDict dx = some d) (k : ∀ p es kvs, H p = none → d = .dic kvs → RKvs c P es kvs → Q (.ref p) (upd H p (.dK es))) : rDictA c.K [x] H Q := by
  cases dx with
  | lst ds =>
    have e' : (pairsOf ds).map (fun kvs => D.dic (mergeD [] kvs)) = some d := e
    cases hp : pairsOf ds with
    | none => rw [hp] at e'; cases e'
    | some kvs =>
      rw [hp] at e'
      cases e'
      obtain ⟨a, vs, rfl, h1, h2⟩ := rx.lst s
      obtain ⟨ps, es, rfl, q2, q3⟩ := pairs_v s h2 hp
      exact .inl ⟨a, ps, es, rfl, SqL.of h1, q2, fun p hp => k p _ _ hp rfl (RKvs.merge q3 .nil)⟩
  | tup ds =>
    have e' : (pairsOf ds).map (fun kvs => D.dic (mergeD [] kvs)) = some d := e
    cases hp : pairsOf ds with
    | none => rw [hp] at e'; cases e'
    | some kvs =>
      rw [hp] at e'
      cases e'
      obtain ⟨a, vs, rfl, h0, h1, h2⟩ := rx.tup s
      obtain ⟨ps, es, rfl, q2, q3⟩ := pairs_v s h2 hp
      exact .inr (.inl ⟨a, ps, es, rfl, h0.mono s, q2, fun p hp => k p _ _ hp rfl (RKvs.merge q3 .nil)⟩)
  | dic kvs =>
    cases e
    obtain ⟨a, es, rfl, h1, h2⟩ := rx.dic s
    exact .inr (.inr ⟨a, es, rfl, .inl h1, fun p hp => k p _ _ hp rfl h2⟩)
  | _ => cases e
theorem ok_dict : Ok1 c (fun v => rDictA c.K [v]) pDict := fun P H x dx d Q s rx e gv => dict_new s rx e fun p es kvs hp ed r => by
  subst ed
  exact gv.laid s hp (.dic upd_same (r.mono (same_upd (Same.free s hp))))
/-- dict(x) as the def's own -/
def fDict (f : SE) : SF := fun ρ g => (f ρ g).bind fun d g1 => match pDict d with
  | some (.dic kvs) => .ok (.od kvs) g1
  | _ => .fail
theorem v_fdict {e : Expr} {f : SE} {K : PySem.W.Frag} (hK : K = c.K) (h : PE X e (tCB (rDictA K) (tCons (tX c W f) tNil))) : PE X e (tF c W (fDict f)) := by
  subst hK
  refine PE.by h fun σ H Q ⟨P0, H0, P, ρ, g, ws, post⟩ => ?_
  refine bind_E ws post fun P1 H1 g1 v d _ x1 w1 r1 post1 => ?_
  split at post1
  · rename_i kvs e
    refine dict_new w1.sub r1 e fun p es kvs' hp ed r => ?_
    cases ed
    have hP := Same.free w1.sub hp
    refine post1 P1 _ ((Ext.refl w1.sub).put hp hP) ⟨?_, ?_, ?_, w1.gr.ne⟩ _ ⟨⟨p, es, rfl, upd_same, r, hP, none_back w1.ext hp⟩, p, rfl, none_back x1 hp⟩
    · rw [upd_ne (ne_of_none w1.gr.s hp)]; exact w1.gr.s
    · rw [upd_ne (ne_of_none w1.gr.l hp)]; exact w1.gr.l
    · rw [upd_ne (ne_of_none w1.gr.e hp)]; exact w1.gr.e
  · exact post1.elim
end
end CP

/-! CPRule: the rules under the short names that the printed walks use. -/
namespace CP
open PySem PySem.Spec L2
open PyProof.Rows hiding St

section
variable {X : Cx} {c : Gam} {W : WX}
theorem rv (i : Nat) {x : Str} {pos : Pos} (hN : X.N[i]? = some x := by rfl) (hv : Vis X.env.scope x := by first | exact Or.inl rfl | exact Or.inr (Or.inl rfl) | exact Or.inr (Or.inr rfl)) (hd : (x == ("__debug__" : Str)) = false := by decide)
    (hcd : (x == ("__classdict__" : Str)) = false := by decide) : PE X (.Name x pos) (tE c W (eVar i)) := re_var hN hv hd hcd
theorem rx (i : Nat) {x : Str} {pos : Pos} (hN : X.N[i]? = some x := by rfl) (hv : Vis X.env.scope x := by first | exact Or.inl rfl | exact Or.inr (Or.inl rfl) | exact Or.inr (Or.inr rfl)) (hd : (x == ("__debug__" : Str)) = false := by decide)
    (hcd : (x == ("__classdict__" : Str)) = false := by decide) : PE X (.Name x pos) (tX c W (eAny i)) := rx_var hN hv hd hcd
theorem gn (i : Nat) {x : Str} {pos : Pos} (hN : X.N.Nodup) (hi : X.N[i]? = some x := by rfl) (hx : Loc X.env.scope x := by first | exact Or.inl rfl | exact Or.inr rfl)
    (hf : X.fn x = true ∨ X.env.scope.names.lookup x = some .local := by first | exact .inl rfl | exact .inr rfl) : PG X (.Name x pos) (tP c false [i] (pName i)) := v_gname (pg_name hN hi hx hf)
theorem gn0 (i : Nat) {x : Str} {pos : Pos} (hN : X.N.Nodup) (hi : X.N[i]? = some x := by rfl) (hx : Loc X.env.scope x := by first | exact Or.inl rfl | exact Or.inr rfl)
    (hf : X.fn x = true ∨ X.env.scope.names.lookup x = some .local := by first | exact .inl rfl | exact .inr rfl) : PG X (.Name x pos) (gName i) := pg_name hN hi hx hf
/-- y = [..] of its own frame -/
theorem rs_setLcOwn {s : Stmt} {k : Nat} {lo : Bool} {i : SA} {sl vs : List Nat} {p : Pt} {t : ST} {f : SE} (hv : ∀ k ∈ sl, k ∈ vs) (h : PS X s (tAsg (tLc (tI c W lo i) (tP c lo sl p) (tT c W0 t) (tE c W0 f) vs) (gName k))) : PS X s (tS c W (sOwn k (fOw (eLc i p t f vs)))) :=
  rs_own (PS.by h fun _ _ _ q => go_lc hv q)
theorem rs_setLc {s : Stmt} {k : Nat} {lo : Bool} {i : SA} {sl vs : List Nat} {p : Pt} {t : ST} {f : SE} (hv : ∀ k ∈ sl, k ∈ vs) (h : PS X s (tAsg (tLc (tI c W lo i) (tP c lo sl p) (tT c W0 t) (tE c W0 f) vs) (gName k))) : PS X s (tS c W (sAsg (pName k) (fLst (eLc i p t f vs)))) :=
  PS.by h fun D σ H q => by
    obtain ⟨P0, H0, P, ρ, g, ws, post⟩ := q
    refine go_lc hv (go_pub (bindS_E ws post fun P1 H1 g1 v d _ x1 w1 r1 post1 => ?_))
    exact post1 P1 _ H1 (w1.set r1)
theorem takesW0 {X : Cx} (h : ∀ e s, ¬ X.xe e s) : True := trivial
theorem takes_blk : Takes X W0 := fun _ _ ⟨_, _, _, _, _, _, _, _, _, _, _, _, _, _, _, _, w⟩ => w.elim
/-- chains as tests, tests by any expression -/
theorem rt_e {e : Expr} {fa : SE} (h : PE X e (tE c W fa)) (he : ∀ whole, isTrue e X.env whole = (do let v ← whole; standAt e.pos; holding [v] (truthy v)) := by intro _; rfl) : PT X e (tT c W (toB fa)) := rt_val (toX h) he
theorem rt_tt {e : Expr} {f : ST} (h : PE X e (tE c W (fun ρ g => (f ρ g).bind fun b g1 => .ok (.bl b) g1))) : True := trivial
end
end CP

/-! CPWalk: one rule for each construct, as the printed walks use them. -/
namespace CP
open PySem PySem.Spec L2
open PyProof.Rows hiding St

section
variable {X : Cx} {c : Gam} {W : WX} {a b z : Expr} {fa fb fz : SE} {pos p p2 : Pos} {k : Nat}
/-! ### % and // -/
def pMod : P2
  | .int i, .int j => if 0 < j then some (.int (i % j)) else none
  | _, _ => none
theorem ok_mod : Ok2 c (rI (fun _ j => 0 < j) fun i j => .int (i % j)) pMod := fun P H x y dx dy d Q s rx ry e gv => by
  cases dx <;> cases dy <;> first | cases e | skip
  rename_i i j
  have e' : (if 0 < j then some (D.int (i % j)) else none) = some d := e
  split at e'
  · rename_i h
    cases e'
    exact ⟨_, _, rx.int, ry.int, h, gv.same s (.int _)⟩
  · cases e'
def pDiv : P2
  | .int i, .int j => if 0 < j ∧ j < 1073741824 then some (.int (i / j)) else none
  | _, _ => none
theorem ok_div : Ok2 c (rI CDiv fun i j => .int (i / j)) pDiv := fun P H x y dx dy d Q s rx ry e gv => by
  cases dx <;> cases dy <;> first | cases e | skip
  rename_i i j
  have e' : (if 0 < j ∧ j < 1073741824 then some (D.int (i / j)) else none) = some d := e
  split at e'
  · rename_i h
    cases e'
    exact ⟨_, _, rx.int, ry.int, h, gv.same s (.int _)⟩
  · cases e'
/-! ### operators -/
theorem q_add (hK : X.K = c.K) (ha : PE X a (tX c W fa)) (hb : PE X b (tX c W fb)) : PE X (.BinOp a .Add b pos) (tE c W (e2 pAdd fa fb)) := v_op ok_add (pe_op (hK ▸ op_addA) ha hb)
theorem q_sub (ha : PE X a (tX c W fa)) (hb : PE X b (tX c W fb)) : PE X (.BinOp a .Sub b pos) (tE c W (e2 pSub fa fb)) := v_op ok_sub (pe_op op_sub ha hb)
theorem q_mul (ha : PE X a (tX c W fa)) (hb : PE X b (tX c W fb)) : PE X (.BinOp a .Mult b pos) (tE c W (e2 pMul fa fb)) := v_op ok_mul (pe_op op_mul ha hb)
theorem q_pow (ha : PE X a (tX c W fa)) (hb : PE X b (tX c W fb)) : PE X (.BinOp a .Pow b pos) (tE c W (e2 pPow fa fb)) := v_op ok_pow (pe_op op_pow ha hb)
theorem q_mod (ha : PE X a (tX c W fa)) (hb : PE X b (tX c W fb)) : PE X (.BinOp a .Mod b pos) (tE c W (e2 pMod fa fb)) := v_op ok_mod (pe_op op_mod ha hb)
theorem q_div (ha : PE X a (tX c W fa)) (hb : PE X b (tX c W fb)) : PE X (.BinOp a .FloorDiv b pos) (tE c W (e2 pDiv fa fb)) := v_op ok_div (pe_op op_fdiv ha hb)
theorem q_neg (ha : PE X a (tX c W fa)) : PE X (.UnaryOp .USub a pos) (tE c W (e1 pNeg fa)) := v_un ok_neg (pe_un un_neg ha)
/-! ### comparisons -/
theorem ro_eq (hK : X.K = c.K) (hr : Room k X.A) : OpR X (compareOp .Eq) (rEqD c.K) := hK ▸ op_eqD hr.units
theorem ro_ne (hK : X.K = c.K) (hr : Room k X.A) : OpR X (compareOp .NotEq) (rNeD c.K) := hK ▸ op_neD hr.units
theorem q_eq (hK : X.K = c.K) (hr : Room k X.A) (ha : PE X a (tX c W fa)) (hb : PE X b (tX c W fb)) : PE X (.Compare a [.Eq] [b] pos) (tE c W (e2 pEq fa fb)) := v_op ok_eq (pe_cmpR (ro_eq hK hr) ha hb (nomark _))
theorem q_ne (hK : X.K = c.K) (hr : Room k X.A) (ha : PE X a (tX c W fa)) (hb : PE X b (tX c W fb)) : PE X (.Compare a [.NotEq] [b] pos) (tE c W (e2 pNe fa fb)) := v_op ok_ne (pe_cmpR (ro_ne hK hr) ha hb (nomark _))
theorem q_lt (ha : PE X a (tX c W fa)) (hb : PE X b (tX c W fb)) : PE X (.Compare a [.Lt] [b] pos) (tE c W (e2 pLt fa fb)) := v_op ok_lt (pe_cmpR op_ltA ha hb (nomark _))
theorem q_le (ha : PE X a (tX c W fa)) (hb : PE X b (tX c W fb)) : PE X (.Compare a [.LtE] [b] pos) (tE c W (e2 pLe fa fb)) := v_op ok_le (pe_cmpR op_le ha hb (nomark _))
theorem q_gt (ha : PE X a (tX c W fa)) (hb : PE X b (tX c W fb)) : PE X (.Compare a [.Gt] [b] pos) (tE c W (e2 pGt fa fb)) := v_op ok_gt (pe_cmpR op_gt ha hb (nomark _))
theorem q_ge (ha : PE X a (tX c W fa)) (hb : PE X b (tX c W fb)) : PE X (.Compare a [.GtE] [b] pos) (tE c W (e2 pGe fa fb)) := v_op ok_ge (pe_cmpR op_ge ha hb (nomark _))
theorem t_eq (hK : X.K = c.K) (hr : Room k X.A) (ha : PE X a (tX c W fa)) (hb : PE X b (tX c W fb)) : PT X (.Compare a [.Eq] [b] pos) (tT c W (toB (e2 pEq fa fb))) := rt_cmp ok_eq (ro_eq hK hr) ha hb
theorem t_ne (hK : X.K = c.K) (hr : Room k X.A) (ha : PE X a (tX c W fa)) (hb : PE X b (tX c W fb)) : PT X (.Compare a [.NotEq] [b] pos) (tT c W (toB (e2 pNe fa fb))) := rt_cmp ok_ne (ro_ne hK hr) ha hb
theorem t_lt (ha : PE X a (tX c W fa)) (hb : PE X b (tX c W fb)) : PT X (.Compare a [.Lt] [b] pos) (tT c W (toB (e2 pLt fa fb))) := rt_cmp ok_lt op_ltA ha hb
theorem t_le (ha : PE X a (tX c W fa)) (hb : PE X b (tX c W fb)) : PT X (.Compare a [.LtE] [b] pos) (tT c W (toB (e2 pLe fa fb))) := rt_cmp ok_le op_le ha hb
theorem t_gt (ha : PE X a (tX c W fa)) (hb : PE X b (tX c W fb)) : PT X (.Compare a [.Gt] [b] pos) (tT c W (toB (e2 pGt fa fb))) := rt_cmp ok_gt op_gt ha hb
theorem t_ge (ha : PE X a (tX c W fa)) (hb : PE X b (tX c W fb)) : PT X (.Compare a [.GtE] [b] pos) (tT c W (toB (e2 pGe fa fb))) := rt_cmp ok_ge op_ge ha hb
theorem q_isN {j} (ha : PE X a (tX c W fa)) : PE X (.Compare a [.Is] [.Constant .none j p] pos) (tE c W (e1 pIsN fa)) := v_isN (pe_cmp (pc_isN ha))
theorem q_notN {j} (ha : PE X a (tX c W fa)) : PE X (.Compare a [.IsNot] [.Constant .none j p] pos) (tE c W (e1 pNotN fa)) := v_notN (pe_cmp (pc_notN ha))
theorem t_isN {j} (ha : PE X a (tX c W fa)) : PT X (.Compare a [.Is] [.Constant .none j p] pos) (tT c W (toB (e1 pIsN fa))) := rt_isN (pt_cmp (pc_isN ha))
theorem t_notN {j} (ha : PE X a (tX c W fa)) : PT X (.Compare a [.IsNot] [.Constant .none j p] pos) (tT c W (toB (e1 pNotN fa))) := rt_notN (pt_cmp (pc_notN ha))
theorem Room.u66 {A : Around} (r : Room k A) : A.units + 66 < cLine := by have := r.un; omega
theorem q_in (hK : X.K = c.K) (hr : Room k X.A) (ha : PE X a (tX c W fa)) (hb : PE X b (tX c W fb)) (hm : behindInMarks .In b = false := by rfl) : PE X (.Compare a [.In] [b] pos) (tE c W (e2 pIn fa fb)) := re_in hK (Room.u66 hr) ha hb hm
theorem q_notIn (hK : X.K = c.K) (hr : Room k X.A) (ha : PE X a (tX c W fa)) (hb : PE X b (tX c W fb)) (hm : behindInMarks .NotIn b = false := by rfl) : PE X (.Compare a [.NotIn] [b] pos) (tE c W (e2 pNotIn fa fb)) := re_notIn hK (Room.u66 hr) ha hb hm
theorem t_in (hK : X.K = c.K) (hr : Room k X.A) (ha : PE X a (tX c W fa)) (hb : PE X b (tX c W fb)) (hm : behindInMarks .In b = false := by rfl) : PT X (.Compare a [.In] [b] pos) (tT c W (toB (e2 pIn fa fb))) := rt_in hK (Room.u66 hr) ha hb hm
theorem t_notIn (hK : X.K = c.K) (hr : Room k X.A) (ha : PE X a (tX c W fa)) (hb : PE X b (tX c W fb)) (hm : behindInMarks .NotIn b = false := by rfl) : PT X (.Compare a [.NotIn] [b] pos) (tT c W (toB (e2 pNotIn fa fb))) := rt_notIn hK (Room.u66 hr) ha hb hm
theorem q_ix (hK : X.K = c.K) (hr : Room k X.A) (ha : PE X a (tX c W fa)) (hb : PE X b (tX c W fb)) (hs : PlainIx b := by exact fun _ _ => rfl) (hn : NoSl b := by exact fun _ _ => rfl) : PE X (.Subscript a b pos) (tE c W (e2 pSubs fa fb)) := re_sub hK (Room.u66 hr) ha hb hs hn
theorem q_sl {lo hi : Option Expr} {l h : SO} (hK : X.K = c.K) (ha : PE X a (tX c W fa)) (hl : PO X lo (tO c W l)) (hh : PO X hi (tO c W h)) : PE X (.Subscript a (.Slice lo hi none p2) pos) (tE c W (eSl pSl fa l h)) := v_sl ok_sl (pe_slice (hK ▸ sl_any) ha hl hh)
/-! ### tests -/
theorem tw {e : Expr} {t : TT} (h : PW X e t) : PT X e t := ⟨fun pins s σ H Q I q => h.run _ pins s σ H Q I q⟩
/-! ### built-in functions -/
variable (hm : X.mg "len" = none)
theorem q_len (hK : X.K = c.K) (hm : X.mg "len" = none) (ha : PE X a (tX c W fa)) (hg : Gl X "len" := by rfl) (he : starEach [a] X.env = (false, eval a X.env) :: starEach [] X.env := by rfl) : PE X (.Call (.Name "len" p) [a] [] pos) (tE c W (e1 pLen fa)) :=
  v_b1 ok_len (pe_callB (hK ▸ call_lenA) hg hm PySem.boot_len (pa_cons ha pa_nil he) (he := he) (hpl := rfl))
theorem q_isi (kd : Kd) {x : Str} (hx : bootBuiltins x = some (.type kd.name)) (hK : X.K = c.K) (hm : X.mg "isinstance" = none) (hmx : X.mg x = none) (ha : PE X a (tX c W fa)) (hg : Gl X "isinstance" := by rfl) (hgx : Gl X x := by rfl)
    (hn : x ≠ "__name__" := by decide) (hd : (x == ("__debug__" : Str)) = false := by decide) (he : starEach [a, .Name x p2] X.env = (false, eval a X.env) :: starEach [.Name x p2] X.env := by rfl) : PE X (.Call (.Name "isinstance" p) [a, .Name x p2] [] pos) (tE c W (e1 (pIsi [kd]) fa)) :=
  v_isi kd rfl (pe_callB (hK ▸ call_isi) hg hm (by decide +kernel) (pa_cons ha (pa_cons (pe_bltn hgx hmx hx rfl hn hd) pa_nil rfl) he) (he := he) (hpl := rfl))
theorem q_isi2 (k1 k2 : Kd) {x1 x2 : Str} {j : Nat} {p3 p4 : Pos} (hx1 : bootBuiltins x1 = some (.type k1.name)) (hx2 : bootBuiltins x2 = some (.type k2.name)) (hK : X.K = c.K) (hm : X.mg "isinstance" = none) (hm1 : X.mg x1 = none) (hm2 : X.mg x2 = none) (ha : PE X a (tX c W fa)) (hg : Gl X "isinstance" := by rfl) (hg1 : Gl X x1 := by rfl) (hg2 : Gl X x2 := by rfl)
    (hn1 : x1 ≠ "__name__" := by decide) (hd1 : (x1 == ("__debug__" : Str)) = false := by decide) (hn2 : x2 ≠ "__name__" := by decide) (hd2 : (x2 == ("__debug__" : Str)) = false := by decide)
    (he : starEach [a, .Tuple [.Name x1 p2, .Name x2 p3] j p4] X.env = (false, eval a X.env) :: starEach [.Tuple [.Name x1 p2, .Name x2 p3] j p4] X.env := by rfl) : PE X (.Call (.Name "isinstance" p) [a, .Tuple [.Name x1 p2, .Name x2 p3] j p4] [] pos) (tE c W (e1 (pIsi [k1, k2]) fa)) :=
  v_isi2 k1 k2 rfl (pe_callB (hK ▸ call_isiT) hg hm (by decide +kernel) (pa_cons ha (pa_cons (pe_tup (pa_cons (pe_bltn hg1 hm1 hx1 rfl hn1 hd1) (pa_cons (pe_bltn hg2 hm2 hx2 rfl hn2 hd2) pa_nil rfl) rfl)) pa_nil rfl) he) (he := he) (hpl := rfl))
theorem q_max (hc : X.calm = true) (hm : X.mg "max" = none) (ha : PE X a (tX c W fa)) (hb : PE X b (tX c W fb)) (hg : Gl X "max" := by rfl) (he : starEach [a, b] X.env = (false, eval a X.env) :: starEach [b] X.env := by rfl) (he2 : starEach [b] X.env = (false, eval b X.env) :: starEach [] X.env := by rfl) (hpl : (backTo pos (starEach [b] X.env)).any (·.1) = false := by rfl) : PE X (.Call (.Name "max" p) [a, b] [] pos) (tE c W (e2 pMax fa fb)) :=
  v_b2 ok_max (pe_callB (call_max2 hc) hg hm (by decide +kernel) (pa_cons ha (pa_cons hb pa_nil he2) he) (he := he) (hpl := hpl))
theorem q_min (hc : X.calm = true) (hm : X.mg "min" = none) (ha : PE X a (tX c W fa)) (hb : PE X b (tX c W fb)) (hg : Gl X "min" := by rfl) (he : starEach [a, b] X.env = (false, eval a X.env) :: starEach [b] X.env := by rfl) (he2 : starEach [b] X.env = (false, eval b X.env) :: starEach [] X.env := by rfl) (hpl : (backTo pos (starEach [b] X.env)).any (·.1) = false := by rfl) : PE X (.Call (.Name "min" p) [a, b] [] pos) (tE c W (e2 pMin fa fb)) :=
  v_b2 ok_min (pe_callB (call_min2 hc) hg hm (by decide +kernel) (pa_cons ha (pa_cons hb pa_nil he2) he) (he := he) (hpl := hpl))
theorem q_all (hK : X.K = c.K) (hc : X.calm = true) (hm : X.mg "all" = none) (ha : PE X a (tX c W fa)) (hg : Gl X "all" := by rfl) (he : starEach [a] X.env = (false, eval a X.env) :: starEach [] X.env := by rfl) : PE X (.Call (.Name "all" p) [a] [] pos) (tE c W (e1 pAll fa)) :=
  v_b1 ok_all (pe_callB (hK ▸ cr_all hc) hg hm (by decide +kernel) (pa_cons ha pa_nil he) (he := he) (hpl := rfl))
theorem q_any (hK : X.K = c.K) (hc : X.calm = true) (hm : X.mg "any" = none) (ha : PE X a (tX c W fa)) (hg : Gl X "any" := by rfl) (he : starEach [a] X.env = (false, eval a X.env) :: starEach [] X.env := by rfl) : PE X (.Call (.Name "any" p) [a] [] pos) (tE c W (e1 pAny fa)) :=
  v_b1 ok_any (pe_callB (hK ▸ cr_any hc) hg hm (by decide +kernel) (pa_cons ha pa_nil he) (he := he) (hpl := rfl))
theorem q_abs (hm : X.mg "abs" = none) (ha : PE X a (tX c W fa)) (hg : Gl X "abs" := by rfl) (he : starEach [a] X.env = (false, eval a X.env) :: starEach [] X.env := by rfl) : PE X (.Call (.Name "abs" p) [a] [] pos) (tE c W (e1 pAbs fa)) :=
  v_b1 ok_abs (pe_callB call_abs hg hm (by decide +kernel) (pa_cons ha pa_nil he) (he := he) (hpl := rfl))
theorem q_int (hm : X.mg "int" = none) (ha : PE X a (tX c W fa)) (hg : Gl X "int" := by rfl) (he : starEach [a] X.env = (false, eval a X.env) :: starEach [] X.env := by rfl) : PE X (.Call (.Name "int" p) [a] [] pos) (tE c W (e1 pInt fa)) :=
  v_b1 ok_int (pe_callTy call_int1 hg hm (by decide +kernel) (pa_cons ha pa_nil he) (he := he) (hpl := rfl))
theorem q_tuple (hK : X.K = c.K) (hm : X.mg "tuple" = none) (ha : PE X a (tX c W fa)) (hg : Gl X "tuple" := by rfl) (he : starEach [a] X.env = (false, eval a X.env) :: starEach [] X.env := by rfl) : PE X (.Call (.Name "tuple" p) [a] [] pos) (tE c W (e1 pTuple fa)) :=
  v_b1 ok_tuple (pe_callTy (hK ▸ call_tupleF) hg hm (by decide +kernel) (pa_cons ha pa_nil he) (he := he) (hpl := rfl))
theorem q_list (hK : X.K = c.K) (hm : X.mg "list" = none) (ha : PE X a (tX c W fa)) (hg : Gl X "list" := by rfl) (he : starEach [a] X.env = (false, eval a X.env) :: starEach [] X.env := by rfl) : PE X (.Call (.Name "list" p) [a] [] pos) (tE c W (e1 pList fa)) :=
  v_b1 ok_list (pe_callTy (hK ▸ call_list_of) hg hm (by decide +kernel) (pa_cons ha pa_nil he) (he := he) (hpl := rfl))
theorem q_listO (hK : X.K = c.K) (hm : X.mg "list" = none) (ha : PE X a (tX c W fa)) (hg : Gl X "list" := by rfl) (he : starEach [a] X.env = (false, eval a X.env) :: starEach [] X.env := by rfl) : PE X (.Call (.Name "list" p) [a] [] pos) (tF c W (fList fa)) :=
  v_flist rfl (pe_callTy (hK ▸ call_list_of) hg hm (by decide +kernel) (pa_cons ha pa_nil he) (he := he) (hpl := rfl))
theorem q_dict (hK : X.K = c.K) (hc : X.calm = true) (hm : X.mg "dict" = none) (ha : PE X a (tX c W fa)) (hg : Gl X "dict" := by rfl) (he : starEach [a] X.env = (false, eval a X.env) :: starEach [] X.env := by rfl) : PE X (.Call (.Name "dict" p) [a] [] pos) (tE c W (e1 pDict fa)) :=
  v_b1 ok_dict (pe_callTy (hK ▸ call_dictA hc) hg hm (by decide +kernel) (pa_cons ha pa_nil he) (he := he) (hpl := rfl))
theorem q_dictO (hK : X.K = c.K) (hc : X.calm = true) (hm : X.mg "dict" = none) (ha : PE X a (tX c W fa)) (hg : Gl X "dict" := by rfl) (he : starEach [a] X.env = (false, eval a X.env) :: starEach [] X.env := by rfl) : PE X (.Call (.Name "dict" p) [a] [] pos) (tF c W (fDict fa)) :=
  v_fdict rfl (pe_callTy (hK ▸ call_dictA hc) hg hm (by decide +kernel) (pa_cons ha pa_nil he) (he := he) (hpl := rfl))
theorem q_sorted (hK : X.K = c.K) (hr : Room k X.A) (hm : X.mg "sorted" = none) (ha : PE X a (tX c W fa)) (hg : Gl X "sorted" := by rfl) (he : starEach [a] X.env = (false, eval a X.env) :: starEach [] X.env := by rfl) : PE X (.Call (.Name "sorted" p) [a] [] pos) (tE c W (e1 pSorted fa)) :=
  v_b1 ok_sorted (pe_callB (hK ▸ cr_sortP (Room.u66 hr)) hg hm (by decide +kernel) (pa_cons ha pa_nil he) (he := he) (hpl := rfl))
theorem q_sortIt {apos cpos : Pos} (hK : X.K = c.K) (hc : X.calm = true) (hr : Room k X.A) (hm : X.mg "sorted" = none) (ha : PE X a (tX c W fa)) (hbase : attributeBase a "items" X.env (eval a X.env) = eval a X.env := by rfl) (hline : (apos.endLine == cpos.line) = true := by rfl) (hg : Gl X "sorted" := by rfl) :
    PE X (.Call (.Name "sorted" p) [.Call (.Attribute a "items" apos) [] [] cpos] [] pos) (tE c W (e1 pSortedItems fa)) :=
  v_sortIt hK (pe_callB (cr_sortIt hc (Room.u66 hr)) hg hm (by decide +kernel) (pa_cons (pe_bm0 PySem.F.plainAttrs_dict PySem.F.slot_dict_items PySem.F.type_dict_items mt_itemsK ha hbase hline) pa_nil rfl) (he := rfl) (hpl := rfl))
theorem q_get2 {apos : Pos} (hr : Room k X.A) (ha : PE X a (tX c W fa)) (hb : PE X b (tX c W fb)) (hz : PE X z (tE c W fz)) (m : M2 X a "get" apos b z pos := by exact ⟨rfl, rfl, rfl, rfl⟩) : PE X (.Call (.Attribute a "get" apos) [b, z] [] pos) (tE c W (eGet2 fa fb fz)) :=
  v_get2 (pe_dget2 (by have := hr.un; omega) ha hb hz m)
theorem q_join {apos : Pos} (ha : PE X a (tX c W fa)) (hb : PE X b (tX c W fb)) (hs : starEach [b] X.env = [(false, eval b X.env)] := by rfl) (hbase : attributeBase a "join" X.env (eval a X.env) = eval a X.env := by rfl) (hline : (apos.endLine == pos.line) = true := by rfl) : PE X (.Call (.Attribute a "join" apos) [b] [] pos) (tE c W (eM1 isStrD pJoin fa fb)) :=
  go_join (pe_join ha hb hs hbase hline)
/-! ### what is walked -/
variable {tg : Expr}
theorem i_seq (hK : X.K = c.K) (ha : PE X a (tE c W fa)) : PI X tg a (tI c W false (iSeq fa)) := ri_seq (K := c.K) hK ha
theorem i_range1 (hm : X.mg "range" = none) (ha : PE X a (tX c W fa)) (hg : Gl X "range" := by rfl) (hs : starEach [a] X.env = [(false, eval a X.env)] := by rfl) : PI X tg (.Call (.Name "range" p) [a] [] pos) (tI c W false (iRange1 fa)) := v_range1 (pi_range1 hg hm (pa_cons ha pa_nil hs) hs)
theorem i_range2 (hm : X.mg "range" = none) (ha : PE X a (tX c W fa)) (hb : PE X b (tX c W fb)) (hg : Gl X "range" := by rfl) (hs : starEach [a, b] X.env = [(false, eval a X.env), (false, eval b X.env)] := by rfl) (hs2 : starEach [b] X.env = [(false, eval b X.env)] := by rfl) : PI X tg (.Call (.Name "range" p) [a, b] [] pos) (tI c W false (iRange2 fa fb)) :=
  v_range2 (pi_range2 hg hm (pa_cons ha (pa_cons hb pa_nil hs2) (by rw [hs, hs2])) hs hs2)
theorem i_zip {elts : List Expr} {kk : Nat} {tpos : Pos} (hK : X.K = c.K) (hm : X.mg "zip" = none) (ha : PE X a (tE c W fa)) (hb : PE X b (tE c W fb)) (hg : Gl X "zip" := by rfl) (hs : starEach [a, b] X.env = (false, eval a X.env) :: starEach [b] X.env := by rfl) (hs2 : starEach [b] X.env = (false, eval b X.env) :: starEach [] X.env := by rfl) (hpl : (backTo pos (starEach [b] X.env)).any (·.1) = false := by rfl) :
    PI X (.Tuple elts kk tpos) (.Call (.Name "zip" p) [a, b] [] pos) (tI c W true (iZip2 fa fb)) := v_zip hK (RZ.pi_zipA hg hm (pa_cons ha (pa_cons hb pa_nil hs2) hs) hs hpl)
theorem i_enum {elts : List Expr} {kk : Nat} {tpos : Pos} (hK : X.K = c.K) (hm : X.mg "enumerate" = none) (ha : PE X a (tE c W fa)) (hg : Gl X "enumerate" := by rfl) (hs : starEach [a] X.env = [(false, eval a X.env)] := by rfl) :
    PI X (.Tuple elts kk tpos) (.Call (.Name "enumerate" p) [a] [] pos) (tI c W true (iEnum1 fa)) := v_enum hK (pi_enum hg hm (pa_cons ha pa_nil hs) hs)
/-! ### calls of defs -/
theorem q_call {Pr : Program} {w : World} {K : PySem.W.Frag} {mg : Str → Option Value} {base : Heap} {f : Addr} {fd : FuncData} {ps : List Str} {n j : Nat} {F : Fn} {x : Str} {e : Expr} {es : List Expr} {fs : SA}
    (ok : FnOk X.prog X.w X.K X.mg X.base (CX X.prog X.w) j f fd ps (spF c n F)) (hr : Room k X.A) (hj : j ≤ k) (tk : Takes X W) (hm : X.mg x = some (.ref f)) (hk : PySem.W.keepIn X.K (.ref f) = true) (hb : Binds X.K fd ps []) (ha : PA X (e :: es) (tA c W fs))
    (hg : Gl X x := by rfl) (hdb : (x == ("__debug__" : Str)) = false := by decide) (he : starEach (e :: es) X.env = (false, eval e X.env) :: starEach es X.env := by rfl) (hpl : (backTo pos (starEach es X.env)).any (·.1) = false := by rfl) :
    PE X (.Call (.Name x p) (e :: es) [] pos) (tE c W (eCall n F fs)) := v_call (pe_callS ok (hr.mono hj) hg hm hk hb (fun σ => passAt tk σ) ha hdb he hpl)
end
end CP

/-! CPDraw: the source of draws, read and written by the text of _law_draw; targets of several names. -/
namespace CP
open PySem PySem.Spec L2
open PyProof.Rows hiding St

section
variable {X : Cx} {c : Gam} {W : WX} {o e : Expr} {fo fv : SE} {pos p p2 apos : Pos} {k j : Nat} {P H : Hp}
theorem rall_ints : ∀ ns : List Int, RAll c P (ns.map V.int) (ns.map D.int)
  | [] => .nil
  | n :: ns => .cons (.int n) (rall_ints ns)
theorem RX.st {v : V} (h : RX c P H v .st) : v = .ref c.sa := by
  rcases h.inv with h | ⟨_, _, _, _, h, _⟩ | ⟨_, _, _, _, h, _⟩
  · cases h; rfl
  · cases h
  · cases h
theorem GR.sl {g : G} (h : GR c g H) : c.sa ≠ c.la := fun e => by have := h.s; rw [e, h.l] at this; cases this
theorem GR.sc {g : G} (h : GR c g H) : c.sa ≠ c.ca := fun e => by have := h.s; rw [e, h.e] at this; cases this
/-- a part of the source of draws -/
def eSt (q : G → D) (f : SE) : SE := fun ρ g => (f ρ g).bind fun d g1 => match d with
  | .st => .ok (q g1) g1
  | _ => .fail
theorem go_st {rel : Rel} {q : G → D} {key : Str} {v : G → V} (hv : ∀ g H, GR c g H → valV [((.inr "large" : Key), V.ref c.la), (.inr "cells", .ref c.ca), (.inr "rest", .int g.rest), (.inr "turn", .int g.turn)] (.inr key) = some (v g))
    (hr : ∀ g P H, Same P H → GR c g H → rel P H (v g) (q g)) (h : PE X e (tDGet (tX c W fo) (tC (.str key)))) : PE X e (tG c W rel (eSt q fo)) := PE.by h fun σ H Q ⟨P0, H0, P, ρ, g, ws, post⟩ => by
  refine bind_E ws post fun P1 H1 g1 x d _ x1 w1 r1 post1 => ?_
  cases d with
  | st =>
    refine ⟨c.sa, v g1, r1.st, ?_, post1 P1 H1 (Ext.refl w1.sub) w1.gr _ (hr g1 P1 H1 w1.sub w1.gr)⟩
    have := DGet.k (k := .inr key) w1.gr.s
    rw [hv g1 H1 w1.gr] at this
    exact this
  | _ => exact post1.elim
abbrev eRest (f : SE) : SE := eSt (fun g => .int g.rest) f
abbrev eTurn (f : SE) : SE := eSt (fun g => .int g.turn) f
abbrev eCells (f : SE) : SE := eSt (fun g => .lst (g.cells.map D.int)) f
theorem d_get {key : Str} (hr : Room k X.A) (ho : PE X o (tX c W fo)) : PE X (.Subscript o (.Constant (.str key) j p) pos) (tDGet (tX c W fo) (tC (.str key))) := pe_dget (by have := hr.un; omega) ho pe_str (fun _ _ => rfl)
theorem s_rest (hr : Room k X.A) (ho : PE X o (tX c W fo)) : PE X (.Subscript o (.Constant (.str "rest") j p) pos) (tE c W (eRest fo)) :=
  go_st (v := fun g => .int g.rest) (fun g H _ => by with_unfolding_all rfl) (fun g P H _ _ => .int _) (d_get hr ho)
theorem s_turn (hr : Room k X.A) (ho : PE X o (tX c W fo)) : PE X (.Subscript o (.Constant (.str "turn") j p) pos) (tE c W (eTurn fo)) :=
  go_st (v := fun g => .int g.turn) (fun g H _ => by with_unfolding_all rfl) (fun g P H _ _ => .int _) (d_get hr ho)
theorem s_cells (hr : Room k X.A) (ho : PE X o (tX c W fo)) : PE X (.Subscript o (.Constant (.str "cells") j p) pos) (tX c W (eCells fo)) :=
  go_st (v := fun g => .ref c.ca) (fun g H _ => by with_unfolding_all rfl) (fun g P H _ gr => .inr (.inl ⟨c.ca, _, _, rfl, rfl, gr.e, rall_ints _, gr.sc.symm, gr.ne.symm⟩)) (d_get hr ho)
/-- large != [] -/
def tLne (f : SE) : ST := fun ρ g => (f ρ g).bind fun d g1 => match d with
  | .st => .ok (!g1.large.isEmpty) g1
  | _ => .fail
theorem eqv_nil (ns : List Int) : PyData.eqv (toPy (.lst (ns.map D.int))) (toPy (.lst [])) = ns.isEmpty := by
  cases ns with
  | nil => simp [toPy, toPys, PyData.eqv, PyData.eqvAll]
  | cons n ns => simp [toPy, toPys, PyData.eqv, PyData.eqvAll]
theorem okD_ints (ns : List Int) : okD 60 (.lst (ns.map D.int)) = true := by
  simp [okD, List.all_map]
theorem t_large (hK : X.K = c.K) (hr : Room k X.A) (ho : PE X o (tX c W fo)) : PT X (.Compare (.Subscript o (.Constant (.str "large") j p) apos) [.NotEq] [.List [] p2] pos) (tT c W (tLne fo)) :=
  PT.by (pt_cmpR (ro_ne hK hr) (d_get hr ho) (pe_lst pa_nil) (nomark _)) fun σ H Q ⟨P0, H0, P, ρ, g, ws, post⟩ => by
    refine bind_E ws post fun P1 H1 g1 x d _ x1 w1 r1 post1 => ?_
    cases d with
    | st =>
      refine ⟨c.sa, .ref c.la, r1.st, ?_, ?_⟩
      · exact DGet.k (k := .inr "large") w1.gr.s
      · refine ⟨Nat.zero_le _, fun q hq => ?_⟩
        have x2 := ExtP.laid (o := .lst []) w1.sub hq
        have w2 := w1.nextP x2
        let c' : Gam := { c with sa := c.ca, la := c.ca }
        have ra : RX c' (upd P1 q (.lst [])) (upd H1 q (.lst [])) (.ref c.la) (.lst (g1.large.map D.int)) := .inr (.inl ⟨c.la, _, _, rfl, rfl, w2.gr.l, rall_ints _, w2.gr.ne, w2.gr.ne⟩)
        have rb : RX c' (upd P1 q (.lst [])) (upd H1 q (.lst [])) (.ref q) (.lst []) := .inl (.lst upd_same .nil)
        obtain ⟨a1, a2⟩ := dpx_of w2.sub ra (okD_ints _)
        obtain ⟨b1, b2⟩ := dpx_of w2.sub rb rfl
        refine ⟨_, _, a1, b1, a2, b2, _, rfl, ?_⟩
        rw [eqv_nil]
        exact post1 _ _ x2.ext w2.gr
    | _ => exact post1.elim
theorem Ext.state {P H : Hp} {a : Addr} {o : HO} (s : Same P H) (ha : a = c.sa ∨ a = c.la) (n : P a = none) : Ext c P H P (upd H a o) :=
  ⟨Same.refl _, same_put s n, fun b u h1 h2 e => by
    rw [upd_ne (fun (z : b = a) => ha.elim (fun q => h1 (z.trans q)) (fun q => h2 (z.trans q)))]
    exact e, fun b h => by
    by_cases e : b = a
    · rw [e, upd_same]; exact fun z => nomatch z
    · rw [upd_ne e]; exact h, fun b h => .inl h⟩
/-- large.pop(0) -/
def ePop (f : SE) : SE := fun ρ g => (f ρ g).bind fun d g1 => match d with
  | .st => match g1.large with
    | n :: l => .ok (.int n) { g1 with large := l }
    | [] => .fail
  | _ => .fail
theorem s_pop {cpos : Pos} {j2 : Nat} {p3 : Pos} (hK : X.K = c.K) (hr : Room k X.A) (ho : PE X o (tX c W fo)) (hbase : attributeBase (.Subscript o (.Constant (.str "large") j p) pos) "pop" X.env (eval (.Subscript o (.Constant (.str "large") j p) pos) X.env) = eval (.Subscript o (.Constant (.str "large") j p) pos) X.env := by rfl)
    (hline : (apos.endLine == cpos.line) = true := by rfl) : PE X (.Call (.Attribute (.Subscript o (.Constant (.str "large") j p) pos) "pop" apos) [.Constant (.int 0) j2 p3] [] cpos) (tE c W (ePop fo)) :=
  PE.by (pe_bm PySem.F.plainAttrs_list PySem.F.slot_list_pop PySem.F.type_list_pop mt_popAt (d_get hr ho) (pa_cons pe_int pa_nil) hbase (by rfl) hline) fun σ H Q ⟨P0, H0, P, ρ, g, ws, post⟩ => by
    rw [hK]
    refine bind_E ws post fun P1 H1 g1 x d _ x1 w1 r1 post1 => ?_
    cases d with
    | st =>
      dsimp only at post1
      cases hl : g1.large with
      | nil => rw [hl] at post1; exact post1.elim
      | cons n l =>
        rw [hl] at post1
        have gl := w1.gr.l
        rw [hl] at gl
        refine ⟨c.sa, .ref c.la, r1.st, DGet.k (k := .inr "large") w1.gr.s, .inl ⟨rfl, _, SqL.of gl⟩, ?_⟩
        refine ⟨c.la, _, 0, 0, .int n, rfl, rfl, gl, by decide, by decide, ?_, rfl, ?_⟩
        · show seqIndex? 0 (l.map V.int).length.succ = some 0
          unfold seqIndex?
          simp
        · have x2 : Ext c P1 H1 P1 (upd H1 c.la (.lst (l.map V.int))) := Ext.state w1.sub (.inr rfl) w1.wd.pl
          refine post1 _ _ x2 ⟨?_, upd_same, ?_, w1.gr.ne⟩ _ (.int n)
          · rw [upd_ne w1.gr.sl]; exact w1.gr.s
          · rw [upd_ne w1.gr.ne.symm]; exact w1.gr.e
    | _ => exact post1.elim
/-- state[key] = e -/
def sSt (u : G → Int → G) (f h : SE) : SS := fun ρ g => toFl ρ (h ρ g) fun d g1 => match d with
  | .int n => toFl ρ (f ρ g1) fun s g2 => match s with
    | .st => .nx ρ (u g2 n)
    | _ => .fail
  | _ => .fail
theorem go_set {s : Stmt} {key : Str} {u : G → Int → G} (hu : ∀ g n, putK [((.inr "large" : Key), V.ref c.la), (.inr "cells", .ref c.ca), (.inr "rest", .int g.rest), (.inr "turn", .int g.turn)] (.inr key) (.int n) = [(.inr "large", .ref c.la), (.inr "cells", .ref c.ca), (.inr "rest", .int (u g n).rest), (.inr "turn", .int (u g n).turn)])
    (hl : ∀ g n, (u g n).large = g.large) (hcl : ∀ g n, (u g n).cells = g.cells) (h : PS X s (sDPut (tX c W fo) (tC (.str key)) (tE c W fv))) : PS X s (tS c W (sSt u fo fv)) := PS.by h fun D σ H ⟨P0, H0, P, ρ, g, ws, post⟩ => by
  refine bindS_E ws post fun P1 H1 g1 v d _ x1 w1 r1 post1 => ?_
  have r1 : R c P1 v d := r1
  cases r1 with
  | int n =>
    refine bindS_E w1 post1 fun P2 H2 g2 x d2 _ x2 w2 r2 post2 => ?_
    cases d2 with
    | st =>
      refine ⟨c.sa, _, r2.st, DPut.k (k := .inr key) w2.gr.s (by rw [sizeLine_eq]; show 4 < _; decide), ?_⟩
      rw [hu g2 n]
      refine post2 P2 σ _ (w2.next (Ext.state w2.sub (.inl rfl) w2.wd.ps) ⟨upd_same, ?_, ?_, w2.gr.ne⟩)
      · rw [upd_ne w2.gr.sl.symm, hl]; exact w2.gr.l
      · rw [upd_ne w2.gr.sc.symm, hcl]; exact w2.gr.e
    | _ => exact post2.elim
  | _ => exact post1.elim
abbrev sRest (f h : SE) : SS := sSt (fun g n => { g with rest := n }) f h
abbrev sTurn (f h : SE) : SS := sSt (fun g n => { g with turn := n }) f h
theorem s_setRest (hr : Room k X.A) (ho : PE X o (tX c W fo)) (hv : PE X e (tE c W fv)) (hs : swapsWith e (some (.Subscript o (.Constant (.str "rest") j p) p2)) pos.line X.env = pure false := by rfl) : PS X (.Assign [.Subscript o (.Constant (.str "rest") j p) p2] e pos) (tS c W (sRest fo fv)) :=
  go_set (fun g n => by with_unfolding_all rfl) (fun _ _ => rfl) (fun _ _ => rfl) (ps_dput (by have := hr.un; omega) ho pe_str hv hs)
theorem s_setTurn (hr : Room k X.A) (ho : PE X o (tX c W fo)) (hv : PE X e (tE c W fv)) (hs : swapsWith e (some (.Subscript o (.Constant (.str "turn") j p) p2)) pos.line X.env = pure false := by rfl) : PS X (.Assign [.Subscript o (.Constant (.str "turn") j p) p2] e pos) (tS c W (sTurn fo fv)) :=
  go_set (fun g n => by with_unfolding_all rfl) (fun _ _ => rfl) (fun _ _ => rfl) (ps_dput (by have := hr.un; omega) ho pe_str hv hs)

/-! ### several targets: a tuple or a list is taken apart -/
def pUn (n : Nat) (q : Pts) : Pt := fun d ρ => match d with
  | .tup ds => if ds.length = n then q ds ρ else none
  | .lst ds => if ds.length = n then q ds ρ else none
  | _ => none
theorem g_un {es : List Expr} {kk n : Nat} {ps : Pts} {sl : List Nat} {b : Bool} (hK : X.K = c.K) (hc : X.calm = true) (h : PGs X es (tPs c sl ps)) (hn : (assignEach es X.env).length = n := by rfl) (hst : (assignEach es X.env).findIdx? (·.1) = none := by rfl) :
    PG X (.Tuple es kk pos) (tP c b sl (pUn n ps)) := ⟨fun pins s σ H v u Q I r q => by
  obtain ⟨P0, H0, P, ρ, g, d, ρ', ws, rr, e, q⟩ := q
  cases d with
  | tup ds =>
    obtain ⟨a, vs, rfl, hq, rs⟩ := rr.tup
    have e' : (if ds.length = n then ps ds ρ else none) = some ρ' := e
    split at e'
    · rename_i hl
      refine (pg_tup hc h hn hst).run pins s σ H _ u Q I r ?_
      rw [hK]
      exact ⟨a, vs, rfl, sqT_mono ws.sub hq, by rw [rs.length]; exact hl, P0, H0, P, ρ, g, ds, ρ', ws, rs, e', q⟩
    · cases e'
  | lst ds =>
    have rr : R c P v (.lst ds) := by
      cases b with
      | false => exact rr
      | true =>
        rcases rr with rr | ⟨_, _, _, _, z, _⟩
        · exact rr
        · cases z
    have e' : (if ds.length = n then ps ds ρ else none) = some ρ' := e
    cases rr with
    | @lst a vs _ h1 rs =>
      split at e'
      · rename_i hl
        refine (pg_lst hc h hn hst).run pins s σ H _ u Q I r ?_
        rw [hK]
        exact ⟨a, vs, rfl, SqL.of (ws.sub _ _ h1), by rw [rs.length]; exact hl, P0, H0, P, ρ, g, ds, ρ', ws, rs, e', q⟩
      · cases e'
  | _ => cases e⟩
theorem g_nil : PGs X [] (tPs c [] pNil) := v_gnil pgs_nil
theorem g_cons {e : Expr} {es : List Expr} {q : Pt} {ps : Pts} {s1 s2 : List Nat} (h1 : PG X e (tP c false s1 q)) (h2 : PGs X es (tPs c s2 ps)) (hs : (assignEach (e :: es) X.env).map (·.2) = assign e X.env :: (assignEach es X.env).map (·.2) := by rfl) : PGs X (e :: es) (tPs c (s1 ++ s2) (pCons q ps)) := v_gcons (pgs_cons h1 h2 hs)
end
end CP

/-! CPTab: what the top has written of a def, of a constant. -/
namespace CP
open PySem PySem.Spec L2
open PyProof.Rows hiding St

/-- a def of the top -/
structure Fc (K : PySem.W.Frag) (mg : Str → Option Value) (x : Str) (st : Stmt) (ps : List Str) where
  f : Addr
  fd : FuncData
  F : Fun K x x st f fd
  b : Binds K fd ps []
  m : mg x = some (.ref f)
/-- a constant of the top -/
structure Fk (mg : Str → Option Value) (x : Str) (d : D) : Prop where
  is : ∃ v u, mg x = some u ∧ RelV v u ∧ Flat v d
section
variable {X : Cx} {c : Gam} {W : WX} {pos p : Pos} {k : Nat}
theorem Fk.re {x : Str} {d : D} (h : Fk X.mg x d) (hg : Gl X x := by rfl) (hd : (x == ("__debug__" : Str)) = false := by decide) : PE X (.Name x pos) (tE c W (eC d)) := by
  obtain ⟨v, u, h1, h2, h3⟩ := h.is
  exact re_glob hg h1 h2 h3 hd
theorem Fc.q {x : Str} {st : Stmt} {ps : List Str} {n j : Nat} {F : Fn} {e : Expr} {es : List Expr} {fs : SA} (T : Fc X.K X.mg x st ps)
    (ok : FnOk X.prog X.w X.K X.mg X.base (CX X.prog X.w) j T.f T.fd ps (spF c n F)) (hr : Room k X.A) (hj : j ≤ k) (tk : Takes X W) (ha : PA X (e :: es) (tA c W fs))
    (hg : Gl X x := by rfl) (hdb : (x == ("__debug__" : Str)) = false := by decide) (he : starEach (e :: es) X.env = (false, eval e X.env) :: starEach es X.env := by rfl) (hpl : (backTo pos (starEach es X.env)).any (·.1) = false := by rfl) :
    PE X (.Call (.Name x p) (e :: es) [] pos) (tE c W (eCall n F fs)) := v_call (pe_callS ok (hr.mono hj) hg T.m T.F.kp T.b (fun σ => passAt tk σ) ha hdb he hpl)
theorem Room.u1 {A : Around} (r : Room k A) : A.units + 1 < cLine := by have := r.un; omega
theorem fk_str {mg : Str → Option Value} {x y : Str} {t : Tok} (h : mg x = some (.str y t)) (o : sOk y = true) : Fk mg x (.str y) := ⟨.str y, _, h, ⟨t, rfl⟩, rfl, o⟩
theorem fk_int {mg : Str → Option Value} {x : Str} {i : Int} {t : Tok} (h : mg x = some (.int i t)) : Fk mg x (.int i) := ⟨.int i, _, h, ⟨t, rfl⟩, rfl⟩
/-- from what the written part says -/
def fc_mk {K : PySem.W.Frag} {mg : Str → Option Value} {h : Heap} {x : Str} {st : Stmt} {ps : List Str} {f : Addr} {oc : Value} {od an : Option Addr} {osl : Array (Option Value)} {kV doc pm cdv ct : Value} (KX : K.In h) (G : h.Ns mainGlobals mg)
    (a : PySem.W.nsIn K mainGlobals x = some (some (.ref f))) (l : K.lookup f = some ⟨oc, od, .func (PySem.W.fnOf x x (defArgs st) (defBody st) (defScope st) .none kV doc pm an cdv ct), osl⟩) (c : PySem.W.codeIn K cdv x = true) (k : PySem.W.keepIn K (.ref f) = true)
    (hb : ∀ (kV doc pm : Value) (an : Option Addr) (cdv ct : Value) (us : List Value), us.length = ps.length → bindArgs (PySem.W.fnOf x x (defArgs st) (defBody st) (defScope st) .none kV doc pm an cdv ct) ⟨us, []⟩ = pure (ps.zip us)) : Fc K mg x st ps :=
  ⟨f, _, fun_mk (st := st) l c k, (fun_mk (st := st) l c k).binds hb, PySem.W.mg_of KX G a⟩
end
end CP

/-! CPLaw: the source of draws laid by _law_begun; a law from its first statement on. -/
namespace CP
open PySem PySem.Spec L2
open PyProof.Rows hiding St

def absI (i : Int) : Int := if i < 0 then -i else i
def cellsOf (ns : List Int) : List Int := ns.map absI
def largeOf (ns : List Int) : List Int := ((cellsOf ns).filter fun n => decide (10 ^ 18 ≤ n)).map fun n => n - 10 ^ 18
def begun (ns : List Int) : G := ⟨largeOf ns, cellsOf ns, 0, 0⟩
def spBegun (K : PySem.W.Frag) : Sp := fun vs H Q _ => ∃ (a : Addr) (ns : List Int), vs = [.ref a] ∧ SqL K H a (ns.map V.int) ∧ ns.length ≤ 1000 ∧
  ∀ H' sa la ca, Same H H' → H sa = none → H la = none → H ca = none → la ≠ ca →
    H' sa = some (.dK [(.inr "large", .ref la), (.inr "cells", .ref ca), (.inr "rest", .int 0), (.inr "turn", .int 0)]) → H' la = some (.lst ((largeOf ns).map V.int)) → H' ca = some (.lst ((cellsOf ns).map V.int)) → Q (.ref sa) H'
theorem upd_upd {H : Hp} {p : Addr} {x y : HO} : upd (upd H p x) p y = upd H p y := by
  funext b
  by_cases h : b = p
  · subst h; rw [upd_same, upd_same]
  · rw [upd_ne h, upd_ne h, upd_ne h]
def rGe : R2 := rI0 fun i j => .bl (decide (j ≤ i))
def rSubI : R2 := rI0 fun i j => .int (i - j)
def rPowI : R2 := rI CPow fun i j => .int (i ^ j.toNat)
def rAbsI : List V → Hp → VK → Prop := fun xs H Q => ∃ i, xs = [V.int i] ∧ Q (.int (if i < 0 then -i else i)) H
def tTen : TE := tOp rPowI (tC (.int 10)) (tC (.int 18))
def tBegun (K : PySem.W.Frag) : TS :=
  tSeq (tAsg (tLc (iList K (tVar 0)) (gName 2) tYes (tCB rAbsI (tCons (tVar 2) tNil)) [2]) (gName 1))
    (tRet (tDisp [(tC (.str "large"), tLc (iList K (tVar 1)) (gName 2) (tB (tOp rGe (tVar 2) tTen)) (tOp rSubI (tVar 2) tTen) [2]), (tC (.str "cells"), tVar 1), (tC (.str "rest"), tC (.int 0)), (tC (.str "turn"), tC (.int 0))]))
theorem take_snoc {α : Type} {l : List α} {i : Nat} {x : α} (h : l[i]? = some x) : l.take (i + 1) = l.take i ++ [x] := by
  rw [List.take_add_one, h]; rfl
theorem ite_t {A B : Prop} (h : A) : if (true = true) then A else B := by
  rw [if_pos rfl]; exact h
theorem ten_ok : CPow 10 18 := ⟨by decide, by decide, by decide⟩
theorem go_ten {σ : St} {H : Hp} {Q : VK} (h : Q (.int (10 ^ 18)) H) : tTen σ H Q := ⟨10, 18, rfl, rfl, ten_ok, h⟩
theorem pure_begun {K : PySem.W.Frag} {N : List Str} (hN : N.length = 3) (vs : List V) (H : Hp) (Q : VK) (E : XK) (h : spBegun K vs H Q E) : tBegun K { nx := fun _ H' => Q .non H', rt := Q } (start N vs) H := by
  obtain ⟨a, ns, rfl, hS, hlen, q⟩ := h
  have es : start N [V.ref a] = [some (.ref a), none, none] := by
    unfold L2.start
    rw [hN]; rfl
  rw [es]
  refine ⟨_, rfl, a, rfl, ⟨_, hS⟩, fun D hD => lc_list (K := K) (a := a) (xs := ns.map V.int) (fun i H' => H' = upd H D (.lst (((cellsOf ns).take i).map V.int))) rfl (fun i H' _ e => by rw [e]; exact (same_upd hD).seq hS) ?_ ?_⟩
  · rintro i x H' hx rfl
    rw [List.getElem?_map] at hx
    cases e : ns[i]? with
    | none => rw [e] at hx; cases hx
    | some n =>
      rw [e] at hx
      cases hx
      refine ⟨rfl, ?_⟩
      unfold tYes
      dsimp only
      rw [if_pos rfl]
      refine ⟨_, rfl, n, rfl, _, upd_same, ?_, ?_⟩
      · rw [List.length_map, List.length_take]
        exact small1000 (by unfold cellsOf; rw [List.length_map]; omega)
      · rw [upd_upd, take_snoc (l := cellsOf ns) (x := absI n) (by unfold cellsOf; rw [List.getElem?_map, e]; rfl), List.map_append]
        rfl
  · rintro H1 rfl
    rw [List.length_map, show (cellsOf ns).take ns.length = cellsOf ns from List.take_of_length_le (by unfold cellsOf; rw [List.length_map]; omega)]
    intro p hp
    have hpD : p ≠ D := fun z => by rw [z, upd_same] at hp; cases hp
    have hp0 : H p = none := by rw [upd_ne hpD] at hp; exact hp
    have sp := same_upd (o := HO.dK []) hp
    have sD := same_upd (o := HO.lst ((cellsOf ns).map V.int)) hD
    refine ⟨_, rfl, D, rfl, ⟨_, SqL.of (sp _ _ upd_same)⟩, fun D2 hD2 => lc_list (K := K) (a := D) (xs := (cellsOf ns).map V.int)
      (fun i H' => H' = upd (upd (upd H D (.lst ((cellsOf ns).map V.int))) p (.dK [])) D2 (.lst (((((cellsOf ns).take i).filter fun n => decide (10 ^ 18 ≤ n)).map fun n => n - 10 ^ 18).map V.int))) rfl (fun i H' _ e => by
        rw [e]; exact SqL.of (same_upd hD2 _ _ (sp _ _ upd_same))) ?_ ?_⟩
    · rintro i x H' hx rfl
      rw [List.getElem?_map] at hx
      cases e : (cellsOf ns)[i]? with
      | none => rw [e] at hx; cases hx
      | some n =>
        rw [e] at hx
        cases hx
        refine ⟨rfl, ?_⟩
        refine ⟨_, rfl, go_ten ⟨n, 10 ^ 18, rfl, rfl, _, rfl, ?_⟩⟩
        have et := take_snoc e
        by_cases hb : (10 : Int) ^ 18 ≤ n
        · show if decide ((10 : Int) ^ 18 ≤ n) = true then _ else _
          rw [if_pos (decide_eq_true hb)]
          refine ⟨_, rfl, go_ten ⟨n, 10 ^ 18, rfl, rfl, _, upd_same, ?_, ?_⟩⟩
          · rw [List.length_map, List.length_map]
            refine small1000 (Nat.le_trans (List.length_filter_le _ _) ?_)
            rw [List.length_take]
            unfold cellsOf
            rw [List.length_map]
            omega
          · rw [upd_upd, et, List.filter_append, List.map_append, List.map_append]
            simp only [List.filter_cons, decide_eq_true hb, if_true, List.filter_nil, List.map_cons, List.map_nil]
        · show if decide ((10 : Int) ^ 18 ≤ n) = true then _ else _
          rw [if_neg (by rw [decide_eq_false hb]; exact Bool.false_ne_true), et, List.filter_append]
          simp only [List.filter_cons, decide_eq_false hb, List.filter_nil, List.append_nil, Bool.false_eq_true, if_false]
    · rintro H1 rfl
      rw [List.length_map, List.take_length]
      have hn2 : D2 ≠ p := fun z => by rw [z, upd_same] at hD2; cases hD2
      have hn3 : D2 ≠ D := fun z => by rw [z, upd_ne (Ne.symm hpD), upd_same] at hD2; cases hD2
      refine ⟨_, rfl, ?_, [(.inr "large", .ref D2), (.inr "cells", .ref D), (.inr "rest", .int 0), (.inr "turn", .int 0)], rfl, by show 4 ≤ 15; decide, ?_⟩
      · rw [upd_ne (Ne.symm hn2), upd_same]
      · refine q _ p D2 D ?_ hp0 ?_ hD hn3 ?_ ?_ ?_
        · intro b u eb
          have h1 : b ≠ D := ne_of_none eb hD
          have h2 : b ≠ p := ne_of_none eb hp0
          have h3 : b ≠ D2 := fun z => by
            rw [z] at eb
            rw [upd_ne hn2, upd_ne hn3, eb] at hD2
            cases hD2
          rw [upd_ne h2, upd_ne h3, upd_ne h2, upd_ne h1]
          exact eb
        · rw [upd_ne hn2, upd_ne hn3] at hD2
          exact hD2
        · rw [upd_same]
          with_unfolding_all rfl
        · rw [upd_ne hn2, upd_same]; rfl
        · rw [upd_ne (Ne.symm hpD), upd_ne (Ne.symm hn3), upd_ne (Ne.symm hpD), upd_same]

/-! ### the law -/
def spLaw (K : PySem.W.Frag) : Sp := fun vs H Q _ => ∃ (a : Addr) (ns : List Int), vs = [.ref a] ∧ SqL K H a (ns.map V.int) ∧ ns.length ≤ 63 ∧ ∀ H', Q (.bl true) H'
def tLaw (K : PySem.W.Frag) (ct : Nat → Addr) (i : Nat) (W : WX) (b : SS) : TS :=
  tSeq (tAsg (tCallS (spBegun K) (WE W) (tCons (tVar 0) tNil)) (gName i)) fun D σ H => ∃ sa la ca, tS ⟨K, sa, la, ca, ct⟩ W b D σ H
theorem pss_ex {X : Cx} {ss : List Stmt} {K : PySem.W.Frag} {ct : Nat → Addr} {W : WX} {b : SS} (h : ∀ sa la ca, PSs X ss (tS ⟨K, sa, la, ca, ct⟩ W b)) : PSs X ss fun D σ H => ∃ sa la ca, tS ⟨K, sa, la, ca, ct⟩ W b D σ H :=
  ⟨fun pins s σ H D I ⟨sa, la, ca, q⟩ => (h sa la ca).run pins s σ H D I q⟩
theorem pure_law {K : PySem.W.Frag} {ct : Nat → Addr} {N : List Str} {i : Nat} {b : SS} {W : WX} (hi : 0 < i) (hN : 0 < N.length) (plain : ∀ ns : List Int, ns.length ≤ 63 → ∃ g, b ((init N.length [.scr ns]).set i (some (.sh .st))) (begun ns) = .rt (.bl true) g)
    (vs : List V) (H : Hp) (Q : VK) (E : XK) (h : spLaw K vs H Q E) : tLaw K ct i W b { nx := fun _ H' => Q .non H', rt := Q } (start N vs) H := by
  obtain ⟨a, ns, rfl, hS, hlen, q⟩ := h
  have e0 : (start N [V.ref a])[0]? = some (some (.ref a)) := by
    unfold L2.start
    cases N with
    | nil => simp at hN
    | cons x r => rfl
  refine ⟨_, e0, a, ns, rfl, hS, by omega, fun H' sa la ca sm n1 n2 n3 ne h1 h2 h3 => ⟨sa, la, ca, ?_⟩⟩
  -- the public part: the script alone
  let P : Hp := fun b => if b = a then H a else none
  have sP : Same P H' := fun b o e => by
    have e' : (if b = a then H a else none) = some o := e
    by_cases hb : b = a
    · rw [if_pos hb] at e'; rw [hb]; exact sm _ _ e'
    · rw [if_neg hb] at e'; cases e'
  have pn : ∀ b, H b = none → P b = none := fun b e => by
    show (if b = a then H a else none) = none
    by_cases hb : b = a
    · rw [if_pos hb, ← hb]; exact e
    · rw [if_neg hb]
  have sq : SqL K P a (ns.map V.int) := by
    rcases hS with (h | ⟨o, h⟩) | h
    · exact .inl (.inl (by show (if a = a then H a else none) = _; rw [if_pos rfl]; exact h))
    · exact .inl (.inr ⟨o, by show (if a = a then H a else none) = _; rw [if_pos rfl]; exact h⟩)
    · exact .inr h
  have gr : GR ⟨K, sa, la, ca, ct⟩ (begun ns) H' := ⟨h1, h2, h3, ne⟩
  have wd : Wd ⟨K, sa, la, ca, ct⟩ P (begun ns) H' := ⟨sP, gr, pn _ n1, pn _ n2, pn _ n3⟩
  have ws := ws_init (N := N) wd (RAll.one (R.scr (c := ⟨K, sa, la, ca, ct⟩) sq))
  obtain ⟨g, e⟩ := plain ns hlen
  refine ⟨P, H', P, _, begun ns, ws.set (i := i) (v := .ref sa) (d := .st) .st, ?_⟩
  rw [e]
  intro P' H'' v _ _ r
  cases r
  exact q _
theorem law_ok {Pr : Program} {w : World} {K : PySem.W.Frag} {ct : Nat → Addr} {mg : Str → Option Value} {base : Heap} {x qual p : Str} {st : Stmt} {f : Addr} {fd : FuncData} {N : List Str} {k i : Nat} {b : SS} (F : Fun K x qual st f fd) (S : FnScope N [p] (defScope st)) (hi : 0 < i) (hN : 0 < N.length)
    (plain : ∀ ns : List Int, ns.length ≤ 63 → ∃ g, b ((init N.length [.scr ns]).set i (some (.sh .st))) (begun ns) = .rt (.bl true) g)
    (hbody : ∀ (cdv : Value) (A : Around) (outer : List Env) (s : Shared) (H : Hp) (E : XK), Room k (A.deeper (envOfC qual (defScope st) s.heap.objs.size f cdv)) →
      Takes (cxOf (CX Pr w) Pr w K mg base N qual (defScope st) f cdv A outer s H E) (WO E) →
      PSs (cxOf (CX Pr w) Pr w K mg base N qual (defScope st) f cdv A outer s H E) (defBody st) (tLaw K ct i (WO E) b)) :
    FnOk Pr w K mg base (CX Pr w) (k + 1) f fd [p] (spLaw K) := by
  refine F.okX S (fun vs H Q E h => ?_) (fun cdv A outer s H vs Q E hr h => ⟨_, hbody cdv A outer s H E hr (takes_of rfl rfl rfl rfl), pure_law hi hN plain vs H Q E h⟩)
  obtain ⟨a, ns, rfl, _⟩ := h
  rfl
theorem begun_ok {Pr : Program} {w : World} {K : PySem.W.Frag} {mg : Str → Option Value} {base : Heap} {x qual p : Str} {st : Stmt} {f : Addr} {fd : FuncData} {N : List Str} {k : Nat} (F : Fun K x qual st f fd) (S : FnScope N [p] (defScope st)) (hN : N.length = 3)
    (hbody : ∀ (cdv : Value) (A : Around) (outer : List Env) (s : Shared) (H : Hp) (E : XK), Room k (A.deeper (envOfC qual (defScope st) s.heap.objs.size f cdv)) →
      PSs (cxOf (CX Pr w) Pr w K mg base N qual (defScope st) f cdv A outer s H E) (defBody st) (tBegun K)) :
    FnOk Pr w K mg base (CX Pr w) (k + 1) f fd [p] (spBegun K) := by
  refine F.okX S (fun vs H Q E h => ?_) (fun cdv A outer s H vs Q E hr h => ⟨_, hbody cdv A outer s H E hr, pure_begun hN vs H Q E h⟩)
  obtain ⟨a, ns, rfl, _⟩ := h
  rfl
end CP

/-! PLBase: plain facts, no program in sight: how the functions of data are worked out; names, plans, limits as plain lists. -/
namespace CP
open PySem L2

/-! ### working out -/
section
variable {ρ ρ1 ρ2 : Rho} {g g1 g2 g3 : G} {d d1 d2 x y z : D} {ds : List D}
theorem x_seq {f h : SS} {r : Fl} (a : f ρ g = .nx ρ1 g1) (b : h ρ1 g1 = r) : sSeq f h ρ g = r := by unfold sSeq; rw [a]; exact b
theorem x_seqR {f h : SS} (a : f ρ g = .rt d g1) : sSeq f h ρ g = .rt d g1 := by unfold sSeq; rw [a]
theorem x_asg {p : Pt} {f : SE} (a : f ρ g = .ok d g1) (b : p d ρ = some ρ1) : sAsg p f ρ g = .nx ρ1 g1 := by unfold sAsg; rw [a]; show (match p d ρ with | some ρ' => Fl.nx ρ' g1 | none => .fail) = _; rw [b]
theorem x_call {n : Nat} {F : Fn} {fs : SA} {r : Res D} (a : fs ρ g = .ok ds g1) (l : ds.length = n) (b : F ds g1 = r) : eCall n F fs ρ g = r := by
  unfold eCall; rw [a]; show (if ds.length = n then F ds g1 else .fail) = r; rw [if_pos l]; exact b
theorem x_cons {f : SE} {h : SA} (a : f ρ g = .ok d g1) (b : h ρ g1 = .ok ds g2) : aCons f h ρ g = .ok (d :: ds) g2 := by
  unfold aCons; rw [a]; show (h ρ g1).bind _ = _; rw [b]; rfl
theorem x_lst {f : SA} (a : f ρ g = .ok ds g1) (l : ds.length ≤ 1000) : eLst f ρ g = .ok (.lst ds) g1 := by
  unfold eLst; rw [a]; show (if ds.length ≤ 1000 then Res.ok (D.lst ds) g1 else .fail) = _; rw [if_pos l]
theorem x_tup {f : SA} (a : f ρ g = .ok ds g1) (l : ds.length ≤ 1000) : eTup f ρ g = .ok (.tup ds) g1 := by
  unfold eTup; rw [a]; show (if ds.length ≤ 1000 then Res.ok (D.tup ds) g1 else .fail) = _; rw [if_pos l]
theorem x_e1 {p : P1} {f : SE} (a : f ρ g = .ok x g1) (b : p x = some d) : e1 p f ρ g = .ok d g1 := by
  unfold e1; rw [a]; show ofOpt (p x) g1 = _; rw [b]; rfl
theorem x_e2 {p : P2} {f h : SE} (a : f ρ g = .ok x g1) (a2 : h ρ g1 = .ok y g2) (b : p x y = some d) : e2 p f h ρ g = .ok d g2 := by
  unfold e2; rw [a]; show (h ρ g1).bind _ = _; rw [a2]; show ofOpt (p x y) g2 = _; rw [b]; rfl
theorem x_toB {f : SE} {b : Bool} (a : f ρ g = .ok (.bl b) g1) : toB f ρ g = .ok b g1 := by unfold toB; rw [a]; rfl
theorem x_orT {t u : ST} (a : t ρ g = .ok true g1) : tOrF t u ρ g = .ok true g1 := by unfold tOrF; rw [a]; rfl
theorem x_orF {t u : ST} {r : Res Bool} (a : t ρ g = .ok false g1) (b : u ρ g1 = r) : tOrF t u ρ g = r := by unfold tOrF; rw [a]; exact b
theorem x_andF {t u : ST} (a : t ρ g = .ok false g1) : tAndF t u ρ g = .ok false g1 := by unfold tAndF; rw [a]; rfl
theorem x_andT {t u : ST} {r : Res Bool} (a : t ρ g = .ok true g1) (b : u ρ g1 = r) : tAndF t u ρ g = r := by unfold tAndF; rw [a]; exact b
theorem x_or {t u : ST} {a b : Bool} (h1 : t ρ g = .ok a g) (h2 : u ρ g = .ok b g) : tOrF t u ρ g = .ok (a || b) g := by
  cases a
  · exact x_orF h1 h2
  · exact x_orT h1
theorem x_and {t u : ST} {a b : Bool} (h1 : t ρ g = .ok a g) (h2 : u ρ g = .ok b g) : tAndF t u ρ g = .ok (a && b) g := by
  cases a
  · exact x_andF h1
  · exact x_andT h1 h2
theorem x_not {t : ST} {b : Bool} (a : t ρ g = .ok b g1) : tNotF t ρ g = .ok (!b) g1 := by unfold tNotF; rw [a]; rfl
theorem x_ifT {t : ST} {f h : SS} {r : Fl} (a : t ρ g = .ok true g1) (b : f ρ g1 = r) : sIf t f h ρ g = r := by unfold sIf; rw [a]; exact b
theorem x_ifF {t : ST} {f h : SS} {r : Fl} (a : t ρ g = .ok false g1) (b : h ρ g1 = r) : sIf t f h ρ g = r := by unfold sIf; rw [a]; exact b
theorem x_eAnd {f h : SE} {a b : Bool} (h1 : f ρ g = .ok (.bl a) g) (h2 : a = true → h ρ g = .ok (.bl b) g) : eAnd f h ρ g = .ok (.bl (a && b)) g := by
  unfold eAnd; rw [h1]
  cases a
  · rfl
  · exact h2 rfl
theorem x_eOr {f h : SE} {a b : Bool} (h1 : f ρ g = .ok (.bl a) g) (h2 : a = false → h ρ g = .ok (.bl b) g) : eOr f h ρ g = .ok (.bl (a || b)) g := by
  unfold eOr; rw [h1]
  cases a
  · exact h2 rfl
  · rfl
theorem x_eNot {f : SE} {b : Bool} (a : f ρ g = .ok (.bl b) g1) : eNot f ρ g = .ok (.bl (!b)) g1 := by unfold eNot; rw [a]; rfl
theorem x_eIfT {t : ST} {f h : SE} {r : Res D} (a : t ρ g = .ok true g1) (b : f ρ g1 = r) : eIf t f h ρ g = r := by unfold eIf; rw [a]; exact b
theorem x_eIfF {t : ST} {f h : SE} {r : Res D} (a : t ρ g = .ok false g1) (b : h ρ g1 = r) : eIf t f h ρ g = r := by unfold eIf; rw [a]; exact b
theorem x_ret {f : SE} (a : f ρ g = .ok d g1) : sRet f ρ g = .rt d g1 := by unfold sRet; rw [a]; rfl
theorem x_expr {f : SE} (a : f ρ g = .ok d g1) : sExpr f ρ g = .nx ρ g1 := by unfold sExpr; rw [a]; rfl
theorem x_run {n : Nat} {b : SS} (a : b (init n ds) g = .rt d g1) : runB n b ds g = .ok d g1 := by unfold runB; rw [a]
theorem x_runN {n : Nat} {b : SS} (a : b (init n ds) g = .nx ρ1 g1) : runB n b ds g = .ok .non g1 := by unfold runB; rw [a]
theorem x_fLst {f : SA} (a : f ρ g = .ok ds g1) : fLst f ρ g = .ok (.lst ds) g1 := by unfold fLst; rw [a]; rfl
theorem x_eLc {i : SA} {p : Pt} {t : ST} {f : SE} {vs : List Nat} {ys : List D} (a : i ρ g = .ok ds g1) (b : lcL p t f (wipeR ρ vs) ds g1 = .ok ys g2) (l : ys.length ≤ 100000) : eLc i p t f vs ρ g = .ok ys g2 := by
  unfold eLc; rw [a]; show ((lcL p t f (wipeR ρ vs) ds g1).noex).bind _ = _; rw [b]; show (if ys.length ≤ 100000 then Res.ok ys g2 else .fail) = _; rw [if_pos l]
theorem x_seqI {f : SE} (a : f ρ g = .ok d g1) (b : items d = some ds) : iSeq f ρ g = .ok ds g1 := by unfold iSeq; rw [a]; show ofOpt (items d) g1 = _; rw [b]; rfl
theorem x_for {i : SA} {p : Pt} {b : SS} {r : Fl} (a : i ρ g = .ok ds g1) (h : forL p b ds ρ g1 = r) : sFor i p b ρ g = r := by unfold sFor; rw [a]; exact h
theorem x_own {i : Nat} {f : SF} {s : Sl} (a : f ρ g = .ok s g1) : sOwn i f ρ g = .nx (ρ.set i (some s)) g1 := by unfold sOwn; rw [a]; rfl
theorem x_par {is : List Nat} {f : SFs} {ss : List Sl} (a : f ρ g = .ok ss g1) (l : ss.length = is.length) : sPar is f ρ g = .nx (setR ρ is ss) g1 := by
  unfold sPar; rw [a]; show (if ss.length = is.length then Fl.nx (setR ρ is ss) g1 else .fail) = _; rw [if_pos l]
theorem x_fSh {f : SE} {h : SFs} {ss : List Sl} (a : f ρ g = .ok d g1) (b : h ρ g1 = .ok ss g2) : fSh f h ρ g = .ok (.sh d :: ss) g2 := by unfold fSh; rw [a]; show (h ρ g1).bind _ = _; rw [b]; rfl
theorem x_fOwn {f : SF} {h : SFs} {ss : List Sl} {s : Sl} (a : f ρ g = .ok s g1) (b : h ρ g1 = .ok ss g2) : fOwn f h ρ g = .ok (s :: ss) g2 := by unfold fOwn; rw [a]; show (h ρ g1).bind _ = _; rw [b]; rfl
theorem x_app {i : Nat} {f : SE} {xs : List D} (e : ρ[i]? = some (some (.ow xs))) (a : f ρ g = .ok d g1) (l : xs.length ≤ 100000) : sApp i f ρ g = .nx (ρ.set i (some (.ow (xs ++ [d])))) g1 := by
  unfold sApp; rw [e]; show toFl ρ (f ρ g) _ = _; rw [a]; show (if xs.length ≤ 100000 then Fl.nx (ρ.set i (some (.ow (xs ++ [d])))) g1 else .fail) = _; rw [if_pos l]
/-- a comprehension whose items do not draw -/
theorem lc_map {α : Type} {p : Pt} {f : SE} (e h : α → D) : ∀ (xs : List α), (∀ x ∈ xs, ∃ ρ1, p (e x) ρ = some ρ1 ∧ f ρ1 g = .ok (h x) g) → lcL p tYesF f ρ (xs.map e) g = .ok (xs.map h) g
  | [], _ => rfl
  | x :: xs, H => by
    obtain ⟨ρ1, h1, h2⟩ := H x List.mem_cons_self
    have ih := lc_map e h xs fun y hy => H y (List.mem_cons_of_mem _ hy)
    rw [List.map_cons]
    unfold lcL
    rw [h1]
    show ((f ρ1 g).noex).bind _ = _
    rw [h2]
    show (lcL p tYesF f ρ (xs.map e) g).bind _ = _
    rw [ih]
    rfl
theorem lc_filter {α : Type} {p : Pt} {t : ST} {f : SE} (e h : α → D) (q : α → Bool) : ∀ (xs : List α), (∀ x ∈ xs, ∃ ρ1, p (e x) ρ = some ρ1 ∧ t ρ1 g = .ok (q x) g ∧ f ρ1 g = .ok (h x) g) → lcL p t f ρ (xs.map e) g = .ok ((xs.filter q).map h) g
  | [], _ => rfl
  | x :: xs, H => by
    obtain ⟨ρ1, h1, h2, h3⟩ := H x List.mem_cons_self
    have ih := lc_filter e h q xs fun y hy => H y (List.mem_cons_of_mem _ hy)
    rw [List.map_cons]
    unfold lcL
    rw [h1]
    show ((t ρ1 g).noex).bind _ = _
    rw [h2]
    cases hq : q x with
    | true =>
      rw [List.filter_cons_of_pos hq]
      show ((f ρ1 g).noex).bind _ = _
      rw [h3]
      show (lcL p t f ρ (xs.map e) g).bind _ = _
      rw [ih]
      rfl
    | false =>
      rw [List.filter_cons_of_neg (by rw [hq]; exact Bool.false_ne_true)]
      exact ih
theorem pAll_true {α : Type} (xs : List α) : pAll (.lst (xs.map fun _ => D.bl true)) = some (.bl true) := by
  have : boolsOf (xs.map fun _ => D.bl true) = some (xs.map fun _ => true) := by
    induction xs with
    | nil => rfl
    | cons x xs ih => rw [List.map_cons, boolsOf, ih]; rfl
  show (boolsOf (xs.map fun _ => D.bl true)).map _ = _
  rw [this]
  simp
theorem bools_map {α : Type} (q : α → Bool) (xs : List α) : boolsOf (xs.map fun x => D.bl (q x)) = some (xs.map q) := by
  induction xs with
  | nil => rfl
  | cons x xs ih => rw [List.map_cons, boolsOf, ih]; rfl
theorem pAll_map {α : Type} (q : α → Bool) (xs : List α) : pAll (.lst (xs.map fun x => D.bl (q x))) = some (.bl (xs.all q)) := by
  show (boolsOf (xs.map fun x => D.bl (q x))).map _ = _
  rw [bools_map]
  simp [List.all_map]
theorem pAny_map {α : Type} (q : α → Bool) (xs : List α) : pAny (.lst (xs.map fun x => D.bl (q x))) = some (.bl (xs.any q)) := by
  show (boolsOf (xs.map fun x => D.bl (q x))).map _ = _
  rw [bools_map]
  simp [List.any_map]
end

/-! ### names -/
def abc : Str := "abcdefghijklmnopqrstuvwxyz"
def tx (x : Str) : List Nat := x.cps.toList
def lt (x y : Str) : Prop := tx x < tx y
instance (x y : Str) : Decidable (lt x y) := inferInstanceAs (Decidable (tx x < tx y))
theorem tx_inj {x y : Str} (h : tx x = tx y) : x = y := by
  cases x; cases y
  congr
  exact Array.toList_inj.mp h
theorem lt_irr (x : Str) : ¬ lt x x := List.lt_irrefl (tx x)
theorem lt_tr {x y z : Str} (h : lt x y) (h2 : lt y z) : lt x z := List.lt_trans h h2
theorem lt_tri (x y : Str) : lt x y ∨ x = y ∨ lt y x := by
  rcases Std.lt_trichotomy (tx x) (tx y) with h | h | h
  · exact .inl h
  · exact .inr (.inl (tx_inj h))
  · exact .inr (.inr h)
theorem lt_ne {x y : Str} (h : lt x y) : x ≠ y := fun e => lt_irr y (e ▸ h)
theorem lt_asy {x y : Str} (h : lt x y) : ¬ lt y x := fun h2 => lt_irr x (lt_tr h h2)
/-- a name: one to six small letters -/
structure Nm (x : Str) : Prop where
  pos : 1 ≤ x.cps.size
  six : x.cps.size ≤ 6
  let_ : ∀ n ∈ tx x, n ∈ tx abc
theorem abc_ok : ∀ n ∈ tx abc, n < 1114112 ∧ ¬ (55296 ≤ n ∧ n ≤ 57343) := by decide +kernel
theorem Nm.sOk {x : Str} (h : Nm x) : sOk x = true := by
  unfold CP.sOk PySem.PyData.strOk
  rw [Bool.and_eq_true]
  refine ⟨?_, decide_eq_true (by have := h.six; omega)⟩
  rw [Array.all_eq_true_iff_forall_mem]
  intro n hn
  have := abc_ok n (h.let_ n (by unfold tx; simpa using hn))
  first
    | simpa using this.1
    | (simp; omega)

/-! ### lists of pairs whose first items stand in order -/
section
variable {α : Type}
def Srt (L : List (Str × α)) : Prop := L.Pairwise fun x y => lt x.1 y.1
def look (L : List (Str × α)) (k : Str) : Option α := (L.find? fun x => decide (x.1 = k)).map (·.2)
theorem look_cons {x : Str × α} {L : List (Str × α)} {k : Str} : look (x :: L) k = if x.1 = k then some x.2 else look L k := by
  unfold look
  rw [List.find?_cons]
  by_cases h : x.1 = k
  · simp [h]
  · simp [h]
theorem look_none {L : List (Str × α)} {k : Str} (h : ∀ x ∈ L, x.1 ≠ k) : look L k = none := by
  unfold look
  rw [List.find?_eq_none.mpr fun x hx => by simpa using h x hx]
  rfl
theorem look_mem {L : List (Str × α)} {k : Str} {m : α} (h : look L k = some m) : (k, m) ∈ L := by
  induction L with
  | nil => simp [look] at h
  | cons x L ih =>
    rw [look_cons] at h
    by_cases hk : x.1 = k
    · rw [if_pos hk] at h
      cases h
      rw [← hk]
      exact List.mem_cons_self
    · rw [if_neg hk] at h
      exact List.mem_cons_of_mem _ (ih h)
theorem look_isSome {L : List (Str × α)} {k : Str} : (look L k).isSome = true ↔ ∃ x ∈ L, x.1 = k := by
  induction L with
  | nil => simp [look]
  | cons x L ih =>
    rw [look_cons]
    by_cases hk : x.1 = k
    · simp [hk]
    · simp [hk, ih]
theorem Srt.tail {x : Str × α} {L : List (Str × α)} (h : Srt (x :: L)) : Srt L := (List.pairwise_cons.mp h).2
theorem Srt.head {x : Str × α} {L : List (Str × α)} (h : Srt (x :: L)) : ∀ y ∈ L, lt x.1 y.1 := (List.pairwise_cons.mp h).1
theorem Srt.mem_look {L : List (Str × α)} (h : Srt L) {k : Str} {m : α} (hm : (k, m) ∈ L) : look L k = some m := by
  induction L with
  | nil => cases hm
  | cons x L ih =>
    rw [look_cons]
    rcases List.mem_cons.mp hm with rfl | hm
    · rw [if_pos rfl]
    · rw [if_neg (lt_ne (h.head _ hm)), ih h.tail hm]
theorem srt_ext : ∀ {A B : List (Str × α)}, Srt A → Srt B → (∀ k, look A k = look B k) → A = B
  | [], [], _, _, _ => rfl
  | [], b :: B, _, _, h => by have := h b.1; rw [look_cons, if_pos rfl] at this; simp [look] at this
  | a :: A, [], _, _, h => by have := h a.1; rw [look_cons, if_pos rfl] at this; simp [look] at this
  | a :: A, b :: B, ha, hb, h => by
    have key : ∀ {a b : Str × α} {A B : List (Str × α)}, Srt (a :: A) → Srt (b :: B) → (∀ k, look (a :: A) k = look (b :: B) k) → ¬ lt a.1 b.1 := fun {a b A B} ha hb h l => by
      have e := h a.1
      rw [look_cons, if_pos rfl, look_cons, if_neg (fun z => lt_ne l z.symm), look_none (fun y hy z => lt_irr a.1 (by have := hb.head y hy; rw [z] at this; exact absurd (lt_tr l this) (lt_irr _)))] at e
      cases e
    have e1 : a.1 = b.1 := by
      rcases lt_tri a.1 b.1 with l | l | l
      · exact absurd l (key ha hb h)
      · exact l
      · exact absurd l (key hb ha fun k => (h k).symm)
    have e2 : a.2 = b.2 := by
      have e := h a.1
      rw [look_cons, if_pos rfl, look_cons, if_pos e1.symm] at e
      exact Option.some.inj e
    have e3 : A = B := srt_ext ha.tail hb.tail fun k => by
      by_cases hk : a.1 = k
      · rw [look_none fun x hx => fun z => lt_ne (ha.head x hx) (hk.trans z.symm), look_none fun x hx => fun z => lt_ne (hb.head x hx) (e1.symm.trans (hk.trans z.symm))]
      · have e := h k
        rw [look_cons, if_neg hk, look_cons, if_neg (fun z => hk (e1.trans z))] at e
        exact e
    rw [e3, show a = b from Prod.ext e1 e2]
theorem look_map {β : Type} (f : α → β) (L : List (Str × α)) (k : Str) : look (L.map fun x => (x.1, f x.2)) k = (look L k).map f := by
  induction L with
  | nil => rfl
  | cons x L ih =>
    rw [List.map_cons, look_cons, look_cons, ih]
    by_cases h : x.1 = k
    · rw [if_pos h, if_pos h]; rfl
    · rw [if_neg h, if_neg h]
theorem Srt.map {β : Type} {L : List (Str × α)} (f : α → β) (h : Srt L) : Srt (L.map fun x => (x.1, f x.2)) := by
  unfold Srt
  rw [List.pairwise_map]
  exact h
end
end CP

/-! PLPlan: plans and limits as data; ==, sorted, dicts upon them. -/
namespace CP
open PySem L2

abbrev Lm := List (Str × Option Int)
abbrev Pn := List (Str × Int)
def dE : Option Int → D
  | none => .non
  | some i => .int i
def dP (x : Str × Option Int) : D := .tup [.str x.1, dE x.2]
def dL (L : Lm) : D := .tup (L.map dP)
def up (p : Pn) : Lm := p.map fun x => (x.1, some x.2)
def dPl (p : Pn) : D := dL (up p)
theorem dE_inj {a b : Option Int} (h : dE a = dE b) : a = b := by
  cases a <;> cases b <;> simp_all [dE]
theorem up_inj {p q : Pn} (h : up p = up q) : p = q := by
  unfold up at h
  exact List.map_inj_right (fun x y e => by cases x; cases y; simp_all) |>.mp h
theorem up_look (p : Pn) (k : Str) : look (up p) k = (look p k).map some := look_map some p k
theorem Srt.up {p : Pn} (h : Srt p) : Srt (up p) := Srt.map some h

/-! ### == -/
theorem eqv_dE (a b : Option Int) : PyData.eqv (toPy (dE a)) (toPy (dE b)) = decide (a = b) := by
  cases a <;> cases b <;> simp [dE, toPy, PyData.eqv, Bool.beq_eq_decide_eq]
theorem eqv_dP (a b : Str × Option Int) : PyData.eqv (toPy (dP a)) (toPy (dP b)) = decide (a = b) := by
  obtain ⟨k, m⟩ := a
  obtain ⟨k', m'⟩ := b
  simp only [dP, toPy, toPys, PyData.eqv, PyData.eqvAll, eqv_dE, Bool.and_true]
  by_cases h : k = k'
  · by_cases h2 : m = m'
    · simp [h, h2]
    · simp [h, h2]
  · simp [h]
theorem eqvAll_dP : ∀ a b : Lm, PyData.eqvAll (toPys (a.map dP)) (toPys (b.map dP)) = decide (a = b)
  | [], [] => by simp [toPys, PyData.eqvAll]
  | [], _ :: _ => by simp [toPys, PyData.eqvAll]
  | _ :: _, [] => by simp [toPys, PyData.eqvAll]
  | x :: a, y :: b => by
    rw [List.map_cons, List.map_cons, toPys, toPys, PyData.eqvAll, eqv_dP, eqvAll_dP a b]
    by_cases h : x = y
    · by_cases h2 : a = b
      · simp [h, h2]
      · simp [h, h2]
    · simp [h]
theorem eqDD_dL (a b : Lm) : eqDD (dL a) (dL b) = decide (a = b) := by
  unfold eqDD dL
  rw [toPy, toPy, PyData.eqv, eqvAll_dP]
theorem okD_dE (n : Nat) (a : Option Int) : okD n (dE a) = true := by cases a <;> cases n <;> rfl
theorem okD_dP (n : Nat) (a : Str × Option Int) : okD (n + 1) (dP a) = true := by
  show List.all [D.str a.1, dE a.2] (okD n) = true
  simp only [List.all_cons, List.all_nil, okD_dE, Bool.and_true]
  cases n <;> rfl
theorem okD_dL (n : Nat) (a : Lm) : okD (n + 2) (dL a) = true := by
  show (a.map dP).all (okD (n + 1)) = true
  rw [List.all_map, List.all_eq_true]
  exact fun x _ => okD_dP n x
theorem pEq_dL (a b : Lm) : pEq (dL a) (dL b) = some (.bl (decide (a = b))) := by
  unfold pEq
  rw [okD_dL 58 a, okD_dL 58 b, eqDD_dL]
  rfl
theorem pNe_dL (a b : Lm) : pNe (dL a) (dL b) = some (.bl (!decide (a = b))) := by
  unfold pNe
  rw [okD_dL 58 a, okD_dL 58 b, eqDD_dL]
  rfl
theorem pEq_bl (a b : Bool) : pEq (.bl a) (.bl b) = some (.bl (a == b)) := by
  cases a <;> cases b <;> rfl
theorem pNe_bl (a b : Bool) : pNe (.bl a) (.bl b) = some (.bl (!(a == b))) := by
  cases a <;> cases b <;> rfl

/-! ### sorted -/
theorem le_key {a b : D} {ka kb : Str} {ta tb : List (Int ⊕ List Nat)} {p : List (Int ⊕ List Nat)} (h1 : PySem.W.keyToks (toPy a) = p ++ .inr (tx ka) :: ta) (h2 : PySem.W.keyToks (toPy b) = p ++ .inr (tx kb) :: tb) (l : leD a b = true) (ne : ka ≠ kb) : lt ka kb := by
  have e : leD a b = !PyProof.Rows.lexLt PyProof.Rows.itemOrd (PySem.W.keyToks (toPy b)) (PySem.W.keyToks (toPy a)) := rfl
  rw [e, h1, h2, PySem.W.lex_pre, PySem.W.lex_atom (fun z => ne (tx_inj (Sum.inr.inj z).symm))] at l
  rcases lt_tri ka kb with h | h | h
  · exact h
  · exact absurd h ne
  · have : PyProof.Rows.lexLt PyProof.Rows.itemOrd [.inr (tx kb)] [.inr (tx ka)] = true := by
      show (decide (tx kb < tx ka) || _) = true
      rw [decide_eq_true (show tx kb < tx ka from h)]
      rfl
    rw [this] at l
    cases l
theorem leD_total : PySem.W.TotalLe leD := by
  unfold leD PySem.W.dataLe
  exact PySem.W.sortLe_total _ _ _
/-- what is told apart by its name is sorted by its name -/
theorem sort_by {α : Type} (key : α → Str) (e : α → D) (p : List (Int ⊕ List Nat)) (ta : α → List (Int ⊕ List Nat)) (hk : ∀ x, PySem.W.keyToks (toPy (e x)) = p ++ .inr (tx (key x)) :: ta x) (xs : List α) (nd : (xs.map key).Nodup) :
    ∃ ys : List α, (xs.map e).mergeSort leD = ys.map e ∧ ys.Perm xs ∧ ys.Pairwise fun a b => lt (key a) (key b) := by
  refine ⟨xs.mergeSort fun a b => leD (e a) (e b), (PySem.W.sort_maps (s := leD) e fun a _ b _ => rfl).symm, List.mergeSort_perm _ _, ?_⟩
  have s := List.pairwise_mergeSort (le := fun a b => leD (e a) (e b)) (fun a b c h1 h2 => leD_total.trans _ _ _ h1 h2) (fun a b => by
    rcases leD_total.total (e a) (e b) with h | h
    · simp [h]
    · simp [h]) xs
  have nd2 : ((xs.mergeSort fun a b => leD (e a) (e b)).map key).Nodup := ((List.mergeSort_perm xs _).map key).nodup_iff.mpr nd
  have nd3 := List.pairwise_map.mp nd2
  exact (s.and nd3).imp fun {a b} h => le_key (hk a) (hk b) h.1 h.2
theorem keyToks_dP (x : Str × Int) : PySem.W.keyToks (toPy (dP (x.1, some x.2))) = [.inl 1] ++ .inr (tx x.1) :: [.inl 1, .inl x.2, .inl 0] := by
  simp [dP, dE, toPy, toPys, PySem.W.keyToks, PySem.W.keyToksAll, tx]
theorem alike_dP (x y : Str × Int) : PySem.W.alike (toPy (dP (x.1, some x.2))) (toPy (dP (y.1, some y.2))) = true := by
  simp [dP, dE, toPy, toPys, PySem.W.alike, PySem.W.alikeAll]
/-- sorted(found.items()) -/
theorem sortIt (M : Pn) (nd : (M.map Prod.fst).Nodup) : ∃ J : Pn, pSortedItems (.dic (M.map fun x => (.inr x.1, .int x.2))) = some (.lst ((up J).map dP)) ∧ J.Perm M ∧ Srt J := by
  obtain ⟨J, h1, h2, h3⟩ := sort_by Prod.fst (fun x : Str × Int => dP (x.1, some x.2)) [.inl 1] (fun x => [.inl 1, .inl x.2, .inl 0]) keyToks_dP M nd
  refine ⟨J, ?_, h2, h3⟩
  have e1 : itemsD (M.map fun x => ((.inr x.1 : Key), D.int x.2)) = M.map fun x => dP (x.1, some x.2) := by
    unfold itemsD
    rw [List.map_map]
    rfl
  show sortD (itemsD _) = _
  rw [e1]
  unfold sortD
  rw [if_pos, h1]
  · unfold up
    rw [List.map_map]
    rfl
  · refine ⟨?_, ?_, .inl ?_⟩
    · rw [List.all_map, List.all_eq_true]
      exact fun x _ => okD_dP 49 _
    · unfold alikeD
      rw [List.all_map, List.all_eq_true]
      intro x _
      show List.all (M.map fun x => dP (x.1, some x.2)) _ = true
      rw [List.all_map, List.all_eq_true]
      exact fun y _ => alike_dP x y
    · rw [List.all_map, List.all_eq_true]
      exact fun x _ => rfl
theorem sortNames (xs : List Str) (nd : xs.Nodup) : ∃ ys : List Str, pSorted (.lst (xs.map D.str)) = some (.lst (ys.map D.str)) ∧ ys.Perm xs ∧ ys.Pairwise lt := by
  obtain ⟨J, h1, h2, h3⟩ := sort_by id D.str [] (fun _ => []) (fun x => by simp [toPy, PySem.W.keyToks, tx]) xs (by simpa using nd)
  refine ⟨J, ?_, h2, h3⟩
  show sortD _ = _
  unfold sortD
  rw [if_pos, h1]
  refine ⟨?_, ?_, .inr ?_⟩
  · rw [List.all_map, List.all_eq_true]
    exact fun x _ => rfl
  · unfold alikeD
    rw [List.all_map, List.all_eq_true]
    intro x _
    show List.all (xs.map D.str) _ = true
    rw [List.all_map, List.all_eq_true]
    exact fun y _ => by show PySem.W.alike (toPy (.str x)) (toPy (.str y)) = true; simp [toPy, PySem.W.alike]
  · rw [List.all_map, List.all_eq_true]
    exact fun x _ => rfl
end CP

/-! PLMom: joins, delays, limits: plain laws. -/
namespace CP
open PySem L2

/-! ### the greater of two moments, where either may lack -/
def mx (i j : Int) : Int := if j > i then j else i
def mxO : Option Int → Option Int → Option Int
  | none, b => b
  | some a, none => some a
  | some a, some b => some (mx a b)
theorem mx_comm (a b : Int) : mx a b = mx b a := by unfold mx; split <;> split <;> omega
theorem mx_assoc (a b c : Int) : mx (mx a b) c = mx a (mx b c) := by unfold mx; (repeat' split) <;> omega
theorem mx_self (a : Int) : mx a a = a := by unfold mx; split <;> omega
theorem mx_add (a b n : Int) : mx (a + n) (b + n) = mx a b + n := by unfold mx; (repeat' split) <;> omega
theorem mxO_none (a : Option Int) : mxO a none = a := by cases a <;> rfl
theorem mxO_comm (a b : Option Int) : mxO a b = mxO b a := by cases a <;> cases b <;> simp [mxO, mx_comm]
theorem mxO_assoc (a b c : Option Int) : mxO (mxO a b) c = mxO a (mxO b c) := by cases a <;> cases b <;> cases c <;> simp [mxO, mx_assoc]
theorem mxO_self (a : Option Int) : mxO a a = a := by cases a <;> simp [mxO, mx_self]
theorem mxO_add (a b : Option Int) (n : Int) : mxO (a.map (· + n)) (b.map (· + n)) = (mxO a b).map (· + n) := by cases a <;> cases b <;> simp [mxO, mx_add]

/-! ### dicts of moments -/
def dK (M : Pn) : List (Key × D) := M.map fun x => (.inr x.1, .int x.2)
def ins (M : Pn) (k : Str) (v : Int) : Pn := if M.any (fun x => decide (x.1 = k)) = true then M.map fun x => if x.1 = k then (x.1, v) else x else M ++ [(k, v)]
theorem hasD_dK (M : Pn) (k : Str) : hasD (dK M) (.inr k) = M.any fun x => decide (x.1 = k) := by
  unfold hasD dK
  rw [List.any_map]
  congr
  funext x
  show decide ((Sum.inr x.1 : Key) = .inr k) = decide (x.1 = k)
  by_cases h : x.1 = k
  · simp [h]
  · simp [h]
theorem putD_dK (M : Pn) (k : Str) (v : Int) : putD (dK M) (.inr k) (.int v) = dK (ins M k v) := by
  unfold putD ins
  rw [hasD_dK]
  by_cases h : M.any (fun x => decide (x.1 = k)) = true
  · rw [if_pos h, if_pos h]
    unfold dK
    rw [List.map_map, List.map_map]
    apply List.map_congr_left
    intro x _
    show (if (Sum.inr x.1 : Key) = .inr k then _ else _) = _
    by_cases hk : x.1 = k
    · simp [hk]
    · simp [hk]
  · rw [if_neg h, if_neg h]
    unfold dK
    rw [List.map_append]
    rfl
theorem valD_map {α : Type} (f : α → D) (M : List (Str × α)) (k : Str) : valD (M.map fun x => ((.inr x.1 : Key), f x.2)) (.inr k) = (look M k).map f := by
  induction M with
  | nil => rfl
  | cons x M ih =>
    rw [look_cons]
    unfold valD at *
    rw [List.map_cons, List.find?_cons]
    by_cases h : x.1 = k
    · simp [h]
    · have : decide ((Sum.inr x.1 : Key) = .inr k) = false := by simp [h]
      simp only [this, if_neg h]
      exact ih
theorem look_ins (M : Pn) (k : Str) (v : Int) (k' : Str) : look (ins M k v) k' = if k = k' then some v else look M k' := by
  unfold ins
  by_cases h : M.any (fun x => decide (x.1 = k)) = true
  · rw [if_pos h]
    have hs : (look M k).isSome = true := look_isSome.mpr (by simpa using h)
    clear h
    induction M with
    | nil => simp [look] at hs
    | cons x M ih =>
      rw [List.map_cons, look_cons, look_cons]
      by_cases hk : x.1 = k
      · rw [if_pos hk]
        by_cases h2 : k = k'
        · simp [hk, h2]
        · rw [if_neg (fun z => h2 (hk.symm.trans z)), if_neg h2, if_neg (fun z => h2 (hk.symm.trans z))]
          -- the rest may hold k no more, but its lookup at k' is the same
          have : ∀ M : Pn, look (M.map fun x => if x.1 = k then (x.1, v) else x) k' = look M k' := fun M => by
            induction M with
            | nil => rfl
            | cons y M ih2 =>
              rw [List.map_cons, look_cons, look_cons, ih2]
              by_cases hy : y.1 = k
              · rw [if_pos hy, if_neg (fun z => h2 (hy.symm.trans z)), if_neg (fun z => h2 (hy.symm.trans z))]
              · rw [if_neg hy]
          exact this M
      · rw [if_neg hk]
        rw [look_cons, if_neg hk] at hs
        rw [ih hs]
        by_cases h2 : x.1 = k'
        · rw [if_pos h2, if_pos h2, if_neg (fun z => hk (h2.trans z.symm))]
        · rw [if_neg h2, if_neg h2]
  · rw [if_neg h]
    have hn : look M k = none := by
      cases e : look M k with
      | none => rfl
      | some m =>
        exact absurd (by simpa using look_isSome.mp (show (look M k).isSome = true by rw [e]; rfl)) h
    clear h
    induction M with
    | nil => rw [List.nil_append, look_cons]
    | cons x M ih =>
      rw [look_cons] at hn
      by_cases hk : x.1 = k
      · rw [if_pos hk] at hn; cases hn
      · rw [if_neg hk] at hn
        rw [List.cons_append, look_cons, look_cons, ih hn]
        by_cases h2 : x.1 = k'
        · rw [if_pos h2, if_pos h2, if_neg (fun z => hk (h2.trans z.symm))]
        · rw [if_neg h2, if_neg h2]
theorem keys_ins (M : Pn) (k : Str) (v : Int) : (ins M k v).map Prod.fst = if M.any (fun x => decide (x.1 = k)) = true then M.map Prod.fst else M.map Prod.fst ++ [k] := by
  unfold ins
  by_cases h : M.any (fun x => decide (x.1 = k)) = true
  · rw [if_pos h, if_pos h, List.map_map]
    apply List.map_congr_left
    intro x _
    show (if x.1 = k then (x.1, v) else x).1 = x.1
    split <;> rfl
  · rw [if_neg h, if_neg h, List.map_append]
    rfl
theorem nd_ins {M : Pn} (h : (M.map Prod.fst).Nodup) (k : Str) (v : Int) : ((ins M k v).map Prod.fst).Nodup := by
  rw [keys_ins]
  split
  · exact h
  · rename_i hn
    rw [List.nodup_append]
    refine ⟨h, by simp, fun a ha b hb e => hn ?_⟩
    rw [List.mem_singleton] at hb
    subst hb
    subst e
    obtain ⟨x, hx, rfl⟩ := List.mem_map.mp ha
    rw [List.any_eq_true]
    exact ⟨x, hx, by simp⟩
theorem len_ins (M : Pn) (k : Str) (v : Int) : (ins M k v).length ≤ M.length + 1 := by
  unfold ins
  split
  · rw [List.length_map]; omega
  · rw [List.length_append]; simp
/-- one pair taken in -/
def stepM (M : Pn) (x : Str × Int) : Pn := ins M x.1 (mx ((look M x.1).getD x.2) x.2)
theorem look_step (M : Pn) (x : Str × Int) (k : Str) : look (stepM M x) k = if x.1 = k then mxO (look M k) (some x.2) else look M k := by
  unfold stepM
  rw [look_ins]
  by_cases h : x.1 = k
  · rw [if_pos h, if_pos h, ← h]
    cases e : look M x.1 with
    | none => show some (mx x.2 x.2) = some x.2; rw [mx_self]
    | some m => rfl
  · rw [if_neg h, if_neg h]
theorem look_plan : ∀ (p : Pn) (M : Pn) (k : Str), Srt p → look (p.foldl stepM M) k = mxO (look M k) (look p k)
  | [], M, k, _ => by rw [show look ([] : Pn) k = none from rfl, mxO_none]; rfl
  | x :: p, M, k, h => by
    rw [List.foldl_cons, look_plan p _ k h.tail, look_step, look_cons]
    by_cases hk : x.1 = k
    · rw [if_pos hk, if_pos hk, look_none fun y hy z => lt_ne (h.head y hy) (hk.trans z.symm), mxO_none]
    · rw [if_neg hk, if_neg hk]
def foldM (ps : List Pn) : Pn := ps.foldl (fun M p => p.foldl stepM M) []
def jlook (ps : List Pn) (k : Str) : Option Int := ps.foldl (fun a p => mxO a (look p k)) none
theorem look_foldM (ps : List Pn) (h : ∀ p ∈ ps, Srt p) (k : Str) : look (foldM ps) k = jlook ps k := by
  have key : ∀ (ps : List Pn) (M : Pn) (a : Option Int), (∀ p ∈ ps, Srt p) → look M k = a → look (ps.foldl (fun M p => p.foldl stepM M) M) k = ps.foldl (fun a p => mxO a (look p k)) a := fun ps => by
    induction ps with
    | nil => intro M a _ e; exact e
    | cons p ps ih =>
      intro M a h e
      rw [List.foldl_cons, List.foldl_cons]
      exact ih _ _ (fun q hq => h q (List.mem_cons_of_mem _ hq)) (by rw [look_plan p M k (h p List.mem_cons_self), e])
  exact key ps [] none h rfl
theorem nd_plan : ∀ (p M : Pn), (M.map Prod.fst).Nodup → ((p.foldl stepM M).map Prod.fst).Nodup
  | [], _, h => h
  | x :: p, M, h => nd_plan p _ (nd_ins h _ _)
theorem nd_foldM (ps : List Pn) : ((foldM ps).map Prod.fst).Nodup := by
  have key : ∀ (ps : List Pn) (M : Pn), (M.map Prod.fst).Nodup → ((ps.foldl (fun M p => p.foldl stepM M) M).map Prod.fst).Nodup := fun ps => by
    induction ps with
    | nil => exact fun _ h => h
    | cons p ps ih => exact fun M h => ih _ (nd_plan p M h)
  exact key ps [] (by simp)
theorem len_plan : ∀ (p M : Pn), (p.foldl stepM M).length ≤ M.length + p.length
  | [], _ => Nat.le_refl _
  | x :: p, M => by
    have h1 := len_plan p (stepM M x)
    have h2 := len_ins M x.1 (mx ((look M x.1).getD x.2) x.2)
    rw [List.foldl_cons, List.length_cons]
    unfold stepM at *
    omega

/-! ### within -/
def okIn (b : Lm) (x : Str × Option Int) : Bool := match look b x.1 with
  | none => false
  | some none => true
  | some (some j) => match x.2 with
    | none => false
    | some i => decide (i ≤ j)
def inL (a b : Lm) : Bool := a.all (okIn b)
def leO : Option (Option Int) → Option (Option Int) → Prop
  | none, _ => True
  | some _, none => False
  | some _, some none => True
  | some none, some (some _) => False
  | some (some i), some (some j) => i ≤ j
theorem okIn_iff (b : Lm) (x : Str × Option Int) : okIn b x = true ↔ leO (some x.2) (look b x.1) := by
  unfold okIn
  cases look b x.1 with
  | none => simp [leO]
  | some m =>
    cases m with
    | none => cases h : x.2 <;> simp [leO]
    | some j => cases h : x.2 <;> simp [leO]
theorem inL_iff {a b : Lm} (ha : Srt a) : inL a b = true ↔ ∀ k, leO (look a k) (look b k) := by
  unfold inL
  rw [List.all_eq_true]
  constructor
  · intro h k
    cases e : look a k with
    | none => cases look b k <;> trivial
    | some m => exact (okIn_iff b (k, m)).mp (h _ (look_mem e))
  · intro h x hx
    rw [okIn_iff]
    have := h x.1
    rw [ha.mem_look (show (x.1, x.2) ∈ a from hx)] at this
    exact this
theorem leO_refl (a : Option (Option Int)) : leO a a := by
  cases a with
  | none => trivial
  | some m => cases m with
    | none => trivial
    | some i => exact Int.le_refl i
theorem leO_trans {a b c : Option (Option Int)} (h1 : leO a b) (h2 : leO b c) : leO a c := by
  rcases a with _ | (_ | i)
  · cases c <;> trivial
  all_goals
    rcases b with _ | (_ | j)
    all_goals rcases c with _ | (_ | l)
    all_goals first | exact h1.elim | exact h2.elim | trivial | exact Int.le_trans h1 h2
theorem leO_anti {a b : Option (Option Int)} (h1 : leO a b) (h2 : leO b a) : a = b := by
  rcases a with _ | (_ | i) <;> rcases b with _ | (_ | j) <;> first | rfl | exact h1.elim | exact h2.elim | skip
  have h1' : i ≤ j := h1
  have h2' : j ≤ i := h2
  rw [show i = j by omega]
/-- a plan within a plan: the join is the other -/
theorem leO_mx (a b : Option Int) : leO (a.map some) (b.map some) ↔ mxO a b = b := by
  cases a with
  | none => simp [leO, mxO]
  | some i =>
    cases b with
    | none => simp [leO, mxO]
    | some j =>
      simp only [Option.map_some, leO, mxO, Option.some.injEq]
      unfold mx
      split <;> omega
theorem leO_join (a b : Option Int) (c : Option (Option Int)) : leO ((mxO a b).map some) c ↔ leO (a.map some) c ∧ leO (b.map some) c := by
  cases a with
  | none => cases b <;> simp [mxO, leO]
  | some i =>
    cases b with
    | none => simp [mxO, leO]
    | some j =>
      rcases c with _ | (_ | l)
      · simp [mxO, leO]
      · simp [mxO, leO]
      · simp only [mxO, Option.map_some, leO]
        unfold mx
        split <;> omega
theorem leO_add (a b : Option Int) (n : Int) : leO ((a.map (· + n)).map some) ((b.map (· + n)).map some) ↔ leO (a.map some) (b.map some) := by
  cases a <;> cases b <;> simp [leO]
def putBy (p : Pn) (n : Int) : Pn := p.map fun x => (x.1, x.2 + n)
theorem look_putBy (p : Pn) (n : Int) (k : Str) : look (putBy p n) k = (look p k).map (· + n) := look_map (· + n) p k
theorem Srt.putBy {p : Pn} (h : Srt p) (n : Int) : Srt (putBy p n) := Srt.map (· + n) h
end CP

namespace CP
open PySem PySem.Spec L2
open PyProof.Rows hiding St
namespace T
def top (i : Nat) : Stmt := PySem.Challenge.pw_cornerplans_k04_whole_joins_and_limits.main.body.getD i (.Pass ⟨0, 0, 0, 0⟩)
abbrev st__law_begun : Stmt := top 26
abbrev st__law_draw : Stmt := top 27
abbrev st__law_pick : Stmt := top 28
abbrev st__law_words : Stmt := top 29
abbrev st_join_of : Stmt := top 21
abbrev st_is_list : Stmt := top 10
abbrev st_is_name : Stmt := top 11
abbrev st_is_number : Stmt := top 9
abbrev st_is_end : Stmt := top 12
abbrev st_is_pair : Stmt := top 13
abbrev st_is_limit : Stmt := top 14
abbrev st_are_pairs : Stmt := top 15
abbrev st_joined : Stmt := top 22
abbrev st__law_row : Stmt := top 30
abbrev st__law_bound : Stmt := top 31
abbrev st_need_limit : Stmt := top 17
abbrev st_is_in : Stmt := top 23
abbrev st_is_within : Stmt := top 24
abbrev st_need_plan : Stmt := top 16
abbrev st_need_number : Stmt := top 18
abbrev st_put_by : Stmt := top 19
abbrev st_later : Stmt := top 20
abbrev st_law : Stmt := top 32
theorem sc__law_draw : FnScope ["_law_state", "_law_size", "_law_found", "_law_turn", "_law_cell", "_law_mixed"] ["_law_state", "_law_size"] (defScope st__law_draw) := ⟨rfl, rfl, rfl, by decide +kernel, rfl, by decide +kernel, by decide +kernel⟩
theorem sc__law_pick : FnScope ["_law_state", "_law_several"] ["_law_state", "_law_several"] (defScope st__law_pick) := ⟨rfl, rfl, rfl, by decide +kernel, rfl, by decide +kernel, by decide +kernel⟩
theorem sc__law_words : FnScope ["_law_state", "_law_many", "_law_letters", "_law_found", "_law_drawn", "_law_word", "_law_spare", "_law_sign", "_law_letter", "_law_each"] ["_law_state", "_law_many"] (defScope st__law_words) := ⟨rfl, rfl, rfl, by decide +kernel, rfl, by decide +kernel, by decide +kernel⟩
theorem sc_join_of : FnScope ["plans", "found", "plan", "name", "moment"] ["plans"] (defScope st_join_of) := ⟨rfl, rfl, rfl, by decide +kernel, rfl, by decide +kernel, by decide +kernel⟩
theorem sc_is_list : FnScope ["thing"] ["thing"] (defScope st_is_list) := ⟨rfl, rfl, rfl, by decide +kernel, rfl, by decide +kernel, by decide +kernel⟩
theorem sc_is_name : FnScope ["thing", "sign"] ["thing"] (defScope st_is_name) := ⟨rfl, rfl, rfl, by decide +kernel, rfl, by decide +kernel, by decide +kernel⟩
theorem sc_is_number : FnScope ["thing"] ["thing"] (defScope st_is_number) := ⟨rfl, rfl, rfl, by decide +kernel, rfl, by decide +kernel, by decide +kernel⟩
theorem sc_is_end : FnScope ["thing"] ["thing"] (defScope st_is_end) := ⟨rfl, rfl, rfl, by decide +kernel, rfl, by decide +kernel, by decide +kernel⟩
theorem sc_is_pair : FnScope ["thing"] ["thing"] (defScope st_is_pair) := ⟨rfl, rfl, rfl, by decide +kernel, rfl, by decide +kernel, by decide +kernel⟩
theorem sc_is_limit : FnScope ["thing", "pair", "one", "other"] ["thing"] (defScope st_is_limit) := ⟨rfl, rfl, rfl, by decide +kernel, rfl, by decide +kernel, by decide +kernel⟩
theorem sc_are_pairs : FnScope ["thing", "name", "moment"] ["thing"] (defScope st_are_pairs) := ⟨rfl, rfl, rfl, by decide +kernel, rfl, by decide +kernel, by decide +kernel⟩
theorem sc_joined : FnScope ["plans", "at", "plan"] ["plans"] (defScope st_joined) := ⟨rfl, rfl, rfl, by decide +kernel, rfl, by decide +kernel, by decide +kernel⟩
theorem sc__law_row : FnScope ["_law_state", "_law_words_here", "_law_wide", "_law_found", "_law_far", "_law_word"] ["_law_state", "_law_words_here", "_law_wide"] (defScope st__law_row) := ⟨rfl, rfl, rfl, by decide +kernel, rfl, by decide +kernel, by decide +kernel⟩
theorem sc__law_bound : FnScope ["_law_state", "_law_words_here", "_law_wide", "_law_word", "_law_num"] ["_law_state", "_law_words_here", "_law_wide"] (defScope st__law_bound) := ⟨rfl, rfl, rfl, by decide +kernel, rfl, by decide +kernel, by decide +kernel⟩
theorem sc_need_limit : FnScope ["limit"] ["limit"] (defScope st_need_limit) := ⟨rfl, rfl, rfl, by decide +kernel, rfl, by decide +kernel, by decide +kernel⟩
theorem sc_is_in : FnScope ["one", "other", "moments", "name", "moment"] ["one", "other"] (defScope st_is_in) := ⟨rfl, rfl, rfl, by decide +kernel, rfl, by decide +kernel, by decide +kernel⟩
theorem sc_is_within : FnScope ["one", "other"] ["one", "other"] (defScope st_is_within) := ⟨rfl, rfl, rfl, by decide +kernel, rfl, by decide +kernel, by decide +kernel⟩
theorem sc_need_plan : FnScope ["plan"] ["plan"] (defScope st_need_plan) := ⟨rfl, rfl, rfl, by decide +kernel, rfl, by decide +kernel, by decide +kernel⟩
theorem sc_need_number : FnScope ["number"] ["number"] (defScope st_need_number) := ⟨rfl, rfl, rfl, by decide +kernel, rfl, by decide +kernel, by decide +kernel⟩
theorem sc_put_by : FnScope ["plan", "number", "name", "moment"] ["plan", "number"] (defScope st_put_by) := ⟨rfl, rfl, rfl, by decide +kernel, rfl, by decide +kernel, by decide +kernel⟩
theorem sc_later : FnScope ["plan", "number"] ["plan", "number"] (defScope st_later) := ⟨rfl, rfl, rfl, by decide +kernel, rfl, by decide +kernel, by decide +kernel⟩
theorem sc_law : FnScope ["_law_script", "_law_state", "_law_turn", "_law_words_here", "_law_one", "_law_two", "_law_three", "_law_top", "_law_next_top", "_law_num", "_law_both", "_law_free", "_law_k", "_law_word", "_law_spot"] ["_law_script"] (defScope st_law) := ⟨rfl, rfl, rfl, by decide +kernel, rfl, by decide +kernel, by decide +kernel⟩
def b__law_draw : SS := sSeq (whileL (tAndF (toB (e2 pEq (eRest (eAny 0)) (eC (.int 0)))) (tLne (eAny 0))) (sRest (eAny 0) (ePop (eAny 0))) 100) (sSeq (sIf (toB (e2 pGt (eRest (eAny 0)) (eC (.int 0)))) (sSeq (sAsg (pName 2) (e2 pMod (e1 pInt (eRest (eAny 0))) (eAny 1))) (sSeq (sRest (eAny 0) (e2 pDiv (eRest (eAny 0)) (eAny 1))) (sRet (eVar 2)))) (sNext)) (sSeq (sAsg (pName 3) (e2 pAdd (eTurn (eAny 0)) (eC (.int 1)))) (sSeq (sTurn (eAny 0) (eVar 3)) (sSeq (sAsg (pName 4) (eIf (toB (e2 pNe (eCells (eAny 0)) (eLst (aNil)))) (e2 pSubs (eCells (eAny 0)) (e2 pMod (e1 pInt (eAny 3)) (e1 pLen (eCells (eAny 0))))) (eC (.int 0)))) (sSeq (sAsg (pName 5) (e2 pMod (e1 pInt (e2 pPow (e2 pAdd (e2 pAdd (e2 pMod (e1 pInt (eAny 4)) (eC (.int 2147483629))) (e2 pMul (eC (.int 48271)) (eAny 3))) (eC (.int 13579))) (eC (.int 3)))) (eC (.int 2147483647)))) (sRet (e2 pMod (e1 pInt (e2 pDiv (e2 pMod (e1 pInt (e2 pPow (e2 pAdd (eAny 5) (e2 pMul (eC (.int 99991)) (eAny 3))) (eC (.int 5)))) (eC (.int 2147483587))) (eC (.int 23)))) (eAny 1))))))))
def f__law_draw : Fn := runB 6 b__law_draw
def b__law_pick : SS := sRet (e2 pSubs (eAny 1) (eCall 2 f__law_draw (aCons (eVar 0) (aCons (e1 pLen (eAny 1)) (aNil)))))
def f__law_pick : Fn := runB 2 b__law_pick
def b__law_words : SS := sSeq (sPar [2, 3] (fSh (eC (.str "abcdefghijklmnopqrstuvwxyz")) (fOwn (fLstO (aNil)) (fNil)))) (sSeq (whileL (toB (e2 pLt (e1 pLen (eAny 3)) (eAny 1))) (sSeq (sAsg (pName 4) (eM1 isStrD pJoin (eC (.str "")) (fLst (eLc (iRange1 (e2 pAdd (eC (.int 1)) (eCall 2 f__law_draw (aCons (eVar 0) (aCons (eC (.int 6)) (aNil)))))) (pName 7) (tYesF) (eCall 2 f__law_pick (aCons (eVar 0) (aCons (eVar 2) (aNil)))) [7])))) (sSeq (sAsg (pName 5) (eCall 2 f__law_pick (aCons (eVar 0) (aCons (eLst (aCons (eC (.str "a")) (aCons (eC (.str "b")) (aCons (eC (.str "c")) (aCons (eC (.str "aa")) (aCons (eC (.str "none")) (aCons (eC (.str "things")) (aCons (eC (.str "zzzzzz")) (aCons (eVar 4) (aCons (eVar 4) (aNil))))))))))) (aNil))))) (sSeq (sAsg (pName 6) (e2 pAdd (eLst (aCons (eVar 5) (aNil))) (fLst (eLc (iSeq (eVar 2)) (pName 8) (tYesF) (e2 pAdd (eSl pSl (eAny 5) (oNone) (oSome (eC (.int 5)))) (eAny 8)) [8])))) (sApp 3 (e2 pSubs (fLst (eLc (iSeq (eVar 6)) (pName 9) (toB (e2 pNotIn (eAny 9) (eAny 3))) (eVar 9) [9])) (eC (.int 0))))))) 1000) (sRet (e1 pSorted (eAny 3))))
def f__law_words : Fn := runB 10 b__law_words
def b_join_of : SS := sSeq (sOwn 1 (fDic0)) (sSeq (sFor (iSeq (eVar 0)) (pName 2) (sFor (iSeq (eVar 2)) (pUn 2 (pCons (pName 3) (pCons (pName 4) (pNil)))) (sPut 1 (eAny 3) (e2 pMax (eGet2 (eAny 1) (eAny 3) (eVar 4)) (eAny 4))))) (sRet (e1 pTuple (e1 pSortedItems (eAny 1)))))
def f_join_of : Fn := runB 5 b_join_of
def b_is_list : SS := sRet (e1 (pIsi [.lst, .tup]) (eAny 0))
def f_is_list : Fn := runB 1 b_is_list
def b_is_name : SS := sSeq (sIf (tOrF (tNotF (toB (e1 (pIsi [.str]) (eAny 0)))) (tOrF (toB (e2 pLt (e1 pLen (eAny 0)) (eC (.int 1)))) (toB (e2 pGt (e1 pLen (eAny 0)) (eC (.int 6)))))) (sRet (eC (.bl false))) (sNext)) (sRet (e1 pAll (fLst (eLc (iSeq (eVar 0)) (pName 1) (tYesF) (e2 pIn (eAny 1) (eC (.str "abcdefghijklmnopqrstuvwxyz"))) [1]))))
def f_is_name : Fn := runB 2 b_is_name
def b_is_number : SS := sRet (eAnd (e1 (pIsi [.int]) (eAny 0)) (eNot (e1 (pIsi [.bl]) (eAny 0))))
def f_is_number : Fn := runB 1 b_is_number
def b_is_end : SS := sRet (eOr (e1 pIsN (eAny 0)) (eCall 1 f_is_number (aCons (eVar 0) (aNil))))
def f_is_end : Fn := runB 1 b_is_end
def b_is_pair : SS := sRet (eAnd (e1 (pIsi [.tup]) (eAny 0)) (eAnd (e2 pEq (e1 pLen (eAny 0)) (eC (.int 2))) (eAnd (eCall 1 f_is_name (aCons (e2 pSubs (eAny 0) (eC (.int 0))) (aNil))) (eCall 1 f_is_end (aCons (e2 pSubs (eAny 0) (eC (.int 1))) (aNil))))))
def f_is_pair : Fn := runB 1 b_is_pair
def b_is_limit : SS := sSeq (sIf (tOrF (tNotF (toB (e1 (pIsi [.tup]) (eAny 0)))) (tNotF (toB (e1 pAll (fLst (eLc (iSeq (eVar 0)) (pName 1) (tYesF) (eCall 1 f_is_pair (aCons (eVar 1) (aNil))) [1])))))) (sRet (eC (.bl false))) (sNext)) (sRet (e1 pAll (fLst (eLc (iZip2 (eVar 0) (eSl pSl (eAny 0) (oSome (eC (.int 1))) (oNone))) (pUn 2 (pCons (pName 2) (pCons (pName 3) (pNil)))) (tYesF) (e2 pLt (e2 pSubs (eAny 2) (eC (.int 0))) (e2 pSubs (eAny 3) (eC (.int 0)))) [2, 3]))))
def f_is_limit : Fn := runB 4 b_is_limit
def b_are_pairs : SS := sRet (eAnd (eCall 1 f_is_limit (aCons (eVar 0) (aNil))) (e1 pAll (fLst (eLc (iSeq (eVar 0)) (pUn 2 (pCons (pName 1) (pCons (pName 2) (pNil)))) (tYesF) (e1 pNotN (eAny 2)) [1, 2]))))
def f_are_pairs : Fn := runB 3 b_are_pairs
def b_joined : SS := sSeq (sIf (tNotF (toB (eCall 1 f_is_list (aCons (eVar 0) (aNil))))) (sFail) (sNext)) (sSeq (sFor (iEnum1 (eVar 0)) (pUn 2 (pCons (pName 1) (pCons (pName 2) (pNil)))) (sIf (tNotF (toB (eCall 1 f_are_pairs (aCons (eVar 2) (aNil))))) (sFail) (sNext))) (sRet (eCall 1 f_join_of (aCons (eVar 0) (aNil)))))
def f_joined : Fn := runB 3 b_joined
def b__law_row : SS := sSeq (sPar [3, 4] (fOwn (fLstO (aNil)) (fSh (eCall 2 f__law_pick (aCons (eVar 0) (aCons (eLst (aCons (eC (.int 0)) (aCons (eC (.int 0)) (aCons (eC (.int 0)) (aCons (eC (.int 0)) (aCons (eC (.int 0)) (aCons (e2 pMul (eC (.int 9)) (e2 pPow (eC (.int 10)) (eC (.int 8)))) (aNil)))))))) (aNil)))) (fNil)))) (sSeq (sFor (iSeq (eVar 1)) (pName 5) (sIf (toB (e2 pGt (eCall 2 f__law_draw (aCons (eVar 0) (aCons (eC (.int 4)) (aNil)))) (eC (.int 0)))) (sApp 3 (eTup (aCons (eVar 5) (aCons (e2 pAdd (e2 pSub (eCall 2 f__law_draw (aCons (eVar 0) (aCons (e2 pAdd (e2 pMul (eC (.int 2)) (eAny 2)) (eC (.int 1))) (aNil)))) (eAny 2)) (eAny 4)) (aNil))))) (sNext))) (sRet (e1 pTuple (eAny 3))))
def f__law_row : Fn := runB 6 b__law_row
def b__law_bound : SS := sRet (e1 pTuple (fLst (eLc (iSeq (eCall 3 f__law_row (aCons (eVar 0) (aCons (eVar 1) (aCons (eVar 2) (aNil)))))) (pUn 2 (pCons (pName 3) (pCons (pName 4) (pNil)))) (tYesF) (eTup (aCons (eVar 3) (aCons (eIf (toB (e2 pEq (eCall 2 f__law_draw (aCons (eVar 0) (aCons (eC (.int 4)) (aNil)))) (eC (.int 0)))) (eC (.non)) (eVar 4)) (aNil)))) [3, 4])))
def f__law_bound : Fn := runB 5 b__law_bound
def b_need_limit : SS := sIf (tNotF (toB (eCall 1 f_is_limit (aCons (eVar 0) (aNil))))) (sFail) (sNext)
def f_need_limit : Fn := runB 1 b_need_limit
def b_is_in : SS := sSeq (sAsg (pName 2) (e1 pDict (eAny 1))) (sSeq (sFor (iSeq (eVar 0)) (pUn 2 (pCons (pName 3) (pCons (pName 4) (pNil)))) (sIf (tOrF (toB (e2 pNotIn (eAny 3) (eAny 2))) (tAndF (toB (e1 pNotN (e2 pSubs (eAny 2) (eAny 3)))) (tOrF (toB (e1 pIsN (eAny 4))) (toB (e2 pGt (eAny 4) (e2 pSubs (eAny 2) (eAny 3))))))) (sRet (eC (.bl false))) (sNext))) (sRet (eC (.bl true))))
def f_is_in : Fn := runB 5 b_is_in
def b_is_within : SS := sSeq (sExpr (eCall 1 f_need_limit (aCons (eVar 0) (aNil)))) (sSeq (sExpr (eCall 1 f_need_limit (aCons (eVar 1) (aNil)))) (sRet (eCall 2 f_is_in (aCons (eVar 0) (aCons (eVar 1) (aNil))))))
def f_is_within : Fn := runB 2 b_is_within
def b_need_plan : SS := sIf (tNotF (toB (eCall 1 f_are_pairs (aCons (eVar 0) (aNil))))) (sFail) (sNext)
def f_need_plan : Fn := runB 1 b_need_plan
def b_need_number : SS := sIf (tNotF (toB (eCall 1 f_is_number (aCons (eVar 0) (aNil))))) (sFail) (sNext)
def f_need_number : Fn := runB 1 b_need_number
def b_put_by : SS := sRet (e1 pTuple (fLst (eLc (iSeq (eVar 0)) (pUn 2 (pCons (pName 2) (pCons (pName 3) (pNil)))) (tYesF) (eTup (aCons (eVar 2) (aCons (e2 pAdd (eAny 3) (eAny 1)) (aNil)))) [2, 3])))
def f_put_by : Fn := runB 4 b_put_by
def b_later : SS := sSeq (sExpr (eCall 1 f_need_plan (aCons (eVar 0) (aNil)))) (sSeq (sExpr (eCall 1 f_need_number (aCons (eVar 1) (aNil)))) (sRet (eCall 2 f_put_by (aCons (eVar 0) (aCons (eVar 1) (aNil))))))
def f_later : Fn := runB 2 b_later
def b_law : SS := sSeq (sFor (iRange1 (e2 pAdd (eC (.int 10)) (e2 pMin (e1 pLen (eAny 0)) (eC (.int 30))))) (pName 2) (sSeq (sAsg (pName 3) (eCall 2 f__law_words (aCons (eVar 1) (aCons (e2 pAdd (eC (.int 1)) (eCall 2 f__law_draw (aCons (eVar 1) (aCons (eC (.int 4)) (aNil))))) (aNil))))) (sSeq (sAsg (pUn 3 (pCons (pName 4) (pCons (pName 5) (pCons (pName 6) (pNil))))) (fLst (eLc (iRange1 (eC (.int 3))) (pName 12) (tYesF) (eCall 3 f__law_row (aCons (eVar 1) (aCons (eVar 3) (aCons (eCall 2 f__law_pick (aCons (eVar 1) (aCons (eLst (aCons (eC (.int 1)) (aCons (eC (.int 2)) (aCons (eC (.int 9)) (aNil))))) (aNil)))) (aNil))))) [12]))) (sSeq (sPar [7, 8, 9] (fSh (eCall 3 f__law_bound (aCons (eVar 1) (aCons (eVar 3) (aCons (eC (.int 4)) (aNil))))) (fSh (eCall 3 f__law_bound (aCons (eVar 1) (aCons (eVar 3) (aCons (eC (.int 4)) (aNil))))) (fSh (e2 pSub (eCall 2 f__law_draw (aCons (eVar 1) (aCons (eC (.int 41)) (aNil)))) (eC (.int 20))) (fNil))))) (sSeq (sAsg (pName 10) (eCall 1 f_joined (aCons (eLst (aCons (eVar 4) (aCons (eVar 5) (aNil)))) (aNil)))) (sSeq (sIf (tOrF (toB (e2 pNe (eAny 10) (eCall 1 f_joined (aCons (eLst (aCons (eVar 5) (aCons (eVar 4) (aNil)))) (aNil))))) (tOrF (toB (e2 pNe (eAny 10) (eCall 1 f_joined (aCons (eLst (aCons (eVar 4) (aCons (eVar 5) (aCons (eVar 4) (aNil))))) (aNil))))) (toB (e2 pNe (eCall 2 f_later (aCons (eCall 2 f_later (aCons (eVar 4) (aCons (eVar 9) (aNil)))) (aCons (e2 pSub (eC (.int 0)) (eAny 9)) (aNil)))) (eAny 4))))) (sRet (eC (.bl false))) (sNext)) (sSeq (sIf (tOrF (toB (e2 pNe (eCall 1 f_joined (aCons (eLst (aCons (eVar 10) (aCons (eVar 6) (aNil)))) (aNil))) (eCall 1 f_joined (aCons (eLst (aCons (eVar 4) (aCons (eCall 1 f_joined (aCons (eLst (aCons (eVar 5) (aCons (eVar 6) (aNil)))) (aNil))) (aNil)))) (aNil))))) (toB (e2 pNe (eCall 2 f_later (aCons (eVar 10) (aCons (eVar 9) (aNil)))) (eCall 1 f_joined (aCons (eLst (aCons (eCall 2 f_later (aCons (eVar 4) (aCons (eVar 9) (aNil)))) (aCons (eCall 2 f_later (aCons (eVar 5) (aCons (eVar 9) (aNil)))) (aNil)))) (aNil)))))) (sRet (eC (.bl false))) (sNext)) (sSeq (sIf (tOrF (toB (e2 pNe (eCall 2 f_is_within (aCons (eVar 4) (aCons (eVar 5) (aNil)))) (e2 pEq (eAny 10) (eAny 5)))) (toB (e2 pNe (eCall 2 f_is_within (aCons (eVar 10) (aCons (eVar 7) (aNil)))) (eAnd (eCall 2 f_is_within (aCons (eVar 4) (aCons (eVar 7) (aNil)))) (eCall 2 f_is_within (aCons (eVar 5) (aCons (eVar 7) (aNil)))))))) (sRet (eC (.bl false))) (sNext)) (sSeq (sIf (toB (e2 pNe (eCall 2 f_is_within (aCons (eCall 2 f_later (aCons (eVar 4) (aCons (eVar 9) (aNil)))) (aCons (eCall 2 f_later (aCons (eVar 5) (aCons (eVar 9) (aNil)))) (aNil)))) (eCall 2 f_is_within (aCons (eVar 4) (aCons (eVar 5) (aNil)))))) (sRet (eC (.bl false))) (sNext)) (sSeq (sIf (tAndF (toB (eCall 2 f_is_within (aCons (eVar 4) (aCons (eVar 7) (aNil))))) (tAndF (toB (eCall 2 f_is_within (aCons (eVar 7) (aCons (eVar 8) (aNil))))) (tNotF (toB (eCall 2 f_is_within (aCons (eVar 4) (aCons (eVar 8) (aNil)))))))) (sRet (eC (.bl false))) (sNext)) (sSeq (sIf (tAndF (toB (eCall 2 f_is_within (aCons (eVar 7) (aCons (eVar 8) (aNil))))) (tAndF (toB (eCall 2 f_is_within (aCons (eVar 8) (aCons (eVar 7) (aNil))))) (toB (e2 pNe (eAny 7) (eAny 8))))) (sRet (eC (.bl false))) (sNext)) (sSeq (sAsg (pName 11) (e1 pTuple (fLst (eLc (iSeq (eVar 4)) (pUn 2 (pCons (pName 13) (pCons (pName 14) (pNil)))) (tYesF) (eTup (aCons (eVar 13) (aCons (eC (.non)) (aNil)))) [13, 14])))) (sSeq (sIf (tOrF (tNotF (toB (eCall 2 f_is_within (aCons (eVar 4) (aCons (eVar 11) (aNil)))))) (tOrF (toB (e2 pNe (eCall 2 f_is_within (aCons (eVar 11) (aCons (eVar 4) (aNil)))) (e2 pEq (eAny 4) (eTup (aNil))))) (tNotF (toB (eCall 2 f_is_within (aCons (eTup (aNil)) (aCons (eVar 7) (aNil)))))))) (sRet (eC (.bl false))) (sNext)) (sIf (tAndF (toB (eCall 2 f_is_within (aCons (eVar 7) (aCons (eVar 4) (aNil))))) (toB (e2 pNe (fLst (eLc (iSeq (eVar 7)) (pUn 2 (pCons (pName 13) (pCons (pName 14) (pNil)))) (toB (e1 pIsN (eAny 14))) (eVar 13) [13, 14])) (eLst (aNil))))) (sRet (eC (.bl false))) (sNext))))))))))))))) (sRet (eC (.bl true)))
theorem sc__law_begun : FnScope ["_law_script", "_law_cells", "_law_cell"] ["_law_script"] (defScope st__law_begun) := ⟨rfl, rfl, rfl, by decide +kernel, rfl, by decide +kernel, by decide +kernel⟩
structure Tab (K : PySem.W.Frag) (mg : Str → Option Value) where
  f__law_begun : Fc K mg "_law_begun" st__law_begun ["_law_script"]
  f__law_draw : Fc K mg "_law_draw" st__law_draw ["_law_state", "_law_size"]
  f__law_pick : Fc K mg "_law_pick" st__law_pick ["_law_state", "_law_several"]
  f__law_words : Fc K mg "_law_words" st__law_words ["_law_state", "_law_many"]
  f_join_of : Fc K mg "join_of" st_join_of ["plans"]
  f_is_list : Fc K mg "is_list" st_is_list ["thing"]
  f_is_name : Fc K mg "is_name" st_is_name ["thing"]
  f_is_number : Fc K mg "is_number" st_is_number ["thing"]
  f_is_end : Fc K mg "is_end" st_is_end ["thing"]
  f_is_pair : Fc K mg "is_pair" st_is_pair ["thing"]
  f_is_limit : Fc K mg "is_limit" st_is_limit ["thing"]
  f_are_pairs : Fc K mg "are_pairs" st_are_pairs ["thing"]
  f_joined : Fc K mg "joined" st_joined ["plans"]
  f__law_row : Fc K mg "_law_row" st__law_row ["_law_state", "_law_words_here", "_law_wide"]
  f__law_bound : Fc K mg "_law_bound" st__law_bound ["_law_state", "_law_words_here", "_law_wide"]
  f_need_limit : Fc K mg "need_limit" st_need_limit ["limit"]
  f_is_in : Fc K mg "is_in" st_is_in ["one", "other"]
  f_is_within : Fc K mg "is_within" st_is_within ["one", "other"]
  f_need_plan : Fc K mg "need_plan" st_need_plan ["plan"]
  f_need_number : Fc K mg "need_number" st_need_number ["number"]
  f_put_by : Fc K mg "put_by" st_put_by ["plan", "number"]
  f_later : Fc K mg "later" st_later ["plan", "number"]
  f_law : Fc K mg "law" st_law ["_law_script"]
  n_abs : mg "abs" = none
  n_all : mg "all" = none
  n_bool : mg "bool" = none
  n_dict : mg "dict" = none
  n_enumerate : mg "enumerate" = none
  n_int : mg "int" = none
  n_isinstance : mg "isinstance" = none
  n_len : mg "len" = none
  n_list : mg "list" = none
  n_max : mg "max" = none
  n_min : mg "min" = none
  n_range : mg "range" = none
  n_sorted : mg "sorted" = none
  n_str : mg "str" = none
  n_tuple : mg "tuple" = none
  n_zip : mg "zip" = none
  c_LETTERS : Fk mg "LETTERS" (.str "abcdefghijklmnopqrstuvwxyz")
  c_MOST_LETTERS : Fk mg "MOST_LETTERS" (.int 6)
section
variable {Pr : Program} {w : World} {c : Gam} {mg : Str → Option Value} {base : Heap}
theorem ok__law_draw (T : Tab c.K mg) : FnOk Pr w c.K mg base (CX Pr w) 1 T.f__law_draw.f T.f__law_draw.fd ["_law_state", "_law_size"] (spF c 2 f__law_draw) :=
  fn_ok (N := ["_law_state", "_law_size", "_law_found", "_law_turn", "_law_cell", "_law_mixed"]) T.f__law_draw.F sc__law_draw fun cdv A outer s H E hr tk =>
    rs_cons (rs_while 100 (ps_while (passes_of rfl) (tw (rt_and (t_eq rfl hr (toX (s_rest hr (rx 0))) (toX (re_int))) (pw_and1 (t_large rfl hr (rx 0))))) (rs_one (s_setRest hr (rx 0) (s_pop rfl hr (rx 0)))))) (rs_cons (rs_if (ps_if (t_gt (toX (s_rest hr (rx 0))) (toX (re_int))) (rs_cons (rs_asg (ps_asg (q_mod (toX (q_int T.n_int (toX (s_rest hr (rx 0))))) (rx 1)) (gn 2 sc__law_draw.nd))) (rs_cons (s_setRest hr (rx 0) (q_div (toX (s_rest hr (rx 0))) (rx 1))) (rs_one (rs_ret (ps_ret (rv 2)))))) (rs_nil))) (rs_cons (rs_asg (ps_asg (q_add rfl (toX (s_turn hr (rx 0))) (toX (re_int))) (gn 3 sc__law_draw.nd))) (rs_cons (s_setTurn hr (rx 0) (rv 3)) (rs_cons (rs_asg (ps_asg (re_if (t_ne rfl hr (s_cells hr (rx 0)) (toX (re_lst (ra_nil)))) (q_ix rfl hr (s_cells hr (rx 0)) (toX (q_mod (toX (q_int T.n_int (rx 3))) (toX (q_len rfl T.n_len (s_cells hr (rx 0))))))) (re_int)) (gn 4 sc__law_draw.nd))) (rs_cons (rs_asg (ps_asg (q_mod (toX (q_int T.n_int (toX (q_pow (toX (q_add rfl (toX (q_add rfl (toX (q_mod (toX (q_int T.n_int (rx 4))) (toX (re_int)))) (toX (q_mul (toX (re_int)) (rx 3))))) (toX (re_int)))) (toX (re_int)))))) (toX (re_int))) (gn 5 sc__law_draw.nd))) (rs_one (rs_ret (ps_ret (q_mod (toX (q_int T.n_int (toX (q_div (toX (q_mod (toX (q_int T.n_int (toX (q_pow (toX (q_add rfl (rx 5) (toX (q_mul (toX (re_int)) (rx 3))))) (toX (re_int)))))) (toX (re_int)))) (toX (re_int)))))) (rx 1))))))))))
theorem ok__law_pick (T : Tab c.K mg) : FnOk Pr w c.K mg base (CX Pr w) 2 T.f__law_pick.f T.f__law_pick.fd ["_law_state", "_law_several"] (spF c 2 f__law_pick) :=
  fn_ok (N := ["_law_state", "_law_several"]) T.f__law_pick.F sc__law_pick fun cdv A outer s H E hr tk =>
    rs_one (rs_ret (ps_ret (q_ix rfl hr (rx 1) (toX (T.f__law_draw.q (ok__law_draw T) hr (by decide) tk (ra_cons (rv 0) (ra_cons (q_len rfl T.n_len (rx 1)) (ra_nil))))))))
theorem ok__law_words (T : Tab c.K mg) : FnOk Pr w c.K mg base (CX Pr w) 3 T.f__law_words.f T.f__law_words.fd ["_law_state", "_law_many"] (spF c 2 f__law_words) :=
  fn_ok (N := ["_law_state", "_law_many", "_law_letters", "_law_found", "_law_drawn", "_law_word", "_law_spare", "_law_sign", "_law_letter", "_law_each"]) T.f__law_words.F sc__law_words fun cdv A outer s H E hr tk =>
    rs_cons (rs_parT rfl rfl (by decide) (ps_asg (pe_tup (rfs_sh (re_str) (rfs_own (rf_lst (ra_nil)) (rfs_nil)))) (pg_tup rfl (pgs_cons (gn0 2 sc__law_words.nd) (pgs_cons (gn0 3 sc__law_words.nd) (pgs_nil)))))) (rs_cons (rs_while 1000 (ps_while (passes_of rfl) (t_lt (toX (q_len rfl T.n_len (rx 3))) (rx 1)) (rs_cons (rs_asg (ps_asg (q_join (toX (re_str)) (toX (pubL (v_lc (by decide) (pe_lc rfl sc__law_words.nd (i_range1 T.n_range (toX (q_add rfl (toX (re_int)) (toX (T.f__law_draw.q (ok__law_draw T) hr (by decide) tk (ra_cons (rv 0) (ra_cons (re_int) (ra_nil)))))))) (blkOk_by (own := [("_law_sign", 7)]) (by kernel_rfl)) (fun _ _ _ _ _ => gn 7 sc__law_words.nd) (fun _ _ _ _ _ => rts_nil) (fun _ _ _ _ _ => T.f__law_pick.q (ok__law_pick T) hr (by decide) takes_blk (ra_cons (rv 0) (ra_cons (rv 2) (ra_nil))))))))) (gn 4 sc__law_words.nd))) (rs_cons (rs_asg (ps_asg (T.f__law_pick.q (ok__law_pick T) hr (by decide) tk (ra_cons (rv 0) (ra_cons (re_lst (ra_cons (re_str) (ra_cons (re_str) (ra_cons (re_str) (ra_cons (re_str) (ra_cons (re_str) (ra_cons (re_str) (ra_cons (re_str) (ra_cons (rv 4) (ra_cons (rv 4) (ra_nil))))))))))) (ra_nil)))) (gn 5 sc__law_words.nd))) (rs_cons (rs_asg (ps_asg (q_add rfl (toX (re_lst (ra_cons (rv 5) (ra_nil)))) (toX (pubL (v_lc (by decide) (pe_lc rfl sc__law_words.nd (i_seq rfl (rv 2)) (blkOk_by (own := [("_law_letter", 8)]) (by kernel_rfl)) (fun _ _ _ _ _ => gn 8 sc__law_words.nd) (fun _ _ _ _ _ => rts_nil) (fun _ _ _ _ _ => q_add rfl (toX (q_sl rfl (rx 5) (ro_none) (ro_some (toX (re_int))))) (rx 8))))))) (gn 6 sc__law_words.nd))) (rs_one (rs_app rfl (ps_expr (pe_bm PySem.F.plainAttrs_list PySem.F.slot_list_append PySem.F.type_list_append mt_append (pv 3) (pa_cons (q_ix rfl hr (toX (pubL (v_lc (by decide) (pe_lc rfl sc__law_words.nd (i_seq rfl (rv 6)) (blkOk_by (own := [("_law_each", 9)]) (by kernel_rfl)) (fun _ _ _ _ _ => gn 9 sc__law_words.nd) (fun _ _ _ _ _ => pts_one (t_notIn rfl hr (rx 9) (rx 3))) (fun _ _ _ _ _ => rv 9))))) (toX (re_int))) pa_nil)))))))))) (rs_one (rs_ret (ps_ret (q_sorted rfl hr T.n_sorted (rx 3))))))
theorem ok_join_of (T : Tab c.K mg) : FnOk Pr w c.K mg base (CX Pr w) 1 T.f_join_of.f T.f_join_of.fd ["plans"] (spF c 1 f_join_of) :=
  fn_ok (N := ["plans", "found", "plan", "name", "moment"]) T.f_join_of.F sc_join_of fun cdv A outer s H E hr tk =>
    rs_cons (rs_own (ps_asg (rf_dic0) (gn0 1 sc_join_of.nd))) (rs_cons (rs_for (ps_for (passes_of rfl) rfl (i_seq rfl (rv 0)) (gn 2 sc_join_of.nd) (rs_one (rs_for (ps_for (passes_of rfl) rfl (i_seq rfl (rv 2)) (g_un rfl rfl (g_cons (gn 3 sc_join_of.nd) (g_cons (gn 4 sc_join_of.nd) (g_nil)))) (rs_one (rs_put (ps_dput (Room.u1 hr) (pv 1) (rx 3) (q_max rfl T.n_max (toX (q_get2 hr (rx 1) (rx 3) (rv 4))) (rx 4)) rfl)))))))) (rs_one (rs_ret (ps_ret (q_tuple rfl T.n_tuple (toX (q_sortIt rfl rfl hr T.n_sorted (rx 1))))))))
theorem ok_is_list (T : Tab c.K mg) : FnOk Pr w c.K mg base (CX Pr w) 1 T.f_is_list.f T.f_is_list.fd ["thing"] (spF c 1 f_is_list) :=
  fn_ok (N := ["thing"]) T.f_is_list.F sc_is_list fun cdv A outer s H E hr tk =>
    rs_one (rs_ret (ps_ret (q_isi2 .lst .tup (by decide +kernel) (by decide +kernel) rfl T.n_isinstance T.n_list T.n_tuple (rx 0))))
theorem ok_is_name (T : Tab c.K mg) : FnOk Pr w c.K mg base (CX Pr w) 1 T.f_is_name.f T.f_is_name.fd ["thing"] (spF c 1 f_is_name) :=
  fn_ok (N := ["thing", "sign"]) T.f_is_name.F sc_is_name fun cdv A outer s H E hr tk =>
    rs_cons (rs_if (ps_if (tw (rt_or (rt_not (rt_val (toX (q_isi .str (by decide +kernel) rfl T.n_isinstance T.n_str (rx 0))))) (rt_or (t_lt (toX (q_len rfl T.n_len (rx 0))) (toX (re_int))) (pw_or1 (t_gt (toX (q_len rfl T.n_len (rx 0))) (toX (T.c_MOST_LETTERS.re))))))) (rs_one (rs_ret (ps_ret (re_bl)))) (rs_nil))) (rs_one (rs_ret (ps_ret (q_all rfl rfl T.n_all (toX (pubL (v_lc (by decide) (pe_lc rfl sc_is_name.nd (i_seq rfl (rv 0)) (blkOk_by (own := [("sign", 1)]) (by kernel_rfl)) (fun _ _ _ _ _ => gn 1 sc_is_name.nd) (fun _ _ _ _ _ => rts_nil) (fun _ _ _ _ _ => q_in rfl hr (rx 1) (toX (T.c_LETTERS.re)))))))))))
theorem ok_is_number (T : Tab c.K mg) : FnOk Pr w c.K mg base (CX Pr w) 1 T.f_is_number.f T.f_is_number.fd ["thing"] (spF c 1 f_is_number) :=
  fn_ok (N := ["thing"]) T.f_is_number.F sc_is_number fun cdv A outer s H E hr tk =>
    rs_one (rs_ret (ps_ret (re_and (toX (q_isi .int (by decide +kernel) rfl T.n_isinstance T.n_int (rx 0))) (re_one (re_not (toX (q_isi .bl (by decide +kernel) rfl T.n_isinstance T.n_bool (rx 0))))))))
theorem ok_is_end (T : Tab c.K mg) : FnOk Pr w c.K mg base (CX Pr w) 2 T.f_is_end.f T.f_is_end.fd ["thing"] (spF c 1 f_is_end) :=
  fn_ok (N := ["thing"]) T.f_is_end.F sc_is_end fun cdv A outer s H E hr tk =>
    rs_one (rs_ret (ps_ret (re_or (toX (q_isN (rx 0))) (re_one (T.f_is_number.q (ok_is_number T) hr (by decide) tk (ra_cons (rv 0) (ra_nil)))))))
theorem ok_is_pair (T : Tab c.K mg) : FnOk Pr w c.K mg base (CX Pr w) 3 T.f_is_pair.f T.f_is_pair.fd ["thing"] (spF c 1 f_is_pair) :=
  fn_ok (N := ["thing"]) T.f_is_pair.F sc_is_pair fun cdv A outer s H E hr tk =>
    rs_one (rs_ret (ps_ret (re_and (toX (q_isi .tup (by decide +kernel) rfl T.n_isinstance T.n_tuple (rx 0))) (re_and (toX (q_eq rfl hr (toX (q_len rfl T.n_len (rx 0))) (toX (re_int)))) (re_and (toX (T.f_is_name.q (ok_is_name T) hr (by decide) tk (ra_cons (q_ix rfl hr (rx 0) (toX (re_int))) (ra_nil)))) (re_one (T.f_is_end.q (ok_is_end T) hr (by decide) tk (ra_cons (q_ix rfl hr (rx 0) (toX (re_int))) (ra_nil)))))))))
theorem ok_is_limit (T : Tab c.K mg) : FnOk Pr w c.K mg base (CX Pr w) 4 T.f_is_limit.f T.f_is_limit.fd ["thing"] (spF c 1 f_is_limit) :=
  fn_ok (N := ["thing", "pair", "one", "other"]) T.f_is_limit.F sc_is_limit fun cdv A outer s H E hr tk =>
    rs_cons (rs_if (ps_if (tw (rt_or (rt_not (rt_val (toX (q_isi .tup (by decide +kernel) rfl T.n_isinstance T.n_tuple (rx 0))))) (pw_or1 (rt_not (rt_val (toX (q_all rfl rfl T.n_all (toX (pubL (v_lc (by decide) (pe_lc rfl sc_is_limit.nd (i_seq rfl (rv 0)) (blkOk_by (own := [("pair", 1)]) (by kernel_rfl)) (fun _ _ _ _ _ => gn 1 sc_is_limit.nd) (fun _ _ _ _ _ => rts_nil) (fun _ _ _ _ _ => T.f_is_pair.q (ok_is_pair T) hr (by decide) takes_blk (ra_cons (rv 1) (ra_nil)))))))))))))) (rs_one (rs_ret (ps_ret (re_bl)))) (rs_nil))) (rs_one (rs_ret (ps_ret (q_all rfl rfl T.n_all (toX (pubL (v_lc (by decide) (pe_lc rfl sc_is_limit.nd (i_zip rfl T.n_zip (rv 0) (q_sl rfl (rx 0) (ro_some (toX (re_int))) (ro_none))) (blkOk_by (own := [("one", 2), ("other", 3)]) (by kernel_rfl)) (fun _ _ _ _ _ => g_un rfl rfl (g_cons (gn 2 sc_is_limit.nd) (g_cons (gn 3 sc_is_limit.nd) (g_nil)))) (fun _ _ _ _ _ => rts_nil) (fun _ _ _ _ _ => q_lt (toX (q_ix rfl hr (rx 2) (toX (re_int)))) (toX (q_ix rfl hr (rx 3) (toX (re_int)))))))))))))
theorem ok_are_pairs (T : Tab c.K mg) : FnOk Pr w c.K mg base (CX Pr w) 5 T.f_are_pairs.f T.f_are_pairs.fd ["thing"] (spF c 1 f_are_pairs) :=
  fn_ok (N := ["thing", "name", "moment"]) T.f_are_pairs.F sc_are_pairs fun cdv A outer s H E hr tk =>
    rs_one (rs_ret (ps_ret (re_and (toX (T.f_is_limit.q (ok_is_limit T) hr (by decide) tk (ra_cons (rv 0) (ra_nil)))) (re_one (q_all rfl rfl T.n_all (toX (pubL (v_lc (by decide) (pe_lc rfl sc_are_pairs.nd (i_seq rfl (rv 0)) (blkOk_by (own := [("name", 1), ("moment", 2)]) (by kernel_rfl)) (fun _ _ _ _ _ => g_un rfl rfl (g_cons (gn 1 sc_are_pairs.nd) (g_cons (gn 2 sc_are_pairs.nd) (g_nil)))) (fun _ _ _ _ _ => rts_nil) (fun _ _ _ _ _ => q_notN (rx 2)))))))))))
theorem ok_joined (T : Tab c.K mg) : FnOk Pr w c.K mg base (CX Pr w) 6 T.f_joined.f T.f_joined.fd ["plans"] (spF c 1 f_joined) :=
  fn_ok (N := ["plans", "at", "plan"]) T.f_joined.F sc_joined fun cdv A outer s H E hr tk =>
    rs_cons (rs_if (ps_if (rt_not (rt_val (toX (T.f_is_list.q (ok_is_list T) hr (by decide) tk (ra_cons (rv 0) (ra_nil)))))) (rs_one (rs_never)) (rs_nil))) (rs_cons (rs_for (ps_for (passes_of rfl) rfl (i_enum rfl T.n_enumerate (rv 0)) (g_un rfl rfl (g_cons (gn 1 sc_joined.nd) (g_cons (gn 2 sc_joined.nd) (g_nil)))) (rs_one (rs_if (ps_if (rt_not (rt_val (toX (T.f_are_pairs.q (ok_are_pairs T) hr (by decide) tk (ra_cons (rv 2) (ra_nil)))))) (rs_one (rs_never)) (rs_nil)))))) (rs_one (rs_ret (ps_ret (T.f_join_of.q (ok_join_of T) hr (by decide) tk (ra_cons (rv 0) (ra_nil)))))))
theorem ok__law_row (T : Tab c.K mg) : FnOk Pr w c.K mg base (CX Pr w) 3 T.f__law_row.f T.f__law_row.fd ["_law_state", "_law_words_here", "_law_wide"] (spF c 3 f__law_row) :=
  fn_ok (N := ["_law_state", "_law_words_here", "_law_wide", "_law_found", "_law_far", "_law_word"]) T.f__law_row.F sc__law_row fun cdv A outer s H E hr tk =>
    rs_cons (rs_par2 (ps_par rfl sc__law_row.nd rfl rfl (by decide) rfl rfl (rfs_own (rf_lst (ra_nil)) (rfs_sh (T.f__law_pick.q (ok__law_pick T) hr (by decide) tk (ra_cons (rv 0) (ra_cons (re_lst (ra_cons (re_int) (ra_cons (re_int) (ra_cons (re_int) (ra_cons (re_int) (ra_cons (re_int) (ra_cons (q_mul (toX (re_int)) (toX (q_pow (toX (re_int)) (toX (re_int))))) (ra_nil)))))))) (ra_nil)))) (rfs_nil))) rfl)) (rs_cons (rs_for (ps_for (passes_of rfl) rfl (i_seq rfl (rv 1)) (gn 5 sc__law_row.nd) (rs_one (rs_if (ps_if (t_gt (toX (T.f__law_draw.q (ok__law_draw T) hr (by decide) tk (ra_cons (rv 0) (ra_cons (re_int) (ra_nil))))) (toX (re_int))) (rs_one (rs_app rfl (ps_expr (pe_bm PySem.F.plainAttrs_list PySem.F.slot_list_append PySem.F.type_list_append mt_append (pv 3) (pa_cons (re_tup (ra_cons (rv 5) (ra_cons (q_add rfl (toX (q_sub (toX (T.f__law_draw.q (ok__law_draw T) hr (by decide) tk (ra_cons (rv 0) (ra_cons (q_add rfl (toX (q_mul (toX (re_int)) (rx 2))) (toX (re_int))) (ra_nil))))) (rx 2))) (rx 4)) (ra_nil)))) pa_nil))))) (rs_nil)))))) (rs_one (rs_ret (ps_ret (q_tuple rfl T.n_tuple (rx 3))))))
theorem ok__law_bound (T : Tab c.K mg) : FnOk Pr w c.K mg base (CX Pr w) 4 T.f__law_bound.f T.f__law_bound.fd ["_law_state", "_law_words_here", "_law_wide"] (spF c 3 f__law_bound) :=
  fn_ok (N := ["_law_state", "_law_words_here", "_law_wide", "_law_word", "_law_num"]) T.f__law_bound.F sc__law_bound fun cdv A outer s H E hr tk =>
    rs_one (rs_ret (ps_ret (q_tuple rfl T.n_tuple (toX (pubL (v_lc (by decide) (pe_lc rfl sc__law_bound.nd (i_seq rfl (T.f__law_row.q (ok__law_row T) hr (by decide) tk (ra_cons (rv 0) (ra_cons (rv 1) (ra_cons (rv 2) (ra_nil)))))) (blkOk_by (own := [("_law_word", 3), ("_law_num", 4)]) (by kernel_rfl)) (fun _ _ _ _ _ => g_un rfl rfl (g_cons (gn 3 sc__law_bound.nd) (g_cons (gn 4 sc__law_bound.nd) (g_nil)))) (fun _ _ _ _ _ => rts_nil) (fun _ _ _ _ _ => re_tup (ra_cons (rv 3) (ra_cons (re_if (t_eq rfl hr (toX (T.f__law_draw.q (ok__law_draw T) hr (by decide) takes_blk (ra_cons (rv 0) (ra_cons (re_int) (ra_nil))))) (toX (re_int))) (re_non) (rv 4)) (ra_nil)))))))))))
theorem ok_need_limit (T : Tab c.K mg) : FnOk Pr w c.K mg base (CX Pr w) 5 T.f_need_limit.f T.f_need_limit.fd ["limit"] (spF c 1 f_need_limit) :=
  fn_ok (N := ["limit"]) T.f_need_limit.F sc_need_limit fun cdv A outer s H E hr tk =>
    rs_one (rs_if (ps_if (rt_not (rt_val (toX (T.f_is_limit.q (ok_is_limit T) hr (by decide) tk (ra_cons (rv 0) (ra_nil)))))) (rs_one (rs_never)) (rs_nil)))
theorem ok_is_in (T : Tab c.K mg) : FnOk Pr w c.K mg base (CX Pr w) 1 T.f_is_in.f T.f_is_in.fd ["one", "other"] (spF c 2 f_is_in) :=
  fn_ok (N := ["one", "other", "moments", "name", "moment"]) T.f_is_in.F sc_is_in fun cdv A outer s H E hr tk =>
    rs_cons (rs_asg (ps_asg (q_dict rfl rfl T.n_dict (rx 1)) (gn 2 sc_is_in.nd))) (rs_cons (rs_for (ps_for (passes_of rfl) rfl (i_seq rfl (rv 0)) (g_un rfl rfl (g_cons (gn 3 sc_is_in.nd) (g_cons (gn 4 sc_is_in.nd) (g_nil)))) (rs_one (rs_if (ps_if (tw (rt_or (t_notIn rfl hr (rx 3) (rx 2)) (pw_or1 (tw (rt_and (t_notN (toX (q_ix rfl hr (rx 2) (rx 3)))) (pw_and1 (tw (rt_or (t_isN (rx 4)) (pw_or1 (t_gt (rx 4) (toX (q_ix rfl hr (rx 2) (rx 3))))))))))))) (rs_one (rs_ret (ps_ret (re_bl)))) (rs_nil)))))) (rs_one (rs_ret (ps_ret (re_bl)))))
theorem ok_is_within (T : Tab c.K mg) : FnOk Pr w c.K mg base (CX Pr w) 6 T.f_is_within.f T.f_is_within.fd ["one", "other"] (spF c 2 f_is_within) :=
  fn_ok (N := ["one", "other"]) T.f_is_within.F sc_is_within fun cdv A outer s H E hr tk =>
    rs_cons (rs_expr (ps_expr (T.f_need_limit.q (ok_need_limit T) hr (by decide) tk (ra_cons (rv 0) (ra_nil))))) (rs_cons (rs_expr (ps_expr (T.f_need_limit.q (ok_need_limit T) hr (by decide) tk (ra_cons (rv 1) (ra_nil))))) (rs_one (rs_ret (ps_ret (T.f_is_in.q (ok_is_in T) hr (by decide) tk (ra_cons (rv 0) (ra_cons (rv 1) (ra_nil))))))))
theorem ok_need_plan (T : Tab c.K mg) : FnOk Pr w c.K mg base (CX Pr w) 6 T.f_need_plan.f T.f_need_plan.fd ["plan"] (spF c 1 f_need_plan) :=
  fn_ok (N := ["plan"]) T.f_need_plan.F sc_need_plan fun cdv A outer s H E hr tk =>
    rs_one (rs_if (ps_if (rt_not (rt_val (toX (T.f_are_pairs.q (ok_are_pairs T) hr (by decide) tk (ra_cons (rv 0) (ra_nil)))))) (rs_one (rs_never)) (rs_nil)))
theorem ok_need_number (T : Tab c.K mg) : FnOk Pr w c.K mg base (CX Pr w) 2 T.f_need_number.f T.f_need_number.fd ["number"] (spF c 1 f_need_number) :=
  fn_ok (N := ["number"]) T.f_need_number.F sc_need_number fun cdv A outer s H E hr tk =>
    rs_one (rs_if (ps_if (rt_not (rt_val (toX (T.f_is_number.q (ok_is_number T) hr (by decide) tk (ra_cons (rv 0) (ra_nil)))))) (rs_one (rs_never)) (rs_nil)))
theorem ok_put_by (T : Tab c.K mg) : FnOk Pr w c.K mg base (CX Pr w) 1 T.f_put_by.f T.f_put_by.fd ["plan", "number"] (spF c 2 f_put_by) :=
  fn_ok (N := ["plan", "number", "name", "moment"]) T.f_put_by.F sc_put_by fun cdv A outer s H E hr tk =>
    rs_one (rs_ret (ps_ret (q_tuple rfl T.n_tuple (toX (pubL (v_lc (by decide) (pe_lc rfl sc_put_by.nd (i_seq rfl (rv 0)) (blkOk_by (own := [("name", 2), ("moment", 3)]) (by kernel_rfl)) (fun _ _ _ _ _ => g_un rfl rfl (g_cons (gn 2 sc_put_by.nd) (g_cons (gn 3 sc_put_by.nd) (g_nil)))) (fun _ _ _ _ _ => rts_nil) (fun _ _ _ _ _ => re_tup (ra_cons (rv 2) (ra_cons (q_add rfl (rx 3) (rx 1)) (ra_nil)))))))))))
theorem ok_later (T : Tab c.K mg) : FnOk Pr w c.K mg base (CX Pr w) 7 T.f_later.f T.f_later.fd ["plan", "number"] (spF c 2 f_later) :=
  fn_ok (N := ["plan", "number"]) T.f_later.F sc_later fun cdv A outer s H E hr tk =>
    rs_cons (rs_expr (ps_expr (T.f_need_plan.q (ok_need_plan T) hr (by decide) tk (ra_cons (rv 0) (ra_nil))))) (rs_cons (rs_expr (ps_expr (T.f_need_number.q (ok_need_number T) hr (by decide) tk (ra_cons (rv 1) (ra_nil))))) (rs_one (rs_ret (ps_ret (T.f_put_by.q (ok_put_by T) hr (by decide) tk (ra_cons (rv 0) (ra_cons (rv 1) (ra_nil))))))))
theorem rest_law (T : Tab c.K mg) (cdv : Value) (A : Around) (outer : List Env) (s : Shared) (H : Hp) (E : XK) (hr : Room 7 (A.deeper (envOfC "law" (defScope st_law) s.heap.objs.size T.f_law.f cdv)))
    (tk : Takes (cxOf (CX Pr w) Pr w c.K mg base ["_law_script", "_law_state", "_law_turn", "_law_words_here", "_law_one", "_law_two", "_law_three", "_law_top", "_law_next_top", "_law_num", "_law_both", "_law_free", "_law_k", "_law_word", "_law_spot"] "law" (defScope st_law) T.f_law.f cdv A outer s H E) (WO E)) :
    PSs (cxOf (CX Pr w) Pr w c.K mg base ["_law_script", "_law_state", "_law_turn", "_law_words_here", "_law_one", "_law_two", "_law_three", "_law_top", "_law_next_top", "_law_num", "_law_both", "_law_free", "_law_k", "_law_word", "_law_spot"] "law" (defScope st_law) T.f_law.f cdv A outer s H E) (defBody st_law).tail (tS c (WO E) b_law) :=
    rs_cons (rs_for (ps_for (passes_of rfl) rfl (i_range1 T.n_range (toX (q_add rfl (toX (re_int)) (toX (q_min rfl T.n_min (toX (q_len rfl T.n_len (rx 0))) (toX (re_int))))))) (gn 2 sc_law.nd) (rs_cons (rs_asg (ps_asg (T.f__law_words.q (ok__law_words T) hr (by decide) tk (ra_cons (rv 1) (ra_cons (q_add rfl (toX (re_int)) (toX (T.f__law_draw.q (ok__law_draw T) hr (by decide) tk (ra_cons (rv 1) (ra_cons (re_int) (ra_nil)))))) (ra_nil)))) (gn 3 sc_law.nd))) (rs_cons (rs_asg (ps_asg (pubL (v_lc (by decide) (pe_lc rfl sc_law.nd (i_range1 T.n_range (toX (re_int))) (blkOk_by (own := [("_law_k", 12)]) (by kernel_rfl)) (fun _ _ _ _ _ => gn 12 sc_law.nd) (fun _ _ _ _ _ => rts_nil) (fun _ _ _ _ _ => T.f__law_row.q (ok__law_row T) hr (by decide) takes_blk (ra_cons (rv 1) (ra_cons (rv 3) (ra_cons (T.f__law_pick.q (ok__law_pick T) hr (by decide) takes_blk (ra_cons (rv 1) (ra_cons (re_lst (ra_cons (re_int) (ra_cons (re_int) (ra_cons (re_int) (ra_nil))))) (ra_nil)))) (ra_nil)))))))) (g_un rfl rfl (g_cons (gn 4 sc_law.nd) (g_cons (gn 5 sc_law.nd) (g_cons (gn 6 sc_law.nd) (g_nil))))))) (rs_cons (rs_par3 (ps_par3 rfl sc_law.nd rfl rfl rfl (by decide) (by decide) (by decide) rfl rfl rfl (rfs_sh (T.f__law_bound.q (ok__law_bound T) hr (by decide) tk (ra_cons (rv 1) (ra_cons (rv 3) (ra_cons (re_int) (ra_nil))))) (rfs_sh (T.f__law_bound.q (ok__law_bound T) hr (by decide) tk (ra_cons (rv 1) (ra_cons (rv 3) (ra_cons (re_int) (ra_nil))))) (rfs_sh (q_sub (toX (T.f__law_draw.q (ok__law_draw T) hr (by decide) tk (ra_cons (rv 1) (ra_cons (re_int) (ra_nil))))) (toX (re_int))) (rfs_nil)))) rfl)) (rs_cons (rs_asg (ps_asg (T.f_joined.q (ok_joined T) hr (by decide) tk (ra_cons (re_lst (ra_cons (rv 4) (ra_cons (rv 5) (ra_nil)))) (ra_nil))) (gn 10 sc_law.nd))) (rs_cons (rs_if (ps_if (tw (rt_or (t_ne rfl hr (rx 10) (toX (T.f_joined.q (ok_joined T) hr (by decide) tk (ra_cons (re_lst (ra_cons (rv 5) (ra_cons (rv 4) (ra_nil)))) (ra_nil))))) (rt_or (t_ne rfl hr (rx 10) (toX (T.f_joined.q (ok_joined T) hr (by decide) tk (ra_cons (re_lst (ra_cons (rv 4) (ra_cons (rv 5) (ra_cons (rv 4) (ra_nil))))) (ra_nil))))) (pw_or1 (t_ne rfl hr (toX (T.f_later.q (ok_later T) hr (by decide) tk (ra_cons (T.f_later.q (ok_later T) hr (by decide) tk (ra_cons (rv 4) (ra_cons (rv 9) (ra_nil)))) (ra_cons (q_sub (toX (re_int)) (rx 9)) (ra_nil))))) (rx 4)))))) (rs_one (rs_ret (ps_ret (re_bl)))) (rs_nil))) (rs_cons (rs_if (ps_if (tw (rt_or (t_ne rfl hr (toX (T.f_joined.q (ok_joined T) hr (by decide) tk (ra_cons (re_lst (ra_cons (rv 10) (ra_cons (rv 6) (ra_nil)))) (ra_nil)))) (toX (T.f_joined.q (ok_joined T) hr (by decide) tk (ra_cons (re_lst (ra_cons (rv 4) (ra_cons (T.f_joined.q (ok_joined T) hr (by decide) tk (ra_cons (re_lst (ra_cons (rv 5) (ra_cons (rv 6) (ra_nil)))) (ra_nil))) (ra_nil)))) (ra_nil))))) (pw_or1 (t_ne rfl hr (toX (T.f_later.q (ok_later T) hr (by decide) tk (ra_cons (rv 10) (ra_cons (rv 9) (ra_nil))))) (toX (T.f_joined.q (ok_joined T) hr (by decide) tk (ra_cons (re_lst (ra_cons (T.f_later.q (ok_later T) hr (by decide) tk (ra_cons (rv 4) (ra_cons (rv 9) (ra_nil)))) (ra_cons (T.f_later.q (ok_later T) hr (by decide) tk (ra_cons (rv 5) (ra_cons (rv 9) (ra_nil)))) (ra_nil)))) (ra_nil)))))))) (rs_one (rs_ret (ps_ret (re_bl)))) (rs_nil))) (rs_cons (rs_if (ps_if (tw (rt_or (t_ne rfl hr (toX (T.f_is_within.q (ok_is_within T) hr (by decide) tk (ra_cons (rv 4) (ra_cons (rv 5) (ra_nil))))) (toX (q_eq rfl hr (rx 10) (rx 5)))) (pw_or1 (t_ne rfl hr (toX (T.f_is_within.q (ok_is_within T) hr (by decide) tk (ra_cons (rv 10) (ra_cons (rv 7) (ra_nil))))) (toX (re_and (toX (T.f_is_within.q (ok_is_within T) hr (by decide) tk (ra_cons (rv 4) (ra_cons (rv 7) (ra_nil))))) (re_one (T.f_is_within.q (ok_is_within T) hr (by decide) tk (ra_cons (rv 5) (ra_cons (rv 7) (ra_nil))))))))))) (rs_one (rs_ret (ps_ret (re_bl)))) (rs_nil))) (rs_cons (rs_if (ps_if (t_ne rfl hr (toX (T.f_is_within.q (ok_is_within T) hr (by decide) tk (ra_cons (T.f_later.q (ok_later T) hr (by decide) tk (ra_cons (rv 4) (ra_cons (rv 9) (ra_nil)))) (ra_cons (T.f_later.q (ok_later T) hr (by decide) tk (ra_cons (rv 5) (ra_cons (rv 9) (ra_nil)))) (ra_nil))))) (toX (T.f_is_within.q (ok_is_within T) hr (by decide) tk (ra_cons (rv 4) (ra_cons (rv 5) (ra_nil)))))) (rs_one (rs_ret (ps_ret (re_bl)))) (rs_nil))) (rs_cons (rs_if (ps_if (tw (rt_and (rt_val (toX (T.f_is_within.q (ok_is_within T) hr (by decide) tk (ra_cons (rv 4) (ra_cons (rv 7) (ra_nil)))))) (rt_and (rt_val (toX (T.f_is_within.q (ok_is_within T) hr (by decide) tk (ra_cons (rv 7) (ra_cons (rv 8) (ra_nil)))))) (pw_and1 (rt_not (rt_val (toX (T.f_is_within.q (ok_is_within T) hr (by decide) tk (ra_cons (rv 4) (ra_cons (rv 8) (ra_nil))))))))))) (rs_one (rs_ret (ps_ret (re_bl)))) (rs_nil))) (rs_cons (rs_if (ps_if (tw (rt_and (rt_val (toX (T.f_is_within.q (ok_is_within T) hr (by decide) tk (ra_cons (rv 7) (ra_cons (rv 8) (ra_nil)))))) (rt_and (rt_val (toX (T.f_is_within.q (ok_is_within T) hr (by decide) tk (ra_cons (rv 8) (ra_cons (rv 7) (ra_nil)))))) (pw_and1 (t_ne rfl hr (rx 7) (rx 8)))))) (rs_one (rs_ret (ps_ret (re_bl)))) (rs_nil))) (rs_cons (rs_asg (ps_asg (q_tuple rfl T.n_tuple (toX (pubL (v_lc (by decide) (pe_lc rfl sc_law.nd (i_seq rfl (rv 4)) (blkOk_by (own := [("_law_word", 13), ("_law_spot", 14)]) (by kernel_rfl)) (fun _ _ _ _ _ => g_un rfl rfl (g_cons (gn 13 sc_law.nd) (g_cons (gn 14 sc_law.nd) (g_nil)))) (fun _ _ _ _ _ => rts_nil) (fun _ _ _ _ _ => re_tup (ra_cons (rv 13) (ra_cons (re_non) (ra_nil))))))))) (gn 11 sc_law.nd))) (rs_cons (rs_if (ps_if (tw (rt_or (rt_not (rt_val (toX (T.f_is_within.q (ok_is_within T) hr (by decide) tk (ra_cons (rv 4) (ra_cons (rv 11) (ra_nil))))))) (rt_or (t_ne rfl hr (toX (T.f_is_within.q (ok_is_within T) hr (by decide) tk (ra_cons (rv 11) (ra_cons (rv 4) (ra_nil))))) (toX (q_eq rfl hr (rx 4) (toX (re_tup (ra_nil)))))) (pw_or1 (rt_not (rt_val (toX (T.f_is_within.q (ok_is_within T) hr (by decide) tk (ra_cons (re_tup (ra_nil)) (ra_cons (rv 7) (ra_nil))))))))))) (rs_one (rs_ret (ps_ret (re_bl)))) (rs_nil))) (rs_one (rs_if (ps_if (tw (rt_and (rt_val (toX (T.f_is_within.q (ok_is_within T) hr (by decide) tk (ra_cons (rv 7) (ra_cons (rv 4) (ra_nil)))))) (pw_and1 (t_ne rfl hr (toX (pubL (v_lc (by decide) (pe_lc rfl sc_law.nd (i_seq rfl (rv 7)) (blkOk_by (own := [("_law_word", 13), ("_law_spot", 14)]) (by kernel_rfl)) (fun _ _ _ _ _ => g_un rfl rfl (g_cons (gn 13 sc_law.nd) (g_cons (gn 14 sc_law.nd) (g_nil)))) (fun _ _ _ _ _ => pts_one (t_isN (rx 14))) (fun _ _ _ _ _ => rv 13))))) (toX (re_lst (ra_nil))))))) (rs_one (rs_ret (ps_ret (re_bl)))) (rs_nil)))))))))))))))))) (rs_one (rs_ret (ps_ret (re_bl))))
end
section
variable {Pr : Program} {w : World} {K : PySem.W.Frag} {mg : Str → Option Value} {base : Heap}
theorem ok__law_begun (T : Tab K mg) : FnOk Pr w K mg base (CX Pr w) 1 T.f__law_begun.f T.f__law_begun.fd ["_law_script"] (spBegun K) :=
  begun_ok (N := ["_law_script", "_law_cells", "_law_cell"]) T.f__law_begun.F sc__law_begun rfl fun cdv A outer s H E hr =>
    pss_cons (ps_setLc rfl sc__law_begun.nd rfl rfl rfl (pi_list (pv 0)) (blkOk_by (own := [("_law_cell", 2)]) (by kernel_rfl)) (fun _ _ _ _ _ => gn0 2 sc__law_begun.nd) (fun _ _ _ _ _ => pts_nil) (fun _ _ _ _ _ => pe_callB call_abs rfl T.n_abs (by decide +kernel) (pa_cons (pv 2) pa_nil)))
      (pss_one (ps_ret (pe_disp (pps_cons pe_str (pe_lc rfl sc__law_begun.nd (pi_list (pv 1)) (blkOk_by (own := [("_law_cell", 2)]) (by kernel_rfl)) (fun _ _ _ _ _ => gn0 2 sc__law_begun.nd) (fun _ _ _ _ _ => pts_one (pt_cmpR op_ge (pv 2) (pe_op op_pow pe_int pe_int) (nomark _))) (fun _ _ _ _ _ => pe_op op_sub (pv 2) (pe_op op_pow pe_int pe_int)))
        (pps_cons pe_str (pv 1) (pps_cons pe_str pe_int (pps_cons pe_str pe_int pps_nil)))) rfl rfl (by exact fun z => nomatch z) (by decide))))
theorem ok_law (T : Tab K mg) (ct : Nat → Addr) (plain : ∀ ns : List Int, ns.length ≤ 63 → ∃ g, b_law ((init 15 [.scr ns]).set 1 (some (.sh .st))) (begun ns) = .rt (.bl true) g) : FnOk Pr w K mg base (CX Pr w) 8 T.f_law.f T.f_law.fd ["_law_script"] (spLaw K) :=
  law_ok (ct := ct) (i := 1) (N := ["_law_script", "_law_state", "_law_turn", "_law_words_here", "_law_one", "_law_two", "_law_three", "_law_top", "_law_next_top", "_law_num", "_law_both", "_law_free", "_law_k", "_law_word", "_law_spot"]) T.f_law.F sc_law (by decide) (by decide) plain fun cdv A outer s H E hr tk =>
    pss_cons (ps_asg (pe_callS (ok__law_begun T) (hr.mono (by decide)) rfl T.f__law_begun.m T.f__law_begun.F.kp T.f__law_begun.b (fun σ => passAt tk σ) (pa_cons (pv 0) pa_nil)) (gn0 1 sc_law.nd))
      (pss_ex fun sa la ca => rest_law (c := ⟨K, sa, la, ca, ct⟩) T cdv A outer s H E hr tk)
theorem bd__law_begun (kV doc pm : Value) (an : Option Addr) (cdv ct : Value) (us : List Value) (h : us.length = (["_law_script"] : List Str).length) : bindArgs (PySem.W.fnOf "_law_begun" "_law_begun" (defArgs st__law_begun) (defBody st__law_begun) (defScope st__law_begun) .none kV doc pm an cdv ct) ⟨us, []⟩ = pure ((["_law_script"] : List Str).zip us) :=
  match us, h with | [_], _ => rfl
theorem bd__law_draw (kV doc pm : Value) (an : Option Addr) (cdv ct : Value) (us : List Value) (h : us.length = (["_law_state", "_law_size"] : List Str).length) : bindArgs (PySem.W.fnOf "_law_draw" "_law_draw" (defArgs st__law_draw) (defBody st__law_draw) (defScope st__law_draw) .none kV doc pm an cdv ct) ⟨us, []⟩ = pure ((["_law_state", "_law_size"] : List Str).zip us) :=
  match us, h with | [_, _], _ => rfl
theorem bd__law_pick (kV doc pm : Value) (an : Option Addr) (cdv ct : Value) (us : List Value) (h : us.length = (["_law_state", "_law_several"] : List Str).length) : bindArgs (PySem.W.fnOf "_law_pick" "_law_pick" (defArgs st__law_pick) (defBody st__law_pick) (defScope st__law_pick) .none kV doc pm an cdv ct) ⟨us, []⟩ = pure ((["_law_state", "_law_several"] : List Str).zip us) :=
  match us, h with | [_, _], _ => rfl
theorem bd__law_words (kV doc pm : Value) (an : Option Addr) (cdv ct : Value) (us : List Value) (h : us.length = (["_law_state", "_law_many"] : List Str).length) : bindArgs (PySem.W.fnOf "_law_words" "_law_words" (defArgs st__law_words) (defBody st__law_words) (defScope st__law_words) .none kV doc pm an cdv ct) ⟨us, []⟩ = pure ((["_law_state", "_law_many"] : List Str).zip us) :=
  match us, h with | [_, _], _ => rfl
theorem bd_join_of (kV doc pm : Value) (an : Option Addr) (cdv ct : Value) (us : List Value) (h : us.length = (["plans"] : List Str).length) : bindArgs (PySem.W.fnOf "join_of" "join_of" (defArgs st_join_of) (defBody st_join_of) (defScope st_join_of) .none kV doc pm an cdv ct) ⟨us, []⟩ = pure ((["plans"] : List Str).zip us) :=
  match us, h with | [_], _ => rfl
theorem bd_is_list (kV doc pm : Value) (an : Option Addr) (cdv ct : Value) (us : List Value) (h : us.length = (["thing"] : List Str).length) : bindArgs (PySem.W.fnOf "is_list" "is_list" (defArgs st_is_list) (defBody st_is_list) (defScope st_is_list) .none kV doc pm an cdv ct) ⟨us, []⟩ = pure ((["thing"] : List Str).zip us) :=
  match us, h with | [_], _ => rfl
theorem bd_is_name (kV doc pm : Value) (an : Option Addr) (cdv ct : Value) (us : List Value) (h : us.length = (["thing"] : List Str).length) : bindArgs (PySem.W.fnOf "is_name" "is_name" (defArgs st_is_name) (defBody st_is_name) (defScope st_is_name) .none kV doc pm an cdv ct) ⟨us, []⟩ = pure ((["thing"] : List Str).zip us) :=
  match us, h with | [_], _ => rfl
theorem bd_is_number (kV doc pm : Value) (an : Option Addr) (cdv ct : Value) (us : List Value) (h : us.length = (["thing"] : List Str).length) : bindArgs (PySem.W.fnOf "is_number" "is_number" (defArgs st_is_number) (defBody st_is_number) (defScope st_is_number) .none kV doc pm an cdv ct) ⟨us, []⟩ = pure ((["thing"] : List Str).zip us) :=
  match us, h with | [_], _ => rfl
theorem bd_is_end (kV doc pm : Value) (an : Option Addr) (cdv ct : Value) (us : List Value) (h : us.length = (["thing"] : List Str).length) : bindArgs (PySem.W.fnOf "is_end" "is_end" (defArgs st_is_end) (defBody st_is_end) (defScope st_is_end) .none kV doc pm an cdv ct) ⟨us, []⟩ = pure ((["thing"] : List Str).zip us) :=
  match us, h with | [_], _ => rfl
theorem bd_is_pair (kV doc pm : Value) (an : Option Addr) (cdv ct : Value) (us : List Value) (h : us.length = (["thing"] : List Str).length) : bindArgs (PySem.W.fnOf "is_pair" "is_pair" (defArgs st_is_pair) (defBody st_is_pair) (defScope st_is_pair) .none kV doc pm an cdv ct) ⟨us, []⟩ = pure ((["thing"] : List Str).zip us) :=
  match us, h with | [_], _ => rfl
theorem bd_is_limit (kV doc pm : Value) (an : Option Addr) (cdv ct : Value) (us : List Value) (h : us.length = (["thing"] : List Str).length) : bindArgs (PySem.W.fnOf "is_limit" "is_limit" (defArgs st_is_limit) (defBody st_is_limit) (defScope st_is_limit) .none kV doc pm an cdv ct) ⟨us, []⟩ = pure ((["thing"] : List Str).zip us) :=
  match us, h with | [_], _ => rfl
theorem bd_are_pairs (kV doc pm : Value) (an : Option Addr) (cdv ct : Value) (us : List Value) (h : us.length = (["thing"] : List Str).length) : bindArgs (PySem.W.fnOf "are_pairs" "are_pairs" (defArgs st_are_pairs) (defBody st_are_pairs) (defScope st_are_pairs) .none kV doc pm an cdv ct) ⟨us, []⟩ = pure ((["thing"] : List Str).zip us) :=
  match us, h with | [_], _ => rfl
theorem bd_joined (kV doc pm : Value) (an : Option Addr) (cdv ct : Value) (us : List Value) (h : us.length = (["plans"] : List Str).length) : bindArgs (PySem.W.fnOf "joined" "joined" (defArgs st_joined) (defBody st_joined) (defScope st_joined) .none kV doc pm an cdv ct) ⟨us, []⟩ = pure ((["plans"] : List Str).zip us) :=
  match us, h with | [_], _ => rfl
theorem bd__law_row (kV doc pm : Value) (an : Option Addr) (cdv ct : Value) (us : List Value) (h : us.length = (["_law_state", "_law_words_here", "_law_wide"] : List Str).length) : bindArgs (PySem.W.fnOf "_law_row" "_law_row" (defArgs st__law_row) (defBody st__law_row) (defScope st__law_row) .none kV doc pm an cdv ct) ⟨us, []⟩ = pure ((["_law_state", "_law_words_here", "_law_wide"] : List Str).zip us) :=
  match us, h with | [_, _, _], _ => rfl
theorem bd__law_bound (kV doc pm : Value) (an : Option Addr) (cdv ct : Value) (us : List Value) (h : us.length = (["_law_state", "_law_words_here", "_law_wide"] : List Str).length) : bindArgs (PySem.W.fnOf "_law_bound" "_law_bound" (defArgs st__law_bound) (defBody st__law_bound) (defScope st__law_bound) .none kV doc pm an cdv ct) ⟨us, []⟩ = pure ((["_law_state", "_law_words_here", "_law_wide"] : List Str).zip us) :=
  match us, h with | [_, _, _], _ => rfl
theorem bd_need_limit (kV doc pm : Value) (an : Option Addr) (cdv ct : Value) (us : List Value) (h : us.length = (["limit"] : List Str).length) : bindArgs (PySem.W.fnOf "need_limit" "need_limit" (defArgs st_need_limit) (defBody st_need_limit) (defScope st_need_limit) .none kV doc pm an cdv ct) ⟨us, []⟩ = pure ((["limit"] : List Str).zip us) :=
  match us, h with | [_], _ => rfl
theorem bd_is_in (kV doc pm : Value) (an : Option Addr) (cdv ct : Value) (us : List Value) (h : us.length = (["one", "other"] : List Str).length) : bindArgs (PySem.W.fnOf "is_in" "is_in" (defArgs st_is_in) (defBody st_is_in) (defScope st_is_in) .none kV doc pm an cdv ct) ⟨us, []⟩ = pure ((["one", "other"] : List Str).zip us) :=
  match us, h with | [_, _], _ => rfl
theorem bd_is_within (kV doc pm : Value) (an : Option Addr) (cdv ct : Value) (us : List Value) (h : us.length = (["one", "other"] : List Str).length) : bindArgs (PySem.W.fnOf "is_within" "is_within" (defArgs st_is_within) (defBody st_is_within) (defScope st_is_within) .none kV doc pm an cdv ct) ⟨us, []⟩ = pure ((["one", "other"] : List Str).zip us) :=
  match us, h with | [_, _], _ => rfl
theorem bd_need_plan (kV doc pm : Value) (an : Option Addr) (cdv ct : Value) (us : List Value) (h : us.length = (["plan"] : List Str).length) : bindArgs (PySem.W.fnOf "need_plan" "need_plan" (defArgs st_need_plan) (defBody st_need_plan) (defScope st_need_plan) .none kV doc pm an cdv ct) ⟨us, []⟩ = pure ((["plan"] : List Str).zip us) :=
  match us, h with | [_], _ => rfl
theorem bd_need_number (kV doc pm : Value) (an : Option Addr) (cdv ct : Value) (us : List Value) (h : us.length = (["number"] : List Str).length) : bindArgs (PySem.W.fnOf "need_number" "need_number" (defArgs st_need_number) (defBody st_need_number) (defScope st_need_number) .none kV doc pm an cdv ct) ⟨us, []⟩ = pure ((["number"] : List Str).zip us) :=
  match us, h with | [_], _ => rfl
theorem bd_put_by (kV doc pm : Value) (an : Option Addr) (cdv ct : Value) (us : List Value) (h : us.length = (["plan", "number"] : List Str).length) : bindArgs (PySem.W.fnOf "put_by" "put_by" (defArgs st_put_by) (defBody st_put_by) (defScope st_put_by) .none kV doc pm an cdv ct) ⟨us, []⟩ = pure ((["plan", "number"] : List Str).zip us) :=
  match us, h with | [_, _], _ => rfl
theorem bd_later (kV doc pm : Value) (an : Option Addr) (cdv ct : Value) (us : List Value) (h : us.length = (["plan", "number"] : List Str).length) : bindArgs (PySem.W.fnOf "later" "later" (defArgs st_later) (defBody st_later) (defScope st_later) .none kV doc pm an cdv ct) ⟨us, []⟩ = pure ((["plan", "number"] : List Str).zip us) :=
  match us, h with | [_, _], _ => rfl
theorem bd_law (kV doc pm : Value) (an : Option Addr) (cdv ct : Value) (us : List Value) (h : us.length = (["_law_script"] : List Str).length) : bindArgs (PySem.W.fnOf "law" "law" (defArgs st_law) (defBody st_law) (defScope st_law) .none kV doc pm an cdv ct) ⟨us, []⟩ = pure ((["_law_script"] : List Str).zip us) :=
  match us, h with | [_], _ => rfl
theorem all_mk (T : Tab K mg) {fa : Addr} (hfa : mg "law" = some (.ref fa)) (plain : ∀ ns : List Int, ns.length ≤ 63 → ∃ g, b_law ((init 15 [.scr ns]).set 1 (some (.sh .st))) (begun ns) = .rt (.bl true) g) :
    ∃ fd : FuncData, (∀ (s : Shared) (v : Value), BindsTo s fd ⟨[v], []⟩ [("_law_script", v)]) ∧ ∀ base : Heap, K.In base → base.Ns mainGlobals mg → FnOk Pr w K mg base (CX Pr w) 8 fa fd ["_law_script"] (spLaw K) := by
  have e := hfa.symm.trans T.f_law.m
  cases e
  refine ⟨T.f_law.fd, fun s v => ?_, fun base _ _ => ok_law T (fun _ => 0) plain⟩
  obtain ⟨oc, od, kV, doc, pm, an, cdv, ct, osl, e, lk, hcd⟩ := T.f_law.F.ex
  rw [e]
  exact .of_eq rfl
end
end T
end CP

/-! PLDraw: what a draw gives. -/
namespace CP
open PySem L2 T

/-- the source of draws behind at most n turns -/
structure Gk (n : Nat) (g : G) : Prop where
  rest : 0 ≤ g.rest
  large : ∀ x ∈ g.large, 0 ≤ x
  len : g.large.length ≤ 63
  t0 : 0 ≤ g.turn
  tn : g.turn ≤ n
theorem Gk.mono {n m : Nat} {g : G} (h : Gk n g) (l : n ≤ m) : Gk m g := ⟨h.rest, h.large, h.len, h.t0, by have := h.tn; omega⟩
theorem x_st {ρ : Rho} {g g1 g2 : G} {u : G → Int → G} {f h : SE} {n : Int} (a : h ρ g = .ok (.int n) g1) (b : f ρ g1 = .ok .st g2) : sSt u f h ρ g = .nx ρ (u g2 n) := by
  unfold sSt; rw [a]; show toFl ρ (f ρ g1) _ = _; rw [b]; rfl
theorem pMod_ok {i j : Int} (h : 0 < j) : pMod (.int i) (.int j) = some (.int (i % j)) := if_pos h
theorem pDiv_ok {i j : Int} (h : 0 < j) (h2 : j < 1073741824) : pDiv (.int i) (.int j) = some (.int (i / j)) := if_pos ⟨h, h2⟩
theorem pMul_ok {i j : Int} (h : -(2 ^ 64) < i ∧ i < 2 ^ 64) : pMul (.int i) (.int j) = some (.int (i * j)) := if_pos (.inl h)
theorem pPow_ok {i j : Int} (h : 0 ≤ j) (h1 : j ≤ 1000000) (h2 : i.natAbs < 2 ^ 64) : pPow (.int i) (.int j) = some (.int (i ^ j.toNat)) := if_pos ⟨h, h1, h2⟩
theorem pEq_int (i j : Int) : pEq (.int i) (.int j) = some (.bl (decide (i = j))) := by
  show some (D.bl (i == j)) = _
  rw [Bool.beq_eq_decide_eq]
theorem pNe_int (i j : Int) : pNe (.int i) (.int j) = some (.bl (!decide (i = j))) := by
  show some (D.bl (!(i == j))) = _
  rw [Bool.beq_eq_decide_eq]
theorem pNe_cells (ns : List Int) : pNe (.lst (ns.map D.int)) (.lst []) = some (.bl (!ns.isEmpty)) := by
  unfold pNe
  rw [okD_ints]
  show some (D.bl (!PyData.eqv (toPy (.lst (ns.map D.int))) (toPy (.lst [])))) = _
  rw [eqv_nil]
theorem atI_ok {α : Type} {xs : List α} {i : Int} (h0 : 0 ≤ i) (h1 : i < xs.length) : ∃ x, atI xs i = some x ∧ x ∈ xs := by
  unfold atI ixN
  rw [if_pos h0, if_pos h1]
  have hl : i.toNat < xs.length := by omega
  exact ⟨xs[i.toNat], by show xs[i.toNat]? = _; exact List.getElem?_eq_getElem hl, List.getElem_mem hl⟩

/-! ### _law_draw -/
def drT : ST := tAndF (toB (e2 pEq (eRest (eAny 0)) (eC (.int 0)))) (tLne (eAny 0))
def drB : SS := sRest (eAny 0) (ePop (eAny 0))
theorem drain_ok {n : Nat} (ρ : Rho) (hρ : ρ[0]? = some (some (.sh .st))) : ∀ (m : Nat) (g : G), g.large.length < m → Gk n g → ∃ g', whileL drT drB m ρ g = .nx ρ g' ∧ Gk n g' ∧ g'.turn = g.turn
  | 0, g, h, _ => by omega
  | m + 1, g, h, k => by
    have e0 : eAny 0 ρ g = .ok .st g := by unfold eAny; rw [hρ]
    have eR : eRest (eAny 0) ρ g = .ok (.int g.rest) g := by unfold eRest eSt; rw [e0]; rfl
    have et : drT ρ g = .ok (decide (g.rest = 0) && !g.large.isEmpty) g := by
      unfold drT
      refine x_and (x_toB (x_e2 eR rfl (pEq_int _ _))) ?_
      unfold tLne
      rw [e0]
      rfl
    unfold whileL
    rw [et]
    cases hb : decide (g.rest = 0) && !g.large.isEmpty with
    | false => exact ⟨g, rfl, k, rfl⟩
    | true =>
      show ∃ g', (match drB ρ g with
        | .nx ρ2 g2 => whileL drT drB m ρ2 g2
        | .ct ρ2 g2 => whileL drT drB m ρ2 g2
        | .bk ρ2 g2 => Fl.nx ρ2 g2
        | .rt d g2 => .rt d g2
        | .ex ρ2 x g2 => .ex ρ2 x g2
        | .fail => .fail) = .nx ρ g' ∧ Gk n g' ∧ g'.turn = g.turn
      cases hl : g.large with
      | nil => rw [hl] at hb; simp at hb
      | cons x l =>
        have eb : drB ρ g = .nx ρ { g with large := l, rest := x } := by
          have ep : ePop (eAny 0) ρ g = .ok (.int x) { g with large := l } := by
            unfold ePop
            rw [e0]
            show (match g.large with | n :: l => Res.ok (D.int n) { g with large := l } | [] => .fail) = _
            rw [hl]
          unfold drB sRest sSt
          rw [ep]
          show toFl ρ (eAny 0 ρ { g with large := l }) _ = _
          have e1 : eAny 0 ρ { g with large := l } = .ok .st { g with large := l } := by unfold eAny; rw [hρ]
          rw [e1]
          rfl
        rw [eb]
        have k' : Gk n { g with large := l, rest := x } := ⟨k.large x (by rw [hl]; exact List.mem_cons_self), fun y hy => k.large y (by rw [hl]; exact List.mem_cons_of_mem _ hy), by have := k.len; rw [hl] at this; simp at this; show l.length ≤ 63; omega, k.t0, k.tn⟩
        obtain ⟨g', h1, h2, h3⟩ := drain_ok ρ hρ m { g with large := l, rest := x } (by rw [hl] at h; simp at h; exact h) k'
        exact ⟨g', h1, h2, h3⟩
theorem draw_ok {n : Nat} {k : Int} {g : G} (h : Gk n g) (hn : n < 2 ^ 39) (h0 : 0 < k) (h1 : k < 1073741824) : ∃ r g', f__law_draw [.st, .int k] g = .ok (.int r) g' ∧ 0 ≤ r ∧ r < k ∧ Gk (n + 1) g' := by
  obtain ⟨g1, ew, k1, t1⟩ := drain_ok (n := n) [some (.sh .st), some (.sh (.int k)), none, none, none, none] rfl 100 g (by have := h.len; omega) h
  by_cases hr : 0 < g1.rest
  · refine ⟨g1.rest % k, { g1 with rest := g1.rest / k }, ?_, Int.emod_nonneg _ (by omega), Int.emod_lt_of_pos _ h0, ?_⟩
    · refine x_run (x_seq ew (x_seqR (x_ifT (x_toB (x_e2 rfl rfl ?_)) (x_seq (x_asg (x_e2 (x_e1 rfl rfl) rfl (pMod_ok h0)) rfl) (x_seq (x_st (x_e2 rfl rfl (pDiv_ok h0 h1)) rfl) (x_ret rfl))))))
      · show some (D.bl (decide (0 < g1.rest))) = _
        rw [decide_eq_true hr]
    · exact ⟨Int.ediv_nonneg k1.rest (by omega), k1.large, k1.len, k1.t0, by have := k1.tn; show g1.turn ≤ _; omega⟩
  · have hz : g1.rest = 0 := by have := k1.rest; omega
    let g2 : G := { g1 with turn := g1.turn + 1 }
    have tb : 0 ≤ g2.turn ∧ g2.turn < 2 ^ 40 := by
      have := k1.t0; have := k1.tn
      show 0 ≤ g1.turn + 1 ∧ g1.turn + 1 < 2 ^ 40
      omega
    let ρ3 : Rho := [some (.sh .st), some (.sh (.int k)), none, some (.sh (.int g2.turn)), none, none]
    -- the cell
    have hc : ∃ c : Int, eIf (toB (e2 pNe (eCells (eAny 0)) (eLst (aNil)))) (e2 pSubs (eCells (eAny 0)) (e2 pMod (e1 pInt (eAny 3)) (e1 pLen (eCells (eAny 0))))) (eC (.int 0)) ρ3 g2 = .ok (.int c) g2 := by
      cases he : g2.cells with
      | nil =>
        refine ⟨0, x_eIfF (x_toB (x_e2 (x := .lst (g2.cells.map D.int)) (y := .lst []) rfl rfl ?_)) rfl⟩
        rw [pNe_cells, he]
        rfl
      | cons c0 cs =>
        have lp : (0 : Int) < (g2.cells.map D.int).length := by rw [List.length_map, he, List.length_cons]; omega
        obtain ⟨d, hd, hm⟩ := atI_ok (xs := g2.cells.map D.int) (i := g2.turn % ((g2.cells.map D.int).length : Int)) (Int.emod_nonneg _ (by omega)) (Int.emod_lt_of_pos _ lp)
        obtain ⟨c, _, rfl⟩ := List.mem_map.mp hm
        refine ⟨c, x_eIfT (x_toB (x_e2 (x := .lst (g2.cells.map D.int)) (y := .lst []) rfl rfl ?_)) (x_e2 (x := .lst (g2.cells.map D.int)) rfl (x_e2 (x_e1 rfl rfl) (x_e1 (x := .lst (g2.cells.map D.int)) rfl rfl) (pMod_ok lp)) hd)⟩
        rw [pNe_cells, he]
        rfl
    obtain ⟨c, hc⟩ := hc
    have m1 := Int.emod_nonneg c (show (2147483629 : Int) ≠ 0 by decide)
    have m2 := Int.emod_lt_of_pos c (show (0 : Int) < 2147483629 by decide)
    have p1 : (c % 2147483629 + 48271 * g2.turn + 13579).natAbs < 2 ^ 64 := by omega
    let mx : Int := (c % 2147483629 + 48271 * g2.turn + 13579) ^ (3 : Int).toNat % 2147483647
    have n1 : 0 ≤ mx := Int.emod_nonneg _ (by decide)
    have n2 : mx < 2147483647 := Int.emod_lt_of_pos _ (by decide)
    have p2 : (mx + 99991 * g2.turn).natAbs < 2 ^ 64 := by omega
    refine ⟨(((mx + 99991 * g2.turn) ^ (5 : Int).toNat) % 2147483587 / 23) % k, g2, ?_, Int.emod_nonneg _ (by omega), Int.emod_lt_of_pos _ h0, ?_⟩
    · refine x_run (x_seq ew (x_seq (x_ifF (x_toB (x_e2 rfl rfl ?_)) rfl) (x_seq (x_asg (x_e2 rfl rfl rfl) rfl) (x_seq (ρ1 := ρ3) (g1 := g2) rfl (x_seq (x_asg hc rfl) (x_seq (x_asg (x_e2 (x_e1 (x_e2 (x_e2 (x_e2 (x_e2 (x_e1 rfl rfl) rfl (pMod_ok (by decide))) (x_e2 rfl rfl (pMul_ok (by decide))) rfl) rfl rfl) rfl (pPow_ok (by decide) (by decide) p1)) rfl) rfl (pMod_ok (by decide))) rfl) ?_))))))
      · show some (D.bl (decide (0 < g1.rest))) = _
        rw [decide_eq_false hr]
      · exact x_ret (x_e2 (x_e1 (x_e2 (x_e2 (x_e1 (x_e2 (x_e2 rfl (x_e2 rfl rfl (pMul_ok (by decide))) rfl) rfl (pPow_ok (by decide) (by decide) p2)) rfl) rfl (pMod_ok (by decide))) rfl (pDiv_ok (by decide) (by decide))) rfl) rfl (pMod_ok h0))
    · exact ⟨k1.rest, k1.large, k1.len, by show 0 ≤ g1.turn + 1; have := k1.t0; omega, by show g1.turn + 1 ≤ ((n + 1 : Nat) : Int); have := k1.tn; omega⟩
end CP

/-! PLFns: what the functions of moments are worth. -/
namespace CP
open PySem L2 T

theorem is_number_int (i : Int) (g : G) : f_is_number [.int i] g = .ok (.bl true) g := rfl
theorem is_end_ok (m : Option Int) (g : G) : f_is_end [dE m] g = .ok (.bl true) g := by cases m <;> rfl
theorem is_name_ok {x : Str} (h : Nm x) (g : G) : f_is_name [.str x] g = .ok (.bl true) g := by
  have h1 := h.pos
  have h2 := h.six
  refine x_run (x_seq (x_ifF (x_orF (x_not (b := true) (x_toB (x_e1 rfl rfl))) (x_orF (x_toB (x_e2 (x_e1 rfl rfl) rfl ?_)) (x_toB (x_e2 (x_e1 rfl rfl) rfl ?_)))) rfl) (x_ret (x_e1 (x_fLst (x_eLc (x_seqI rfl rfl) (lc_map (fun n => D.str ⟨#[n]⟩) (fun n => D.bl (decide (n ∈ tx abc))) (tx x) fun n hn => ⟨_, rfl, rfl⟩) ?_)) ?_)))
  · show some (D.bl (decide ((x.cps.size : Int) < 1))) = _
    rw [decide_eq_false (by omega)]
  · show some (D.bl (decide ((6 : Int) < x.cps.size))) = _
    rw [decide_eq_false (by omega)]
  · rw [List.length_map]
    show x.cps.toList.length ≤ _
    rw [Array.length_toList]
    omega
  · rw [pAll_map, show (tx x).all (fun n => decide (n ∈ tx abc)) = true from List.all_eq_true.mpr fun n hn => decide_eq_true (h.let_ n hn)]
theorem is_pair_ok {x : Str × Option Int} (h : Nm x.1) (g : G) : f_is_pair [dP x] g = .ok (.bl true) g :=
  x_run (x_ret (x_eAnd (a := true) (b := true) (x_e1 rfl rfl) fun _ => x_eAnd (a := true) (b := true) (x_e2 (x_e1 rfl rfl) rfl rfl) fun _ =>
    x_eAnd (a := true) (b := true) (x_call (x_cons (x_e2 rfl rfl rfl) rfl) rfl (is_name_ok h g)) fun _ => x_call (x_cons (x_e2 rfl rfl rfl) rfl) rfl (is_end_ok x.2 g)))
/-- a limit: names in order -/
structure Lk (L : Lm) : Prop where
  srt : Srt L
  nm : ∀ x ∈ L, Nm x.1
  len : L.length ≤ 1000
theorem zip_adj {α : Type} : ∀ {L : List (Str × α)}, Srt L → ∀ z ∈ L.zip (L.drop 1), lt z.1.1 z.2.1
  | [], _, z, h => by simp at h
  | [x], _, z, h => by simp at h
  | x :: y :: L, s, z, h => by
    rw [List.drop_one, List.tail_cons, List.zip_cons_cons] at h
    rcases List.mem_cons.mp h with rfl | h
    · exact s.head y List.mem_cons_self
    · exact zip_adj s.tail z (by rw [List.drop_one, List.tail_cons]; exact h)
theorem zipD_map {α : Type} (e : α → D) : ∀ (xs ys : List α), zipD (xs.map e) (ys.map e) = (xs.zip ys).map fun z => D.tup [e z.1, e z.2]
  | [], _ => by simp [zipD]
  | _ :: _, [] => by simp [zipD]
  | x :: xs, y :: ys => by rw [List.map_cons, List.map_cons, zipD, zipD_map e xs ys, List.zip_cons_cons, List.map_cons]
theorem cut_one {α : Type} (xs : List α) : cutD xs (some 1) none = xs.drop 1 := by
  unfold cutD
  rw [show HT.sIx xs.length 0 (some 1) = min 1 xs.length from HT.sIx_nat xs.length 0 1, HT.sIx_none]
  cases xs with
  | nil => rfl
  | cons x r =>
    rw [List.length_cons, show min 1 (r.length + 1) = 1 by omega]
    show List.take (r.length + 1 - 1) r = r
    rw [Nat.add_sub_cancel, List.take_length]
theorem pLt_str {x y : Str} (h : lt x y) : pLt (.str x) (.str y) = some (.bl true) := by
  show some (D.bl (decide (x.cps.toList < y.cps.toList))) = _
  rw [decide_eq_true (show x.cps.toList < y.cps.toList from h)]
theorem x_zip {ρ : Rho} {g g1 g2 : G} {f h : SE} {x y : D} {ds : List D} (a : f ρ g = .ok x g1) (b : h ρ g1 = .ok y g2) (e : zipped x y = some ds) : iZip2 f h ρ g = .ok ds g2 := by
  unfold iZip2; rw [a]; show (h ρ g1).bind _ = _; rw [b]; show ofOpt (zipped x y) g2 = _; rw [e]; rfl
theorem x_sl {ρ : Rho} {g g1 g2 g3 : G} {p : PSl} {f : SE} {l u : SO} {x d : D} {i j : Option Int} (a : f ρ g = .ok x g1) (b : l ρ g1 = .ok i g2) (c : u ρ g2 = .ok j g3) (e : p x i j = some d) : eSl p f l u ρ g = .ok d g3 := by
  unfold eSl; rw [a]; show (l ρ g1).bind _ = _; rw [b]; show (u ρ g2).bind _ = _; rw [c]; show ofOpt (p x i j) g3 = _; rw [e]; rfl
theorem is_limit_ok {L : Lm} (h : Lk L) (g : G) : f_is_limit [dL L] g = .ok (.bl true) g := by
  refine x_run (x_seq (x_ifF (x_orF (x_not (b := true) (x_toB (x_e1 rfl rfl))) (x_not (b := true) (x_toB (x_e1 (x_fLst (x_eLc (x_seqI rfl rfl) (lc_map dP (fun _ => .bl true) L fun x hx => ⟨_, rfl, x_call rfl rfl (is_pair_ok (h.nm x hx) g)⟩) ?_)) (pAll_true L))))) rfl) (x_ret (x_e1 (x_fLst (x_eLc (x_zip rfl (x_sl rfl rfl rfl rfl) rfl) ?_ ?_)) (pAll_true (L.zip (L.drop 1))))))
  · rw [List.length_map]; have := h.len; omega
  · rw [cut_one, ← List.map_drop, zipD_map]
    exact lc_map _ (fun _ => .bl true) _ fun z hz => ⟨_, rfl, x_e2 (x_e2 rfl rfl rfl) (x_e2 rfl rfl rfl) (pLt_str (zip_adj h.srt z hz))⟩
  · rw [List.length_map, List.length_zip]; have := h.len; omega
/-- a plan -/
structure Pk (p : Pn) : Prop where
  srt : Srt p
  nm : ∀ x ∈ p, Nm x.1
  len : p.length ≤ 1000
theorem Pk.lk {p : Pn} (h : Pk p) : Lk (up p) := ⟨h.srt.up, fun x hx => by
  unfold up at hx
  obtain ⟨y, hy, rfl⟩ := List.mem_map.mp hx
  exact h.nm y hy, by unfold up; rw [List.length_map]; exact h.len⟩
theorem are_pairs_ok {p : Pn} (h : Pk p) (g : G) : f_are_pairs [dPl p] g = .ok (.bl true) g := by
  refine x_run (x_ret (x_eAnd (a := true) (b := true) (x_call rfl rfl (is_limit_ok h.lk g)) fun _ => x_e1 (x_fLst (x_eLc (x_seqI rfl rfl) (?_ : _ = Res.ok (p.map fun _ => .bl true) g) ?_)) (pAll_true p)))
  · unfold up
    rw [List.map_map]
    exact lc_map _ (fun _ => .bl true) p fun x _ => ⟨_, rfl, rfl⟩
  · rw [List.length_map]; have := h.len; omega
theorem need_plan_ok {p : Pn} (h : Pk p) (g : G) : f_need_plan [dPl p] g = .ok .non g := x_runN (x_ifF (x_not (b := true) (x_toB (x_call rfl rfl (are_pairs_ok h g)))) rfl)
theorem need_limit_ok {L : Lm} (h : Lk L) (g : G) : f_need_limit [dL L] g = .ok .non g := x_runN (x_ifF (x_not (b := true) (x_toB (x_call rfl rfl (is_limit_ok h g)))) rfl)
theorem need_number_ok (i : Int) (g : G) : f_need_number [.int i] g = .ok .non g := rfl
theorem put_by_ok {p : Pn} (h : Pk p) (n : Int) (g : G) : f_put_by [dPl p, .int n] g = .ok (dPl (putBy p n)) g := by
  refine x_run (x_ret (x_e1 (x_fLst (x_eLc (x_seqI rfl rfl) (?_ : _ = Res.ok (p.map fun x => dP (x.1, some (x.2 + n))) g) ?_)) ?_))
  · unfold up
    rw [List.map_map]
    refine lc_map _ (fun x => dP (x.1, some (x.2 + n))) p fun x _ => ?_
    exact ⟨_, rfl, rfl⟩
  · rw [List.length_map]; have := h.len; omega
  · show some (D.tup _) = some (D.tup _)
    unfold up putBy
    rw [List.map_map, List.map_map]
    rfl
theorem Pk.putBy {p : Pn} (h : Pk p) (n : Int) : Pk (putBy p n) := ⟨h.srt.putBy n, fun x hx => by
  unfold CP.putBy at hx
  obtain ⟨y, hy, rfl⟩ := List.mem_map.mp hx
  exact h.nm y hy, by unfold CP.putBy; rw [List.length_map]; exact h.len⟩
theorem later_ok {p : Pn} (h : Pk p) (n : Int) (g : G) : f_later [dPl p, .int n] g = .ok (dPl (putBy p n)) g :=
  x_run (x_seq (x_expr (x_call rfl rfl (need_plan_ok h g))) (x_seq (x_expr (x_call rfl rfl (need_number_ok n g))) (x_ret (x_call rfl rfl (put_by_ok h n g)))))

/-! ### joins -/
theorem x_get {ρ : Rho} {g g1 g2 g3 : G} {a b z : SE} {kvs : List (Key × D)} {y w d : D} (h1 : a ρ g = .ok (.dic kvs) g1) (h2 : b ρ g1 = .ok y g2) (h3 : z ρ g2 = .ok w g3) (e : pGet (.dic kvs) y w = some d) : eGet2 a b z ρ g = .ok d g3 := by
  unfold eGet2; rw [h1]; show (b ρ g1).bind _ = _; rw [h2]; show (z ρ g2).bind _ = _; rw [h3]; show ofOpt (pGet (.dic kvs) y w) g3 = _; rw [e]; rfl
theorem x_put {ρ : Rho} {g g1 g2 : G} {i : Nat} {fk fv : SE} {kvs : List (Key × D)} {d y : D} {k : Key} (h1 : fv ρ g = .ok d g1) (e : ρ[i]? = some (some (.od kvs))) (h2 : fk ρ g1 = .ok y g2) (hk : keyOf y = some k) (l : kvs.length ≤ 100000) :
    sPut i fk fv ρ g = .nx (ρ.set i (some (.od (putD kvs k d)))) g2 := by
  unfold sPut; rw [h1]
  show (match ρ[i]? with | some (some (.od kvs)) => _ | _ => _) = _
  rw [e]
  show toFl ρ (fk ρ g1) _ = _
  rw [h2]
  show (match keyOf y with | some k => _ | none => _) = _
  rw [hk]
  show (if kvs.length ≤ 100000 then _ else _) = _
  rw [if_pos l]
def jB : SS := sPut 1 (eAny 3) (e2 pMax (eGet2 (eAny 1) (eAny 3) (eVar 4)) (eAny 4))
def jP : Pt := pUn 2 (pCons (pName 3) (pCons (pName 4) (pNil)))
theorem join_in {a b : Option Sl} (g : G) : ∀ (p M : Pn) (u v : Option Sl), M.length + p.length ≤ 100000 → ∃ u' v', forL jP jB ((up p).map dP) [a, some (.od (dK M)), b, u, v] g = .nx [a, some (.od (dK (p.foldl stepM M))), b, u', v'] g
  | [], M, u, v, _ => ⟨u, v, rfl⟩
  | x :: p, M, u, v, hl => by
    rw [List.length_cons] at hl
    have st : jB [a, some (.od (dK M)), b, some (.sh (.str x.1)), some (.sh (.int x.2))] g = .nx [a, some (.od (dK (stepM M x))), b, some (.sh (.str x.1)), some (.sh (.int x.2))] g := by
      unfold jB
      have e := x_put (ρ := [a, some (.od (dK M)), b, some (.sh (.str x.1)), some (.sh (.int x.2))]) (g := g) (i := 1) (fk := eAny 3) (fv := e2 pMax (eGet2 (eAny 1) (eAny 3) (eVar 4)) (eAny 4)) (kvs := dK M) (d := .int (mx ((look M x.1).getD x.2) x.2)) (k := .inr x.1)
        (x_e2 (x := .int ((look M x.1).getD x.2)) (x_get (kvs := dK M) rfl rfl rfl (by
          show some ((valD (dK M) (.inr x.1)).getD (.int x.2)) = _
          unfold dK
          rw [valD_map D.int]
          cases look M x.1 <;> rfl)) rfl rfl) rfl rfl rfl (by unfold dK; rw [List.length_map]; omega)
      rw [e, putD_dK]
      rfl
    obtain ⟨u', v', ih⟩ := join_in (a := a) (b := b) g p (stepM M x) (some (.sh (.str x.1))) (some (.sh (.int x.2))) (by have := len_ins M x.1 (mx ((look M x.1).getD x.2) x.2); unfold stepM; omega)
    refine ⟨u', v', ?_⟩
    show (match jB [a, some (.od (dK M)), b, some (.sh (.str x.1)), some (.sh (.int x.2))] g with
      | .nx ρ2 g2 => forL jP jB ((up p).map dP) ρ2 g2
      | .ct ρ2 g2 => forL jP jB ((up p).map dP) ρ2 g2
      | .bk ρ2 g2 => Fl.nx ρ2 g2
      | .rt d g2 => .rt d g2
      | .ex ρ2 x g2 => .ex ρ2 x g2
      | .fail => .fail) = _
    rw [st]
    exact ih
theorem join_out {a : Option Sl} (g : G) : ∀ (ps : List Pn) (M : Pn) (b u v : Option Sl), M.length + (ps.map List.length).sum ≤ 100000 → ∃ b' u' v', forL (pName 2) (sFor (iSeq (eVar 2)) jP jB) (ps.map dPl) [a, some (.od (dK M)), b, u, v] g = .nx [a, some (.od (dK (ps.foldl (fun M p => p.foldl stepM M) M))), b', u', v'] g
  | [], M, b, u, v, _ => ⟨b, u, v, rfl⟩
  | p :: ps, M, b, u, v, hl => by
    rw [List.map_cons, List.sum_cons] at hl
    obtain ⟨u1, v1, h1⟩ := join_in (a := a) (b := some (.sh (dPl p))) g p M u v (by omega)
    obtain ⟨b2, u2, v2, h2⟩ := join_out (a := a) g ps (p.foldl stepM M) (some (.sh (dPl p))) u1 v1 (by have := len_plan p M; omega)
    refine ⟨b2, u2, v2, ?_⟩
    have st : sFor (iSeq (eVar 2)) jP jB [a, some (.od (dK M)), some (.sh (dPl p)), u, v] g = .nx [a, some (.od (dK (p.foldl stepM M))), some (.sh (dPl p)), u1, v1] g := x_for (x_seqI rfl rfl) h1
    show (match sFor (iSeq (eVar 2)) jP jB [a, some (.od (dK M)), some (.sh (dPl p)), u, v] g with
      | .nx ρ2 g2 => forL (pName 2) (sFor (iSeq (eVar 2)) jP jB) (ps.map dPl) ρ2 g2
      | .ct ρ2 g2 => forL (pName 2) (sFor (iSeq (eVar 2)) jP jB) (ps.map dPl) ρ2 g2
      | .bk ρ2 g2 => Fl.nx ρ2 g2
      | .rt d g2 => .rt d g2
      | .ex ρ2 x g2 => .ex ρ2 x g2
      | .fail => .fail) = _
    rw [st]
    exact h2
theorem join_of_ok {ps : List Pn} (h : ∀ p ∈ ps, Pk p) (hl : (ps.map List.length).sum ≤ 1000) (g : G) : ∃ J, f_join_of [.lst (ps.map dPl)] g = .ok (dPl J) g ∧ Pk J ∧ (∀ k, look J k = jlook ps k) ∧ J.length ≤ (ps.map List.length).sum := by
  obtain ⟨b', u', v', e⟩ := join_out (a := some (.sh (.lst (ps.map dPl)))) g ps [] none none none (by simp; omega)
  obtain ⟨J, h1, h2, h3⟩ := sortIt (foldM ps) (nd_foldM ps)
  have hlen : (foldM ps).length ≤ (ps.map List.length).sum := by
    have key : ∀ (ps : List Pn) (M : Pn), (ps.foldl (fun M p => p.foldl stepM M) M).length ≤ M.length + (ps.map List.length).sum := fun ps => by
      induction ps with
      | nil => intro M; simp
      | cons p ps ih =>
        intro M
        have := ih (p.foldl stepM M)
        have := len_plan p M
        rw [List.foldl_cons, List.map_cons, List.sum_cons]
        omega
    have := key ps []
    unfold foldM
    simpa using this
  have hlook : ∀ k, look J k = jlook ps k := fun k => by
    rw [← look_foldM ps (fun p hp => (h p hp).srt) k]
    -- the same pairs, told apart by their names
    cases e : look (foldM ps) k with
    | some m => exact h3.mem_look (h2.mem_iff.mpr (look_mem e))
    | none =>
      cases e2 : look J k with
      | none => rfl
      | some m =>
        have := look_isSome.mpr ⟨_, h2.mem_iff.mp (look_mem e2), rfl⟩
        rw [e] at this
        cases this
  have hj : ∀ (ps : List Pn) (a : Option Int) (k : Str) (m : Int), ps.foldl (fun a p => mxO a (look p k)) a = some m → a.isSome = true ∨ ∃ p ∈ ps, (look p k).isSome = true := fun ps => by
    induction ps with
    | nil => intro a k m e; left; rw [show a = some m from e]; rfl
    | cons p ps ih =>
      intro a k m e
      rcases ih _ k m e with h | ⟨q, hq, hs⟩
      · cases ha : a with
        | some i => left; rfl
        | none =>
          rw [ha] at h
          exact .inr ⟨p, List.mem_cons_self, h⟩
      · exact .inr ⟨q, List.mem_cons_of_mem _ hq, hs⟩
  refine ⟨J, x_run (x_seq (x_own rfl) (x_seq (x_for (x_seqI rfl rfl) e) (x_ret (x_e1 (x_e1 rfl h1) rfl)))), ⟨h3, fun x hx => ?_, by rw [h2.length_eq]; omega⟩, hlook, by rw [h2.length_eq]; exact hlen⟩
  have e1 : look J x.1 = some x.2 := h3.mem_look hx
  rw [hlook] at e1
  rcases hj ps none x.1 x.2 e1 with z | ⟨p, hp, hs⟩
  · cases z
  · obtain ⟨y, hy, hyx⟩ := look_isSome.mp hs
    rw [← hyx]
    exact (h p hp).nm y hy
theorem chk_all (g : G) : ∀ (ps : List Pn) (n : Nat) (a u v : Option Sl), (∀ p ∈ ps, Pk p) → ∃ u' v', forL (pUn 2 (pCons (pName 1) (pCons (pName 2) (pNil)))) (sIf (tNotF (toB (eCall 1 f_are_pairs (aCons (eVar 2) (aNil))))) (sFail) (sNext)) (enumD n (ps.map dPl)) [a, u, v] g = .nx [a, u', v'] g
  | [], _, a, u, v, _ => ⟨u, v, rfl⟩
  | p :: ps, n, a, u, v, h => by
    obtain ⟨u', v', ih⟩ := chk_all g ps (n + 1) a (some (.sh (.int (n : Nat)))) (some (.sh (dPl p))) fun q hq => h q (List.mem_cons_of_mem _ hq)
    refine ⟨u', v', ?_⟩
    have st : sIf (tNotF (toB (eCall 1 f_are_pairs (aCons (eVar 2) (aNil))))) (sFail) (sNext) [a, some (.sh (.int (n : Nat))), some (.sh (dPl p))] g = .nx [a, some (.sh (.int (n : Nat))), some (.sh (dPl p))] g :=
      x_ifF (x_not (b := true) (x_toB (x_call rfl rfl (are_pairs_ok (h p List.mem_cons_self) g)))) rfl
    show (match sIf (tNotF (toB (eCall 1 f_are_pairs (aCons (eVar 2) (aNil))))) (sFail) (sNext) [a, some (.sh (.int (n : Nat))), some (.sh (dPl p))] g with
      | .nx ρ2 g2 => forL (pUn 2 (pCons (pName 1) (pCons (pName 2) (pNil)))) (sIf (tNotF (toB (eCall 1 f_are_pairs (aCons (eVar 2) (aNil))))) (sFail) (sNext)) (enumD (n + 1) (ps.map dPl)) ρ2 g2
      | .ct ρ2 g2 => forL (pUn 2 (pCons (pName 1) (pCons (pName 2) (pNil)))) (sIf (tNotF (toB (eCall 1 f_are_pairs (aCons (eVar 2) (aNil))))) (sFail) (sNext)) (enumD (n + 1) (ps.map dPl)) ρ2 g2
      | .bk ρ2 g2 => Fl.nx ρ2 g2
      | .rt d g2 => .rt d g2
      | .ex ρ2 x g2 => .ex ρ2 x g2
      | .fail => .fail) = _
    rw [st]
    exact ih
theorem x_enum {ρ : Rho} {g g1 : G} {f : SE} {d : D} {ds : List D} (a : f ρ g = .ok d g1) (e : enumed d = some ds) : iEnum1 f ρ g = .ok ds g1 := by
  unfold iEnum1; rw [a]; show ofOpt (enumed d) g1 = _; rw [e]; rfl
theorem joined_ok {ps : List Pn} (h : ∀ p ∈ ps, Pk p) (hl : (ps.map List.length).sum ≤ 1000) (g : G) : ∃ J, f_joined [.lst (ps.map dPl)] g = .ok (dPl J) g ∧ Pk J ∧ (∀ k, look J k = jlook ps k) ∧ J.length ≤ (ps.map List.length).sum := by
  obtain ⟨J, h1, h2, h3, h4⟩ := join_of_ok h hl g
  obtain ⟨u', v', e⟩ := chk_all g ps 0 (some (.sh (.lst (ps.map dPl)))) none none h
  exact ⟨J, x_run (x_seq (x_ifF (x_not (b := true) (x_toB (x_call rfl rfl rfl))) rfl) (x_seq (x_for (x_enum rfl rfl) e) (x_ret (x_call rfl rfl h1)))), h2, h3, h4⟩

/-! ### within -/
theorem pairsOf_dP : ∀ L : Lm, pairsOf (L.map dP) = some (L.map fun x => (.inr x.1, dE x.2))
  | [] => rfl
  | x :: L => by
    show (match keyOf (.str x.1), pairsOf (L.map dP) with | some k, some kvs => some ((k, dE x.2) :: kvs) | _, _ => none) = _
    rw [pairsOf_dP L]
    rfl
theorem merge_self : ∀ (L acc : List (Key × D)), ((acc ++ L).map Prod.fst).Nodup → mergeD acc L = acc ++ L
  | [], acc, _ => by rw [List.append_nil]; rfl
  | x :: L, acc, h => by
    have hn : hasD acc x.1 = false := by
      unfold hasD
      rw [List.any_eq_false]
      intro y hy
      rw [List.map_append, List.nodup_append] at h
      have := h.2.2 y.1 (List.mem_map_of_mem hy) x.1 (by simp)
      simpa using this
    have e : putD acc x.1 x.2 = acc ++ [x] := by
      unfold putD
      rw [hn, if_neg Bool.false_ne_true]
    show mergeD (putD acc x.1 x.2) L = _
    rw [e, merge_self L (acc ++ [x]) (by rw [List.append_assoc]; exact h), List.append_assoc]
    rfl
theorem Srt.keys {α : Type} {L : List (Str × α)} (h : Srt L) : (L.map Prod.fst).Nodup := by
  unfold List.Nodup
  rw [List.pairwise_map]
  exact h.imp fun l => lt_ne l
def dM (L : Lm) : List (Key × D) := L.map fun x => (.inr x.1, dE x.2)
theorem pDict_dL {L : Lm} (h : Srt L) : pDict (dL L) = some (.dic (dM L)) := by
  show (pairsOf (L.map dP)).map _ = _
  rw [pairsOf_dP]
  show some (D.dic (mergeD [] _)) = _
  rw [merge_self _ [] (by
    rw [List.nil_append, List.map_map]
    have := h.keys
    rw [show (Prod.fst ∘ fun x : Str × Option Int => ((Sum.inr x.1 : Key), dE x.2)) = Sum.inr ∘ Prod.fst from rfl, ← List.map_map]
    exact List.pairwise_map.mpr (List.Pairwise.imp (fun ne e => ne (Sum.inr.inj e)) this))]
  rfl
theorem hasD_dM (L : Lm) (k : Str) : hasD (dM L) (.inr k) = (look L k).isSome := by
  have e : (valD (dM L) (.inr k)).isSome = hasD (dM L) (.inr k) := by
    unfold valD hasD
    rw [Option.isSome_map]
    rw [Bool.eq_iff_iff, List.find?_isSome, List.any_eq_true]
  rw [← e]
  unfold dM
  rw [valD_map dE]
  cases look L k <;> rfl
def wT : ST := tOrF (toB (e2 pNotIn (eAny 3) (eAny 2))) (tAndF (toB (e1 pNotN (e2 pSubs (eAny 2) (eAny 3)))) (tOrF (toB (e1 pIsN (eAny 4))) (toB (e2 pGt (eAny 4) (e2 pSubs (eAny 2) (eAny 3))))))
theorem wT_ok {a b : Option Sl} (L : Lm) (x : Str × Option Int) (g : G) : wT [a, b, some (.sh (.dic (dM L))), some (.sh (.str x.1)), some (.sh (dE x.2))] g = .ok (!okIn L x) g := by
  unfold wT
  have h1 : pNotIn (.str x.1) (.dic (dM L)) = some (.bl (!(look L x.1).isSome)) := by
    show ((some (D.bl (hasD (dM L) (.inr x.1)))).bind notD) = _
    rw [hasD_dM]
    rfl
  have h2 : pSubs (.dic (dM L)) (.str x.1) = (look L x.1).map dE := by
    show valD (dM L) (.inr x.1) = _
    unfold dM
    rw [valD_map dE]
  cases e : look L x.1 with
  | none =>
    rw [e] at h1
    rw [show okIn L x = false by unfold okIn; rw [e]]
    exact x_orT (x_toB (x_e2 rfl rfl h1))
  | some m =>
    rw [e] at h1 h2
    refine x_orF (x_toB (x_e2 rfl rfl h1)) ?_
    cases m with
    | none =>
      rw [show okIn L x = true by unfold okIn; rw [e]]
      exact x_andF (x_toB (x_e1 (x_e2 rfl rfl h2) rfl))
    | some j =>
      refine x_andT (x_toB (x_e1 (x_e2 rfl rfl h2) rfl)) ?_
      cases hm : x.2 with
      | none =>
        rw [show okIn L x = false by unfold okIn; rw [e, hm]]
        exact x_orT (x_toB (x_e1 rfl rfl))
      | some i =>
        rw [show okIn L x = decide (i ≤ j) by unfold okIn; rw [e, hm]]
        refine x_orF (x_toB (x_e1 rfl rfl)) (x_toB (x_e2 rfl (x_e2 rfl rfl h2) ?_))
        show some (D.bl (decide (j < i))) = _
        by_cases hij : i ≤ j
        · rw [decide_eq_true hij, decide_eq_false (by omega)]; rfl
        · rw [decide_eq_false hij, decide_eq_true (by omega)]; rfl
theorem in_loop {a b : Option Sl} (L : Lm) (g : G) : ∀ (A : Lm) (u v : Option Sl), (inL A L = true → ∃ u' v', forL jP (sIf wT (sRet (eC (.bl false))) (sNext)) (A.map dP) [a, b, some (.sh (.dic (dM L))), u, v] g = .nx [a, b, some (.sh (.dic (dM L))), u', v'] g) ∧
    (inL A L = false → forL jP (sIf wT (sRet (eC (.bl false))) (sNext)) (A.map dP) [a, b, some (.sh (.dic (dM L))), u, v] g = .rt (.bl false) g)
  | [], u, v => ⟨fun _ => ⟨u, v, rfl⟩, fun h => by simp [inL] at h⟩
  | x :: A, u, v => by
    obtain ⟨i1, i2⟩ := in_loop (a := a) (b := b) L g A (some (.sh (.str x.1))) (some (.sh (dE x.2)))
    have ht := wT_ok (a := a) (b := b) L x g
    have un : ∀ r, (sIf wT (sRet (eC (.bl false))) (sNext) [a, b, some (.sh (.dic (dM L))), some (.sh (.str x.1)), some (.sh (dE x.2))] g = r) → forL jP (sIf wT (sRet (eC (.bl false))) (sNext)) ((x :: A).map dP) [a, b, some (.sh (.dic (dM L))), u, v] g = (match r with
      | .nx ρ2 g2 => forL jP (sIf wT (sRet (eC (.bl false))) (sNext)) (A.map dP) ρ2 g2
      | .ct ρ2 g2 => forL jP (sIf wT (sRet (eC (.bl false))) (sNext)) (A.map dP) ρ2 g2
      | .bk ρ2 g2 => Fl.nx ρ2 g2
      | .rt d g2 => .rt d g2
      | .ex ρ2 x g2 => .ex ρ2 x g2
      | .fail => .fail) := fun r e => by rw [← e]; rfl
    have hc : inL (x :: A) L = (okIn L x && inL A L) := rfl
    cases ho : okIn L x with
    | false =>
      rw [ho] at ht hc
      refine ⟨fun h => (by rw [hc] at h; cases h), fun _ => ?_⟩
      rw [un _ (x_ifT ht rfl)]
      rfl
    | true =>
      rw [ho] at ht hc
      rw [un _ (x_ifF ht rfl), hc]
      exact ⟨i1, i2⟩
theorem is_in_ok {A L : Lm} (h : Srt L) (g : G) : f_is_in [dL A, dL L] g = .ok (.bl (inL A L)) g := by
  obtain ⟨h1, h2⟩ := in_loop (a := some (.sh (dL A))) (b := some (.sh (dL L))) L g A none none
  cases e : inL A L with
  | true =>
    obtain ⟨u', v', e1⟩ := h1 e
    exact x_run (x_seq (x_asg (x_e1 rfl (pDict_dL h)) rfl) (x_seq (x_for (x_seqI rfl rfl) e1) (x_ret rfl)))
  | false => exact x_run (x_seq (x_asg (x_e1 rfl (pDict_dL h)) rfl) (x_seqR (x_for (x_seqI rfl rfl) (h2 e))))
theorem is_within_ok {A L : Lm} (hA : Lk A) (hL : Lk L) (g : G) : f_is_within [dL A, dL L] g = .ok (.bl (inL A L)) g :=
  x_run (x_seq (x_expr (x_call rfl rfl (need_limit_ok hA g))) (x_seq (x_expr (x_call rfl rfl (need_limit_ok hL g))) (x_ret (x_call rfl rfl (is_in_ok hL.srt g)))))
end CP

/-! PLWords: what the law's own makers give: picks, words, rows, bounds. -/
namespace CP
open PySem L2 T

theorem atI_zero {α : Type} (x : α) (xs : List α) : atI (x :: xs) 0 = some x := by
  unfold atI ixN
  rw [if_pos (by decide), if_pos (by rw [List.length_cons]; omega)]
  rfl
theorem pAdd_lst {xs ys : List D} (h : xs.length + ys.length ≤ 100000) : pAdd (.lst xs) (.lst ys) = some (.lst (xs ++ ys)) := if_pos h
theorem pick_ok {n : Nat} {ds : List D} {g : G} (h : Gk n g) (hn : n < 2 ^ 39) (h0 : ds ≠ []) (hl : ds.length < 1000000) : ∃ d g', f__law_pick [.st, .lst ds] g = .ok d g' ∧ d ∈ ds ∧ Gk (n + 1) g' := by
  have lp : 0 < ds.length := List.length_pos_iff.mpr h0
  obtain ⟨r, g', e, r0, r1, k⟩ := draw_ok (k := (ds.length : Int)) h hn (by omega) (by omega)
  obtain ⟨d, hd, hm⟩ := atI_ok (xs := ds) r0 r1
  exact ⟨d, g', x_run (x_ret (x_e2 (x := .lst ds) rfl (x_call (x_cons rfl (x_cons (x_e1 (x := .lst ds) rfl rfl) rfl)) rfl e) hd)), hm, k⟩
theorem pick_str {n : Nat} {z : Str} {g : G} (h : Gk n g) (hn : n < 2 ^ 39) (h0 : 0 < z.cps.size) (hl : z.cps.size < 1000000) : ∃ c g', f__law_pick [.st, .str z] g = .ok (.str ⟨#[c]⟩) g' ∧ c ∈ tx z ∧ Gk (n + 1) g' := by
  obtain ⟨r, g', e, r0, r1, k⟩ := draw_ok (k := (z.cps.size : Int)) h hn (by omega) (by omega)
  obtain ⟨c, hd, hm⟩ := atI_ok (xs := tx z) r0 (by unfold tx; rw [Array.length_toList]; exact r1)
  refine ⟨c, g', x_run (x_ret (x_e2 (x := .str z) rfl (x_call (x_cons rfl (x_cons (x_e1 (x := .str z) rfl rfl) rfl)) rfl e) ?_)), hm, k⟩
  show (atI z.cps.toList r).map _ = _
  rw [show atI z.cps.toList r = some c from hd]
  rfl
/-- a comprehension whose items draw -/
theorem lc_draw {p : Pt} {f : SE} {ρ : Rho} {c : Nat} (Φ : D → Prop) : ∀ (ds : List D) (n : Nat) (g : G), Gk n g → n + c * ds.length < 2 ^ 39 → (∀ d ∈ ds, ∀ (m : Nat) (g : G), Gk m g → m + c < 2 ^ 39 → ∃ ρ1 y g', p d ρ = some ρ1 ∧ f ρ1 g = .ok y g' ∧ Φ y ∧ Gk (m + c) g') →
    ∃ ys g', lcL p tYesF f ρ ds g = .ok ys g' ∧ ys.length = ds.length ∧ (∀ y ∈ ys, Φ y) ∧ Gk (n + c * ds.length) g'
  | [], n, g, h, _, _ => ⟨[], g, rfl, rfl, (fun _ z => nomatch z), h⟩
  | d :: ds, n, g, h, hb, H => by
    rw [List.length_cons, Nat.mul_succ] at hb
    obtain ⟨ρ1, y, g1, h1, h2, h3, h4⟩ := H d List.mem_cons_self n g h (by omega)
    obtain ⟨ys, g2, e, el, ep, ek⟩ := lc_draw Φ ds (n + c) g1 h4 (by omega) fun d hd => H d (List.mem_cons_of_mem _ hd)
    refine ⟨y :: ys, g2, ?_, by rw [List.length_cons, List.length_cons, el], fun z hz => ?_, ek.mono (by rw [List.length_cons, Nat.mul_succ]; omega)⟩
    · unfold lcL
      rw [h1]
      show ((f ρ1 g).noex).bind _ = _
      rw [h2]
      show (lcL p tYesF f ρ ds g1).bind _ = _
      rw [e]
      rfl
    · rcases List.mem_cons.mp hz with rfl | hz
      · exact h3
      · exact ep z hz
/-! ### names made -/
def nmB (x : Str) : Bool := decide (1 ≤ x.cps.size) && decide (x.cps.size ≤ 6) && (tx x).all fun n => decide (n ∈ tx abc)
theorem nm_of {x : Str} (h : nmB x = true) : Nm x := by
  unfold nmB at h
  rw [Bool.and_eq_true, Bool.and_eq_true, List.all_eq_true] at h
  exact ⟨of_decide_eq_true h.1.1, of_decide_eq_true h.1.2, fun n hn => of_decide_eq_true (h.2 n hn)⟩
theorem nm_list {x : Str} (h0 : 1 ≤ (tx x).length) (h6 : (tx x).length ≤ 6) (hl : ∀ n ∈ tx x, n ∈ tx abc) : Nm x := by
  unfold tx at h0 h6
  rw [Array.length_toList] at h0 h6
  exact ⟨h0, h6, hl⟩
theorem joinL_nil : ∀ l : List (List Nat), TL.joinL [] l = l.flatten
  | [] => rfl
  | [p] => by simp [TL.joinL]
  | p :: q :: r => by rw [TL.joinL, joinL_nil (q :: r)]; simp
theorem tx_join (cs : List Nat) : tx (Txt.join "" (cs.map fun c => (⟨#[c]⟩ : Str))) = cs := by
  have e := (congrArg TL.tl (TL.join_eq "" (cs.map fun c => (⟨#[c]⟩ : Str)))).trans (TL.tl_join "" (cs.map fun c => (⟨#[c]⟩ : Str)))
  show TL.tl _ = cs
  rw [e, show TL.tl ("" : Str) = [] from rfl, joinL_nil, List.map_map]
  induction cs with
  | nil => rfl
  | cons c cs ih =>
    rw [List.map_cons, List.flatten_cons]
    show c :: (List.map _ cs).flatten = _
    rw [ih ((congrArg TL.tl (TL.join_eq "" (cs.map fun c => (⟨#[c]⟩ : Str)))).trans (TL.tl_join "" (cs.map fun c => (⟨#[c]⟩ : Str))))]
theorem strs_map (zs : List Str) : strsOf (zs.map D.str) = some zs := by
  induction zs with
  | nil => rfl
  | cons z zs ih => rw [List.map_cons, strsOf, ih]; rfl
theorem ones {ds : List D} (h : ∀ d ∈ ds, ∃ c, d = .str ⟨#[c]⟩ ∧ c ∈ tx abc) : ∃ cs : List Nat, ds = cs.map (fun c => D.str ⟨#[c]⟩) ∧ ∀ c ∈ cs, c ∈ tx abc := by
  induction ds with
  | nil => exact ⟨[], rfl, fun _ z => nomatch z⟩
  | cons d ds ih =>
    obtain ⟨c, rfl, hc⟩ := h d List.mem_cons_self
    obtain ⟨cs, rfl, hcs⟩ := ih fun d hd => h d (List.mem_cons_of_mem _ hd)
    exact ⟨c :: cs, rfl, fun x hx => by
      rcases List.mem_cons.mp hx with rfl | hx
      · exact hc
      · exact hcs x hx⟩
theorem x_join {ρ : Rho} {g g1 g2 : G} {f h : SE} {sep : Str} {zs : List Str} {d : D} (a : f ρ g = .ok (.str sep) g1) (b : h ρ g1 = .ok (.lst (zs.map D.str)) g2) (e : joinS sep zs = some d) : eM1 isStrD pJoin f h ρ g = .ok d g2 := by
  unfold eM1; rw [a]; show (h ρ g1).bind _ = _; rw [b]
  show ofOpt (pJoin (.str sep) (.lst (zs.map D.str))) g2 = _
  show ofOpt ((strsOf (zs.map D.str)).bind (joinS sep)) g2 = _
  rw [strs_map]
  show ofOpt (joinS sep zs) g2 = _
  rw [e]; rfl
theorem x_range {ρ : Rho} {g g1 : G} {f : SE} {j : Int} (a : f ρ g = .ok (.int j) g1) (s : small j = true) : iRange1 f ρ g = .ok (rangeD 0 j) g1 := by
  unfold iRange1; rw [a]; show ofOpt (if small j = true then some (rangeD 0 j) else none) g1 = _; rw [if_pos s]; rfl
theorem range_len (j : Int) : (rangeD 0 j).length = j.toNat := by unfold rangeD; simp
theorem small_ok {j : Int} (h : 0 ≤ j) (h2 : j < 1000000) : small j = true := by
  unfold small
  rw [decide_eq_true (by omega), decide_eq_true (by omega)]
  rfl

/-! ### _law_words -/
def spareS (w : Str) : List Str := w :: (tx abc).map fun c => (cutS w none (some 5)) ++ (⟨#[c]⟩ : Str)
theorem tx_app (x y : Str) : tx (x ++ y) = tx x ++ tx y := by
  show (x.cps ++ y.cps).toList = _
  rw [Array.toList_append]
  rfl
theorem tx_cut5 (w : Str) : tx (cutS w none (some 5)) = (tx w).take 5 := by
  show (((w.cps.toList.drop (HT.sIx w.length 0 none)).take (HT.sIx w.length w.length (some 5) - HT.sIx w.length 0 none)).toArray).toList = _
  rw [HT.sIx_none, show HT.sIx w.length w.length (some 5) = min 5 w.length from HT.sIx_nat _ _ 5, List.drop_zero, Nat.sub_zero]
  show (tx w).take (min 5 w.cps.size) = _
  have : (tx w).length = w.cps.size := by unfold tx; rw [Array.length_toList]
  rw [← this, Nat.min_comm, List.take_eq_take_iff]
  omega
theorem spare_nm {w : Str} (h : Nm w) : ∀ x ∈ spareS w, Nm x := fun x hx => by
  rcases List.mem_cons.mp hx with rfl | hx
  · exact h
  · obtain ⟨c, hc, rfl⟩ := List.mem_map.mp hx
    have e : tx (cutS w none (some 5) ++ (⟨#[c]⟩ : Str)) = (tx w).take 5 ++ [c] := by rw [tx_app, tx_cut5]; rfl
    refine nm_list (by rw [e]; simp) (by rw [e, List.length_append, List.length_take]; simp; omega) fun n hn => ?_
    rw [e] at hn
    rcases List.mem_append.mp hn with hn | hn
    · exact h.let_ n (List.mem_of_mem_take hn)
    · rw [List.mem_singleton.mp hn]; exact hc
theorem abc_nd : (tx abc).Nodup := by decide +kernel
theorem abc_len : (tx abc).length = 26 := by decide +kernel
theorem spare_free (w : Str) (ws : List Str) (hl : ws.length < 26) : (spareS w).filter (fun x => !decide (x ∈ ws)) ≠ [] := fun e => by
  rw [List.filter_eq_nil_iff] at e
  have s : ∀ x ∈ (tx abc).map fun c => (cutS w none (some 5)) ++ (⟨#[c]⟩ : Str), x ∈ ws := fun x hx => by
    have := e x (List.mem_cons_of_mem _ hx)
    simpa using this
  have nd : ((tx abc).map fun c => (cutS w none (some 5)) ++ (⟨#[c]⟩ : Str)).Nodup := List.pairwise_map.mpr (List.Pairwise.imp (fun {a b} ne z => ne (by
    have := congrArg tx z
    rw [tx_app, tx_app] at this
    have := List.append_cancel_left this
    exact (List.cons.inj this).1)) abc_nd)
  have := List.Nodup.length_le_of_subset nd s
  rw [List.length_map, abc_len] at this
  omega
theorem inD_str (x : Str) (ws : List Str) : inD (.str x) (ws.map D.str) = decide (x ∈ ws) := by
  unfold inD
  rw [List.any_map]
  rw [Bool.eq_iff_iff, List.any_eq_true, decide_eq_true_eq]
  constructor
  · rintro ⟨y, hy, e⟩
    have e' : PyData.eqv (toPy (.str y)) (toPy (.str x)) = true := e
    simp [toPy, PyData.eqv] at e'
    rw [← e']; exact hy
  · intro h
    exact ⟨x, h, by show PyData.eqv (toPy (.str x)) (toPy (.str x)) = true; simp [toPy, PyData.eqv]⟩
theorem pNotIn_str (x : Str) (ws : List Str) : pNotIn (.str x) (.lst (ws.map D.str)) = some (.bl (!decide (x ∈ ws))) := by
  have o : okD 60 (.lst (ws.map D.str)) = true := by
    show (ws.map D.str).all (okD 59) = true
    rw [List.all_map, List.all_eq_true]
    exact fun _ _ => rfl
  show (if okD 60 (.str x) && okD 60 (.lst (ws.map D.str)) then some (D.bl (inD (.str x) (ws.map D.str))) else none).bind notD = _
  rw [o, inD_str]
  rfl
/-- what a turn of the loop is: slots 4, 5, 6 are set anew -/
def wdB : SS := sSeq (sAsg (pName 4) (eM1 isStrD pJoin (eC (.str "")) (fLst (eLc (iRange1 (e2 pAdd (eC (.int 1)) (eCall 2 f__law_draw (aCons (eVar 0) (aCons (eC (.int 6)) (aNil)))))) (pName 7) (tYesF) (eCall 2 f__law_pick (aCons (eVar 0) (aCons (eVar 2) (aNil)))) [7])))) (sSeq (sAsg (pName 5) (eCall 2 f__law_pick (aCons (eVar 0) (aCons (eLst (aCons (eC (.str "a")) (aCons (eC (.str "b")) (aCons (eC (.str "c")) (aCons (eC (.str "aa")) (aCons (eC (.str "none")) (aCons (eC (.str "things")) (aCons (eC (.str "zzzzzz")) (aCons (eVar 4) (aCons (eVar 4) (aNil))))))))))) (aNil))))) (sSeq (sAsg (pName 6) (e2 pAdd (eLst (aCons (eVar 5) (aNil))) (fLst (eLc (iSeq (eVar 2)) (pName 8) (tYesF) (e2 pAdd (eSl pSl (eAny 5) (oNone) (oSome (eC (.int 5)))) (eAny 8)) [8])))) (sApp 3 (e2 pSubs (fLst (eLc (iSeq (eVar 6)) (pName 9) (toB (e2 pNotIn (eAny 9) (eAny 3))) (eVar 9) [9])) (eC (.int 0))))))
def wdT : ST := toB (e2 pLt (e1 pLen (eAny 3)) (eAny 1))
def wdR (m : Int) (ws : List Str) (a b c : Option Sl) : Rho := [some (.sh .st), some (.sh (.int m)), some (.sh (.str abc)), some (.ow (ws.map D.str)), a, b, c, none, none, none]
theorem wd_step {n : Nat} {m : Int} {ws : List Str} {a b c : Option Sl} {g : G} (h : Gk n g) (hn : n + 8 < 2 ^ 39) (hl : ws.length < 26) : ∃ x a' b' c' g', wdB (wdR m ws a b c) g = .nx (wdR m (ws ++ [x]) a' b' c') g' ∧ Nm x ∧ x ∉ ws ∧ Gk (n + 8) g' := by
  obtain ⟨r, g1, e1, r0, r1, k1⟩ := draw_ok (k := 6) h (by omega) (by decide) (by decide)
  obtain ⟨ys, g2, e2', l2, p2, k2⟩ := lc_draw (c := 1) (p := pName 7) (f := eCall 2 f__law_pick (aCons (eVar 0) (aCons (eVar 2) (aNil)))) (ρ := wdR m ws a b c) (fun d => ∃ c, d = .str ⟨#[c]⟩ ∧ c ∈ tx abc) (rangeD 0 (1 + r)) (n + 1) g1 k1 (by rw [range_len]; omega) fun d hd m' g' k' hb => by
    obtain ⟨c', g'', e, hc, kk⟩ := pick_str (z := abc) k' (by omega) (by decide +kernel) (by decide +kernel)
    exact ⟨_, _, g'', rfl, x_call (ds := [.st, .str abc]) rfl rfl e, ⟨c', rfl, hc⟩, kk⟩
  obtain ⟨cs, rfl, hcs⟩ := ones p2
  rw [range_len] at l2 k2
  rw [List.length_map] at l2
  let w4 : Str := Txt.join "" (cs.map fun c => (⟨#[c]⟩ : Str))
  have n4 : Nm w4 := nm_list (by show 1 ≤ (tx (Txt.join "" _)).length; rw [tx_join]; omega) (by show (tx (Txt.join "" _)).length ≤ 6; rw [tx_join]; omega) (by show ∀ n ∈ tx (Txt.join "" _), _; rw [tx_join]; exact hcs)
  have j4 : joinS "" (cs.map fun c => (⟨#[c]⟩ : Str)) = some (.str w4) := by
    unfold joinS
    rw [if_pos]
    refine ⟨?_, n4.sOk⟩
    rw [List.map_map]
    have : (cs.map ((fun x : Str => x.length) ∘ fun c => (⟨#[c]⟩ : Str))).sum = cs.length := by
      clear l2 hcs n4 e2' p2
      induction cs with
      | nil => rfl
      | cons c cs ih => rw [List.map_cons, List.sum_cons, ih, List.length_cons]; show 1 + _ = _; omega
    rw [this, List.length_map, show ("" : Str).length = 0 from rfl]
    omega
  have s1 : sAsg (pName 4) (eM1 isStrD pJoin (eC (.str "")) (fLst (eLc (iRange1 (e2 pAdd (eC (.int 1)) (eCall 2 f__law_draw (aCons (eVar 0) (aCons (eC (.int 6)) (aNil)))))) (pName 7) (tYesF) (eCall 2 f__law_pick (aCons (eVar 0) (aCons (eVar 2) (aNil)))) [7]))) (wdR m ws a b c) g = .nx (wdR m ws (some (.sh (.str w4))) b c) g2 := by
    refine x_asg (x_join (zs := cs.map fun c => (⟨#[c]⟩ : Str)) rfl (x_fLst (x_eLc (x_range (x_e2 rfl (x_call (ds := [.st, .int 6]) rfl rfl e1) rfl) (small_ok (by omega) (by omega))) ?_ ?_)) j4) rfl
    · rw [List.map_map]; exact e2'
    · rw [List.length_map, List.length_map]; omega
  have k2' : Gk (n + 7) g2 := k2.mono (by omega)
  let opts : List D := [.str "a", .str "b", .str "c", .str "aa", .str "none", .str "things", .str "zzzzzz", .str w4, .str w4]
  obtain ⟨d, g3, e3, hd, k3⟩ := pick_ok (ds := opts) k2' (by omega) (List.cons_ne_nil _ _) (by show 9 < 1000000; decide)
  obtain ⟨w, rfl, nw⟩ : ∃ w, d = .str w ∧ Nm w := by
    have all : ∀ d ∈ opts, ∃ w, d = .str w ∧ Nm w := by
      intro d hd
      simp only [opts, List.mem_cons, List.not_mem_nil, or_false] at hd
      rcases hd with rfl | rfl | rfl | rfl | rfl | rfl | rfl | rfl | rfl
      all_goals first
        | exact ⟨_, rfl, nm_of (by decide +kernel)⟩
        | exact ⟨_, rfl, n4⟩
    exact all d hd
  have s2 : sAsg (pName 5) (eCall 2 f__law_pick (aCons (eVar 0) (aCons (eLst (aCons (eC (.str "a")) (aCons (eC (.str "b")) (aCons (eC (.str "c")) (aCons (eC (.str "aa")) (aCons (eC (.str "none")) (aCons (eC (.str "things")) (aCons (eC (.str "zzzzzz")) (aCons (eVar 4) (aCons (eVar 4) (aNil))))))))))) (aNil)))) (wdR m ws (some (.sh (.str w4))) b c) g2 = .nx (wdR m ws (some (.sh (.str w4))) (some (.sh (.str w))) c) g3 :=
    x_asg (x_call (ds := [.st, .lst opts]) rfl rfl e3) rfl
  have s3 : sAsg (pName 6) (e2 pAdd (eLst (aCons (eVar 5) (aNil))) (fLst (eLc (iSeq (eVar 2)) (pName 8) (tYesF) (e2 pAdd (eSl pSl (eAny 5) (oNone) (oSome (eC (.int 5)))) (eAny 8)) [8]))) (wdR m ws (some (.sh (.str w4))) (some (.sh (.str w))) c) g3 = .nx (wdR m ws (some (.sh (.str w4))) (some (.sh (.str w))) (some (.sh (.lst ((spareS w).map D.str))))) g3 := by
    refine x_asg (d := .lst ((spareS w).map D.str)) (x_e2 (x := .lst [.str w]) (y := .lst ((tx abc).map fun c => D.str ((cutS w none (some 5)) ++ (⟨#[c]⟩ : Str)))) rfl (x_fLst (x_eLc (ds := (tx abc).map fun c => D.str ⟨#[c]⟩) rfl (lc_map (fun c => D.str ⟨#[c]⟩) (fun c => D.str ((cutS w none (some 5)) ++ (⟨#[c]⟩ : Str))) (tx abc) fun c' hc => ⟨_, rfl, x_e2 (x_sl rfl rfl rfl rfl) rfl ?_⟩) ?_)) ?_) rfl
    · show (if sOk _ = true then some (D.str _) else none) = _
      rw [if_pos (spare_nm nw _ (List.mem_cons_of_mem _ (List.mem_map.mpr ⟨c', hc, rfl⟩))).sOk]
    · rw [List.length_map, abc_len]; decide
    · rw [pAdd_lst (by rw [List.length_map, abc_len]; show 1 + 26 ≤ 100000; decide)]
      unfold spareS
      rw [List.map_cons, List.map_map]
      rfl
  have nf := spare_free w ws hl
  obtain ⟨x, xs, hx⟩ : ∃ x xs, (spareS w).filter (fun x => !decide (x ∈ ws)) = x :: xs := by
    cases e : (spareS w).filter (fun x => !decide (x ∈ ws)) with
    | nil => exact absurd e nf
    | cons x xs => exact ⟨x, xs, rfl⟩
  have hxm : x ∈ (spareS w).filter (fun x => !decide (x ∈ ws)) := by rw [hx]; exact List.mem_cons_self
  obtain ⟨hx1, hx2⟩ := List.mem_filter.mp hxm
  have s4 : sApp 3 (e2 pSubs (fLst (eLc (iSeq (eVar 6)) (pName 9) (toB (e2 pNotIn (eAny 9) (eAny 3))) (eVar 9) [9])) (eC (.int 0))) (wdR m ws (some (.sh (.str w4))) (some (.sh (.str w))) (some (.sh (.lst ((spareS w).map D.str))))) g3 = .nx (wdR m (ws ++ [x]) (some (.sh (.str w4))) (some (.sh (.str w))) (some (.sh (.lst ((spareS w).map D.str))))) g3 := by
    rw [x_app (xs := ws.map D.str) (d := .str x) (g1 := g3) rfl (x_e2 (x := .lst ((x :: xs).map D.str)) (x_fLst (x_eLc (ds := (spareS w).map D.str) rfl (by
      rw [← hx]
      exact lc_filter D.str D.str (fun x => !decide (x ∈ ws)) (spareS w) fun y _ => ⟨_, rfl, x_toB (x_e2 (x := .str y) (y := .lst (ws.map D.str)) rfl rfl (pNotIn_str y ws)), rfl⟩) (by
      rw [List.length_map, ← hx]
      refine Nat.le_trans (List.length_filter_le _ _) ?_
      unfold spareS
      rw [List.length_cons, List.length_map, abc_len]
      decide))) rfl (atI_zero _ _)) (by rw [List.length_map]; omega)]
    unfold wdR
    rw [List.map_append]
    rfl
  exact ⟨x, _, _, _, g3, x_seq s1 (x_seq s2 (x_seq s3 s4)), spare_nm nw x hx1, by simpa using hx2, k3.mono (by omega)⟩
theorem wd_loop {m : Int} (hm : m ≤ 20) : ∀ (j fuel n : Nat) (ws : List Str) (a b c : Option Sl) (g : G), (ws.length : Int) + j = m → j < fuel → Gk n g → n + 8 * j < 2 ^ 39 → ws.Nodup → (∀ x ∈ ws, Nm x) →
    ∃ ws' a' b' c' g', whileL wdT wdB fuel (wdR m ws a b c) g = .nx (wdR m ws' a' b' c') g' ∧ (ws'.length : Int) = m ∧ ws'.Nodup ∧ (∀ x ∈ ws', Nm x) ∧ Gk (n + 8 * j) g'
  | j, 0, _, _, _, _, _, _, _, h, _, _, _, _ => by omega
  | 0, fuel + 1, n, ws, a, b, c, g, hl, _, k, hn, nd, nm => by
    have t : wdT (wdR m ws a b c) g = .ok false g := by
      refine x_toB (x_e2 (x_e1 (x := .lst (ws.map D.str)) rfl rfl) rfl ?_)
      show some (D.bl (decide (((ws.map D.str).length : Int) < m))) = _
      rw [List.length_map, decide_eq_false (by omega)]
    refine ⟨ws, a, b, c, g, ?_, by omega, nd, nm, k⟩
    unfold whileL
    rw [t]
    rfl
  | j + 1, fuel + 1, n, ws, a, b, c, g, hl, hf, k, hn, nd, nm => by
    have t : wdT (wdR m ws a b c) g = .ok true g := by
      refine x_toB (x_e2 (x_e1 (x := .lst (ws.map D.str)) rfl rfl) rfl ?_)
      show some (D.bl (decide (((ws.map D.str).length : Int) < m))) = _
      rw [List.length_map, decide_eq_true (by omega)]
    obtain ⟨x, a1, b1, c1, g1, e, nx, fx, k1⟩ := wd_step (m := m) (ws := ws) (a := a) (b := b) (c := c) k (by omega) (by omega)
    obtain ⟨ws', a', b', c', g', e', h1, h2, h3, h4⟩ := wd_loop hm j fuel (n + 8) (ws ++ [x]) a1 b1 c1 g1 (by rw [List.length_append]; simp; omega) (by omega) k1 (by omega)
      (by rw [List.nodup_append]; exact ⟨nd, by simp, fun y hy z hz e' => fx (by rw [List.mem_singleton] at hz; rw [← hz, ← e']; exact hy)⟩)
      (fun y hy => by
        rcases List.mem_append.mp hy with hy | hy
        · exact nm y hy
        · rw [List.mem_singleton.mp hy]; exact nx)
    refine ⟨ws', a', b', c', g', ?_, h1, h2, h3, h4.mono (by omega)⟩
    unfold whileL
    rw [t]
    show (match wdB (wdR m ws a b c) g with
      | .nx ρ2 g2 => whileL wdT wdB fuel ρ2 g2
      | .ct ρ2 g2 => whileL wdT wdB fuel ρ2 g2
      | .bk ρ2 g2 => Fl.nx ρ2 g2
      | .rt d g2 => .rt d g2
      | .ex ρ2 x g2 => .ex ρ2 x g2
      | .fail => .fail) = _
    rw [e]
    exact e'
theorem words_ok {n : Nat} {m : Int} {g : G} (h : Gk n g) (h0 : 0 ≤ m) (hm : m ≤ 20) (hn : n + 160 < 2 ^ 39) : ∃ (ws : List Str) (g' : G), f__law_words [.st, .int m] g = .ok (.lst (ws.map D.str)) g' ∧ ws.Pairwise lt ∧ (∀ x ∈ ws, Nm x) ∧ (ws.length : Int) = m ∧ Gk (n + 160) g' := by
  obtain ⟨ws, a, b, c, g', e, h1, h2, h3, h4⟩ := wd_loop hm m.toNat 1000 n [] none none none g (by simp; omega) (by omega) h (by omega) (by simp) (fun _ z => nomatch z)
  obtain ⟨ys, e2', p, s⟩ := sortNames ws h2
  exact ⟨ys, g', x_run (x_seq (ρ1 := wdR m [] none none none) (g1 := g) rfl (x_seq e (x_ret (x_e1 rfl e2')))), s, fun x hx => h3 x (p.mem_iff.mp hx), by rw [p.length_eq]; exact h1, h4.mono (by omega)⟩
end CP

/-! PLRows: drawn plans and limits. -/
namespace CP
open PySem L2 T

/-- words to draw from -/
structure Wk (ws : List Str) : Prop where
  srt : ws.Pairwise lt
  nm : ∀ x ∈ ws, Nm x
  len : ws.length ≤ 20
theorem pk_sub {ws : List Str} (h : Wk ws) {p : Pn} (s : (p.map Prod.fst).Sublist ws) : Pk p :=
  ⟨List.pairwise_map.mp (h.srt.sublist s), fun x hx => h.nm _ (s.subset (List.mem_map_of_mem hx)), by have := s.length_le; rw [List.length_map] at this; have := h.len; omega⟩
theorem lk_sub {ws : List Str} (h : Wk ws) {p : Lm} (s : (p.map Prod.fst).Sublist ws) : Lk p :=
  ⟨List.pairwise_map.mp (h.srt.sublist s), fun x hx => h.nm _ (s.subset (List.mem_map_of_mem hx)), by have := s.length_le; rw [List.length_map] at this; have := h.len; omega⟩
theorem sub_len {α : Type} {ws : List Str} {p : List (Str × α)} (s : (p.map Prod.fst).Sublist ws) : p.length ≤ ws.length := by have := s.length_le; rw [List.length_map] at this; exact this
def rwB : SS := sIf (toB (e2 pGt (eCall 2 f__law_draw (aCons (eVar 0) (aCons (eC (.int 4)) (aNil)))) (eC (.int 0)))) (sApp 3 (eTup (aCons (eVar 5) (aCons (e2 pAdd (e2 pSub (eCall 2 f__law_draw (aCons (eVar 0) (aCons (e2 pAdd (e2 pMul (eC (.int 2)) (eAny 2)) (eC (.int 1))) (aNil)))) (eAny 2)) (eAny 4)) (aNil))))) (sNext)
def rwR (a : Option Sl) (wide : Int) (p : Pn) (far : Int) (x : Option Sl) : Rho := [some (.sh .st), a, some (.sh (.int wide)), some (.ow ((up p).map dP)), some (.sh (.int far)), x]
theorem row_loop {a : Option Sl} {wide far : Int} (w0 : 0 ≤ wide) (w1 : wide ≤ 1000) : ∀ (ws : List Str) (n : Nat) (g : G) (p : Pn) (x : Option Sl), Gk n g → n + 2 * ws.length < 2 ^ 39 → p.length + ws.length ≤ 1000 →
    ∃ (q : Pn) (x' : Option Sl) (g' : G), forL (pName 5) rwB (ws.map D.str) (rwR a wide p far x) g = .nx (rwR a wide (p ++ q) far x') g' ∧ (q.map Prod.fst).Sublist ws ∧ Gk (n + 2 * ws.length) g'
  | [], n, g, p, x, h, _, _ => ⟨[], x, g, by rw [List.append_nil]; rfl, List.Sublist.slnil, h⟩
  | w :: ws, n, g, p, x, h, hn, hl => by
    rw [List.length_cons, Nat.mul_succ] at hn
    rw [List.length_cons] at hl
    obtain ⟨r, g1, e1, r0, r1, k1⟩ := draw_ok (k := 4) h (by omega) (by decide) (by decide)
    have un : ∀ r, (rwB (rwR a wide p far (some (.sh (.str w)))) g = r) → forL (pName 5) rwB ((w :: ws).map D.str) (rwR a wide p far x) g = (match r with
      | .nx ρ2 g2 => forL (pName 5) rwB (ws.map D.str) ρ2 g2
      | .ct ρ2 g2 => forL (pName 5) rwB (ws.map D.str) ρ2 g2
      | .bk ρ2 g2 => Fl.nx ρ2 g2
      | .rt d g2 => .rt d g2
      | .ex ρ2 x g2 => .ex ρ2 x g2
      | .fail => .fail) := fun r e => by rw [← e]; rfl
    by_cases hr : 0 < r
    · obtain ⟨r', g2, e2', s0, s1, k2⟩ := draw_ok (k := 2 * wide + 1) k1 (by omega) (by omega) (by omega)
      let v : Int := r' - wide + far
      obtain ⟨q, x', g', e, hs, hk⟩ := row_loop (a := a) (far := far) w0 w1 ws (n + 1 + 1) g2 (p ++ [(w, v)]) (some (.sh (.str w))) k2 (by omega) (by rw [List.length_append]; simp; omega)
      refine ⟨(w, v) :: q, x', g', ?_, ?_, hk.mono (by rw [List.length_cons]; omega)⟩
      · have st : rwB (rwR a wide p far (some (.sh (.str w)))) g = .nx (rwR a wide (p ++ [(w, v)]) far (some (.sh (.str w)))) g2 := by
          refine x_ifT (x_toB (x_e2 (x_call (ds := [.st, .int 4]) rfl rfl e1) rfl ?_)) ?_
          · show some (D.bl (decide (0 < r))) = _
            rw [decide_eq_true hr]
          · refine Eq.trans (x_app (xs := (up p).map dP) (d := dP (w, some v)) (g1 := g2) rfl (x_tup (ds := [.str w, .int v]) (x_cons rfl (x_cons (x_e2 (x_e2 (x_call (ds := [.st, .int (2 * wide + 1)]) (x_cons rfl (x_cons (x_e2 (x_e2 rfl rfl (pMul_ok (by decide))) rfl rfl) rfl)) rfl e2') rfl rfl) rfl rfl) rfl)) (by show 2 ≤ 1000; decide)) (by rw [List.length_map]; unfold up; rw [List.length_map]; omega)) ?_
            unfold rwR up
            rw [List.map_append, List.map_append]
            rfl
        rw [un _ st]
        show forL _ _ _ _ _ = _
        rw [e, List.append_assoc]
        rfl
      · rw [List.map_cons]
        exact hs.cons₂ w
    · obtain ⟨q, x', g', e, hs, hk⟩ := row_loop (a := a) (far := far) w0 w1 ws (n + 1) g1 p (some (.sh (.str w))) k1 (by omega) (by omega)
      refine ⟨q, x', g', ?_, hs.cons w, hk.mono (by rw [List.length_cons]; omega)⟩
      have st : rwB (rwR a wide p far (some (.sh (.str w)))) g = .nx (rwR a wide p far (some (.sh (.str w)))) g1 := by
        refine x_ifF (x_toB (x_e2 (x_call (ds := [.st, .int 4]) rfl rfl e1) rfl ?_)) rfl
        show some (D.bl (decide (0 < r))) = _
        rw [decide_eq_false hr]
      rw [un _ st]
      exact e
theorem row_ok {n : Nat} {ws : List Str} {wide : Int} {g : G} (h : Gk n g) (hn : n + 50 < 2 ^ 39) (hw : Wk ws) (w0 : 0 ≤ wide) (w1 : wide ≤ 1000) : ∃ (p : Pn) (g' : G), f__law_row [.st, .lst (ws.map D.str), .int wide] g = .ok (dPl p) g' ∧ (p.map Prod.fst).Sublist ws ∧ Gk (n + 50) g' := by
  have hl := hw.len
  obtain ⟨d, g1, e1, hd, k1⟩ := pick_ok (ds := [.int 0, .int 0, .int 0, .int 0, .int 0, .int (9 * 10 ^ (8 : Int).toNat)]) h (by omega) (List.cons_ne_nil _ _) (by show 6 < 1000000; decide)
  obtain ⟨far, rfl⟩ : ∃ far : Int, d = .int far := by
    simp only [List.mem_cons, List.not_mem_nil, or_false] at hd
    rcases hd with rfl | rfl | rfl | rfl | rfl | rfl <;> exact ⟨_, rfl⟩
  obtain ⟨q, x', g', e, hs, hk⟩ := row_loop (a := some (.sh (.lst (ws.map D.str)))) (far := far) w0 w1 ws (n + 1) g1 [] none k1 (by omega) (by simp; omega)
  rw [List.nil_append] at e
  refine ⟨q, g', x_run (x_seq (ρ1 := rwR (some (.sh (.lst (ws.map D.str)))) wide [] far none) (g1 := g1) (x_par (ss := [.ow [], .sh (.int far)]) (x_fOwn rfl (x_fSh (x_call (ds := [.st, .lst [.int 0, .int 0, .int 0, .int 0, .int 0, .int (9 * 10 ^ (8 : Int).toNat)]]) (x_cons rfl (x_cons (x_lst (ds := [.int 0, .int 0, .int 0, .int 0, .int 0, .int (9 * 10 ^ (8 : Int).toNat)]) ?_ (by show 6 ≤ 1000; decide)) rfl)) rfl e1) rfl)) rfl) (x_seq (x_for (x_seqI rfl rfl) e) (x_ret (x_e1 rfl rfl)))), hs, hk.mono (by omega)⟩
  exact x_cons rfl (x_cons rfl (x_cons rfl (x_cons rfl (x_cons rfl (x_cons (x_e2 rfl (x_e2 rfl rfl (pPow_ok (by decide) (by decide) (by decide))) (pMul_ok (by decide))) rfl)))))
def bdF : SE := eTup (aCons (eVar 3) (aCons (eIf (toB (e2 pEq (eCall 2 f__law_draw (aCons (eVar 0) (aCons (eC (.int 4)) (aNil)))) (eC (.int 0)))) (eC (.non)) (eVar 4)) (aNil)))
theorem bd_lc {a b : Option Sl} : ∀ (p : Pn) (n : Nat) (g : G), Gk n g → n + p.length < 2 ^ 39 → ∃ (L : Lm) (g' : G), lcL (pUn 2 (pCons (pName 3) (pCons (pName 4) (pNil)))) (tYesF) bdF [some (.sh .st), a, b, none, none] ((up p).map dP) g = .ok (L.map dP) g' ∧ L.map Prod.fst = p.map Prod.fst ∧ Gk (n + p.length) g'
  | [], n, g, h, _ => ⟨[], g, rfl, rfl, h⟩
  | x :: p, n, g, h, hn => by
    rw [List.length_cons] at hn
    obtain ⟨r, g1, e1, r0, r1, k1⟩ := draw_ok (k := 4) h (by omega) (by decide) (by decide)
    obtain ⟨L, g2, e, hf, hk⟩ := bd_lc (a := a) (b := b) p (n + 1) g1 k1 (by omega)
    have st : ∃ m : Option Int, bdF [some (.sh .st), a, b, some (.sh (.str x.1)), some (.sh (.int x.2))] g = .ok (dP (x.1, m)) g1 := by
      by_cases hr : r = 0
      · refine ⟨none, x_tup (ds := [.str x.1, .non]) (x_cons rfl (x_cons (x_eIfT (x_toB (x_e2 (x_call (ds := [.st, .int 4]) rfl rfl e1) rfl ?_)) rfl) rfl)) (by show 2 ≤ 1000; decide)⟩
        rw [pEq_int, decide_eq_true hr]
      · refine ⟨some x.2, x_tup (ds := [.str x.1, .int x.2]) (x_cons rfl (x_cons (x_eIfF (x_toB (x_e2 (x_call (ds := [.st, .int 4]) rfl rfl e1) rfl ?_)) rfl) rfl)) (by show 2 ≤ 1000; decide)⟩
        rw [pEq_int, decide_eq_false hr]
    obtain ⟨m, st⟩ := st
    refine ⟨(x.1, m) :: L, g2, ?_, by rw [List.map_cons, List.map_cons, hf], hk.mono (by rw [List.length_cons]; omega)⟩
    show ((bdF [some (.sh .st), a, b, some (.sh (.str x.1)), some (.sh (.int x.2))] g).noex).bind _ = _
    rw [st]
    show (lcL (pUn 2 (pCons (pName 3) (pCons (pName 4) (pNil)))) (tYesF) bdF [some (.sh .st), a, b, none, none] ((up p).map dP) g1).bind _ = _
    rw [e]
    rfl
theorem bound_ok {n : Nat} {ws : List Str} {wide : Int} {g : G} (h : Gk n g) (hn : n + 80 < 2 ^ 39) (hw : Wk ws) (w0 : 0 ≤ wide) (w1 : wide ≤ 1000) : ∃ (L : Lm) (g' : G), f__law_bound [.st, .lst (ws.map D.str), .int wide] g = .ok (dL L) g' ∧ (L.map Prod.fst).Sublist ws ∧ Gk (n + 80) g' := by
  have hl := hw.len
  obtain ⟨p, g1, e1, hs, k1⟩ := row_ok h (by omega) hw w0 w1
  have hp := sub_len hs
  obtain ⟨L, g2, e, hf, hk⟩ := bd_lc (a := some (.sh (.lst (ws.map D.str)))) (b := some (.sh (.int wide))) p (n + 50) g1 k1 (by omega)
  refine ⟨L, g2, x_run (x_ret (x_e1 (x_fLst (x_eLc (x_seqI (d := dPl p) (x_call (ds := [.st, .lst (ws.map D.str), .int wide]) rfl rfl e1) rfl) e ?_)) rfl)), by rw [hf]; exact hs, hk.mono (by omega)⟩
  have : L.length = p.length := by have := congrArg List.length hf; rw [List.length_map, List.length_map] at this; exact this
  rw [List.length_map]
  omega
end CP

/-! PLK04: the law k04. -/
namespace CP
open PySem L2 T

/-! ### the tests, as plain facts -/
theorem jl2 (a b : Pn) (k : Str) : jlook [a, b] k = mxO (look a k) (look b k) := rfl
theorem jl3 (a b c : Pn) (k : Str) : jlook [a, b, c] k = mxO (mxO (look a k) (look b k)) (look c k) := rfl
theorem putBy_back (p : Pn) (n : Int) : putBy (putBy p n) (0 - n) = p := by
  unfold putBy
  rw [List.map_map]
  refine (List.map_congr_left fun x _ => ?_).trans (List.map_id p)
  obtain ⟨k, m⟩ := x
  show (k, m + n + (0 - n)) = (k, m)
  rw [show m + n + (0 - n) = m by omega]
def freeOf (p : Pn) : Lm := p.map fun x => (x.1, none)
theorem look_free (p : Pn) (k : Str) : look (freeOf p) k = (look p k).map fun _ => none := look_map (fun _ => none) p k
theorem Pk.free {p : Pn} (h : Pk p) : Lk (freeOf p) := ⟨Srt.map (fun _ => none) h.srt, fun x hx => by
  unfold freeOf at hx
  obtain ⟨y, hy, rfl⟩ := List.mem_map.mp hx
  exact h.nm y hy, by unfold freeOf; rw [List.length_map]; exact h.len⟩
theorem w_join {a b J : Pn} (ha : Pk a) (hb : Pk b) (hJ : Pk J) (e : ∀ k, look J k = mxO (look a k) (look b k)) : inL (up a) (up b) = decide (up J = up b) := by
  rw [Bool.eq_iff_iff, inL_iff ha.srt.up, decide_eq_true_eq]
  constructor
  · intro h
    refine srt_ext hJ.srt.up hb.srt.up fun k => ?_
    have := h k
    rw [up_look, up_look, leO_mx] at this
    rw [up_look, up_look, e, this]
  · intro h k
    rw [up_look, up_look, leO_mx, ← e, up_inj h]
theorem w_both {a b J : Pn} {t : Lm} (ha : Pk a) (hb : Pk b) (hJ : Pk J) (e : ∀ k, look J k = mxO (look a k) (look b k)) : inL (up J) t = (inL (up a) t && inL (up b) t) := by
  rw [Bool.eq_iff_iff, Bool.and_eq_true, inL_iff hJ.srt.up, inL_iff ha.srt.up, inL_iff hb.srt.up]
  constructor
  · intro h
    exact ⟨fun k => by have := h k; rw [up_look, e, leO_join] at this; rw [up_look]; exact this.1, fun k => by have := h k; rw [up_look, e, leO_join] at this; rw [up_look]; exact this.2⟩
  · intro h k
    rw [up_look, e, leO_join]
    have h1 := h.1 k
    have h2 := h.2 k
    rw [up_look] at h1 h2
    exact ⟨h1, h2⟩
theorem w_later {a b : Pn} (ha : Pk a) (n : Int) : inL (up (putBy a n)) (up (putBy b n)) = inL (up a) (up b) := by
  rw [Bool.eq_iff_iff, inL_iff (ha.putBy n).srt.up, inL_iff ha.srt.up]
  have key : ∀ k, leO (look (up (putBy a n)) k) (look (up (putBy b n)) k) ↔ leO (look (up a) k) (look (up b) k) := fun k => by
    rw [up_look, up_look, up_look, up_look, look_putBy, look_putBy, leO_add]
  exact ⟨fun h k => (key k).mp (h k), fun h k => (key k).mpr (h k)⟩
theorem w_trans {a b c : Lm} (ha : Srt a) (hb : Srt b) : (inL a b && (inL b c && !inL a c)) = false := by
  cases h1 : inL a b with
  | false => rfl
  | true =>
    cases h2 : inL b c with
    | false => rfl
    | true =>
      have : inL a c = true := (inL_iff ha).mpr fun k => leO_trans ((inL_iff ha).mp h1 k) ((inL_iff hb).mp h2 k)
      rw [this]
      rfl
theorem w_anti {a b : Lm} (ha : Srt a) (hb : Srt b) : (inL a b && (inL b a && !decide (a = b))) = false := by
  cases h1 : inL a b with
  | false => rfl
  | true =>
    cases h2 : inL b a with
    | false => rfl
    | true =>
      have : a = b := srt_ext ha hb fun k => leO_anti ((inL_iff ha).mp h1 k) ((inL_iff hb).mp h2 k)
      rw [decide_eq_true this]
      rfl
theorem w_free {a : Pn} (ha : Pk a) : inL (up a) (freeOf a) = true := (inL_iff ha.srt.up).mpr fun k => by
  rw [up_look, look_free]
  cases look a k <;> trivial
theorem w_free2 {a : Pn} (ha : Pk a) : inL (freeOf a) (up a) = decide (up a = []) := by
  cases a with
  | nil => rfl
  | cons x a =>
    rw [decide_eq_false (fun z => by unfold up at z; cases z)]
    show (okIn (up (x :: a)) (x.1, none) && _) = false
    have : okIn (up (x :: a)) (x.1, none) = false := by
      have e : look (up (x :: a)) x.1 = some (some x.2) := by rw [up_look, look_cons, if_pos rfl]; rfl
      unfold okIn
      rw [e]
    rw [this]
    rfl
theorem w_nones {t : Lm} {a : Pn} : (inL t (up a) && !(((t.filter fun x => x.2.isNone).map Prod.fst).isEmpty)) = false := by
  cases h : inL t (up a) with
  | false => rfl
  | true =>
    have : t.filter (fun x => x.2.isNone) = [] := by
      rw [List.filter_eq_nil_iff]
      intro x hx hn
      have := List.all_eq_true.mp h x hx
      rw [okIn_iff, up_look] at this
      cases hm : x.2 with
      | some i => rw [hm] at hn; cases hn
      | none =>
        rw [hm] at this
        cases e : look a x.1 with
        | none => rw [e] at this; exact False.elim this
        | some m => rw [e] at this; exact False.elim this
    rw [this]
    rfl
theorem pNe_strs (ws : List Str) : pNe (.lst (ws.map D.str)) (.lst []) = some (.bl (!ws.isEmpty)) := by
  have o : okD 60 (.lst (ws.map D.str)) = true := by
    show (ws.map D.str).all (okD 59) = true
    rw [List.all_map, List.all_eq_true]
    exact fun _ _ => rfl
  unfold pNe
  rw [o]
  cases ws with
  | nil => rfl
  | cons w ws => simp [eqDD, toPy, toPys, PyData.eqv, PyData.eqvAll, okD]
theorem ne_same (a : Lm) : pNe (dL a) (dL a) = some (.bl false) := by rw [pNe_dL, decide_eq_true rfl]; rfl
theorem ne_bool {a b : Bool} (h : a = b) : pNe (.bl a) (.bl b) = some (.bl false) := by subst h; cases a <;> rfl

/-! ### the body of the loop -/
def lwI : SA := iRange1 (e2 pAdd (eC (.int 10)) (e2 pMin (e1 pLen (eAny 0)) (eC (.int 30))))
def lwB : SS := sSeq (sAsg (pName 3) (eCall 2 f__law_words (aCons (eVar 1) (aCons (e2 pAdd (eC (.int 1)) (eCall 2 f__law_draw (aCons (eVar 1) (aCons (eC (.int 4)) (aNil))))) (aNil))))) (sSeq (sAsg (pUn 3 (pCons (pName 4) (pCons (pName 5) (pCons (pName 6) (pNil))))) (fLst (eLc (iRange1 (eC (.int 3))) (pName 12) (tYesF) (eCall 3 f__law_row (aCons (eVar 1) (aCons (eVar 3) (aCons (eCall 2 f__law_pick (aCons (eVar 1) (aCons (eLst (aCons (eC (.int 1)) (aCons (eC (.int 2)) (aCons (eC (.int 9)) (aNil))))) (aNil)))) (aNil))))) [12]))) (sSeq (sPar [7, 8, 9] (fSh (eCall 3 f__law_bound (aCons (eVar 1) (aCons (eVar 3) (aCons (eC (.int 4)) (aNil))))) (fSh (eCall 3 f__law_bound (aCons (eVar 1) (aCons (eVar 3) (aCons (eC (.int 4)) (aNil))))) (fSh (e2 pSub (eCall 2 f__law_draw (aCons (eVar 1) (aCons (eC (.int 41)) (aNil)))) (eC (.int 20))) (fNil))))) (sSeq (sAsg (pName 10) (eCall 1 f_joined (aCons (eLst (aCons (eVar 4) (aCons (eVar 5) (aNil)))) (aNil)))) (sSeq (sIf (tOrF (toB (e2 pNe (eAny 10) (eCall 1 f_joined (aCons (eLst (aCons (eVar 5) (aCons (eVar 4) (aNil)))) (aNil))))) (tOrF (toB (e2 pNe (eAny 10) (eCall 1 f_joined (aCons (eLst (aCons (eVar 4) (aCons (eVar 5) (aCons (eVar 4) (aNil))))) (aNil))))) (toB (e2 pNe (eCall 2 f_later (aCons (eCall 2 f_later (aCons (eVar 4) (aCons (eVar 9) (aNil)))) (aCons (e2 pSub (eC (.int 0)) (eAny 9)) (aNil)))) (eAny 4))))) (sRet (eC (.bl false))) (sNext)) (sSeq (sIf (tOrF (toB (e2 pNe (eCall 1 f_joined (aCons (eLst (aCons (eVar 10) (aCons (eVar 6) (aNil)))) (aNil))) (eCall 1 f_joined (aCons (eLst (aCons (eVar 4) (aCons (eCall 1 f_joined (aCons (eLst (aCons (eVar 5) (aCons (eVar 6) (aNil)))) (aNil))) (aNil)))) (aNil))))) (toB (e2 pNe (eCall 2 f_later (aCons (eVar 10) (aCons (eVar 9) (aNil)))) (eCall 1 f_joined (aCons (eLst (aCons (eCall 2 f_later (aCons (eVar 4) (aCons (eVar 9) (aNil)))) (aCons (eCall 2 f_later (aCons (eVar 5) (aCons (eVar 9) (aNil)))) (aNil)))) (aNil)))))) (sRet (eC (.bl false))) (sNext)) (sSeq (sIf (tOrF (toB (e2 pNe (eCall 2 f_is_within (aCons (eVar 4) (aCons (eVar 5) (aNil)))) (e2 pEq (eAny 10) (eAny 5)))) (toB (e2 pNe (eCall 2 f_is_within (aCons (eVar 10) (aCons (eVar 7) (aNil)))) (eAnd (eCall 2 f_is_within (aCons (eVar 4) (aCons (eVar 7) (aNil)))) (eCall 2 f_is_within (aCons (eVar 5) (aCons (eVar 7) (aNil)))))))) (sRet (eC (.bl false))) (sNext)) (sSeq (sIf (toB (e2 pNe (eCall 2 f_is_within (aCons (eCall 2 f_later (aCons (eVar 4) (aCons (eVar 9) (aNil)))) (aCons (eCall 2 f_later (aCons (eVar 5) (aCons (eVar 9) (aNil)))) (aNil)))) (eCall 2 f_is_within (aCons (eVar 4) (aCons (eVar 5) (aNil)))))) (sRet (eC (.bl false))) (sNext)) (sSeq (sIf (tAndF (toB (eCall 2 f_is_within (aCons (eVar 4) (aCons (eVar 7) (aNil))))) (tAndF (toB (eCall 2 f_is_within (aCons (eVar 7) (aCons (eVar 8) (aNil))))) (tNotF (toB (eCall 2 f_is_within (aCons (eVar 4) (aCons (eVar 8) (aNil)))))))) (sRet (eC (.bl false))) (sNext)) (sSeq (sIf (tAndF (toB (eCall 2 f_is_within (aCons (eVar 7) (aCons (eVar 8) (aNil))))) (tAndF (toB (eCall 2 f_is_within (aCons (eVar 8) (aCons (eVar 7) (aNil))))) (toB (e2 pNe (eAny 7) (eAny 8))))) (sRet (eC (.bl false))) (sNext)) (sSeq (sAsg (pName 11) (e1 pTuple (fLst (eLc (iSeq (eVar 4)) (pUn 2 (pCons (pName 13) (pCons (pName 14) (pNil)))) (tYesF) (eTup (aCons (eVar 13) (aCons (eC (.non)) (aNil)))) [13, 14])))) (sSeq (sIf (tOrF (tNotF (toB (eCall 2 f_is_within (aCons (eVar 4) (aCons (eVar 11) (aNil)))))) (tOrF (toB (e2 pNe (eCall 2 f_is_within (aCons (eVar 11) (aCons (eVar 4) (aNil)))) (e2 pEq (eAny 4) (eTup (aNil))))) (tNotF (toB (eCall 2 f_is_within (aCons (eTup (aNil)) (aCons (eVar 7) (aNil)))))))) (sRet (eC (.bl false))) (sNext)) (sIf (tAndF (toB (eCall 2 f_is_within (aCons (eVar 7) (aCons (eVar 4) (aNil))))) (toB (e2 pNe (fLst (eLc (iSeq (eVar 7)) (pUn 2 (pCons (pName 13) (pCons (pName 14) (pNil)))) (toB (e1 pIsN (eAny 14))) (eVar 13) [13, 14])) (eLst (aNil))))) (sRet (eC (.bl false))) (sNext)))))))))))))
def lw0 : SS := sAsg (pName 3) (eCall 2 f__law_words (aCons (eVar 1) (aCons (e2 pAdd (eC (.int 1)) (eCall 2 f__law_draw (aCons (eVar 1) (aCons (eC (.int 4)) (aNil))))) (aNil))))
def lw1 : SS := sAsg (pUn 3 (pCons (pName 4) (pCons (pName 5) (pCons (pName 6) (pNil))))) (fLst (eLc (iRange1 (eC (.int 3))) (pName 12) (tYesF) (eCall 3 f__law_row (aCons (eVar 1) (aCons (eVar 3) (aCons (eCall 2 f__law_pick (aCons (eVar 1) (aCons (eLst (aCons (eC (.int 1)) (aCons (eC (.int 2)) (aCons (eC (.int 9)) (aNil))))) (aNil)))) (aNil))))) [12]))
def lw2 : SS := sPar [7, 8, 9] (fSh (eCall 3 f__law_bound (aCons (eVar 1) (aCons (eVar 3) (aCons (eC (.int 4)) (aNil))))) (fSh (eCall 3 f__law_bound (aCons (eVar 1) (aCons (eVar 3) (aCons (eC (.int 4)) (aNil))))) (fSh (e2 pSub (eCall 2 f__law_draw (aCons (eVar 1) (aCons (eC (.int 41)) (aNil)))) (eC (.int 20))) (fNil))))
def lw3 : SS := sAsg (pName 10) (eCall 1 f_joined (aCons (eLst (aCons (eVar 4) (aCons (eVar 5) (aNil)))) (aNil)))
def lw4 : SS := sIf (tOrF (toB (e2 pNe (eAny 10) (eCall 1 f_joined (aCons (eLst (aCons (eVar 5) (aCons (eVar 4) (aNil)))) (aNil))))) (tOrF (toB (e2 pNe (eAny 10) (eCall 1 f_joined (aCons (eLst (aCons (eVar 4) (aCons (eVar 5) (aCons (eVar 4) (aNil))))) (aNil))))) (toB (e2 pNe (eCall 2 f_later (aCons (eCall 2 f_later (aCons (eVar 4) (aCons (eVar 9) (aNil)))) (aCons (e2 pSub (eC (.int 0)) (eAny 9)) (aNil)))) (eAny 4))))) (sRet (eC (.bl false))) (sNext)
def lw5 : SS := sIf (tOrF (toB (e2 pNe (eCall 1 f_joined (aCons (eLst (aCons (eVar 10) (aCons (eVar 6) (aNil)))) (aNil))) (eCall 1 f_joined (aCons (eLst (aCons (eVar 4) (aCons (eCall 1 f_joined (aCons (eLst (aCons (eVar 5) (aCons (eVar 6) (aNil)))) (aNil))) (aNil)))) (aNil))))) (toB (e2 pNe (eCall 2 f_later (aCons (eVar 10) (aCons (eVar 9) (aNil)))) (eCall 1 f_joined (aCons (eLst (aCons (eCall 2 f_later (aCons (eVar 4) (aCons (eVar 9) (aNil)))) (aCons (eCall 2 f_later (aCons (eVar 5) (aCons (eVar 9) (aNil)))) (aNil)))) (aNil)))))) (sRet (eC (.bl false))) (sNext)
def lw6 : SS := sIf (tOrF (toB (e2 pNe (eCall 2 f_is_within (aCons (eVar 4) (aCons (eVar 5) (aNil)))) (e2 pEq (eAny 10) (eAny 5)))) (toB (e2 pNe (eCall 2 f_is_within (aCons (eVar 10) (aCons (eVar 7) (aNil)))) (eAnd (eCall 2 f_is_within (aCons (eVar 4) (aCons (eVar 7) (aNil)))) (eCall 2 f_is_within (aCons (eVar 5) (aCons (eVar 7) (aNil)))))))) (sRet (eC (.bl false))) (sNext)
def lw7 : SS := sIf (toB (e2 pNe (eCall 2 f_is_within (aCons (eCall 2 f_later (aCons (eVar 4) (aCons (eVar 9) (aNil)))) (aCons (eCall 2 f_later (aCons (eVar 5) (aCons (eVar 9) (aNil)))) (aNil)))) (eCall 2 f_is_within (aCons (eVar 4) (aCons (eVar 5) (aNil)))))) (sRet (eC (.bl false))) (sNext)
def lw8 : SS := sIf (tAndF (toB (eCall 2 f_is_within (aCons (eVar 4) (aCons (eVar 7) (aNil))))) (tAndF (toB (eCall 2 f_is_within (aCons (eVar 7) (aCons (eVar 8) (aNil))))) (tNotF (toB (eCall 2 f_is_within (aCons (eVar 4) (aCons (eVar 8) (aNil)))))))) (sRet (eC (.bl false))) (sNext)
def lw9 : SS := sIf (tAndF (toB (eCall 2 f_is_within (aCons (eVar 7) (aCons (eVar 8) (aNil))))) (tAndF (toB (eCall 2 f_is_within (aCons (eVar 8) (aCons (eVar 7) (aNil))))) (toB (e2 pNe (eAny 7) (eAny 8))))) (sRet (eC (.bl false))) (sNext)
def lw10 : SS := sAsg (pName 11) (e1 pTuple (fLst (eLc (iSeq (eVar 4)) (pUn 2 (pCons (pName 13) (pCons (pName 14) (pNil)))) (tYesF) (eTup (aCons (eVar 13) (aCons (eC (.non)) (aNil)))) [13, 14])))
def lw11 : SS := sIf (tOrF (tNotF (toB (eCall 2 f_is_within (aCons (eVar 4) (aCons (eVar 11) (aNil)))))) (tOrF (toB (e2 pNe (eCall 2 f_is_within (aCons (eVar 11) (aCons (eVar 4) (aNil)))) (e2 pEq (eAny 4) (eTup (aNil))))) (tNotF (toB (eCall 2 f_is_within (aCons (eTup (aNil)) (aCons (eVar 7) (aNil)))))))) (sRet (eC (.bl false))) (sNext)
def lw12 : SS := sIf (tAndF (toB (eCall 2 f_is_within (aCons (eVar 7) (aCons (eVar 4) (aNil))))) (toB (e2 pNe (fLst (eLc (iSeq (eVar 7)) (pUn 2 (pCons (pName 13) (pCons (pName 14) (pNil)))) (toB (e1 pIsN (eAny 14))) (eVar 13) [13, 14])) (eLst (aNil))))) (sRet (eC (.bl false))) (sNext)
def lwR (ns : List Int) (x2 x3 x4 x5 x6 x7 x8 x9 x10 x11 : Option Sl) : Rho := [some (.sh (.scr ns)), some (.sh .st), x2, x3, x4, x5, x6, x7, x8, x9, x10, x11, none, none, none]
theorem lw_turn {ns : List Int} {n : Nat} {g : G} {x2 x3 x4 x5 x6 x7 x8 x9 x10 x11 : Option Sl} (h : Gk n g) (hn : n + 1000 < 2 ^ 39) :
    ∃ y3 y4 y5 y6 y7 y8 y9 y10 y11 g', lwB (lwR ns x2 x3 x4 x5 x6 x7 x8 x9 x10 x11) g = .nx (lwR ns x2 y3 y4 y5 y6 y7 y8 y9 y10 y11) g' ∧ Gk (n + 1000) g' := by
  -- the words
  obtain ⟨r, g1, e1, r0, r1, k1⟩ := draw_ok (k := 4) h (by omega) (by decide) (by decide)
  obtain ⟨ws, g2, e2', s2, n2, l2, k2⟩ := words_ok (m := 1 + r) k1 (by omega) (by omega) (by omega)
  have hw : Wk ws := ⟨s2, n2, by omega⟩
  have t0 : lw0 (lwR ns x2 x3 x4 x5 x6 x7 x8 x9 x10 x11) g = .nx (lwR ns x2 (some (.sh (.lst (ws.map D.str)))) x4 x5 x6 x7 x8 x9 x10 x11) g2 :=
    x_asg (x_call (ds := [.st, .int (1 + r)]) (x_cons rfl (x_cons (x_e2 rfl (x_call (ds := [.st, .int 4]) rfl rfl e1) rfl) rfl)) rfl e2') rfl
  -- the plans
  obtain ⟨ys, g3, e3, l3, p3, k3⟩ := lc_draw (c := 51) (p := pName 12) (f := eCall 3 f__law_row (aCons (eVar 1) (aCons (eVar 3) (aCons (eCall 2 f__law_pick (aCons (eVar 1) (aCons (eLst (aCons (eC (.int 1)) (aCons (eC (.int 2)) (aCons (eC (.int 9)) (aNil))))) (aNil)))) (aNil)))))
    (ρ := lwR ns x2 (some (.sh (.lst (ws.map D.str)))) x4 x5 x6 x7 x8 x9 x10 x11) (fun d => ∃ p : Pn, d = dPl p ∧ (p.map Prod.fst).Sublist ws) (rangeD 0 3) (n + 1 + 160) g2 k2 (by rw [range_len]; show n + 1 + 160 + 51 * 3 < _; omega) fun d hd m' g' k' hb => by
      obtain ⟨d1, g'', e, hd1, kk⟩ := pick_ok (ds := [.int 1, .int 2, .int 9]) k' (by omega) (List.cons_ne_nil _ _) (by show 3 < 1000000; decide)
      obtain ⟨wide, rfl, w0, w1⟩ : ∃ i : Int, d1 = .int i ∧ 0 ≤ i ∧ i ≤ 1000 := by
        simp only [List.mem_cons, List.not_mem_nil, or_false] at hd1
        rcases hd1 with rfl | rfl | rfl
        · exact ⟨1, rfl, by decide, by decide⟩
        · exact ⟨2, rfl, by decide, by decide⟩
        · exact ⟨9, rfl, by decide, by decide⟩
      obtain ⟨p, g3, e3, hs, k3⟩ := row_ok kk (by omega) hw w0 w1
      exact ⟨_, _, g3, rfl, x_call (ds := [.st, .lst (ws.map D.str), .int wide]) (x_cons rfl (x_cons rfl (x_cons (x_call (ds := [.st, .lst [.int 1, .int 2, .int 9]]) rfl rfl e) rfl))) rfl e3, ⟨p, rfl, hs⟩, k3.mono (by omega)⟩
  have hr3 : (rangeD 0 3).length = 3 := by decide
  rw [hr3] at l3 k3
  obtain ⟨d1, d2, d3, rfl⟩ : ∃ d1 d2 d3, ys = [d1, d2, d3] := by
    match ys, l3 with
    | [d1, d2, d3], _ => exact ⟨d1, d2, d3, rfl⟩
  obtain ⟨one, rfl, so⟩ := p3 d1 (by simp)
  obtain ⟨two, rfl, st⟩ := p3 d2 (by simp)
  obtain ⟨three, rfl, sh⟩ := p3 d3 (by simp)
  have po := pk_sub hw so
  have pt := pk_sub hw st
  have ph := pk_sub hw sh
  have lo := sub_len so
  have lt' := sub_len st
  have lh := sub_len sh
  have hl20 := hw.len
  have t1 : lw1 (lwR ns x2 (some (.sh (.lst (ws.map D.str)))) x4 x5 x6 x7 x8 x9 x10 x11) g2 = .nx (lwR ns x2 (some (.sh (.lst (ws.map D.str)))) (some (.sh (dPl one))) (some (.sh (dPl two))) (some (.sh (dPl three))) x7 x8 x9 x10 x11) g3 :=
    x_asg (x_fLst (x_eLc (x_range rfl (by decide)) e3 (by show 3 ≤ 100000; decide))) rfl
  -- the limits and the number
  obtain ⟨top, g4, e4, s4, k4⟩ := bound_ok (wide := 4) k3 (by omega) hw (by decide) (by decide)
  obtain ⟨nt, g5, e5, s5, k5⟩ := bound_ok (wide := 4) k4 (by omega) hw (by decide) (by decide)
  obtain ⟨q, g6, e6, q0, q1, k6⟩ := draw_ok (k := 41) k5 (by omega) (by decide) (by decide)
  have hT := lk_sub hw s4
  have hN := lk_sub hw s5
  let num : Int := q - 20
  have t2 : lw2 (lwR ns x2 (some (.sh (.lst (ws.map D.str)))) (some (.sh (dPl one))) (some (.sh (dPl two))) (some (.sh (dPl three))) x7 x8 x9 x10 x11) g3 = .nx (lwR ns x2 (some (.sh (.lst (ws.map D.str)))) (some (.sh (dPl one))) (some (.sh (dPl two))) (some (.sh (dPl three))) (some (.sh (dL top))) (some (.sh (dL nt))) (some (.sh (.int num))) x10 x11) g6 :=
    x_par (ss := [.sh (dL top), .sh (dL nt), .sh (.int num)]) (x_fSh (x_call (ds := [.st, .lst (ws.map D.str), .int 4]) rfl rfl e4) (x_fSh (x_call (ds := [.st, .lst (ws.map D.str), .int 4]) rfl rfl e5) (x_fSh (x_e2 (x_call (ds := [.st, .int 41]) rfl rfl e6) rfl rfl) rfl))) rfl
  -- joins
  have two_ok : ∀ {a b : Pn}, Pk a → Pk b → a.length ≤ 100 → b.length ≤ 100 → ∃ J, f_joined [.lst [dPl a, dPl b]] g6 = .ok (dPl J) g6 ∧ Pk J ∧ (∀ k, look J k = mxO (look a k) (look b k)) ∧ J.length ≤ a.length + b.length := fun {a b} ha hb la lb => by
    obtain ⟨J, j1, j2, j3, j4⟩ := joined_ok (ps := [a, b]) (fun p hp => by
      rcases List.mem_cons.mp hp with rfl | hp
      · exact ha
      · rw [List.mem_singleton.mp hp]; exact hb) (by simp; omega) g6
    exact ⟨J, j1, j2, j3, by simpa using j4⟩
  obtain ⟨J12, a12, p12, k12, l12⟩ := two_ok po pt (by omega) (by omega)
  obtain ⟨J21, a21, p21, k21, l21⟩ := two_ok pt po (by omega) (by omega)
  obtain ⟨J23, a23, p23, k23, l23⟩ := two_ok pt ph (by omega) (by omega)
  obtain ⟨J123, a123, p123, k123, l123⟩ := two_ok p12 ph (by omega) (by omega)
  obtain ⟨J1_23, a1_23, p1_23, k1_23, l1_23⟩ := two_ok po p23 (by omega) (by omega)
  have lp : ∀ (a : Pn) (n : Int), (putBy a n).length = a.length := fun a n => by unfold putBy; rw [List.length_map]
  obtain ⟨JL, aL, pL, kL, lL⟩ := two_ok (po.putBy num) (pt.putBy num) (by rw [lp]; omega) (by rw [lp]; omega)
  obtain ⟨J121, a121, p121, k121, l121⟩ := joined_ok (ps := [one, two, one]) (fun p hp => by
      simp only [List.mem_cons, List.not_mem_nil, or_false] at hp
      rcases hp with rfl | rfl | rfl
      · exact po
      · exact pt
      · exact po) (by simp; omega) g6
  have q21 : J12 = J21 := srt_ext p12.srt p21.srt fun k => by rw [k21, k12, mxO_comm]
  have q121 : J12 = J121 := srt_ext p12.srt p121.srt fun k => by
    rw [k121, k12, jl3, mxO_comm (mxO _ _), ← mxO_assoc, mxO_self]
  have q123 : J123 = J1_23 := srt_ext p123.srt p1_23.srt fun k => by rw [k1_23, k123, k23, k12, mxO_assoc]
  have qL : putBy J12 num = JL := srt_ext (p12.putBy num).srt pL.srt fun k => by rw [kL, look_putBy, look_putBy, look_putBy, k12, mxO_add]
  subst q21 q121 q123 qL
  let W1 : Option Sl := some (.sh (.lst (ws.map D.str)))
  have t3 : lw3 (lwR ns x2 W1 (some (.sh (dPl one))) (some (.sh (dPl two))) (some (.sh (dPl three))) (some (.sh (dL top))) (some (.sh (dL nt))) (some (.sh (.int num))) x10 x11) g6 = .nx (lwR ns x2 W1 (some (.sh (dPl one))) (some (.sh (dPl two))) (some (.sh (dPl three))) (some (.sh (dL top))) (some (.sh (dL nt))) (some (.sh (.int num))) (some (.sh (dPl J12))) x11) g6 :=
    x_asg (x_call rfl rfl a12) rfl
  let ρ9 : Rho := lwR ns x2 W1 (some (.sh (dPl one))) (some (.sh (dPl two))) (some (.sh (dPl three))) (some (.sh (dL top))) (some (.sh (dL nt))) (some (.sh (.int num))) (some (.sh (dPl J12))) x11
  have le2 : 2 ≤ 1000 := by decide
  have t4 : lw4 ρ9 g6 = .nx ρ9 g6 := x_ifF (x_orF (x_toB (x_e2 rfl (x_call rfl rfl a21) (ne_same _))) (x_orF (x_toB (x_e2 rfl (x_call rfl rfl a121) (ne_same _))) (x_toB (x_e2 (x_call (x_cons (x_call rfl rfl (later_ok po num g6)) (x_cons (x_e2 rfl rfl rfl) rfl)) rfl (later_ok (po.putBy num) (0 - num) g6)) rfl (by rw [putBy_back]; exact ne_same _))))) rfl
  have t5 : lw5 ρ9 g6 = .nx ρ9 g6 := x_ifF (x_orF (x_toB (x_e2 (x_call rfl rfl a123) (x_call (x_cons (x_lst (x_cons rfl (x_cons (x_call rfl rfl a23) rfl)) le2) rfl) rfl a1_23) (ne_same _))) (x_toB (x_e2 (x_call rfl rfl (later_ok p12 num g6)) (x_call (x_cons (x_lst (x_cons (x_call rfl rfl (later_ok po num g6)) (x_cons (x_call rfl rfl (later_ok pt num g6)) rfl)) le2) rfl) rfl aL) (ne_same _)))) rfl
  have t6 : lw6 ρ9 g6 = .nx ρ9 g6 := x_ifF (x_orF (x_toB (x_e2 (x_call rfl rfl (is_within_ok po.lk pt.lk g6)) (x_e2 rfl rfl (pEq_dL _ _)) (ne_bool (w_join po pt p12 k12)))) (x_toB (x_e2 (x_call rfl rfl (is_within_ok p12.lk hT g6)) (x_eAnd (x_call rfl rfl (is_within_ok po.lk hT g6)) fun _ => x_call rfl rfl (is_within_ok pt.lk hT g6)) (ne_bool (w_both po pt p12 k12))))) rfl
  have t7 : lw7 ρ9 g6 = .nx ρ9 g6 := x_ifF (x_toB (x_e2 (x_call (x_cons (x_call rfl rfl (later_ok po num g6)) (x_cons (x_call rfl rfl (later_ok pt num g6)) rfl)) rfl (is_within_ok (po.putBy num).lk (pt.putBy num).lk g6)) (x_call rfl rfl (is_within_ok po.lk pt.lk g6)) (ne_bool (w_later po num)))) rfl
  have t8 : lw8 ρ9 g6 = .nx ρ9 g6 := x_ifF ((x_and (x_toB (x_call rfl rfl (is_within_ok po.lk hT g6))) (x_and (x_toB (x_call rfl rfl (is_within_ok hT hN g6))) (x_not (x_toB (x_call rfl rfl (is_within_ok po.lk hN g6)))))).trans (congrArg (fun b => Res.ok b g6) (w_trans po.lk.srt hT.srt))) rfl
  have t9 : lw9 ρ9 g6 = .nx ρ9 g6 := x_ifF ((x_and (x_toB (x_call rfl rfl (is_within_ok hT hN g6))) (x_and (x_toB (x_call rfl rfl (is_within_ok hN hT g6))) (x_toB (x_e2 rfl rfl (pNe_dL _ _))))).trans (congrArg (fun b => Res.ok b g6) (w_anti hT.srt hN.srt))) rfl
  let ρ10 : Rho := lwR ns x2 W1 (some (.sh (dPl one))) (some (.sh (dPl two))) (some (.sh (dPl three))) (some (.sh (dL top))) (some (.sh (dL nt))) (some (.sh (.int num))) (some (.sh (dPl J12))) (some (.sh (dL (freeOf one))))
  have t10 : lw10 ρ9 g6 = .nx ρ10 g6 := by
    refine x_asg (d := dL (freeOf one)) (x_e1 (x_fLst (x_eLc (x_seqI rfl rfl) (?_ : _ = Res.ok (one.map fun x => dP (x.1, none)) g6) ?_)) ?_) rfl
    · unfold up
      rw [List.map_map]
      refine lc_map _ (fun x => dP (x.1, none)) one fun x _ => ?_
      exact ⟨_, rfl, rfl⟩
    · rw [List.length_map]; omega
    · show some (D.tup _) = some (D.tup _)
      unfold freeOf
      rw [List.map_map]
      rfl
  have lk0 : Lk [] := ⟨List.Pairwise.nil, (fun _ z => nomatch z), by decide⟩
  have t11 : lw11 ρ10 g6 = .nx ρ10 g6 := x_ifF (x_orF (x_not (b := true) (x_toB (x_call rfl rfl ((is_within_ok po.lk po.free g6).trans (by rw [w_free po]))))) (x_orF (x_toB (x_e2 (x_call rfl rfl (is_within_ok po.free po.lk g6)) (x_e2 rfl rfl (pEq_dL (up one) [])) (ne_bool (w_free2 po)))) (x_not (b := true) (x_toB (x_call (ds := [dL [], dL top]) rfl rfl (is_within_ok lk0 hT g6)))))) rfl
  have t12 : lw12 ρ10 g6 = .nx ρ10 g6 := by
    refine x_ifF ((x_and (x_toB (x_call rfl rfl (is_within_ok hT po.lk g6))) (x_toB (x_e2 (x_fLst (x_eLc (x_seqI rfl rfl) (lc_filter dP (fun x => D.str x.1) (fun x => x.2.isNone) top fun x _ => ⟨_, rfl, x_toB (x_e1 rfl ?_), rfl⟩) ?_)) rfl ?_))).trans (congrArg (fun b => Res.ok b g6) (w_nones (t := top) (a := one)))) rfl
    · show some (D.bl (dE x.2).isNon) = _
      cases x.2 <;> rfl
    · rw [List.length_map]
      have := List.length_filter_le (fun x : Str × Option Int => x.2.isNone) top
      have := hT.len
      omega
    · have e := pNe_strs ((top.filter fun x => x.2.isNone).map Prod.fst)
      rw [List.map_map] at e
      exact e
  exact ⟨_, _, _, _, _, _, _, _, _, g6, x_seq t0 (x_seq t1 (x_seq t2 (x_seq t3 (x_seq t4 (x_seq t5 (x_seq t6 (x_seq t7 (x_seq t8 (x_seq t9 (x_seq t10 (x_seq t11 t12))))))))))), k6.mono (by omega)⟩
theorem lw_loop {ns : List Int} : ∀ (ds : List D) (n : Nat) (g : G) (x2 x3 x4 x5 x6 x7 x8 x9 x10 x11 : Option Sl), Gk n g → n + 1000 * ds.length < 2 ^ 39 → ∃ ρ' g', forL (pName 2) lwB ds (lwR ns x2 x3 x4 x5 x6 x7 x8 x9 x10 x11) g = .nx ρ' g'
  | [], n, g, x2, x3, x4, x5, x6, x7, x8, x9, x10, x11, _, _ => ⟨_, _, rfl⟩
  | d :: ds, n, g, x2, x3, x4, x5, x6, x7, x8, x9, x10, x11, h, hn => by
    rw [List.length_cons] at hn
    obtain ⟨y3, y4, y5, y6, y7, y8, y9, y10, y11, g', e, k⟩ := lw_turn (ns := ns) (x2 := some (.sh d)) (x3 := x3) (x4 := x4) (x5 := x5) (x6 := x6) (x7 := x7) (x8 := x8) (x9 := x9) (x10 := x10) (x11 := x11) h (by omega)
    obtain ⟨ρ', g'', e'⟩ := lw_loop (ns := ns) ds (n + 1000) g' (some (.sh d)) y3 y4 y5 y6 y7 y8 y9 y10 y11 k (by omega)
    refine ⟨ρ', g'', ?_⟩
    show (match lwB (lwR ns (some (.sh d)) x3 x4 x5 x6 x7 x8 x9 x10 x11) g with
      | .nx ρ2 g2 => forL (pName 2) lwB ds ρ2 g2
      | .ct ρ2 g2 => forL (pName 2) lwB ds ρ2 g2
      | .bk ρ2 g2 => Fl.nx ρ2 g2
      | .rt d g2 => .rt d g2
      | .ex ρ2 x g2 => .ex ρ2 x g2
      | .fail => .fail) = _
    rw [e]
    exact e'
theorem begun_gk (ns : List Int) (h : ns.length ≤ 63) : Gk 0 (begun ns) := by
  refine ⟨Int.le_refl 0, fun x hx => ?_, ?_, Int.le_refl 0, Int.le_refl 0⟩
  · have hx' : x ∈ largeOf ns := hx
    unfold largeOf at hx'
    obtain ⟨y, hy, rfl⟩ := List.mem_map.mp hx'
    have := of_decide_eq_true (List.mem_filter.mp hy).2
    omega
  · show (largeOf ns).length ≤ 63
    unfold largeOf
    rw [List.length_map]
    refine Nat.le_trans (List.length_filter_le _ _) ?_
    unfold cellsOf
    rw [List.length_map]
    exact h
theorem plain : ∀ ns : List Int, ns.length ≤ 63 → ∃ g, b_law ((init 15 [.scr ns]).set 1 (some (.sh .st))) (begun ns) = .rt (.bl true) g := fun ns hl => by
  let j : Int := 10 + (if (30 : Int) < ns.length then 30 else (ns.length : Int))
  have j0 : 0 ≤ j ∧ j ≤ 40 := by
    show 0 ≤ 10 + (if (30 : Int) < ns.length then 30 else (ns.length : Int)) ∧ 10 + (if (30 : Int) < ns.length then 30 else (ns.length : Int)) ≤ 40
    split <;> omega
  obtain ⟨ρ', g', e⟩ := lw_loop (ns := ns) (rangeD 0 j) 0 (begun ns) none none none none none none none none none none (begun_gk ns hl) (by rw [range_len]; omega)
  exact ⟨g', x_seq (x_for (x_range (j := j) (x_e2 rfl (x_e2 (x_e1 rfl rfl) rfl rfl) rfl) (small_ok (by omega) (by omega))) e) (x_ret rfl)⟩
end CP

open PySem PySem.W PyProof.Rows
set_option maxHeartbeats 0 in
theorem PySem.Challenge.cw_cornerplans_k04_whole_joins_and_limits_holds : PySem.Challenge.rw_cornerplans_k04_whole_joins_and_limits.Holds := by
  w_on; o_law; k_head; (case hw => w_witness2)
  k_fill
  refine L2.walk_of (l := PySem.Challenge.rw_cornerplans_k04_whole_joins_and_limits) (n := 63) (k := 8) (x := "_law_script") (CX := fun w => L2.CX PySem.Challenge.rw_cornerplans_k04_whole_joins_and_limits.prog w) (sp := fun w => CP.spLaw _) rfl (by decide) rfl ⟨rfl, by decide, by decide⟩ (fun w h Y => PySem.W.kIn_of Y) ?F (fun _ _ a ns hl _ hS => ⟨a, ns, rfl, hS, hl, fun _ => rfl⟩) (fun _ _ _ _ _ ⟨_, _, _, _, _, _, _, _, _, _, _, _, h⟩ => h)
  case F =>
    intro w mg fa h KX G hmg
    refine' CP.T.all_mk ⟨CP.fc_mk KX G ?a__law_begun ?l__law_begun ?c__law_begun ?k__law_begun CP.T.bd__law_begun, CP.fc_mk KX G ?a__law_draw ?l__law_draw ?c__law_draw ?k__law_draw CP.T.bd__law_draw, CP.fc_mk KX G ?a__law_pick ?l__law_pick ?c__law_pick ?k__law_pick CP.T.bd__law_pick, CP.fc_mk KX G ?a__law_words ?l__law_words ?c__law_words ?k__law_words CP.T.bd__law_words, CP.fc_mk KX G ?a_join_of ?l_join_of ?c_join_of ?k_join_of CP.T.bd_join_of, CP.fc_mk KX G ?a_is_list ?l_is_list ?c_is_list ?k_is_list CP.T.bd_is_list, CP.fc_mk KX G ?a_is_name ?l_is_name ?c_is_name ?k_is_name CP.T.bd_is_name, CP.fc_mk KX G ?a_is_number ?l_is_number ?c_is_number ?k_is_number CP.T.bd_is_number, CP.fc_mk KX G ?a_is_end ?l_is_end ?c_is_end ?k_is_end CP.T.bd_is_end, CP.fc_mk KX G ?a_is_pair ?l_is_pair ?c_is_pair ?k_is_pair CP.T.bd_is_pair, CP.fc_mk KX G ?a_is_limit ?l_is_limit ?c_is_limit ?k_is_limit CP.T.bd_is_limit, CP.fc_mk KX G ?a_are_pairs ?l_are_pairs ?c_are_pairs ?k_are_pairs CP.T.bd_are_pairs, CP.fc_mk KX G ?a_joined ?l_joined ?c_joined ?k_joined CP.T.bd_joined, CP.fc_mk KX G ?a__law_row ?l__law_row ?c__law_row ?k__law_row CP.T.bd__law_row, CP.fc_mk KX G ?a__law_bound ?l__law_bound ?c__law_bound ?k__law_bound CP.T.bd__law_bound, CP.fc_mk KX G ?a_need_limit ?l_need_limit ?c_need_limit ?k_need_limit CP.T.bd_need_limit, CP.fc_mk KX G ?a_is_in ?l_is_in ?c_is_in ?k_is_in CP.T.bd_is_in, CP.fc_mk KX G ?a_is_within ?l_is_within ?c_is_within ?k_is_within CP.T.bd_is_within, CP.fc_mk KX G ?a_need_plan ?l_need_plan ?c_need_plan ?k_need_plan CP.T.bd_need_plan, CP.fc_mk KX G ?a_need_number ?l_need_number ?c_need_number ?k_need_number CP.T.bd_need_number, CP.fc_mk KX G ?a_put_by ?l_put_by ?c_put_by ?k_put_by CP.T.bd_put_by, CP.fc_mk KX G ?a_later ?l_later ?c_later ?k_later CP.T.bd_later, CP.fc_mk KX G ?a_law ?l_law ?c_law ?k_law CP.T.bd_law, PySem.W.mg_none_of KX G ?z_abs, PySem.W.mg_none_of KX G ?z_all, PySem.W.mg_none_of KX G ?z_bool, PySem.W.mg_none_of KX G ?z_dict, PySem.W.mg_none_of KX G ?z_enumerate, PySem.W.mg_none_of KX G ?z_int, PySem.W.mg_none_of KX G ?z_isinstance, PySem.W.mg_none_of KX G ?z_len, PySem.W.mg_none_of KX G ?z_list, PySem.W.mg_none_of KX G ?z_max, PySem.W.mg_none_of KX G ?z_min, PySem.W.mg_none_of KX G ?z_range, PySem.W.mg_none_of KX G ?z_sorted, PySem.W.mg_none_of KX G ?z_str, PySem.W.mg_none_of KX G ?z_tuple, PySem.W.mg_none_of KX G ?z_zip, CP.fk_str (PySem.W.mg_of KX G ?y_LETTERS) (by decide +kernel), CP.fk_int (PySem.W.mg_of KX G ?y_MOST_LETTERS)⟩ hmg CP.plain
    (case a__law_begun => k_is)
    (case l__law_begun => k_is)
    (case c__law_begun => k_is)
    (case k__law_begun => k_is)
    (case a__law_draw => k_is)
    (case l__law_draw => k_is)
    (case c__law_draw => k_is)
    (case k__law_draw => k_is)
    (case a__law_pick => k_is)
    (case l__law_pick => k_is)
    (case c__law_pick => k_is)
    (case k__law_pick => k_is)
    (case a__law_words => k_is)
    (case l__law_words => k_is)
    (case c__law_words => k_is)
    (case k__law_words => k_is)
    (case a_join_of => k_is)
    (case l_join_of => k_is)
    (case c_join_of => k_is)
    (case k_join_of => k_is)
    (case a_is_list => k_is)
    (case l_is_list => k_is)
    (case c_is_list => k_is)
    (case k_is_list => k_is)
    (case a_is_name => k_is)
    (case l_is_name => k_is)
    (case c_is_name => k_is)
    (case k_is_name => k_is)
    (case a_is_number => k_is)
    (case l_is_number => k_is)
    (case c_is_number => k_is)
    (case k_is_number => k_is)
    (case a_is_end => k_is)
    (case l_is_end => k_is)
    (case c_is_end => k_is)
    (case k_is_end => k_is)
    (case a_is_pair => k_is)
    (case l_is_pair => k_is)
    (case c_is_pair => k_is)
    (case k_is_pair => k_is)
    (case a_is_limit => k_is)
    (case l_is_limit => k_is)
    (case c_is_limit => k_is)
    (case k_is_limit => k_is)
    (case a_are_pairs => k_is)
    (case l_are_pairs => k_is)
    (case c_are_pairs => k_is)
    (case k_are_pairs => k_is)
    (case a_joined => k_is)
    (case l_joined => k_is)
    (case c_joined => k_is)
    (case k_joined => k_is)
    (case a__law_row => k_is)
    (case l__law_row => k_is)
    (case c__law_row => k_is)
    (case k__law_row => k_is)
    (case a__law_bound => k_is)
    (case l__law_bound => k_is)
    (case c__law_bound => k_is)
    (case k__law_bound => k_is)
    (case a_need_limit => k_is)
    (case l_need_limit => k_is)
    (case c_need_limit => k_is)
    (case k_need_limit => k_is)
    (case a_is_in => k_is)
    (case l_is_in => k_is)
    (case c_is_in => k_is)
    (case k_is_in => k_is)
    (case a_is_within => k_is)
    (case l_is_within => k_is)
    (case c_is_within => k_is)
    (case k_is_within => k_is)
    (case a_need_plan => k_is)
    (case l_need_plan => k_is)
    (case c_need_plan => k_is)
    (case k_need_plan => k_is)
    (case a_need_number => k_is)
    (case l_need_number => k_is)
    (case c_need_number => k_is)
    (case k_need_number => k_is)
    (case a_put_by => k_is)
    (case l_put_by => k_is)
    (case c_put_by => k_is)
    (case k_put_by => k_is)
    (case a_later => k_is)
    (case l_later => k_is)
    (case c_later => k_is)
    (case k_later => k_is)
    (case a_law => k_is)
    (case l_law => k_is)
    (case c_law => k_is)
    (case k_law => k_is)
    (case z_abs => k_is)
    (case z_all => k_is)
    (case z_bool => k_is)
    (case z_dict => k_is)
    (case z_enumerate => k_is)
    (case z_int => k_is)
    (case z_isinstance => k_is)
    (case z_len => k_is)
    (case z_list => k_is)
    (case z_max => k_is)
    (case z_min => k_is)
    (case z_range => k_is)
    (case z_sorted => k_is)
    (case z_str => k_is)
    (case z_tuple => k_is)
    (case z_zip => k_is)
    (case y_LETTERS => k_is)
    (case y_MOST_LETTERS => k_is)

