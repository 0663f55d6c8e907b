import PyProof.Rows.All
import Wide.All
import OpenK.AllK
import Wide.FinOn
import HandS.IsInst
import HandS.Deep
import HandS.Zip
import HandS.Conv
import HandS.TupAny
import HandS.TupMul
import KE.KDictPairs
import HandS.ForMost
import HandS.ForExc
import HandS.ExcCtx
import HandS.Defaults
import HandS.WordsExc
import HandS.Style
import HandS.StrMore
import HandS.Strs
import HandS.SetKeys
import HandS.SetFor
import PyProof.ListStr
import PyProof.TupleOfStr
import HandS.SortInts
import HandS.HotCalls
import HandS.ExcIs
import HandS.Head0
import HandS.Head1
import HandS.Head2
import HandS.HeadEnd
import HandS.HeadHook1
import HandS.HeadHook2
import HandS.HeadHook4
import HandS.Set
import HandS.Small
import HandS.More
import KE.KTupSum
import KE.KRevSl
import HandS.DictTup
import HandS.Keys
import KE.DataMinMax
import KE.DataCmp
import KE.SortData
import PySem.Challenge.RW_lookwords_k14_whole_left_out
set_option Elab.async false
set_option linter.all false
set_option maxRecDepth 100000
namespace DL
open PySem PySem.Spec PyProof.Rows L2
abbrev St := L2.St
/-- a new tuple, by its object -/
def FreshT (vs : List V) (H : Hp) (Q : VK) : Prop := ∀ p ob, H p = none → ob.dict = none → Q (.ref p) (upd H p (.frz ob (.tup vs)))
section
variable {X : Cx}
theorem laidX {pins : List (Addr × Obj)} {σ : St} {H : Hp} {s : Shared} {vs : List V} {its : List Value} {Q : VK} (I : Inv X pins σ H s) (hz : vs.length ≤ sizeLine) (r : Vals vs its) (q : FreshT vs H Q) (tk : Nat) :
    EP X pins σ Q (.ref s.heap.objs.size) { s with heap := s.heap.push { cls := .type "tuple", data := .seq its.toArray }, toks := tk } := by
  refine ⟨.ref s.heap.objs.size, upd H s.heap.objs.size (.frz { cls := .type "tuple", data := .seq its.toArray } (.tup vs)), I.laid (t' := tk) (fun b u e => Heap.get?_push_of_some _ e) (Nat.le_refl _) ?_, rfl, q _ _ (I.hok.fresh (Nat.le_refl _)) rfl⟩
  exact ⟨Heap.get?_push_size _ rfl, hz, its, r, IsTup.new _ _⟩
def tTupX (t : TA) : TE := fun σ H Q => t σ H fun xs H1 => xs.length ≤ sizeLine ∧ FreshT xs H1 Q
theorem pe_tupX {es : List Expr} {t : TA} {x1} {pos : Pos} (h : PA X es t) : PE X (.Tuple es x1 pos) (tTupX t) := by
  refine ⟨fun pins s σ H Q I hq => ?_⟩
  refine wpAny_Tuple_spliced (thn (h.run pos pins s σ H _ I hq) fun us s1 ⟨xs, H1, I1, r, z, q⟩ => ⟨by rw [← r.length]; exact z, ?_⟩)
  exact laidX I1 z r q s1.toks
def rTupleX (K : PySem.W.Frag) : List V → Hp → VK → Prop := fun xs H Q => ∃ p ys, xs = [.ref p] ∧ ((SqL K H p ys ∧ FreshT ys H Q) ∨ (SqT K H p ys ∧ Q (.ref p) H))
theorem call_tupleX : CallR X (.type "tuple") (rTupleX X.K) := by
  intro pins s σ H xs us Q I r h
  obtain ⟨p, ys, rfl, h⟩ := h
  obtain ⟨u, rfl, rx⟩ := vals1 r
  cases rx
  rcases h with ⟨hq, q⟩ | ⟨hq, q⟩
  · obtain ⟨its, r', pl, hz⟩ := I.list hq
    have hlen := r'.length
    refine call_tuple_list pl.isList (fun h' kp => ?_) (by simp only [List.size_toArray] <;> omega)
    have I1 : Inv X pins σ H { s with heap := h' } := I.kept (t' := s.toks) kp
    exact laidX I1 hz r' q s.toks
  · obtain ⟨its, r', pl, hz⟩ := I.tuple hq
    exact call_tuple_same pl ⟨.ref p, H, I, rfl, q⟩
def tTupRgX (te : St → Hp → (Int → Int → Hp → Prop) → Prop) : TE := fun σ H Q => te σ H fun a b H1 => RgOk a b ∧ FreshT (rgV a b) H1 Q
theorem pe_tupRgX {e : Expr} {te : St → Hp → (Int → Int → Hp → Prop) → Prop} {p pos : Pos} (hc : X.calm = true) (hg : Gl X "tuple") (hm : X.mg "tuple" = none) (he : PRg X e te) (na : starEach [e] X.env = (false, eval e X.env) :: starEach [] X.env := by rfl) : PE X (.Call (.Name "tuple" p) [e] [] pos) (tTupRgX te) := by
  refine ⟨fun pins s σ H Q I h => ?_⟩
  refine Call_ (ld_blt I hg hm boot_tuple (PyProof.Rows.callWith_type1 (args_cons (thn (he pins s σ H _ I h) fun x s1 ⟨r, a, b, t, u, v, H1, ex, hr, I1, ok, q⟩ => args_nil ?_) na) na))
  subst ex
  obtain ⟨b1, b2, b3, b4, b5⟩ := ok
  refine call_tuple_range (n := (b - a).toNat) (I1.ok.hd hc) hr (small_one b1 b2 b3 b4) (rangeSize_nat a b) b5 fun h' tk acc hk hi => ?_
  have I2 : Inv X pins σ H1 { s1 with heap := h', toks := tk } := I1.kept hk
  have e := laidX I2 (by rw [rgV_length, sizeLine_eq]; omega) (vals_rg hi) q tk
  simpa using e
/-- t + u -/
def rCatX (K : PySem.W.Frag) : R2 := fun x y H Q => ∃ a b xs ys, x = .ref a ∧ y = .ref b ∧ SqT K H a xs ∧ SqT K H b ys ∧ xs.length + ys.length ≤ sizeLine ∧
  (xs = [] → Q (.ref b) H) ∧ (xs ≠ [] → ys = [] → Q (.ref a) H) ∧ (xs ≠ [] → ys ≠ [] → FreshT (xs ++ ys) H Q)
theorem op_catX : OpR X (binaryOp .Add) (rCatX X.K) := by
  intro pins s σ H x y v u Q I rx ry h
  obtain ⟨a, b, xs, ys, rfl, rfl, ha, hb, hz, q0, q1, q2⟩ := h
  cases rx
  cases ry
  obtain ⟨its, r1, p1, _⟩ := I.tuple ha
  obtain ⟨its2, r2, p2, _⟩ := I.tuple hb
  by_cases hx : xs = []
  · subst hx
    cases r1
    exact cat_tup0 p1 p2 ⟨.ref b, H, I, rfl, q0 rfl⟩
  · refine HT.cat_tup p1 p2 (fun z => hx (r1.nil_iff.mp z)) (fun z => ⟨.ref a, H, I, rfl, q1 hx (r2.nil_iff.mp z)⟩) (fun z => ?_) (by rw [← r1.length, ← r2.length]; exact hz)
    exact laidX I (by rw [List.length_append]; exact hz) (r1.append r2) (q2 hx fun w => z (r2.nil_iff.mpr w)) s.toks
/-- t[lo:hi]: the whole of it is t itself -/
def rSlX (K : PySem.W.Frag) : V → Option Int → Option Int → Hp → VK → Prop := fun x lo hi H Q => ∃ a xs, x = .ref a ∧ SqT K H a xs ∧
  (HT.sIx xs.length 0 lo = 0 ∧ HT.sIx xs.length xs.length hi = xs.length → Q (.ref a) H) ∧ (¬ (HT.sIx xs.length 0 lo = 0 ∧ HT.sIx xs.length xs.length hi = xs.length) → FreshT (cutV xs lo hi) H Q)
theorem sl_tupX : SlR X (rSlX X.K) := by
  intro pins s σ H x v vl vu lo hi sl Q I rx hs pl pu h
  obtain ⟨a, xs, rfl, hx, q1, q2⟩ := h
  cases rx
  obtain ⟨its, r, ht, hz⟩ := I.tuple hx
  have hlen : its.toArray.size = xs.length := by rw [List.size_toArray]; exact r.length.symm
  refine ⟨"tuple", _, PyProof.Rows.slot_tuple_getitem.lookup, ht.typeIs, ?_⟩
  by_cases hw : HT.sIx xs.length 0 lo = 0 ∧ HT.sIx xs.length xs.length hi = xs.length
  · exact getItem_tuple_whole ht hs pl pu (by rw [hlen]; exact hw) ⟨.ref a, H, I, rfl, q1 hw⟩
  · refine HT.getItem_tuple_cut ht hs pl pu (by rw [hlen]; exact hw) ?_ (by rw [hlen]; exact hz)
    rw [hlen]
    have e := laidX I (vs := cutV xs lo hi) (Nat.le_trans (cutV_length xs lo hi) hz) ((r.drop (HT.sIx xs.length 0 lo)).take (HT.sIx xs.length xs.length hi - HT.sIx xs.length 0 lo)) (q2 hw) s.toks
    exact e
theorem rows_at {h : Heap} : ∀ {ps : List Addr} {prs : List (Key × Value)}, prs.length = ps.length → (∀ (j : Nat) (q : Key × Value), prs[j]? = some q → ∃ (b : Addr) (u : Value), ps[j]? = some b ∧ IsTup h b #[u, q.2] ∧ keyIs q.1 u = true) →
    ∃ pq : List (Value × Value), pq.length = prs.length ∧ ∀ (j : Nat) (k v : Value), pq[j]? = some (k, v) → ∃ (q : Key × Value) (b : Addr), prs[j]? = some q ∧ v = q.2 ∧ keyIs q.1 k = true ∧ ps[j]? = some b ∧ IsTup h b #[k, v]
  | _, [], _, _ => ⟨[], rfl, fun j k v e => by simp at e⟩
  | [], _ :: _, hl, _ => by cases hl
  | p :: ps, q :: prs, hl, hp => by
    obtain ⟨pq, e1, e2⟩ := rows_at (ps := ps) (prs := prs) (h := h) (Nat.succ.inj hl) fun j q' e => by
      obtain ⟨b, u, z⟩ := hp (j + 1) q' (by simpa using e)
      exact ⟨b, u, by simpa using z⟩
    obtain ⟨b, u, z1, z2, z3⟩ := hp 0 q rfl
    refine ⟨(u, q.2) :: pq, by rw [List.length_cons, List.length_cons, e1], fun j k v e => ?_⟩
    cases j with
    | zero =>
      have e' : (u, q.2) = (k, v) := Option.some.inj e
      cases e'
      exact ⟨q, b, rfl, rfl, z3, z1, z2⟩
    | succ j =>
      obtain ⟨q', b', w1, w2, w3, w4, w5⟩ := e2 j k v (by simpa using e)
      exact ⟨q', b', by simpa using w1, w2, w3, by simpa using w4, w5⟩
/-- dict(t) of a tuple of pairs -/
theorem call_dictX (hcalm : X.calm = true) : CallR X (.type "dict") (fun xs H Q => ∃ (a : Addr) (ob : Obj) (ps : List Addr) (kvs : List (Key × V)), xs = [.ref a] ∧ H a = some (.frz ob (.tup (ps.map V.ref))) ∧ ob.dict = none ∧ Paired (fun p kv => SqT X.K H p [kV kv.1, kv.2]) ps kvs ∧
    ∀ p, H p = none → Q (.ref p) (upd H p (.dK (mergeK [] kvs)))) := by
  intro pins s σ H xs us Q I r q
  obtain ⟨a, ob, ps, kvs, ex, hq, hod, hp, q⟩ := q
  subst ex
  obtain ⟨u, eu, rx⟩ := vals1 r
  subst eu
  cases rx
  obtain ⟨ho, hz, its, rv, o2, ho2, hc, n, hdat⟩ := (show ObjOk X.prog X.w H s.heap a (.frz ob (.tup (ps.map V.ref))) from I.hok a _ hq)
  have eo : o2 = ob := Option.some.inj (ho2.symm.trans ho)
  subst eo
  have ei := refs_at rv
  subst ei
  rw [List.length_map] at hz
  obtain ⟨prs, rel, hl, hpr⟩ := pairs_of I hp
  obtain ⟨pq, hpl, hpq⟩ := rows_at (ps := ps) (prs := prs) (h := s.heap) hl hpr
  refine PySem.call_dict_pairs (knd := mixKind X.prog X.w) (kvs := prs) (n := pq.length) (wr := []) (PairArg.tuple a (ps.map Value.ref).toArray (fun j => (ps[j]?).getD 0) pq) (I.ok.hd hcalm) ⟨⟨o2, n, ho, hc, hod, hdat⟩, ?_, fun j k v e => ?_⟩ ⟨hpl.symm, fun j k v e => ?_⟩ (by rw [hpl, hl]; exact hz) fun h' tk hd' k => ?_
  · rw [List.size_toArray, List.length_map, hpl, hl]
  · obtain ⟨q', b, e1, e2, e3, e4, e5⟩ := hpq j k v e
    have e5' : s.heap.IsTuple b #[k, v] := e5
    have e6 : (ps[j]?).getD 0 = b := by rw [e4]; rfl
    show (List.map Value.ref ps).toArray[j]? = some (Value.ref ((ps[j]?).getD 0)) ∧ PairAt s.heap ((ps[j]?).getD 0) k v
    rw [e6]
    refine ⟨?_, .inl e5'⟩
    simp [e4]
  · obtain ⟨q', b, e1, e2, e3, e4, e5⟩ := hpq j k v e
    subst e2
    exact ⟨q'.1, e1, e3⟩
  · have hm : (s.heap.objs.size == sysModules) = false := beq_eq_false_iff_ne.mpr (Nat.ne_of_gt I.big)
    have hlen : (mergeK [] kvs).length ≤ sizeLine := by
      refine Nat.le_trans (length_mergeK kvs []) ?_
      rw [List.length_nil, Nat.zero_add, rel.length, hl]
      exact hz
    exact ⟨.ref s.heap.objs.size, upd H s.heap.objs.size (.dK (mergeK [] kvs)), I.laid (t' := tk) (fun b o e => k b o (fun z => nomatch z) e) (Nat.le_refl _) (show ObjOk X.prog X.w _ _ _ (.dK (mergeK [] kvs)) from ⟨hlen, hm, merged [] prs, KV.merge rel .nil, hd'⟩), rfl, q _ (I.hok.fresh (Nat.le_refl _))⟩
end
end DL

namespace DL
open PySem PySem.Spec PyProof.Rows L2
abbrev Takes (X : Cx) (W : WX) : Prop := L2N.Takes X W
theorem takesNo {X : Cx} : Takes X (fun _ _ _ _ => False) := fun _ _ h => by
  obtain ⟨_, _, _, _, _, _, _, _, _, _, _, _, _, _, _, _, h⟩ := h
  exact h.elim

/-- data, deep, without places -/
inductive D where
  | non | bl (b : Bool) | int (i : Int) | str (s : List Nat) | tup (xs : List D) | lst (xs : List D) | dct (ks : List (D × D))
  /-- a dict whose keys are tuples -/
  | dcu (ks : List (D × D))
  /-- a tuple of which no more is known (what enumerate, zip, items() yield; a key) -/
  | ktp (xs : List D)
  /-- the script: a list of ints that is read alone -/
  | scr (ns : List Int)

/-- a value of the mirror: data, or a place of the store -/
inductive Val where
  | dat (d : D) | ptr (i : Nat)
/-- what stands at a place of the store -/
inductive Cell where
  | lst (xs : List D) | dct (ks : List (D × D)) | dcu (ks : List (D × D)) | obj (c : Nat) (fs : List (Str × Val)) | dead
abbrev Store := List Cell
abbrev Ev := List (Option Val)

inductive Out (α : Type) where
  | ok (a : α) (S : Store) | exc (c : Nat) (S : Store) | bad
def Out.bind {α β : Type} (o : Out α) (k : α → Store → Out β) : Out β := match o with
  | .ok a S => k a S
  | .exc c S => .exc c S
  | .bad => .bad
abbrev EM := Ev → Store → Out Val
abbrev AM := Ev → Store → Out (List Val)
abbrev BM := Ev → Store → Out Bool
abbrev Fn := List Val → Store → Out Val
inductive SOut where
  | nx (ρ : Ev) (S : Store) | rt (v : Val) (S : Store) | bk (ρ : Ev) (S : Store) | ct (ρ : Ev) (S : Store) | exc (c : Nat) (ρ : Ev) (S : Store) | bad
abbrev SM := Ev → Store → SOut

def ndct : D → Bool
  | .dct _ => false
  | .dcu _ => false
  | _ => true
def toStr (s : List Nat) : Str := ⟨s.toArray⟩
def keyOf : D → Option Key
  | .int i => some (.inl i)
  | .str s => some (.inr (toStr s))
  | _ => none
def keysOf : List D → Option (List Key)
  | [] => some []
  | d :: ds => match keyOf d, keysOf ds with
    | some k, some ks => some (k :: ks)
    | _, _ => none
def tkeyOf : D → Option (List Key)
  | .ktp xs => keysOf xs
  | _ => none
def strGood (s : List Nat) : Prop := ∀ c ∈ s, c < 1114112

/-- a tuple whose object is known -/
def XTup (F : Hp) (a : Addr) (vs : List V) : Prop := ∃ ob : Obj, F a = some (.frz ob (.tup vs)) ∧ ob.dict = none
theorem XTup.same {F G : Hp} (s : Same F G) {a : Addr} {vs : List V} : XTup F a vs → XTup G a vs := fun ⟨ob, h, d⟩ => ⟨ob, s _ _ h, d⟩
theorem XTup.sq {F : Hp} {a : Addr} {vs : List V} {K : PySem.W.Frag} : XTup F a vs → SqT K F a vs := fun ⟨ob, h, _⟩ => .inl (.inr ⟨ob, h⟩)
/-- a dict that is never changed: its object is known -/
def FzK (F : Hp) (a : Addr) (kvs : List (Key × V)) : Prop := ∃ ob : Obj, F a = some (.frz ob (.dK kvs))
def FzT (F : Hp) (a : Addr) (kvs : List (List Key × V)) : Prop := ∃ ob : Obj, F a = some (.frz ob (.dT kvs))
theorem FzK.rd {F : Hp} {a : Addr} {kvs : List (Key × V)} : FzK F a kvs → Rd F a (.dK kvs) := fun ⟨ob, h⟩ => .inr ⟨ob, h⟩
theorem FzT.rd {F : Hp} {a : Addr} {kvs : List (List Key × V)} : FzT F a kvs → Rd F a (.dT kvs) := fun ⟨ob, h⟩ => .inr ⟨ob, h⟩
theorem FzK.same {F G : Hp} (s : Same F G) {a : Addr} {kvs : List (Key × V)} : FzK F a kvs → FzK G a kvs := fun ⟨ob, h⟩ => ⟨ob, s _ _ h⟩
theorem FzT.same {F G : Hp} (s : Same F G) {a : Addr} {kvs : List (List Key × V)} : FzT F a kvs → FzT G a kvs := fun ⟨ob, h⟩ => ⟨ob, s _ _ h⟩
theorem XTup.new {F : Hp} {a : Addr} {vs : List V} {ob : Obj} (d : ob.dict = none) : XTup (upd F a (.frz ob (.tup vs))) a vs := ⟨ob, upd_same, d⟩
mutual
inductive Rv (K : PySem.W.Frag) (F : Hp) : D → V → Prop
  | non : Rv K F .non .non
  | bl (b : Bool) : Rv K F (.bl b) (.bl b)
  | int (i : Int) : Rv K F (.int i) (.int i)
  | str {s : List Nat} (h : strGood s) : Rv K F (.str s) (.str (toStr s))
  | tup {a : Addr} {ds : List D} {vs : List V} : XTup F a vs → Rvs K F ds vs → Rv K F (.tup ds) (.ref a)
  | ktp {a : Addr} {ds : List D} {vs : List V} : F a = some (.tup vs) → Rvs K F ds vs → Rv K F (.ktp ds) (.ref a)
  | lst {a : Addr} {ds : List D} {vs : List V} : F a = some (.lst vs) → Rvs K F ds vs → Rv K F (.lst ds) (.ref a)
  | scr {a : Addr} {ns : List Int} : SqL K F a (ns.map V.int) → Rv K F (.scr ns) (.ref a)
  | dct {a : Addr} {ks : List (D × D)} {kvs : List (Key × V)} : FzK F a kvs → Rks K F ks kvs → Rv K F (.dct ks) (.ref a)
  | dctT {a : Addr} {ks : List (D × D)} {kvs : List (List Key × V)} : FzT F a kvs → Rts K F ks kvs → Rv K F (.dcu ks) (.ref a)
inductive Rvs (K : PySem.W.Frag) (F : Hp) : List D → List V → Prop
  | nil : Rvs K F [] []
  | cons {d : D} {ds : List D} {v : V} {vs : List V} : Rv K F d v → Rvs K F ds vs → Rvs K F (d :: ds) (v :: vs)
inductive Rks (K : PySem.W.Frag) (F : Hp) : List (D × D) → List (Key × V) → Prop
  | nil : Rks K F [] []
  | cons {k d : D} {ks : List (D × D)} {q : Key} {v : V} {kvs : List (Key × V)} : keyOf k = some q → Rv K F k (kV q) → Rv K F d v → Rks K F ks kvs → Rks K F ((k, d) :: ks) ((q, v) :: kvs)
inductive Rts (K : PySem.W.Frag) (F : Hp) : List (D × D) → List (List Key × V) → Prop
  | nil : Rts K F [] []
  | cons {es : List D} {d : D} {ks : List (D × D)} {q : List Key} {v : V} {kvs : List (List Key × V)} : keysOf es = some q → Rvs K F es (q.map kV) → Rv K F d v → Rts K F ks kvs → Rts K F ((.ktp es, d) :: ks) ((q, v) :: kvs)
end

/-- what is read in F is read in G -/
structure Mono (F G : Hp) : Prop where
  w : ∀ a xs, F a = some (.lst xs) → G a = some (.lst xs)
  u : ∀ a xs, F a = some (.tup xs) → G a = some (.tup xs)
  x : ∀ a xs, XTup F a xs → XTup G a xs
  l : ∀ a xs, Rd F a (.lst xs) → Rd G a (.lst xs)
  t : ∀ a xs, Rd F a (.tup xs) → Rd G a (.tup xs)
  k : ∀ a xs, FzK F a xs → FzK G a xs
  kt : ∀ a xs, FzT F a xs → FzT G a xs
theorem Rd.same {F G : Hp} (s : Same F G) {a : Addr} {u : HO} (h : Rd F a u) : Rd G a u := by
  rcases h with h | ⟨o, h⟩
  · exact .inl (s _ _ h)
  · exact .inr ⟨o, s _ _ h⟩
theorem Mono.of {F G : Hp} (s : Same F G) : Mono F G := ⟨fun _ _ => s _ _, fun _ _ => s _ _, fun _ _ => XTup.same s, fun _ _ => Rd.same s, fun _ _ => Rd.same s, fun _ _ => FzK.same s, fun _ _ => FzT.same s⟩
theorem Mono.refl (F : Hp) : Mono F F := ⟨fun _ _ h => h, fun _ _ h => h, fun _ _ h => h, fun _ _ h => h, fun _ _ h => h, fun _ _ h => h, fun _ _ h => h⟩
section
variable {K : PySem.W.Frag} {F G : Hp}
theorem Mono.sl (m : Mono F G) {a : Addr} {xs : List V} (h : SqL K F a xs) : SqL K G a xs := h.elim (fun z => .inl (m.l _ _ z)) .inr
theorem Mono.st (m : Mono F G) {a : Addr} {xs : List V} (h : SqT K F a xs) : SqT K G a xs := h.elim (fun z => .inl (m.t _ _ z)) .inr
mutual
theorem Rv.mono (m : Mono F G) : ∀ {d : D} {v : V}, Rv K F d v → Rv K G d v
  | _, _, .non => .non
  | _, _, .bl b => .bl b
  | _, _, .int i => .int i
  | _, _, .str h => .str h
  | _, _, .tup h r => .tup (m.x _ _ h) (Rvs.mono m r)
  | _, _, .ktp h r => .ktp (m.u _ _ h) (Rvs.mono m r)
  | _, _, .lst h r => .lst (m.w _ _ h) (Rvs.mono m r)
  | _, _, .scr h => .scr (m.sl h)
  | _, _, .dct h r => .dct (m.k _ _ h) (Rks.mono m r)
  | _, _, .dctT h r => .dctT (m.kt _ _ h) (Rts.mono m r)
theorem Rvs.mono (m : Mono F G) : ∀ {ds : List D} {vs : List V}, Rvs K F ds vs → Rvs K G ds vs
  | _, _, .nil => .nil
  | _, _, .cons h r => .cons (Rv.mono m h) (Rvs.mono m r)
theorem Rks.mono (m : Mono F G) : ∀ {ks : List (D × D)} {kvs : List (Key × V)}, Rks K F ks kvs → Rks K G ks kvs
  | _, _, .nil => .nil
  | _, _, .cons e k h r => .cons e (Rv.mono m k) (Rv.mono m h) (Rks.mono m r)
theorem Rts.mono (m : Mono F G) : ∀ {ks : List (D × D)} {kvs : List (List Key × V)}, Rts K F ks kvs → Rts K G ks kvs
  | _, _, .nil => .nil
  | _, _, .cons e k h r => .cons e (Rvs.mono m k) (Rv.mono m h) (Rts.mono m r)
end
theorem Rvs.len : ∀ {ds : List D} {vs : List V}, Rvs K F ds vs → ds.length = vs.length
  | _, _, .nil => rfl
  | _, _, .cons _ r => congrArg (· + 1) (Rvs.len r)
theorem Rvs.get : ∀ {ds : List D} {vs : List V} {i : Nat} {d : D}, Rvs K F ds vs → ds[i]? = some d → ∃ v, vs[i]? = some v ∧ Rv K F d v
  | _, _, i, d, .nil, h => by simp at h
  | _, _, 0, d, .cons h _, e => by
    simp at e
    subst e
    exact ⟨_, rfl, h⟩
  | _, _, i + 1, d, .cons _ r, e => by
    obtain ⟨v, a, b⟩ := Rvs.get (i := i) r (by simpa using e)
    exact ⟨v, by simpa using a, b⟩
theorem Rvs.append : ∀ {ds es : List D} {vs us : List V}, Rvs K F ds vs → Rvs K F es us → Rvs K F (ds ++ es) (vs ++ us)
  | _, _, _, _, .nil, s => s
  | _, _, _, _, .cons h r, s => .cons h (Rvs.append r s)
theorem Rvs.take : ∀ {ds : List D} {vs : List V} (n : Nat), Rvs K F ds vs → Rvs K F (ds.take n) (vs.take n)
  | _, _, 0, _ => .nil
  | _, _, _ + 1, .nil => .nil
  | _, _, n + 1, .cons h r => .cons h (Rvs.take n r)
theorem Rvs.drop : ∀ {ds : List D} {vs : List V} (n : Nat), Rvs K F ds vs → Rvs K F (ds.drop n) (vs.drop n)
  | _, _, 0, r => r
  | _, _, _ + 1, .nil => .nil
  | _, _, n + 1, .cons _ r => Rvs.drop n r
theorem Rvs.set {d : D} {v : V} (h : Rv K F d v) : ∀ {ds : List D} {vs : List V} (i : Nat), Rvs K F ds vs → Rvs K F (ds.set i d) (vs.set i v)
  | _, _, _, .nil => .nil
  | _, _, 0, .cons _ r => .cons h r
  | _, _, i + 1, .cons q r => .cons q (Rvs.set h i r)
theorem Rvs.reverse {ds : List D} {vs : List V} (r : Rvs K F ds vs) : Rvs K F ds.reverse vs.reverse := by
  induction ds generalizing vs with
  | nil => cases r; exact .nil
  | cons d ds ih =>
    cases r with
    | cons h t =>
      rw [List.reverse_cons, List.reverse_cons]
      exact Rvs.append (ih t) (.cons h .nil)
end

/-- data seen at its top in H, below in F -/
inductive RT (K : PySem.W.Frag) (F H : Hp) : D → V → Prop
  | non : RT K F H .non .non
  | bl (b : Bool) : RT K F H (.bl b) (.bl b)
  | int (i : Int) : RT K F H (.int i) (.int i)
  | str {s : List Nat} (h : strGood s) : RT K F H (.str s) (.str (toStr s))
  | tup {a : Addr} {ds : List D} {vs : List V} : XTup F a vs → Rvs K F ds vs → RT K F H (.tup ds) (.ref a)
  | ktp {a : Addr} {ds : List D} {vs : List V} : F a = some (.tup vs) → Rvs K F ds vs → RT K F H (.ktp ds) (.ref a)
  | lst {a : Addr} {ds : List D} {vs : List V} : H a = some (.lst vs) → Rvs K F ds vs → RT K F H (.lst ds) (.ref a)
  | scr {a : Addr} {ns : List Int} : SqL K F a (ns.map V.int) → RT K F H (.scr ns) (.ref a)
  | dct {a : Addr} {ks : List (D × D)} {kvs : List (Key × V)} : Rd H a (.dK kvs) → Rks K F ks kvs → RT K F H (.dct ks) (.ref a)
  | dctT {a : Addr} {ks : List (D × D)} {kvs : List (List Key × V)} : Rd H a (.dT kvs) → Rts K F ks kvs → RT K F H (.dcu ks) (.ref a)
section
variable {K : PySem.W.Frag} {F G H H' : Hp}
theorem Rv.rt (m : Mono F H) {d : D} {v : V} (r : Rv K F d v) : RT K F H d v := by
  cases r with
  | non => exact .non
  | bl b => exact .bl b
  | int i => exact .int i
  | str h => exact .str h
  | tup h r => exact .tup h r
  | ktp h r => exact .ktp h r
  | lst h r => exact .lst (m.w _ _ h) r
  | scr h => exact .scr h
  | dct h r => exact .dct (m.k _ _ h).rd r
  | dctT h r => exact .dctT (m.kt _ _ h).rd r
/-- deep in H; no dict -/
theorem RT.rv (m : Mono F H) {d : D} {v : V} (r : RT K F H d v) (nd : ndct d = true) : Rv K H d v := by
  cases r with
  | non => exact .non
  | bl b => exact .bl b
  | int i => exact .int i
  | str h => exact .str h
  | tup h r => exact .tup (m.x _ _ h) (r.mono m)
  | ktp h r => exact .ktp (m.u _ _ h) (r.mono m)
  | lst h r => exact .lst h (r.mono m)
  | scr h => exact .scr (m.sl h)
  | dct h r => cases nd
  | dctT h r => cases nd
end

/-- values -/
inductive RV (K : PySem.W.Frag) (F : Hp) (φ : List Addr) : Val → V → Prop
  | dat {d : D} {v : V} : Rv K F d v → RV K F φ (.dat d) v
  | ptr {i : Nat} {a : Addr} : φ[i]? = some a → RV K F φ (.ptr i) (.ref a)
inductive RVs (K : PySem.W.Frag) (F : Hp) (φ : List Addr) : List Val → List V → Prop
  | nil : RVs K F φ [] []
  | cons {x : Val} {xs : List Val} {v : V} {vs : List V} : RV K F φ x v → RVs K F φ xs vs → RVs K F φ (x :: xs) (v :: vs)
section
variable {K : PySem.W.Frag} {F G : Hp} {φ ψ : List Addr}
theorem pre_get {i : Nat} {a : Addr} (p : φ <+: ψ) (h : φ[i]? = some a) : ψ[i]? = some a := by
  obtain ⟨t, rfl⟩ := p
  rw [List.getElem?_append_left (List.getElem?_eq_some_iff.mp h).1]
  exact h
theorem RV.mono (m : Mono F G) (p : φ <+: ψ) {x : Val} {v : V} (h : RV K F φ x v) : RV K G ψ x v := by
  cases h with
  | dat h => exact .dat (h.mono m)
  | ptr h => exact .ptr (pre_get p h)
theorem RVs.mono (m : Mono F G) (p : φ <+: ψ) : ∀ {xs : List Val} {vs : List V}, RVs K F φ xs vs → RVs K G ψ xs vs
  | _, _, .nil => .nil
  | _, _, .cons h r => .cons (h.mono m p) (RVs.mono m p r)
theorem RVs.len : ∀ {xs : List Val} {vs : List V}, RVs K F φ xs vs → xs.length = vs.length
  | _, _, .nil => rfl
  | _, _, .cons _ r => congrArg (· + 1) (RVs.len r)
theorem RVs.get : ∀ {xs : List Val} {vs : List V} {i : Nat} {x : Val}, RVs K F φ xs vs → xs[i]? = some x → ∃ v, vs[i]? = some v ∧ RV K F φ x v
  | _, _, i, x, .nil, h => by simp at h
  | _, _, 0, x, .cons h _, e => by
    simp at e
    subst e
    exact ⟨_, rfl, h⟩
  | _, _, i + 1, x, .cons _ r, e => by
    obtain ⟨v, a, b⟩ := RVs.get (i := i) r (by simpa using e)
    exact ⟨v, by simpa using a, b⟩
end

/-- fields -/
inductive RFs (K : PySem.W.Frag) (F : Hp) (φ : List Addr) : List (Str × Val) → List (Str × V) → Prop
  | nil : RFs K F φ [] []
  | cons {n : Str} {x : Val} {xs : List (Str × Val)} {v : V} {vs : List (Str × V)} : RV K F φ x v → RFs K F φ xs vs → RFs K F φ ((n, x) :: xs) ((n, v) :: vs)
theorem RFs.mono {K : PySem.W.Frag} {F G : Hp} {φ ψ : List Addr} (m : Mono F G) (p : φ <+: ψ) : ∀ {xs : List (Str × Val)} {vs : List (Str × V)}, RFs K F φ xs vs → RFs K G ψ xs vs
  | _, _, .nil => .nil
  | _, _, .cons h r => .cons (h.mono m p) (RFs.mono m p r)
/-- where the classes stand; ghosts: what else stands as it is -/
structure CS where
  cls : Nat → Addr
  gh : List (Addr × HO)
/-- a place of the store -/
def CellOk (K : PySem.W.Frag) (cs : CS) (F : Hp) (φ : List Addr) (H : Hp) (a : Addr) : Cell → Prop
  | .lst xs => ∃ vs, H a = some (.lst vs) ∧ Rvs K F xs vs
  | .dct ks => ∃ kvs, H a = some (.dK kvs) ∧ Rks K F ks kvs
  | .dcu ks => ∃ kvs, H a = some (.dT kvs) ∧ Rts K F ks kvs
  | .obj c fs => ∃ dx vs, H a = some (.ins (cs.cls c) dx vs) ∧ RFs K F φ fs vs
  | .dead => True
theorem CellOk.mono {K : PySem.W.Frag} {cs : CS} {F G : Hp} {φ ψ : List Addr} {H H' : Hp} {a : Addr} (m : Mono F G) (p : φ <+: ψ) (e : ∀ o, H a = some o → H' a = some o) : ∀ {c : Cell}, CellOk K cs F φ H a c → CellOk K cs G ψ H' a c
  | .lst _, ⟨vs, h, r⟩ => ⟨vs, e _ h, r.mono m⟩
  | .dct _, ⟨vs, h, r⟩ => ⟨vs, e _ h, r.mono m⟩
  | .dcu _, ⟨vs, h, r⟩ => ⟨vs, e _ h, r.mono m⟩
  | .obj _ _, ⟨dx, vs, h, r⟩ => ⟨dx, vs, e _ h, r.mono m p⟩
  | .dead, _ => trivial
structure Base (K : PySem.W.Frag) (cs : CS) (F : Hp) (φ : List Addr) (S : Store) (H : Hp) : Prop where
  le : Same F H
  len : φ.length = S.length
  nd : φ.Nodup
  there : ∀ a ∈ φ, ∃ o, H a = some o
  cell : ∀ (i : Nat) (c : Cell) (a : Addr), S[i]? = some c → φ[i]? = some a → CellOk K cs F φ H a c
  own : ∀ (i : Nat) (c : Cell) (a : Addr), S[i]? = some c → φ[i]? = some a → c ≠ .dead → F a = none
  gho : ∀ p ∈ cs.gh, H p.1 = some p.2 ∧ F p.1 = none ∧ p.1 ∉ φ
def EnvOk (K : PySem.W.Frag) (F : Hp) (φ : List Addr) (ρ : Ev) (σ : St) : Prop := ρ.length = σ.length ∧ ∀ (i : Nat) (x : Val), ρ[i]? = some (some x) → ∃ v, σ[i]? = some (some v) ∧ RV K F φ x v
structure Rep (K : PySem.W.Frag) (cs : CS) (F : Hp) (φ : List Addr) (ρ : Ev) (S : Store) (σ : St) (H : Hp) : Prop where
  b : Base K cs F φ S H
  e : EnvOk K F φ ρ σ
/-- F' goes on from F -/
structure Ext (F : Hp) (φ : List Addr) (F' : Hp) (φ' : List Addr) : Prop where
  s : Same F F'
  p : φ <+: φ'
theorem Ext.refl (F : Hp) (φ : List Addr) : Ext F φ F φ := ⟨Same.refl F, List.prefix_refl φ⟩
theorem Ext.trans {F G J : Hp} {φ ψ χ : List Addr} (a : Ext F φ G ψ) (b : Ext G ψ J χ) : Ext F φ J χ := ⟨a.s.trans b.s, a.p.trans b.p⟩
theorem Ext.rv {K : PySem.W.Frag} {F G : Hp} {φ ψ : List Addr} (a : Ext F φ G ψ) {x : Val} {v : V} (h : RV K F φ x v) : RV K G ψ x v := h.mono (.of a.s) a.p
theorem EnvOk.mono {K : PySem.W.Frag} {F G : Hp} {φ ψ : List Addr} {ρ : Ev} {σ : St} (m : Mono F G) (p : φ <+: ψ) (h : EnvOk K F φ ρ σ) : EnvOk K G ψ ρ σ := ⟨h.1, fun i x e => by
  obtain ⟨v, a, b⟩ := h.2 i x e
  exact ⟨v, a, b.mono m p⟩⟩
/-- F and H grow: what stood stands, what is new in F was free in H -/
structure Grow (F H F' H' : Hp) : Prop where
  s : Same F F'
  k : Same H H'
  n : ∀ a o, F' a = some o → F a = some o ∨ H a = none
  le : Same F' H'
section
variable {K : PySem.W.Frag} {cs : CS} {F F' H H' : Hp} {φ : List Addr} {ρ : Ev} {S : Store} {σ : St}
theorem Base.m (b : Base K cs F φ S H) : Mono F H := .of b.le
theorem Grow.refl (le : Same F H) : Grow F H F H := ⟨Same.refl F, Same.refl H, fun _ _ h => .inl h, le⟩
theorem same_upd {H : Hp} {p : Addr} {o : HO} (h : H p = none) : Same H (upd H p o) := fun b x e => by
  rw [upd_ne (ne_of_none e h)]
  exact e
theorem Grow.new (le : Same F H) {p : Addr} (o : HO) (h : H p = none) : Grow F H (upd F p o) (upd H p o) := by
  have hF : F p = none := le.free h
  refine ⟨same_upd hF, same_upd h, fun a u e => ?_, fun a u e => ?_⟩
  · by_cases z : a = p
    · exact .inr (by rw [z]; exact h)
    · rw [upd_ne z] at e
      exact .inl e
  · by_cases z : a = p
    · subst z
      rw [upd_same] at e ⊢
      exact e
    · rw [upd_ne z] at e ⊢
      exact le _ _ e
theorem Grow.trans {F'' H'' : Hp} (a : Grow F H F' H') (b : Grow F' H' F'' H'') : Grow F H F'' H'' := by
  refine ⟨a.s.trans b.s, a.k.trans b.k, fun x o e => ?_, b.le⟩
  rcases b.n x o e with h | h
  · exact a.n x o h
  · exact .inr (a.k.free h)
theorem Base.grow (b : Base K cs F φ S H) (g : Grow F H F' H') : Base K cs F' φ S H' := by
  refine ⟨g.le, b.len, b.nd, fun a h => ?_, fun i c a h1 h2 => (b.cell i c a h1 h2).mono (.of g.s) (List.prefix_refl _) (fun o e => g.k _ _ e), fun i c a h1 h2 h3 => ?_, fun q hq => ?_⟩
  · obtain ⟨o, e⟩ := b.there a h
    exact ⟨o, g.k _ _ e⟩
  · cases e : F' a with
    | none => rfl
    | some o =>
      rcases g.n a o e with h | h
      · rw [b.own i c a h1 h2 h3] at h
        cases h
      · obtain ⟨o', e'⟩ := b.there a (List.mem_of_getElem? h2)
        rw [h] at e'
        cases e'
  · obtain ⟨g1, g2, g3⟩ := b.gho q hq
    refine ⟨g.k _ _ g1, ?_, g3⟩
    cases e : F' q.1 with
    | none => rfl
    | some o =>
      rcases g.n _ o e with h | h
      · rw [g2] at h
        cases h
      · rw [g1] at h
        cases h
theorem Rep.grow (r : Rep K cs F φ ρ S σ H) (g : Grow F H F' H') : Rep K cs F' φ ρ S σ H' := ⟨r.b.grow g, r.e.mono (.of g.s) (List.prefix_refl _)⟩
theorem Grow.ext (g : Grow F H F' H') (φ : List Addr) : Ext F φ F' φ := ⟨g.s, List.prefix_refl _⟩
end

/-- what a value is as data: a place's content -/
def deref (S : Store) : Val → Option D
  | .dat d => some d
  | .ptr i => match S[i]? with
    | some (.lst xs) => some (.lst xs)
    | some (.dct ks) => some (.dct ks)
    | some (.dcu ks) => some (.dcu ks)
    | _ => none
theorem deref_ok {K : PySem.W.Frag} {cs : CS} {F H : Hp} {φ : List Addr} {S : Store} (b : Base K cs F φ S H) {x : Val} {v : V} {d : D} (r : RV K F φ x v) (h : deref S x = some d) : RT K F H d v := by
  cases r with
  | dat r =>
    cases h
    exact r.rt b.m
  | @ptr i a e =>
    unfold deref at h
    split at h
    · rename_i z
      cases z
    · rename_i i' z
      cases z
      split at h
      · rename_i xs hs
        cases h
        obtain ⟨vs, h1, h2⟩ := b.cell _ _ _ hs e
        exact .lst h1 h2
      · rename_i ks hs
        cases h
        obtain ⟨kvs, h1, h2⟩ := b.cell _ _ _ hs e
        exact .dct (.inl h1) h2
      · rename_i ks hs
        cases h
        obtain ⟨kvs, h1, h2⟩ := b.cell _ _ _ hs e
        exact .dctT (.inl h1) h2
      · cases h
end DL

namespace DL
open PySem PySem.Spec PyProof.Rows L2

section
variable {α β γ δ : Type}
/-- what is wanted of an outcome -/
def Post (K : PySem.W.Frag) (cs : CS) (W : WX) (R : Hp → List Addr → α → β → Prop) (F : Hp) (φ : List Addr) (ρ : Ev) (σ : St) (Q : β → Hp → Prop) : Out α → Prop
  | .ok x S' => ∀ v F' φ' H', Ext F φ F' φ' → Rep K cs F' φ' ρ S' σ H' → R F' φ' x v → Q v H'
  | .exc c S' => ∀ F' φ' H', Ext F φ F' φ' → Rep K cs F' φ' ρ S' σ H' → W (.ref (cs.cls c)) none σ H'
  | .bad => False
def tG (K : PySem.W.Frag) (cl : Nat → Addr) (W : WX) (R : Hp → List Addr → α → β → Prop) (m : Ev → Store → Out α) : St → Hp → (β → Hp → Prop) → Prop := fun σ H Q => ∃ gh F φ ρ S, Rep K ⟨cl, gh⟩ F φ ρ S σ H ∧ Post K ⟨cl, gh⟩ W R F φ ρ σ Q (m ρ S)
variable {K : PySem.W.Frag} {cs : CS} {cl : Nat → Addr} {W : WX} {R : Hp → List Addr → α → β → Prop} {R2' : Hp → List Addr → γ → δ → Prop} {F F' H : Hp} {φ φ' : List Addr} {ρ : Ev} {S : Store} {σ : St}
theorem Post.imp {Q Q' : β → Hp → Prop} (h : ∀ v H, Q v H → Q' v H) : ∀ {o : Out α}, Post K cs W R F φ ρ σ Q o → Post K cs W R F φ ρ σ Q' o
  | .ok _ _, p => fun v F' φ' H' e r q => h _ _ (p v F' φ' H' e r q)
  | .exc _ _, p => p
  | .bad, p => p
theorem Post.ext {Q : β → Hp → Prop} (x : Ext F φ F' φ') : ∀ {o : Out α}, Post K cs W R F φ ρ σ Q o → Post K cs W R F' φ' ρ σ Q o
  | .ok _ _, p => fun v F'' φ'' H' e r q => p v F'' φ'' H' (x.trans e) r q
  | .exc _ _, p => fun F'' φ'' H' e r => p F'' φ'' H' (x.trans e) r
  | .bad, p => p
theorem tG.imp {m : Ev → Store → Out α} {Q Q' : β → Hp → Prop} (h : ∀ v H, Q v H → Q' v H) (t : tG K cl W R m σ H Q) : tG K cl W R m σ H Q' := by
  obtain ⟨gh, F, φ, ρ, S, r, p⟩ := t
  exact ⟨gh, F, φ, ρ, S, r, p.imp h⟩
/-- a part, then the rest -/
theorem tG_bind {m : Ev → Store → Out α} {k : α → Store → Out γ} {Q : δ → Hp → Prop} (r : Rep K cs F φ ρ S σ H) (h : Post K cs W R2' F φ ρ σ Q ((m ρ S).bind k)) :
    tG K cs.cls W R m σ H fun v H1 => ∃ x S1 F1 φ1, Ext F φ F1 φ1 ∧ Rep K cs F1 φ1 ρ S1 σ H1 ∧ R F1 φ1 x v ∧ Post K cs W R2' F1 φ1 ρ σ Q (k x S1) := by
  refine ⟨cs.gh, F, φ, ρ, S, r, ?_⟩
  cases e : m ρ S with
  | bad =>
    rw [e] at h
    exact h
  | exc c S' =>
    rw [e] at h
    exact h
  | ok x S' =>
    rw [e] at h
    exact fun v F1 φ1 H1 x1 r1 q1 => ⟨x, S', F1, φ1, x1, r1, q1, h.ext x1⟩
end

abbrev rV (K : PySem.W.Frag) : Hp → List Addr → Val → V → Prop := fun F φ x v => RV K F φ x v
abbrev rVs (K : PySem.W.Frag) : Hp → List Addr → List Val → List V → Prop := fun F φ x v => RVs K F φ x v
abbrev rB : Hp → List Addr → Bool → Bool → Prop := fun _ _ b c => b = c
/-- an expression, arguments, a test, by a mirror -/
def DE (cl : Nat → Addr) (X : Cx) (e : Expr) (m : EM) : Prop := ∀ W, Takes X W → PE X e (tG X.K cl W (rV X.K) m)
def DAs (cl : Nat → Addr) (X : Cx) (es : List Expr) (m : AM) : Prop := ∀ W, Takes X W → PA X es (tG X.K cl W (rVs X.K) m)
def DT (cl : Nat → Addr) (X : Cx) (e : Expr) (m : BM) : Prop := ∀ W, Takes X W → PT X e (tG X.K cl W rB m)
def DW (cl : Nat → Addr) (X : Cx) (e : Expr) (m : BM) : Prop := ∀ W, Takes X W → PW X e (tG X.K cl W rB m)

section
variable {X : Cx} {e : Expr} {es : List Expr}
theorem pe_imp {t t' : TE} (h : PE X e t) (i : ∀ σ H Q, t' σ H Q → t σ H Q) : PE X e t' := ⟨fun p s σ H Q I q => h.run p s σ H Q I (i σ H Q q)⟩
theorem pt_imp {t t' : TT} (h : PT X e t) (i : ∀ σ H Q, t' σ H Q → t σ H Q) : PT X e t' := ⟨fun p s σ H Q I q => h.run p s σ H Q I (i σ H Q q)⟩
theorem pw_imp {t t' : TT} (h : PW X e t) (i : ∀ σ H Q, t' σ H Q → t σ H Q) : PW X e t' := ⟨fun w p s σ H Q I q => h.run w p s σ H Q I (i σ H Q q)⟩
theorem pa_imp {t t' : TA} (h : PA X es t) (i : ∀ σ H Q, t' σ H Q → t σ H Q) : PA X es t' := ⟨fun w p s σ H Q I q => h.run w p s σ H Q I (i σ H Q q)⟩
end

def eVar (i : Nat) : EM := fun ρ S => match ρ[i]? with
  | some (some v) => .ok v S
  | _ => .bad
def eC (d : D) : EM := fun _ S => .ok (.dat d) S
def op2 (g : D → D → Option D) (x y : Val) (S : Store) : Out Val := match deref S x with
  | some d => (match deref S y with
    | some e => (match g d e with
      | some c => .ok (.dat c) S
      | none => .bad)
    | none => .bad)
  | none => .bad
def eOp2 (g : D → D → Option D) (a b : EM) : EM := fun ρ S => (a ρ S).bind fun x S1 => (b ρ S1).bind fun y S2 => op2 g x y S2
def op1 (g : D → Option D) (x : Val) (S : Store) : Out Val := match deref S x with
  | some d => (match g d with
    | some c => .ok (.dat c) S
    | none => .bad)
  | none => .bad
def eOp1 (g : D → Option D) (a : EM) : EM := fun ρ S => (a ρ S).bind fun x S1 => op1 g x S1
def derefs (S : Store) : List Val → Option (List D)
  | [] => some []
  | x :: xs => match deref S x, derefs S xs with
    | some d, some ds => some (d :: ds)
    | _, _ => none
def opN (g : List D → Option D) (xs : List Val) (S : Store) : Out Val := match derefs S xs with
  | some ds => (match g ds with
    | some c => .ok (.dat c) S
    | none => .bad)
  | none => .bad
def eOpN (g : List D → Option D) (a : AM) : EM := fun ρ S => (a ρ S).bind fun xs S1 => opN g xs S1
def asB (x : Val) (S : Store) : Out Bool := match x with
  | .dat (.bl b) => .ok b S
  | _ => .bad
def toB (m : EM) : BM := fun ρ S => (m ρ S).bind asB
def ofB (b : Bool) : Val := .dat (.bl b)
def eAnd (a b : EM) : EM := fun ρ S => (a ρ S).bind fun x S1 => (asB x S1).bind fun c S2 => if c = true then b ρ S2 else .ok (ofB false) S2
def eOr (a b : EM) : EM := fun ρ S => (a ρ S).bind fun x S1 => (asB x S1).bind fun c S2 => if c = true then .ok (ofB true) S2 else b ρ S2
def eNot (a : EM) : EM := fun ρ S => (a ρ S).bind fun x S1 => (asB x S1).bind fun c S2 => .ok (ofB (!c)) S2
def bAnd (a b : BM) : BM := fun ρ S => (a ρ S).bind fun c S1 => if c = true then b ρ S1 else .ok false S1
def bOr (a b : BM) : BM := fun ρ S => (a ρ S).bind fun c S1 => if c = true then .ok true S1 else b ρ S1
def bNot (a : BM) : BM := fun ρ S => (a ρ S).bind fun c S1 => .ok (!c) S1
def eIf (t : BM) (a b : EM) : EM := fun ρ S => (t ρ S).bind fun c S1 => if c = true then a ρ S1 else b ρ S1
def aNil : AM := fun _ S => .ok [] S
def aCons (a : EM) (r : AM) : AM := fun ρ S => (a ρ S).bind fun x S1 => (r ρ S1).bind fun xs S2 => .ok (x :: xs) S2
def dats : List Val → Option (List D)
  | [] => some []
  | .dat d :: xs => match dats xs with
    | some ds => some (d :: ds)
    | none => none
  | .ptr _ :: _ => none
def eTup (a : AM) : EM := fun ρ S => (a ρ S).bind fun xs S1 => match dats xs with
  | some ds => if ds.length ≤ 1000000 then .ok (.dat (.tup ds)) S1 else .bad
  | none => .bad
def eLst (a : AM) : EM := fun ρ S => (a ρ S).bind fun xs S1 => match dats xs with
  | some ds => if ds.length ≤ 1000000 then .ok (.dat (.lst ds)) S1 else .bad
  | none => .bad
def eChain (g g' : D → D → Option D) (a b c : EM) : EM := fun ρ S => (a ρ S).bind fun x S1 => (b ρ S1).bind fun y S2 => (op2 g x y S2).bind fun z S3 => (asB z S3).bind fun k S4 =>
  if k = true then (c ρ S4).bind fun w S5 => op2 g' y w S5 else .ok (ofB false) S4

def Gives2 (K : PySem.W.Frag) (r : R2) (g : D → D → Option D) : Prop := ∀ (F H : Hp) (d e c : D) (x y : V) (Q : VK), Same F H → RT K F H d x → RT K F H e y → g d e = some c →
  (∀ F' H' v, Grow F H F' H' → Rv K F' c v → Q v H') → r x y H Q
def Gives1 (K : PySem.W.Frag) (r : V → Hp → VK → Prop) (g : D → Option D) : Prop := ∀ (F H : Hp) (d c : D) (x : V) (Q : VK), Same F H → RT K F H d x → g d = some c → (∀ F' H' v, Grow F H F' H' → Rv K F' c v → Q v H') → r x H Q
inductive RTs (K : PySem.W.Frag) (F H : Hp) : List D → List V → Prop
  | nil : RTs K F H [] []
  | cons {d : D} {ds : List D} {v : V} {vs : List V} : RT K F H d v → RTs K F H ds vs → RTs K F H (d :: ds) (v :: vs)
def GivesN (K : PySem.W.Frag) (r : List V → Hp → VK → Prop) (g : List D → Option D) : Prop := ∀ (F H : Hp) (ds : List D) (c : D) (xs : List V) (Q : VK), Same F H → RTs K F H ds xs → g ds = some c → (∀ F' H' v, Grow F H F' H' → Rv K F' c v → Q v H') → r xs H Q

section
variable {X : Cx} {cs : CS} {cl : Nat → Addr}
theorem derefs_ok {K : PySem.W.Frag} {F H : Hp} {φ : List Addr} {S : Store} (b : Base K cs F φ S H) : ∀ {xs : List Val} {vs : List V} {ds : List D}, RVs K F φ xs vs → derefs S xs = some ds → RTs K F H ds vs
  | [], _, _, .nil, h => by
    cases h
    exact .nil
  | x :: xs, _, ds, .cons r rs, h => by
    unfold derefs at h
    split at h
    · rename_i d ds' h1 h2
      cases h
      exact .cons (deref_ok b r h1) (derefs_ok b rs h2)
    · cases h
theorem op2_ok {W : WX} {F H : Hp} {φ : List Addr} {ρ : Ev} {S : Store} {σ : St} {r : R2} {g : D → D → Option D} {x y : Val} {v u : V} {Q : VK} (hg : Gives2 X.K r g) (rp : Rep X.K cs F φ ρ S σ H) (rx : RV X.K F φ x v) (ry : RV X.K F φ y u)
    (h : Post X.K cs W (rV X.K) F φ ρ σ Q (op2 g x y S)) : r v u H Q := by
  unfold op2 at h
  split at h
  · rename_i d h1
    split at h
    · rename_i e h2
      split at h
      · rename_i c h3
        exact hg F H d e c v u Q rp.b.le (deref_ok rp.b rx h1) (deref_ok rp.b ry h2) h3 fun F' H' w gr rw' => h w F' φ H' (gr.ext φ) (rp.grow gr) (.dat rw')
      · exact h.elim
    · exact h.elim
  · exact h.elim
theorem op1_ok {W : WX} {F H : Hp} {φ : List Addr} {ρ : Ev} {S : Store} {σ : St} {r : V → Hp → VK → Prop} {g : D → Option D} {x : Val} {v : V} {Q : VK} (hg : Gives1 X.K r g) (rp : Rep X.K cs F φ ρ S σ H) (rx : RV X.K F φ x v)
    (h : Post X.K cs W (rV X.K) F φ ρ σ Q (op1 g x S)) : r v H Q := by
  unfold op1 at h
  split at h
  · rename_i d h1
    split at h
    · rename_i c h3
      exact hg F H d c v Q rp.b.le (deref_ok rp.b rx h1) h3 fun F' H' w gr rw' => h w F' φ H' (gr.ext φ) (rp.grow gr) (.dat rw')
    · exact h.elim
  · exact h.elim
theorem opN_ok {W : WX} {F H : Hp} {φ : List Addr} {ρ : Ev} {S : Store} {σ : St} {r : List V → Hp → VK → Prop} {g : List D → Option D} {x : List Val} {v : List V} {Q : VK} (hg : GivesN X.K r g) (rp : Rep X.K cs F φ ρ S σ H) (rx : RVs X.K F φ x v)
    (h : Post X.K cs W (rV X.K) F φ ρ σ Q (opN g x S)) : r v H Q := by
  unfold opN at h
  split at h
  · rename_i d h1
    split at h
    · rename_i c h3
      exact hg F H d c v Q rp.b.le (derefs_ok rp.b rx h1) h3 fun F' H' w gr rw' => h w F' φ H' (gr.ext φ) (rp.grow gr) (.dat rw')
    · exact h.elim
  · exact h.elim
variable {a b c e : Expr} {es rest : List Expr} {ma mb mc : EM} {mt mu : BM} {ms : AM} {pos p : Pos} {x : Str}
theorem tOp_of {W : WX} {ta tb : TE} {k : Val → Val → Store → Out Val} {r : R2} {σ : St} {H : Hp} {Q : VK} (h : tG X.K cl W (rV X.K) (fun ρ S => (ma ρ S).bind fun x S1 => (mb ρ S1).bind fun y S2 => k x y S2) σ H Q)
    (hk : ∀ (cs : CS) (F φ ρ S H1 x y v u), cs.cls = cl → Rep X.K cs F φ ρ S σ H1 → RV X.K F φ x v → RV X.K F φ y u → Post X.K cs W (rV X.K) F φ ρ σ Q (k x y S) → r v u H1 Q) :
    tOp r (tG X.K cl W (rV X.K) ma) (tG X.K cl W (rV X.K) mb) σ H Q := by
  obtain ⟨gh, F, φ, ρ, S, rp, p⟩ := h
  refine (tG_bind (R := rV X.K) rp p).imp fun v H1 ⟨x, S1, F1, φ1, x1, r1, q1, p1⟩ => ?_
  refine (tG_bind (R := rV X.K) r1 p1).imp fun u H2 ⟨y, S2, F2, φ2, x2, r2, q2, p2⟩ => ?_
  exact hk ⟨cl, gh⟩ F2 φ2 ρ S2 H2 x y v u rfl r2 (x2.rv q1) q2 p2
theorem tUn_of {W : WX} {k : Val → Store → Out Val} {r : V → Hp → VK → Prop} {σ : St} {H : Hp} {Q : VK} (h : tG X.K cl W (rV X.K) (fun ρ S => (ma ρ S).bind fun x S1 => k x S1) σ H Q)
    (hk : ∀ (cs : CS) (F φ ρ S H1 x v), cs.cls = cl → Rep X.K cs F φ ρ S σ H1 → RV X.K F φ x v → Post X.K cs W (rV X.K) F φ ρ σ Q (k x S) → r v H1 Q) :
    tUn r (tG X.K cl W (rV X.K) ma) σ H Q := by
  obtain ⟨gh, F, φ, ρ, S, rp, p⟩ := h
  exact (tG_bind (R := rV X.K) rp p).imp fun v H1 ⟨x, S1, F1, φ1, x1, r1, q1, p1⟩ => hk ⟨cl, gh⟩ F1 φ1 ρ S1 H1 x v rfl r1 q1 p1

theorem de_var (i : Nat) (hN : X.N[i]? = some x := by rfl) (hv : Vis X.env.scope x := by first | exact Or.inl rfl | exact Or.inr (Or.inl rfl) | exact Or.inr (Or.inr rfl)) (hd : (x == ("__debug__" : Str)) = false := by decide)
    (hcd : (x == ("__classdict__" : Str)) = false := by decide) : DE cl X (.Name x pos) (eVar i) := fun W _ => pe_imp (pe_var hN hv hd hcd) fun σ H Q ⟨gh, F, φ, ρ, S, r, p⟩ => by
  unfold eVar at p
  split at p
  · rename_i v hi
    obtain ⟨u, h1, h2⟩ := r.e.2 i v hi
    exact ⟨u, h1, p u F φ H (.refl F φ) r h2⟩
  · exact p.elim
theorem de_const {t : V} {d : D} (h : PE X e (tC t)) (r : ∀ F, Rv X.K F d t) : DE cl X e (eC d) := fun W _ => pe_imp h fun σ H Q ⟨gh, F, φ, ρ, S, rp, p⟩ => p _ F φ H (.refl F φ) rp (.dat (r F))
theorem de_int {i : Int} {j} : DE cl X (.Constant (.int i) j pos) (eC (.int i)) := de_const pe_int fun _ => .int i
theorem de_bl {i : Bool} {j} : DE cl X (.Constant (.bool i) j pos) (eC (.bl i)) := de_const pe_bl fun _ => .bl i
theorem de_non {j} : DE cl X (.Constant .none j pos) (eC .non) := de_const pe_non fun _ => .non
theorem de_str {z : Str} {j} (s : List Nat) (h : z = toStr s := by decide +kernel) (g : s.all (· < 1114112) = true := by decide +kernel) : DE cl X (.Constant (.str z) j pos) (eC (.str s)) := by
  subst h
  exact de_const pe_str fun _ => .str fun c hc => by simpa using List.all_eq_true.mp g c hc
/-- what the module's name x holds, as data -/
def Glob (mg : Str → Option Value) (x : Str) (d : D) : Prop := ∃ u v, mg x = some u ∧ RelV v u ∧ ∀ K F, Rv K F d v
theorem de_glob {d : D} (h : Glob X.mg x d) (hg : Gl X x := by rfl) (hd : (x == ("__debug__" : Str)) = false := by decide) : DE cl X (.Name x pos) (eC d) := by
  obtain ⟨u, v, h1, h2, h3⟩ := h
  exact de_const (pe_glob hg h1 h2 hd) fun F => h3 _ F

theorem de_op {op : Operator} {r : R2} {g : D → D → Option D} (ho : OpR X (binaryOp op) r) (hg : Gives2 X.K r g) (ha : DE cl X a ma) (hb : DE cl X b mb) : DE cl X (.BinOp a op b pos) (eOp2 g ma mb) := fun W tk =>
  pe_imp (pe_op ho (ha W tk) (hb W tk)) fun σ H Q h => tOp_of (ta := tG X.K cl W (rV X.K) ma) (tb := tG X.K cl W (rV X.K) mb) h fun cs F φ ρ S H1 x y v u _ rp rx ry p => op2_ok hg rp rx ry p
theorem de_cmp {op : CmpOp} {r : R2} {g : D → D → Option D} (ho : OpR X (compareOp op) r) (hg : Gives2 X.K r g) (ha : DE cl X a ma) (hb : DE cl X b mb) (hm : behindInMarks op b = false := by first | exact nomark _ | rfl) : DE cl X (.Compare a [op] [b] pos) (eOp2 g ma mb) := fun W tk =>
  pe_imp (pe_cmpR ho (ha W tk) (hb W tk) hm) fun σ H Q h => tOp_of (ta := tG X.K cl W (rV X.K) ma) (tb := tG X.K cl W (rV X.K) mb) h fun cs F φ ρ S H1 x y v u _ rp rx ry p => op2_ok hg rp rx ry p
theorem de_un {op : UnaryOp} {r : V → Hp → VK → Prop} {g : D → Option D} (ho : UnR X (unaryOp op) r) (hg : Gives1 X.K r g) (ha : DE cl X a ma) : DE cl X (.UnaryOp op a pos) (eOp1 g ma) := fun W tk =>
  pe_imp (pe_un ho (ha W tk)) fun σ H Q h => tUn_of h fun cs F φ ρ S H1 x v _ rp rx p => op1_ok hg rp rx p
theorem de_ix {r : R2} {g : D → D → Option D} (ho : IxR X r) (hg : Gives2 X.K r g) (ha : DE cl X a ma) (hb : DE cl X b mb) (hs : PlainIx b := by exact fun _ _ => rfl) : DE cl X (.Subscript a b pos) (eOp2 g ma mb) := fun W tk =>
  pe_imp (pe_ix ho (ha W tk) (hb W tk) hs) fun σ H Q h => tOp_of (ta := tG X.K cl W (rV X.K) ma) (tb := tG X.K cl W (rV X.K) mb) h fun cs F φ ρ S H1 x y v u _ rp rx ry p => op2_ok hg rp rx ry p

theorem asB_ok {W : WX} {F : Hp} {φ : List Addr} {ρ : Ev} {S : Store} {σ : St} {H : Hp} {Q : Bool → Hp → Prop} {x : Val} {v : V} (rp : Rep X.K cs F φ ρ S σ H) (rx : RV X.K F φ x v) (p : Post X.K cs W rB F φ ρ σ Q (asB x S)) : ∃ k, v = .bl k ∧ Q k H := by
  unfold asB at p
  split at p
  · rename_i k
    cases rx with
    | dat r =>
      cases r
      exact ⟨_, rfl, p _ F φ H (.refl F φ) rp rfl⟩
  · exact p.elim
theorem dt_cmp {op : CmpOp} {r : R2} {g : D → D → Option D} (ho : OpR X (compareOp op) r) (hg : Gives2 X.K r g) (ha : DE cl X a ma) (hb : DE cl X b mb) (hm : behindInMarks op b = false := by first | exact nomark _ | rfl) : DT cl X (.Compare a [op] [b] pos) (toB (eOp2 g ma mb)) := fun W tk =>
  pt_imp (pt_cmpR ho (ha W tk) (hb W tk) hm) fun σ H Q h => by
    obtain ⟨gh, F, φ, ρ, S, rp, p⟩ := h
    have q := tG_bind (R := rV X.K) (R2' := rB) (m := eOp2 g ma mb) rp p
    exact tOp_of (ta := tG X.K cl W (rV X.K) ma) (tb := tG X.K cl W (rV X.K) mb) (q.imp fun v H1 ⟨x, S1, F1, φ1, x1, r1, q1, p1⟩ => asB_ok r1 q1 p1) fun cs F φ ρ S H1 x y v u _ rp rx ry p => op2_ok hg rp rx ry p
/-- an expression whose value is a bool, as a test -/
theorem dt_val (ha : DE cl X a ma) (he : ∀ whole, isTrue a X.env whole = (do let v ← whole; standAt a.pos; holding [v] (truthy v)) := by intro _; rfl) : DT cl X a (toB ma) := fun W tk =>
  pt_imp (pt_val (ha W tk) he) fun σ H Q h => by
    obtain ⟨gh, F, φ, ρ, S, rp, p⟩ := h
    exact (tG_bind (R := rV X.K) (R2' := rB) (m := ma) rp p).imp fun v H1 ⟨x, S1, F1, φ1, x1, r1, q1, p1⟩ => asB_ok r1 q1 p1
theorem dt_not (ha : DT cl X a mt) : DT cl X (.UnaryOp .Not a pos) (bNot mt) := fun W tk =>
  pt_imp (pt_not (ha W tk)) fun σ H Q h => by
    obtain ⟨gh, F, φ, ρ, S, rp, p⟩ := h
    refine (tG_bind (R := rB) (R2' := rB) (m := mt) rp p).imp fun v H1 ⟨x, S1, F1, φ1, x1, r1, q1, p1⟩ => ?_
    subst q1
    exact p1 _ F1 φ1 H1 (.refl F1 φ1) r1 rfl
theorem dw_one_and (ha : DT cl X a mt) : DW cl X (.BoolOp .And [a] pos) mt := fun W tk => pw_and1 (ha W tk)
theorem dw_one_or (ha : DT cl X a mt) : DW cl X (.BoolOp .Or [a] pos) mt := fun W tk => pw_or1 (ha W tk)
theorem dw_and (ha : DT cl X a mt) (hb : DW cl X (.BoolOp .And (b :: rest) pos) mu) : DW cl X (.BoolOp .And (a :: b :: rest) pos) (bAnd mt mu) := fun W tk =>
  pw_imp (pw_and (ha W tk) (hb W tk)) fun σ H Q h => by
    obtain ⟨gh, F, φ, ρ, S, rp, p⟩ := h
    refine (tG_bind (R := rB) (R2' := rB) (m := mt) rp p).imp fun v H1 ⟨x, S1, F1, φ1, x1, r1, q1, p1⟩ => ?_
    subst q1
    cases x with
    | true =>
      rw [if_pos rfl] at p1
      rw [if_pos rfl]
      exact ⟨gh, F1, φ1, ρ, S1, r1, p1⟩
    | false =>
      rw [if_neg Bool.false_ne_true] at p1
      rw [if_neg Bool.false_ne_true]
      exact p1 _ F1 φ1 H1 (.refl F1 φ1) r1 rfl
theorem dw_or (ha : DT cl X a mt) (hb : DW cl X (.BoolOp .Or (b :: rest) pos) mu) : DW cl X (.BoolOp .Or (a :: b :: rest) pos) (bOr mt mu) := fun W tk =>
  pw_imp (pw_or (ha W tk) (hb W tk)) fun σ H Q h => by
    obtain ⟨gh, F, φ, ρ, S, rp, p⟩ := h
    refine (tG_bind (R := rB) (R2' := rB) (m := mt) rp p).imp fun v H1 ⟨x, S1, F1, φ1, x1, r1, q1, p1⟩ => ?_
    subst q1
    cases x with
    | true =>
      rw [if_pos rfl] at p1
      rw [if_pos rfl]
      exact p1 _ F1 φ1 H1 (.refl F1 φ1) r1 rfl
    | false =>
      rw [if_neg Bool.false_ne_true] at p1
      rw [if_neg Bool.false_ne_true]
      exact ⟨gh, F1, φ1, ρ, S1, r1, p1⟩
theorem dt_w (h : DW cl X a mt) : DT cl X a mt := fun W tk => (h W tk).pt
theorem op2_bind {γ δ : Type} {RX : Hp → List Addr → γ → δ → Prop} {W : WX} {F H : Hp} {φ : List Addr} {ρ : Ev} {S : Store} {σ : St} {r : R2} {g : D → D → Option D} {x y : Val} {v u : V} {k : Val → Store → Out γ} {Q : δ → Hp → Prop} {Q' : VK} (hg : Gives2 X.K r g) (rp : Rep X.K cs F φ ρ S σ H) (rx : RV X.K F φ x v) (ry : RV X.K F φ y u)
    (h : Post X.K cs W RX F φ ρ σ Q ((op2 g x y S).bind k)) (hk : ∀ w H1 z F1, Ext F φ F1 φ → Rep X.K cs F1 φ ρ S σ H1 → RV X.K F1 φ z w → Post X.K cs W RX F1 φ ρ σ Q (k z S) → Q' w H1) : r v u H Q' := by
  unfold op2 at h
  split at h
  · rename_i d h1
    split at h
    · rename_i e h2
      split at h
      · rename_i c h3
        exact hg F H d e c v u _ rp.b.le (deref_ok rp.b rx h1) (deref_ok rp.b ry h2) h3 fun F' H' w gr rw' => hk w H' _ F' (gr.ext φ) (rp.grow gr) (.dat rw') (h.ext (gr.ext φ))
      · exact h.elim
    · exact h.elim
  · exact h.elim
theorem asB_bind {γ δ : Type} {RX : Hp → List Addr → γ → δ → Prop} {W : WX} {F : Hp} {φ : List Addr} {ρ : Ev} {S : Store} {σ : St} {x : Val} {v : V} {k : Bool → Store → Out γ} {Q : δ → Hp → Prop} (rx : RV X.K F φ x v)
    (p : Post X.K cs W RX F φ ρ σ Q ((asB x S).bind k)) : ∃ c, v = .bl c ∧ Post X.K cs W RX F φ ρ σ Q (k c S) := by
  unfold asB at p
  split at p
  · rename_i c
    cases rx with
    | dat r =>
      cases r
      exact ⟨_, rfl, p⟩
  · exact p.elim
theorem chain_ok {W : WX} {r r' : R2} {g g' : D → D → Option D} {σ : St} {H : Hp} {Q : VK} (hg : Gives2 X.K r g) (hg' : Gives2 X.K r' g') (h : tG X.K cl W (rV X.K) (eChain g g' ma mb mc) σ H Q) :
    tChain r r' (tG X.K cl W (rV X.K) ma) (tG X.K cl W (rV X.K) mb) (tG X.K cl W (rV X.K) mc) σ H Q := by
  obtain ⟨gh, F, φ, ρ, S, rp, p⟩ := h
  refine (tG_bind (R := rV X.K) rp p).imp fun v H1 ⟨x, S1, F1, φ1, x1, r1, q1, p1⟩ => ?_
  refine (tG_bind (R := rV X.K) r1 p1).imp fun u H2 ⟨y, S2, F2, φ2, x2, r2, q2, p2⟩ => ?_
  refine op2_bind hg r2 (x2.rv q1) q2 p2 fun w H3 z F3 x3 r3 q3 p3 => ?_
  obtain ⟨k, e1, p4⟩ := asB_bind q3 p3
  refine ⟨k, e1, ?_⟩
  cases k with
  | true =>
    rw [if_pos rfl] at p4
    rw [if_pos rfl]
    refine (tG_bind (R := rV X.K) r3 p4).imp fun w' H4 ⟨y4, S4, F4, φ4, x4, r4, q4, p5⟩ => ?_
    exact op2_ok hg' r4 ((x3.trans x4).rv q2) q4 p5
  | false =>
    rw [if_neg Bool.false_ne_true] at p4
    rw [if_neg Bool.false_ne_true]
    exact p4 _ F3 φ2 H3 (.refl F3 φ2) r3 (.dat (.bl false))
theorem de_chain {op op' : CmpOp} {r r' : R2} {g g' : D → D → Option D} (ho : OpR X (compareOp op) r) (hg : Gives2 X.K r g) (ho' : OpR X (compareOp op') r') (hg' : Gives2 X.K r' g') (ha : DE cl X a ma) (hb : DE cl X b mb) (hc : DE cl X c mc)
    (hm : lastMarks [op, op'] [b, c] = false := by with_unfolding_all rfl) :
    DE cl X (.Compare a [op, op'] [b, c] pos) (eChain g g' ma mb mc) := fun W tk => pe_imp (pe_chain ho ho' (ha W tk) (hb W tk) (hc W tk) hm) fun σ H Q h => chain_ok hg hg' h
theorem dt_chain {op op' : CmpOp} {r r' : R2} {g g' : D → D → Option D} (ho : OpR X (compareOp op) r) (hg : Gives2 X.K r g) (ho' : OpR X (compareOp op') r') (hg' : Gives2 X.K r' g') (ha : DE cl X a ma) (hb : DE cl X b mb) (hc : DE cl X c mc)
    (hm : lastMarks [op, op'] [b, c] = false := by with_unfolding_all rfl) :
    DT cl X (.Compare a [op, op'] [b, c] pos) (toB (eChain g g' ma mb mc)) := fun W tk =>
  pt_imp (pt_chain ho ho' (ha W tk) (hb W tk) (hc W tk) hm) fun σ H Q h => by
    obtain ⟨gh, F, φ, ρ, S, rp, p⟩ := h
    have q := tG_bind (R := rV X.K) (R2' := rB) (m := eChain g g' ma mb mc) rp p
    exact chain_ok hg hg' (q.imp fun v H1 ⟨x, S1, F1, φ1, x1, r1, q1, p1⟩ => asB_ok r1 q1 p1)

theorem de_one {op} (h : DE cl X a ma) : DE cl X (.BoolOp op [a] pos) ma := fun W tk => pe_one (h W tk)
theorem de_and (ha : DE cl X a ma) (hb : DE cl X (.BoolOp .And (b :: rest) pos) mb) : DE cl X (.BoolOp .And (a :: b :: rest) pos) (eAnd ma mb) := fun W tk =>
  pe_imp (pe_and (ha W tk) (hb W tk)) fun σ H Q h => by
    obtain ⟨gh, F, φ, ρ, S, rp, p⟩ := h
    refine (tG_bind (R := rV X.K) rp p).imp fun v H1 ⟨x, S1, F1, φ1, x1, r1, q1, p1⟩ => ?_
    obtain ⟨k, e1, p2⟩ := asB_bind q1 p1
    refine ⟨k, e1, ?_⟩
    cases k with
    | true =>
      rw [if_pos rfl] at p2
      rw [if_pos rfl]
      exact ⟨gh, F1, φ1, ρ, S1, r1, p2⟩
    | false =>
      rw [if_neg Bool.false_ne_true] at p2
      rw [if_neg Bool.false_ne_true]
      exact p2 _ F1 φ1 H1 (.refl F1 φ1) r1 (.dat (.bl false))
theorem de_or (ha : DE cl X a ma) (hb : DE cl X (.BoolOp .Or (b :: rest) pos) mb) : DE cl X (.BoolOp .Or (a :: b :: rest) pos) (eOr ma mb) := fun W tk =>
  pe_imp (pe_or (ha W tk) (hb W tk)) fun σ H Q h => by
    obtain ⟨gh, F, φ, ρ, S, rp, p⟩ := h
    refine (tG_bind (R := rV X.K) rp p).imp fun v H1 ⟨x, S1, F1, φ1, x1, r1, q1, p1⟩ => ?_
    obtain ⟨k, e1, p2⟩ := asB_bind q1 p1
    refine ⟨k, e1, ?_⟩
    cases k with
    | true =>
      rw [if_pos rfl] at p2
      rw [if_pos rfl]
      exact p2 _ F1 φ1 H1 (.refl F1 φ1) r1 (.dat (.bl true))
    | false =>
      rw [if_neg Bool.false_ne_true] at p2
      rw [if_neg Bool.false_ne_true]
      exact ⟨gh, F1, φ1, ρ, S1, r1, p2⟩
theorem de_not (ha : DE cl X a ma) : DE cl X (.UnaryOp .Not a pos) (eNot ma) := fun W tk =>
  pe_imp (pe_not (ha W tk)) fun σ H Q h => by
    obtain ⟨gh, F, φ, ρ, S, rp, p⟩ := h
    refine (tG_bind (R := rV X.K) rp p).imp fun v H1 ⟨x, S1, F1, φ1, x1, r1, q1, p1⟩ => ?_
    obtain ⟨k, e1, p2⟩ := asB_bind q1 p1
    exact ⟨k, e1, p2 _ F1 φ1 H1 (.refl F1 φ1) r1 (.dat (.bl (!k)))⟩
theorem de_if (ht : DT cl X c mt) (ha : DE cl X a ma) (hb : DE cl X b mb) : DE cl X (.IfExp c a b pos) (eIf mt ma mb) := fun W tk =>
  pe_imp (pe_ifExp (ht W tk) (ha W tk) (hb W tk)) fun σ H Q h => by
    obtain ⟨gh, F, φ, ρ, S, rp, p⟩ := h
    refine (tG_bind (R := rB) (R2' := rV X.K) (m := mt) rp p).imp fun v H1 ⟨x, S1, F1, φ1, x1, r1, q1, p1⟩ => ?_
    subst q1
    cases x with
    | true =>
      rw [if_pos rfl] at p1
      rw [if_pos rfl]
      exact ⟨gh, F1, φ1, ρ, S1, r1, p1⟩
    | false =>
      rw [if_neg Bool.false_ne_true] at p1
      rw [if_neg Bool.false_ne_true]
      exact ⟨gh, F1, φ1, ρ, S1, r1, p1⟩

theorem da_nil : DAs cl X [] aNil := fun W _ => pa_imp pa_nil fun σ H Q ⟨gh, F, φ, ρ, S, rp, p⟩ => p _ F φ H (.refl F φ) rp .nil
theorem da_cons (ha : DE cl X e ma) (hr : DAs cl X es ms) (hs : starEach (e :: es) X.env = (false, eval e X.env) :: starEach es X.env := by rfl) : DAs cl X (e :: es) (aCons ma ms) := fun W tk =>
  pa_imp (pa_cons (ha W tk) (hr W tk) hs) fun σ H Q h => by
    obtain ⟨gh, F, φ, ρ, S, rp, p⟩ := h
    refine (tG_bind (R := rV X.K) rp p).imp fun v H1 ⟨x, S1, F1, φ1, x1, r1, q1, p1⟩ => ?_
    refine (tG_bind (R := rVs X.K) r1 p1).imp fun u H2 ⟨y, S2, F2, φ2, x2, r2, q2, p2⟩ => ?_
    exact p2 _ F2 φ2 H2 (.refl F2 φ2) r2 (.cons (x2.rv q1) q2)
theorem dats_ok {K : PySem.W.Frag} {F : Hp} {φ : List Addr} : ∀ {xs : List Val} {vs : List V} {ds : List D}, RVs K F φ xs vs → dats xs = some ds → Rvs K F ds vs
  | [], _, _, .nil, h => by
    cases h
    exact .nil
  | .dat d :: xs, _, ds, .cons (.dat r) rs, h => by
    unfold dats at h
    split at h
    · rename_i ds' h2
      cases h
      exact .cons r (dats_ok rs h2)
    · cases h
  | .ptr _ :: xs, _, ds, .cons _ _, h => by cases h
theorem line_of {n : Nat} (h : n ≤ 1000000) : n ≤ sizeLine := Nat.le_trans h (by decide)
theorem de_tup {k} (h : DAs cl X es ms) : DE cl X (.Tuple es k pos) (eTup ms) := fun W tk =>
  pe_imp (pe_tupX (h W tk)) fun σ H Q h => by
    obtain ⟨gh, F, φ, ρ, S, rp, p⟩ := h
    refine (tG_bind (R := rVs X.K) rp p).imp fun vs H1 ⟨xs, S1, F1, φ1, x1, r1, q1, p1⟩ => ?_
    split at p1
    · rename_i ds hd
      have rr := dats_ok q1 hd
      split at p1
      · rename_i hl
        refine ⟨by rw [← rr.len]; exact line_of hl, fun q ob hq hd => ?_⟩
        have g := Grow.new r1.b.le (.frz ob (.tup vs)) hq
        exact p1 _ _ φ1 _ (g.ext φ1) (r1.grow g) (.dat (.tup (.new hd) (rr.mono (.of g.s))))
      · exact p1.elim
    · exact p1.elim
theorem de_lst (h : DAs cl X es ms) : DE cl X (.List es pos) (eLst ms) := fun W tk =>
  pe_imp (pe_lst (h W tk)) fun σ H Q h => by
    obtain ⟨gh, F, φ, ρ, S, rp, p⟩ := h
    refine (tG_bind (R := rVs X.K) rp p).imp fun vs H1 ⟨xs, S1, F1, φ1, x1, r1, q1, p1⟩ => ?_
    split at p1
    · rename_i ds hd
      have rr := dats_ok q1 hd
      split at p1
      · rename_i hl
        refine ⟨by rw [← rr.len]; exact line_of hl, fun q hq => ?_⟩
        have g := Grow.new r1.b.le (.lst vs) hq
        exact p1 _ _ φ1 _ (g.ext φ1) (r1.grow g) (.dat (.lst upd_same (rr.mono (.of g.s))))
      · exact p1.elim
    · exact p1.elim

theorem de_callB {id : String} {r : List V → Hp → VK → Prop} {g : List D → Option D} (hc : CallR X (.builtin id) r) (gv : GivesN X.K r g) (hm : X.mg x = none) (hv : bootBuiltins x = some (.builtin id)) (ha : DAs cl X (e :: es) ms) (hg : Gl X x := by rfl)
    (hn : x ≠ "__name__" := by decide) (hdb : (x == ("__debug__" : Str)) = false := by decide)
    (he : starEach (e :: es) X.env = (false, eval e X.env) :: starEach es X.env := by rfl) (hpl : (backTo pos (starEach es X.env)).any (·.1) = false := by rfl) : DE cl X (.Call (.Name x p) (e :: es) [] pos) (eOpN g ms) := fun W tk =>
  pe_imp (pe_callB hc hg hm hv (ha W tk) hn hdb he hpl) fun σ H Q h => by
    obtain ⟨gh, F, φ, ρ, S, rp, p⟩ := h
    exact (tG_bind (R := rVs X.K) rp p).imp fun vs H1 ⟨xs, S1, F1, φ1, x1, r1, q1, p1⟩ => opN_ok gv r1 q1 p1
theorem de_callTy {T : String} {r : List V → Hp → VK → Prop} {g : List D → Option D} (hc : CallR X (.type T) r) (gv : GivesN X.K r g) (hm : X.mg x = none) (hv : bootBuiltins x = some (.type T)) (ha : DAs cl X (e :: es) ms) (hg : Gl X x := by rfl)
    (hn : x ≠ "__name__" := by decide) (hdb : (x == ("__debug__" : Str)) = false := by decide)
    (he : starEach (e :: es) X.env = (false, eval e X.env) :: starEach es X.env := by rfl) (hpl : (backTo pos (starEach es X.env)).any (·.1) = false := by rfl) : DE cl X (.Call (.Name x p) (e :: es) [] pos) (eOpN g ms) := fun W tk =>
  pe_imp (pe_callTy hc hg hm hv (ha W tk) hn hdb he hpl) fun σ H Q h => by
    obtain ⟨gh, F, φ, ρ, S, rp, p⟩ := h
    exact (tG_bind (R := rVs X.K) rp p).imp fun vs H1 ⟨xs, S1, F1, φ1, x1, r1, q1, p1⟩ => opN_ok gv r1 q1 p1

/-- the promise of a mirror f with n parameters -/
def spD (K : PySem.W.Frag) (cl : Nat → Addr) (n : Nat) (f : Fn) : Sp := fun vs H Q E => ∃ gh F φ S xs, Base K ⟨cl, gh⟩ F φ S H ∧ RVs K F φ xs vs ∧ xs.length = n ∧ match f xs S with
  | .ok v S' => ∀ v' F' φ' H', Ext F φ F' φ' → Base K ⟨cl, gh⟩ F' φ' S' H' → RV K F' φ' v v' → Q v' H'
  | .exc c S' => ∀ F' φ' H', Ext F φ F' φ' → Base K ⟨cl, gh⟩ F' φ' S' H' → E (.ref (cl c)) none H'
  | .bad => False
theorem spD_len {K : PySem.W.Frag} {n : Nat} {f : Fn} {vs : List V} {H : Hp} {Q : VK} {E : XK} (h : spD K cl n f vs H Q E) : vs.length = n := by
  obtain ⟨gh, F, φ, S, xs, _, r, e, _⟩ := h
  rw [← r.len]
  exact e
/-- a def of the text with its mirror -/
def Dfn (P : Program) (w : World) (K : PySem.W.Frag) (mg : Str → Option Value) (base : Heap) (cl : Nat → Addr) (k : Nat) (x : Str) (ps : List Str) (f : Fn) : Prop :=
  ∃ (a : Addr) (fd : FuncData), mg x = some (.ref a) ∧ PySem.W.keepIn K (.ref a) = true ∧ Binds K fd ps [] ∧ FnOk P w K mg base (L2N.CX P w) k a fd ps (spD K cl ps.length f)
theorem call_ok {W : WX} {F H : Hp} {φ : List Addr} {ρ : Ev} {S : Store} {σ : St} {f : Fn} {xs : List Val} {vs : List V} {Q : VK} {n : Nat} (rp : Rep X.K cs F φ ρ S σ H) (rx : RVs X.K F φ xs vs) (p : Post X.K cs W (rV X.K) F φ ρ σ Q (if xs.length = n then f xs S else .bad)) :
    spD X.K cs.cls n f vs H Q (WE W σ) := by
  by_cases hl : xs.length = n
  · rw [if_pos hl] at p
    refine ⟨cs.gh, F, φ, S, xs, rp.b, rx, hl, ?_⟩
    cases e : f xs S with
    | bad =>
      rw [e] at p
      exact p
    | exc c S' =>
      rw [e] at p
      exact fun F' φ' H' x b => p F' φ' H' x ⟨b, rp.e.mono (.of x.s) x.p⟩
    | ok v S' =>
      rw [e] at p
      exact fun v' F' φ' H' x b r => p v' F' φ' H' x ⟨b, rp.e.mono (.of x.s) x.p⟩ r
  · rw [if_neg hl] at p
    exact p.elim
def eCall (n : Nat) (f : Fn) (a : AM) : EM := fun ρ S => (a ρ S).bind fun xs S1 => if xs.length = n then f xs S1 else .bad
theorem de_call {k j : Nat} {f : Fn} {ps : List Str} (G : Dfn X.prog X.w X.K X.mg X.base cl k x ps f) (hr : Room j X.A) (ha : DAs cl X (e :: es) ms) (hk : k ≤ j := by decide) (hg : Gl X x := by rfl)
    (hdb : (x == ("__debug__" : Str)) = false := by decide) (he : starEach (e :: es) X.env = (false, eval e X.env) :: starEach es X.env := by rfl) (hpl : (backTo pos (starEach es X.env)).any (·.1) = false := by rfl) :
    DE cl X (.Call (.Name x p) (e :: es) [] pos) (eCall ps.length f ms) := fun W tk => by
  obtain ⟨a, fd, g1, g2, g3, g4⟩ := G
  refine pe_imp (pe_callS (E := WE W) g4 (hr.mono hk) hg g1 g2 g3 (fun σ => L2N.passAt tk σ) (ha W tk) hdb he hpl) fun σ H Q h => ?_
  obtain ⟨gh, F, φ, ρ, S, rp, p⟩ := h
  refine (tG_bind (R := rVs X.K) rp p).imp fun vs H1 ⟨xs, S1, F1, φ1, x1, r1, q1, p1⟩ => ?_
  exact call_ok r1 q1 p1
end
end DL

namespace DL
open PySem PySem.Spec PyProof.Rows L2

section
variable {α β : Type}
def SPost (K : PySem.W.Frag) (cs : CS) (W : WX) (F : Hp) (φ : List Addr) (E : Ends) : SOut → Prop
  | .nx ρ' S' => ∀ F' φ' σ' H', Ext F φ F' φ' → Rep K cs F' φ' ρ' S' σ' H' → E.nx σ' H'
  | .bk ρ' S' => ∀ F' φ' σ' H', Ext F φ F' φ' → Rep K cs F' φ' ρ' S' σ' H' → E.bk σ' H'
  | .ct ρ' S' => ∀ F' φ' σ' H', Ext F φ F' φ' → Rep K cs F' φ' ρ' S' σ' H' → E.ct σ' H'
  | .rt v S' => ∀ v' F' φ' H', Ext F φ F' φ' → Base K cs F' φ' S' H' → RV K F' φ' v v' → E.rt v' H'
  | .exc c ρ' S' => ∀ F' φ' σ' H', Ext F φ F' φ' → Rep K cs F' φ' ρ' S' σ' H' → W (.ref (cs.cls c)) none σ' H'
  | .bad => False
def tS (K : PySem.W.Frag) (cl : Nat → Addr) (W : WX) (m : SM) : TS := fun E σ H => ∃ gh F φ ρ S, Rep K ⟨cl, gh⟩ F φ ρ S σ H ∧ SPost K ⟨cl, gh⟩ W F φ E (m ρ S)
def sOf (o : Out α) (ρ : Ev) (k : α → Store → SOut) : SOut := match o with
  | .ok a S => k a S
  | .exc c S => .exc c ρ S
  | .bad => .bad
def SOut.bind (o : SOut) (k : SM) : SOut := match o with
  | .nx ρ S => k ρ S
  | o => o
variable {K : PySem.W.Frag} {cs : CS} {W : WX} {R : Hp → List Addr → α → β → Prop} {F F' H : Hp} {φ φ' : List Addr} {ρ : Ev} {S : Store} {σ : St} {E E' : Ends}
theorem SPost.ext (x : Ext F φ F' φ') : ∀ {o : SOut}, SPost K cs W F φ E o → SPost K cs W F' φ' E o
  | .nx _ _, p => fun F'' φ'' σ' H' e r => p F'' φ'' σ' H' (x.trans e) r
  | .bk _ _, p => fun F'' φ'' σ' H' e r => p F'' φ'' σ' H' (x.trans e) r
  | .ct _ _, p => fun F'' φ'' σ' H' e r => p F'' φ'' σ' H' (x.trans e) r
  | .rt _ _, p => fun v F'' φ'' H' e r q => p v F'' φ'' H' (x.trans e) r q
  | .exc _ _ _, p => fun F'' φ'' σ' H' e r => p F'' φ'' σ' H' (x.trans e) r
  | .bad, p => p
theorem tS_of {m : Ev → Store → Out α} {k : α → Store → SOut} (r : Rep K cs F φ ρ S σ H) (h : SPost K cs W F φ E (sOf (m ρ S) ρ k)) :
    tG K cs.cls W R m σ H fun v H1 => ∃ x S1 F1 φ1, Ext F φ F1 φ1 ∧ Rep K cs F1 φ1 ρ S1 σ H1 ∧ R F1 φ1 x v ∧ SPost K cs W F1 φ1 E (k x S1) := by
  refine ⟨cs.gh, F, φ, ρ, S, r, ?_⟩
  cases e : m ρ S with
  | bad =>
    rw [e] at h
    exact h
  | exc c S' =>
    rw [e] at h
    exact fun F' φ' H' x r' => h F' φ' σ H' x r'
  | ok x S' =>
    rw [e] at h
    exact fun v F1 φ1 H1 x1 r1 q1 => ⟨x, S', F1, φ1, x1, r1, q1, h.ext x1⟩
end
theorem ps_imp {X : Cx} {st : Stmt} {t t' : TS} (h : PS X st t) (i : ∀ E σ H, t' E σ H → t E σ H) : PS X st t' := ⟨fun p s σ H E I q => h.run p s σ H E I (i E σ H q)⟩
theorem pss_imp {X : Cx} {st : List Stmt} {t t' : TS} (h : PSs X st t) (i : ∀ E σ H, t' E σ H → t E σ H) : PSs X st t' := ⟨fun p s σ H E I q => h.run p s σ H E I (i E σ H q)⟩
theorem ps_or {X : Cx} {st : Stmt} {t t' : TS} (h : PS X st t) (h' : PS X st t') : PS X st (fun E σ H => t E σ H ∨ t' E σ H) := ⟨fun p s σ H E I q => q.elim (h.run p s σ H E I) (h'.run p s σ H E I)⟩
theorem pe_or2 {X : Cx} {e : Expr} {t t' : TE} (h : PE X e t) (h' : PE X e t') : PE X e (fun σ H Q => t σ H Q ∨ t' σ H Q) := ⟨fun p s σ H E I q => q.elim (h.run p s σ H E I) (h'.run p s σ H E I)⟩
def DS (cl : Nat → Addr) (X : Cx) (st : Stmt) (m : SM) : Prop := ∀ W, Takes X W → PassesOwn (model X.prog X.w) X.A X.env X.xe → PS X st (tS X.K cl W m)
def DSs (cl : Nat → Addr) (X : Cx) (st : List Stmt) (m : SM) : Prop := ∀ W, Takes X W → PassesOwn (model X.prog X.w) X.A X.env X.xe → PSs X st (tS X.K cl W m)

def sNil : SM := fun ρ S => .nx ρ S
def sSeq (a b : SM) : SM := fun ρ S => (a ρ S).bind b
def sExpr (e : EM) : SM := fun ρ S => sOf (e ρ S) ρ fun _ S1 => .nx ρ S1
def sRet (e : EM) : SM := fun ρ S => sOf (e ρ S) ρ fun v S1 => .rt v S1
def sRetN : SM := fun _ S => .rt (.dat .non) S
def sIf (t : BM) (a b : SM) : SM := fun ρ S => sOf (t ρ S) ρ fun c S1 => if c = true then a ρ S1 else b ρ S1
def sSet (i : Nat) (e : EM) : SM := fun ρ S => sOf (e ρ S) ρ fun v S1 => .nx (ρ.set i (some v)) S1

section
variable {X : Cx} {cl : Nat → Addr} {e c : Expr} {st : Stmt} {sts ea eb : List Stmt} {m ma mb : SM} {me : EM} {mt : BM} {pos pos' : Pos} {x : Str} {i : Nat}
theorem ds_nil : DSs cl X [] sNil := fun W _ _ => pss_imp pss_nil fun E σ H ⟨gh, F, φ, ρ, S, r, p⟩ => p F φ σ H (.refl F φ) r
theorem SPost.seq {K : PySem.W.Frag} {cs : CS} {W : WX} {F : Hp} {φ : List Addr} {E : Ends} {b : SM} {nx : St → Hp → Prop} : ∀ {o : SOut}, SPost K cs W F φ E (o.bind b) →
    (∀ ρ' S' F' φ' σ' H', Ext F φ F' φ' → Rep K cs F' φ' ρ' S' σ' H' → SPost K cs W F' φ' E (b ρ' S') → nx σ' H') → SPost K cs W F φ { E with nx := nx } o
  | .nx ρ' S', p, h => fun F' φ' σ' H' x r => h ρ' S' F' φ' σ' H' x r (SPost.ext x (show SPost K cs W F φ E (b ρ' S') from p))
  | .bk _ _, p, _ => p
  | .ct _ _, p, _ => p
  | .rt _ _, p, _ => p
  | .exc _ _ _, p, _ => p
  | .bad, p, _ => p
theorem ds_cons (h1 : DS cl X st ma) (h2 : DSs cl X sts mb) : DSs cl X (st :: sts) (sSeq ma mb) := fun W tk pw =>
  pss_imp (pss_cons (h1 W tk pw) (h2 W tk pw)) fun E σ H ⟨gh, F, φ, ρ, S, r, p⟩ =>
    ⟨gh, F, φ, ρ, S, r, SPost.seq p fun ρ' S' F' φ' σ' H' x r' q => ⟨gh, F', φ', ρ', S', r', q⟩⟩
theorem ds_one (h1 : DS cl X st ma) : DSs cl X [st] ma := fun W tk pw => pss_one (h1 W tk pw)
theorem ds_pass : DS cl X (.Pass pos) sNil := fun W _ _ => ps_imp ps_pass fun E σ H ⟨gh, F, φ, ρ, S, r, p⟩ => p F φ σ H (.refl F φ) r
theorem ds_expr (h : DE cl X e me) (hs : swapsWith e none pos.line X.env = pure false := by rfl) : DS cl X (.Expr e pos) (sExpr me) := fun W tk _ =>
  ps_imp (ps_expr (h W tk) hs) fun E σ H ⟨gh, F, φ, ρ, S, r, p⟩ => (tS_of (R := rV X.K) r p).imp fun v H1 ⟨x, S1, F1, φ1, x1, r1, q1, p1⟩ => p1 F1 φ1 σ H1 (.refl F1 φ1) r1
theorem ds_doc {z j p2} : DS cl X (.Expr (.Constant (.str z) j p2) pos) sNil := fun W _ _ => ps_imp ps_doc fun E σ H ⟨gh, F, φ, ρ, S, r, p⟩ => p F φ σ H (.refl F φ) r
theorem ds_ret (h : DE cl X e me) : DS cl X (.Return (some e) pos) (sRet me) := fun W tk _ =>
  ps_imp (ps_ret (h W tk)) fun E σ H ⟨gh, F, φ, ρ, S, r, p⟩ => (tS_of (R := rV X.K) r p).imp fun v H1 ⟨x, S1, F1, φ1, x1, r1, q1, p1⟩ => p1 v F1 φ1 H1 (.refl F1 φ1) r1.b q1
theorem ds_retN : DS cl X (.Return none pos) sRetN := fun W _ _ => ps_imp ps_retN fun E σ H ⟨gh, F, φ, ρ, S, r, p⟩ => p .non F φ H (.refl F φ) r.b (.dat .non)
theorem ds_if (ht : DT cl X c mt) (ha : DSs cl X ea ma) (hb : DSs cl X eb mb) : DS cl X (.If c ea eb pos) (sIf mt ma mb) := fun W tk pw =>
  ps_imp (ps_if (ht W tk) (ha W tk pw) (hb W tk pw)) fun E σ H ⟨gh, F, φ, ρ, S, r, p⟩ => (tS_of (R := rB) r p).imp fun v H1 ⟨x, S1, F1, φ1, x1, r1, q1, p1⟩ => by
    subst q1
    cases x with
    | true =>
      rw [if_pos rfl] at p1
      rw [if_pos rfl]
      exact ⟨gh, F1, φ1, ρ, S1, r1, p1⟩
    | false =>
      rw [if_neg Bool.false_ne_true] at p1
      rw [if_neg Bool.false_ne_true]
      exact ⟨gh, F1, φ1, ρ, S1, r1, p1⟩
theorem EnvOk.set {K : PySem.W.Frag} {F : Hp} {φ : List Addr} {ρ : Ev} {σ : St} (h : EnvOk K F φ ρ σ) {v : Val} {u : V} (r : RV K F φ v u) (i : Nat) : EnvOk K F φ (ρ.set i (some v)) (σ.set i (some u)) := by
  refine ⟨by rw [List.length_set, List.length_set, h.1], fun j y e => ?_⟩
  by_cases hj : i = j
  · subst hj
    by_cases hl : i < ρ.length
    · rw [List.getElem?_set_self hl] at e
      cases e
      exact ⟨u, by rw [List.getElem?_set_self (by rw [← h.1]; exact hl)], r⟩
    · rw [List.getElem?_eq_none (by rw [List.length_set]; omega)] at e
      cases e
  · rw [List.getElem?_set_ne hj] at e ⊢
    exact h.2 j y e
theorem ds_set (h : DE cl X e me) (i : Nat) (hN : X.N.Nodup) (hi : X.N[i]? = some x := by rfl) (hx : Loc X.env.scope x := by first | exact Or.inl rfl | exact Or.inr rfl) (hs : swapsWith e (some (.Name x pos')) pos.line X.env = pure false := by rfl)
    (hf : X.fn x = true ∨ X.env.scope.names.lookup x = some .local := by first | exact .inl rfl | exact .inr rfl | assumption) : DS cl X (.Assign [.Name x pos'] e pos) (sSet i me) := fun W tk _ =>
  ps_imp (ps_set hN hi hx (h W tk) hs hf) fun E σ H ⟨gh, F, φ, ρ, S, r, p⟩ => (tS_of (R := rV X.K) r p).imp fun v H1 ⟨x, S1, F1, φ1, x1, r1, q1, p1⟩ => p1 F1 φ1 _ H1 (.refl F1 φ1) ⟨r1.b, r1.e.set q1 i⟩
end

def setE (ρ : Ev) : List (Nat × D) → Ev
  | [] => ρ
  | (i, d) :: r => setE (ρ.set i (some (.dat d))) r
def setV (σ : St) : List (Nat × V) → St
  | [] => σ
  | (i, v) :: r => setV (σ.set i (some v)) r
inductive RAs (K : PySem.W.Frag) (F : Hp) : List (Nat × D) → List (Nat × V) → Prop
  | nil : RAs K F [] []
  | cons {i : Nat} {d : D} {v : V} {r : List (Nat × D)} {q : List (Nat × V)} : Rv K F d v → RAs K F r q → RAs K F ((i, d) :: r) ((i, v) :: q)
theorem RAs.append {K : PySem.W.Frag} {F : Hp} : ∀ {a b : List (Nat × D)} {c d : List (Nat × V)}, RAs K F a c → RAs K F b d → RAs K F (a ++ b) (c ++ d)
  | _, _, _, _, .nil, h => h
  | _, _, _, _, .cons r t, h => .cons r (RAs.append t h)
theorem setV_append : ∀ (a b : List (Nat × V)) (σ : St), setV σ (a ++ b) = setV (setV σ a) b
  | [], _, _ => rfl
  | (i, v) :: r, b, σ => setV_append r b _
theorem EnvOk.setE {K : PySem.W.Frag} {F : Hp} {φ : List Addr} : ∀ {ρ : Ev} {σ : St} {a : List (Nat × D)} {b : List (Nat × V)}, EnvOk K F φ ρ σ → RAs K F a b → EnvOk K F φ (setE ρ a) (setV σ b)
  | _, _, _, _, h, .nil => h
  | ρ, σ, _, _, h, .cons (i := i) (d := d) (v := v) r t => by
    have h2 : EnvOk K F φ (ρ.set i (some (.dat d))) (σ.set i (some v)) := h.set (.dat r) i
    have h3 := EnvOk.setE h2 t
    exact h3
/-- the slots that a target fills with a datum -/
abbrev TB := D → Option (List (Nat × D))
abbrev TBs := List D → Option (List (Nat × D))
def bN (i : Nat) : TB := fun d => some [(i, d)]
def bNil : TBs := fun ds => match ds with
  | [] => some []
  | _ => none
def bCons (b : TB) (bs : TBs) : TBs := fun ds => match ds with
  | [] => none
  | d :: ds => match b d, bs ds with
    | some a, some r => some (a ++ r)
    | _, _ => none
def bTup (bs : TBs) : TB := fun d => match d with
  | .tup ds => bs ds
  | .ktp ds => bs ds
  | _ => none
def gD (K : PySem.W.Frag) (B : TB) : TG := fun v σ H Q => ∃ F d a, Same F H ∧ Rv K F d v ∧ B d = some a ∧ ∀ b, RAs K F a b → Q (setV σ b) H
def gDs (K : PySem.W.Frag) (B : TBs) : TGs := fun vs σ H Q => ∃ F ds a, Same F H ∧ Rvs K F ds vs ∧ B ds = some a ∧ ∀ b, RAs K F a b → Q (setV σ b) H
def DG (X : Cx) (tg : Expr) (B : TB) : Prop := PG X tg (gD X.K B)
def DGs (X : Cx) (tg : List Expr) (n : Nat) (B : TBs) : Prop := tg.length = n ∧ (∀ ds a, B ds = some a → ds.length = n) ∧ PGs X tg (gDs X.K B)
section
variable {X : Cx} {e : Expr} {es : List Expr} {B : TB} {Bs : TBs} {x : Str} {pos : Pos}
theorem pg_imp {t t' : TG} (h : PG X e t) (i : ∀ v σ H Q, t' v σ H Q → t v σ H Q) : PG X e t' := ⟨fun p s σ H v u Q I r q => h.run p s σ H v u Q I r (i v σ H Q q)⟩
theorem pgs_imp {t t' : TGs} (h : PGs X es t) (i : ∀ v σ H Q, t' v σ H Q → t v σ H Q) : PGs X es t' := ⟨fun p s σ H v u Q I r q => h.run p s σ H v u Q I r (i v σ H Q q)⟩
theorem dg_name (i : Nat) (hN : X.N.Nodup) (hi : X.N[i]? = some x := by rfl) (hx : Loc X.env.scope x := by first | exact Or.inl rfl | exact Or.inr rfl) (hf : X.fn x = true ∨ X.env.scope.names.lookup x = some .local := by first | exact .inl rfl | exact .inr rfl | assumption) : DG X (.Name x pos) (bN i) :=
  pg_imp (pg_name hN hi hx hf) fun v σ H Q ⟨F, d, a, le, r, e, h⟩ => by
    cases e
    exact h _ (.cons r .nil)
theorem dgs_nil : DGs X [] 0 bNil := by
  refine ⟨rfl, fun ds a h => ?_, pgs_imp pgs_nil fun v σ H Q ⟨F, d, a, le, r, e, h⟩ => ?_⟩
  · cases ds with
    | nil => rfl
    | cons d ds => cases h
  · cases r with
    | nil =>
      cases e
      exact ⟨rfl, h [] .nil⟩
    | cons _ _ => cases e
theorem dgs_cons {n : Nat} (h1 : DG X e B) (h2 : DGs X es n Bs) (hs : (assignEach (e :: es) X.env).map (·.2) = assign e X.env :: (assignEach es X.env).map (·.2) := by rfl) : DGs X (e :: es) (n + 1) (bCons B Bs) := by
  refine ⟨by rw [List.length_cons, h2.1], fun ds a h => ?_, pgs_imp (pgs_cons h1 h2.2.2 hs) fun v σ H Q ⟨F, ds, a, le, r, e, h⟩ => ?_⟩
  · cases ds with
    | nil => cases h
    | cons d ds =>
      simp only [bCons] at h
      split at h
      · rename_i a1 r1 h3 h4
        rw [List.length_cons, h2.2.1 _ _ h4]
      · cases h
  · cases r with
    | nil => cases e
    | @cons d ds v vs r1 rs =>
      simp only [bCons] at e
      split at e
      · rename_i a1 r2 h3 h4
        cases e
        refine ⟨v, vs, rfl, F, d, a1, le, r1, h3, fun b hb => ?_⟩
        refine ⟨F, ds, r2, le, rs, h4, fun b' hb' => ?_⟩
        rw [← setV_append]
        exact h _ (hb.append hb')
      · cases e
theorem dg_tup {n k : Nat} (hc : X.calm = true) (h : DGs X es n Bs) (hn : (assignEach es X.env).length = n := by rfl) (hst : (assignEach es X.env).findIdx? (·.1) = none := by rfl) : DG X (.Tuple es k pos) (bTup Bs) :=
  pg_imp (pg_tup hc h.2.2 hn hst) fun v σ H Q ⟨F, d, a, le, r, e, q⟩ => by
    cases r with
    | @tup p ds vs hs rs =>
      exact ⟨p, vs, rfl, (hs.same le).sq, by rw [← rs.len]; exact h.2.1 _ _ e, F, ds, a, le, rs, e, q⟩
    | @ktp p ds vs hs rs =>
      exact ⟨p, vs, rfl, .of (le _ _ hs), by rw [← rs.len]; exact h.2.1 _ _ e, F, ds, a, le, rs, e, q⟩
    | _ => cases e
end
def sAsg (B : TB) (e : EM) : SM := fun ρ S => sOf (e ρ S) ρ fun v S1 => match v with
  | .dat d => (match B d with
    | some a => .nx (setE ρ a) S1
    | none => .bad)
  | _ => .bad
theorem ds_asg {X : Cx} {cl : Nat → Addr} {tg e : Expr} {B : TB} {me : EM} {pos : Pos} (h : DE cl X e me) (hg : DG X tg B) (hs : swapsWithSole [tg] e pos.line X.env = pure false := by rfl) (hw : swappedStores [tg] e X.env = pure none := by rfl)
    (h1 : (assignEach [tg] X.env).map (·.2) = [assign tg X.env] := by rfl) : DS cl X (.Assign [tg] e pos) (sAsg B me) := fun W tk _ =>
  ps_imp (ps_asg (h W tk) hg hs hw h1) fun E σ H ⟨gh, F, φ, ρ, S, r, p⟩ => (tS_of (R := rV X.K) r p).imp fun v H1 ⟨x, S1, F1, φ1, x1, r1, q1, p1⟩ => by
    split at p1
    · rename_i d
      cases q1 with
      | dat q1 =>
        split at p1
        · rename_i a ha
          exact ⟨F1, d, a, r1.b.le, q1, ha, fun b hb => p1 F1 φ1 _ H1 (.refl F1 φ1) ⟨r1.b, r1.e.setE hb⟩⟩
        · exact p1.elim
    · exact p1.elim

def Yields (K : PySem.W.Frag) (J : It) (F : Hp) (ds : List D) : Prop := ∀ F' H, Same F F' → Same F' H → ∀ i, (ds.length ≤ i → J.stop i H) ∧ ∀ d, ds[i]? = some d → J.go i H ∧ ∀ x H', J.yld i H x H' → ∃ F'', Grow F' H F'' H' ∧ Rv K F'' d x
abbrev IM := Ev → Store → Out (List D)
def IPost (K : PySem.W.Frag) (cs : CS) (W : WX) (F : Hp) (φ : List Addr) (ρ : Ev) (σ : St) (R : It → Hp → Prop) : Out (List D) → Prop
  | .ok ds S' => ∀ J F' φ' H', Ext F φ F' φ' → Rep K cs F' φ' ρ S' σ H' → Yields K J F' ds → R J H'
  | .exc c S' => ∀ F' φ' H', Ext F φ F' φ' → Rep K cs F' φ' ρ S' σ H' → W (.ref (cs.cls c)) none σ H'
  | .bad => False
def tI (K : PySem.W.Frag) (cl : Nat → Addr) (W : WX) (m : IM) : TI := fun σ H R => ∃ gh F φ ρ S, Rep K ⟨cl, gh⟩ F φ ρ S σ H ∧ IPost K ⟨cl, gh⟩ W F φ ρ σ R (m ρ S)
def DI (cl : Nat → Addr) (X : Cx) (tg iter : Expr) (m : IM) : Prop := ∀ W, Takes X W → PI X tg iter (tI X.K cl W m)

def sForL (B : TB) (body : SM) : List D → SM
  | [] => fun ρ S => .nx ρ S
  | d :: ds => fun ρ S => match B d with
    | none => .bad
    | some a => match body (setE ρ a) S with
      | .nx ρ2 S2 => sForL B body ds ρ2 S2
      | .ct ρ2 S2 => sForL B body ds ρ2 S2
      | .bk ρ2 S2 => .nx ρ2 S2
      | o => o
def sFor (m : IM) (B : TB) (body : SM) : SM := fun ρ S => sOf (m ρ S) ρ fun ds S1 => sForL B body ds ρ S1
section
variable {K : PySem.W.Frag} {cs : CS} {W : WX} {F F' H : Hp} {φ φ' : List Addr} {ρ : Ev} {S : Store} {σ : St} {E : Ends} {B : TB} {body : SM}
theorem Yields.ext {J : It} {ds : List D} (x : Same F F') (y : Yields K J F ds) : Yields K J F' ds := fun F'' H a b => y F'' H (x.trans a) b
theorem SPost.turn {N : St → Hp → Prop} {ds : List D} : ∀ {o : SOut}, SPost K cs W F φ E (match o with
      | .nx ρ2 S2 => sForL B body ds ρ2 S2
      | .ct ρ2 S2 => sForL B body ds ρ2 S2
      | .bk ρ2 S2 => .nx ρ2 S2
      | o => o) → (∀ ρ' S' F' φ' σ' H', Ext F φ F' φ' → Rep K cs F' φ' ρ' S' σ' H' → SPost K cs W F' φ' E (sForL B body ds ρ' S') → N σ' H') → SPost K cs W F φ { E with nx := N, ct := N, bk := E.nx } o
  | .nx ρ' S', p, h => fun F' φ' σ' H' x r => h ρ' S' F' φ' σ' H' x r (p.ext x)
  | .ct ρ' S', p, h => fun F' φ' σ' H' x r => h ρ' S' F' φ' σ' H' x r (p.ext x)
  | .bk _ _, p, _ => p
  | .rt _ _, p, _ => p
  | .exc _ _ _, p, _ => p
  | .bad, p, _ => p
theorem for_ok {J : It} {ds : List D} (tb : TS) (htb : ∀ E σ H, tS K cs.cls W body E σ H → tb E σ H) (r : Rep K cs F φ ρ S σ H) (y : Yields K J F ds) (p : SPost K cs W F φ E (sForL B body ds ρ S)) :
    ∃ Wi : Nat → Nat → St → Hp → Prop, (∃ m, Wi 0 m σ H) ∧ ∀ i m σ H, Wi i m σ H →
      (J.stop i H ∧ E.nx σ H) ∨ (J.go i H ∧ ∃ N : St → Hp → Prop, (∀ σ' H', N σ' H' → ∃ m', m' < m ∧ Wi (i + 1) m' σ' H') ∧ ∀ x H', J.yld i H x H' → gD K B x σ H' fun σ2 H2 => tb { E with nx := N, ct := N, bk := E.nx } σ2 H2) := by
  refine ⟨fun i m σ' H' => m = ds.length - i ∧ i ≤ ds.length ∧ ∃ F' φ' ρ' S', Ext F φ F' φ' ∧ Rep K cs F' φ' ρ' S' σ' H' ∧ SPost K cs W F' φ' E (sForL B body (ds.drop i) ρ' S'), ⟨ds.length, rfl, Nat.zero_le _, F, φ, ρ, S, .refl F φ, r, p⟩, ?_⟩
  rintro i m σ1 H1 ⟨rfl, hi, F1, φ1, ρ1, S1, x1, r1, p1⟩
  obtain ⟨ys, yg⟩ := y F1 H1 x1.s r1.b.le i
  by_cases hl : i < ds.length
  · have hd : ds[i]? = some ds[i] := List.getElem?_eq_getElem hl
    obtain ⟨go, yl⟩ := yg _ hd
    have hdr : ds.drop i = ds[i] :: ds.drop (i + 1) := List.drop_eq_getElem_cons hl
    rw [hdr] at p1
    simp only [sForL] at p1
    refine .inr ⟨go, fun σ' H' => ∃ F' φ' ρ' S', Ext F φ F' φ' ∧ Rep K cs F' φ' ρ' S' σ' H' ∧ SPost K cs W F' φ' E (sForL B body (ds.drop (i + 1)) ρ' S'), fun σ' H' h => ⟨ds.length - (i + 1), by omega, rfl, hl, h⟩, fun x H' hy => ?_⟩
    obtain ⟨F2, g2, rv⟩ := yl x H' hy
    have r2 := r1.grow g2
    split at p1
    · exact p1.elim
    · rename_i a ha
      refine ⟨F2, ds[i], a, r2.b.le, rv, ha, fun b hb => htb _ _ _ ⟨cs.gh, F2, φ1, setE ρ1 a, S1, ⟨r2.b, r2.e.setE hb⟩, ?_⟩⟩
      exact SPost.turn (p1.ext (g2.ext φ1)) fun ρ' S' F' φ' σ' H' x3 r3 p3 => ⟨F', φ', ρ', S', (x1.trans (g2.ext φ1)).trans x3, r3, p3⟩
  · have e : i = ds.length := by omega
    subst e
    rw [List.drop_length] at p1
    exact .inl ⟨ys (Nat.le_refl _), p1 F1 φ1 σ1 H1 (.refl F1 φ1) r1⟩
end
theorem ds_for {X : Cx} {cl : Nat → Addr} {tg iter : Expr} {body : List Stmt} {m : IM} {B : TB} {mb : SM} {pos : Pos} (hc : X.calm = true) (hi : DI cl X tg iter m) (hg : DG X tg B) (hb : DSs cl X body mb)
    (hs : ∀ x, foldedSetIterable iter X.env x = pure x := by intro _; rfl) : DS cl X (.For tg iter body [] pos) (sFor m B mb) := fun W tk pw =>
  ps_imp (ps_for pw hc (hi W tk) hg (hb W tk pw) hs) fun E σ H ⟨gh, F, φ, ρ, S, r, p⟩ => by
    refine ⟨gh, F, φ, ρ, S, r, ?_⟩
    cases e : m ρ S with
    | bad =>
      rw [sFor, e] at p
      exact p
    | exc c S' =>
      rw [sFor, e] at p
      exact fun F' φ' H' x r' => p F' φ' σ H' x r'
    | ok ds S' =>
      rw [sFor, e] at p
      exact fun J F' φ' H' x r' y => for_ok _ (fun E σ H h => h) r' y (SPost.ext x (show SPost X.K ⟨cl, gh⟩ W F φ E (sForL B mb ds ρ S') from p))

def sWh (t : BM) (body : SM) : Nat → Ev → Store → SOut
  | 0, _, _ => .bad
  | n + 1, ρ, S => sOf (t ρ S) ρ fun c S1 => if c = true then (match body ρ S1 with
      | .nx ρ2 S2 => sWh t body n ρ2 S2
      | .ct ρ2 S2 => sWh t body n ρ2 S2
      | .bk ρ2 S2 => .nx ρ2 S2
      | o => o) else .nx ρ S1
open Classical in
noncomputable def sWhile (t : BM) (body : SM) : SM := fun ρ S => if h : ∃ n, sWh t body n ρ S ≠ .bad then sWh t body (Classical.choose h) ρ S else .bad
theorem sWh_more (t : BM) (body : SM) : ∀ (n : Nat) (ρ : Ev) (S : Store), sWh t body n ρ S ≠ .bad → sWh t body (n + 1) ρ S = sWh t body n ρ S
  | 0, _, _, h => absurd rfl h
  | n + 1, ρ, S, h => by
    have ih := sWh_more t body n
    rw [sWh] at h
    rw [sWh, sWh]
    cases e : t ρ S with
    | bad => rfl
    | exc c S' => rfl
    | ok c S' =>
      rw [e] at h
      simp only [sOf] at h ⊢
      cases c with
      | false => rfl
      | true =>
        simp only [if_true] at h ⊢
        cases e2 : body ρ S' with
        | nx ρ2 S2 =>
          rw [e2] at h
          exact ih ρ2 S2 h
        | ct ρ2 S2 =>
          rw [e2] at h
          exact ih ρ2 S2 h
        | _ => rfl
theorem sWh_le {t : BM} {body : SM} {n m : Nat} {ρ : Ev} {S : Store} (h : sWh t body n ρ S ≠ .bad) (hl : n ≤ m) : sWh t body m ρ S = sWh t body n ρ S := by
  induction hl with
  | refl => rfl
  | step _ ih => rw [sWh_more t body _ ρ S (by rw [ih]; exact h), ih]
theorem sWhile_eq {t : BM} {body : SM} {ρ : Ev} {S : Store} (n : Nat) (h : sWh t body n ρ S ≠ .bad) : sWhile t body ρ S = sWh t body n ρ S := by
  unfold sWhile
  have hx : ∃ n, sWh t body n ρ S ≠ .bad := ⟨n, h⟩
  rw [dif_pos hx]
  have hc := Classical.choose_spec hx
  rcases Nat.le_total n (Classical.choose hx) with l | l
  · exact sWh_le h l
  · exact (sWh_le hc l).symm
theorem ds_while {X : Cx} {cl : Nat → Addr} {c : Expr} {body : List Stmt} {mt : BM} {mb : SM} {pos : Pos} (ht : DT cl X c mt) (hb : DSs cl X body mb) : DS cl X (.While c body [] pos) (sWhile mt mb) := fun W tk pw =>
  ps_imp (ps_while pw (ht W tk) (hb W tk pw)) fun E σ H ⟨gh, F, φ, ρ, S, r, p⟩ => by
    by_cases hx : ∃ n, sWh mt mb n ρ S ≠ .bad
    · obtain ⟨n, hn⟩ := hx
      rw [sWhile_eq n hn] at p
      refine ⟨fun m σ' H' => ∃ F' φ' ρ' S', Ext F φ F' φ' ∧ Rep X.K ⟨cl, gh⟩ F' φ' ρ' S' σ' H' ∧ SPost X.K ⟨cl, gh⟩ W F' φ' E (sWh mt mb m ρ' S'), ⟨n, F, φ, ρ, S, .refl F φ, r, p⟩, ?_⟩
      rintro m σ1 H1 ⟨F1, φ1, ρ1, S1, x1, r1, p1⟩
      cases m with
      | zero => exact p1.elim
      | succ m =>
        rw [sWh] at p1
        refine (tS_of (R := rB) r1 p1).imp fun v H2 ⟨x, S2, F2, φ2, x2, r2, q2, p2⟩ => ?_
        subst q2
        cases x with
        | false =>
          rw [if_neg Bool.false_ne_true] at p2
          rw [if_neg Bool.false_ne_true]
          exact p2 F2 φ2 σ1 H2 (.refl F2 φ2) r2
        | true =>
          rw [if_pos rfl] at p2
          rw [if_pos rfl]
          refine ⟨fun σ' H' => ∃ F' φ' ρ' S', Ext F φ F' φ' ∧ Rep X.K ⟨cl, gh⟩ F' φ' ρ' S' σ' H' ∧ SPost X.K ⟨cl, gh⟩ W F' φ' E (sWh mt mb m ρ' S'), fun σ' H' h => ⟨m, Nat.lt_succ_self m, h⟩, gh, F2, φ2, ρ1, S2, r2, ?_⟩
          have key : ∀ {o : SOut}, SPost X.K ⟨cl, gh⟩ W F2 φ2 E (match o with
              | .nx ρ2 S2 => sWh mt mb m ρ2 S2
              | .ct ρ2 S2 => sWh mt mb m ρ2 S2
              | .bk ρ2 S2 => .nx ρ2 S2
              | o => o) → SPost X.K ⟨cl, gh⟩ W F2 φ2 { E with nx := fun σ' H' => ∃ F' φ' ρ' S', Ext F φ F' φ' ∧ Rep X.K ⟨cl, gh⟩ F' φ' ρ' S' σ' H' ∧ SPost X.K ⟨cl, gh⟩ W F' φ' E (sWh mt mb m ρ' S'), ct := fun σ' H' => ∃ F' φ' ρ' S', Ext F φ F' φ' ∧ Rep X.K ⟨cl, gh⟩ F' φ' ρ' S' σ' H' ∧ SPost X.K ⟨cl, gh⟩ W F' φ' E (sWh mt mb m ρ' S'), bk := E.nx } o := fun {o} q => by
            cases o with
            | nx ρ' S' => exact fun F' φ' σ' H' x r => ⟨F', φ', ρ', S', (x1.trans x2).trans x, r, q.ext x⟩
            | ct ρ' S' => exact fun F' φ' σ' H' x r => ⟨F', φ', ρ', S', (x1.trans x2).trans x, r, q.ext x⟩
            | bk _ _ => exact q
            | rt _ _ => exact q
            | exc _ _ _ => exact q
            | bad => exact q
          exact key p2
    · unfold sWhile at p
      rw [dif_neg hx] at p
      exact p.elim
end DL

namespace DL
open PySem PySem.Spec PyProof.Rows L2

def wipeE (ρ : Ev) : List Nat → Ev
  | [] => ρ
  | v :: vs => (wipeE ρ vs).set v none
theorem wipe_get (σ : St) : ∀ (vs : List Nat) (j : Nat), (wipe σ vs)[j]? = if j ∈ vs then (if j < σ.length then some none else none) else σ[j]?
  | [], j => by simp [wipe]
  | v :: vs, j => by
    have ih := wipe_get σ vs
    unfold wipe
    by_cases hj : v = j
    · subst hj
      rw [if_pos List.mem_cons_self]
      by_cases hl : v < σ.length
      · rw [if_pos hl, List.getElem?_set_self (by rw [wipe_length]; exact hl)]
      · rw [if_neg hl, List.getElem?_eq_none (by rw [List.length_set, wipe_length]; omega)]
    · rw [List.getElem?_set_ne hj, ih]
      by_cases hm : j ∈ vs
      · rw [if_pos hm, if_pos (List.mem_cons_of_mem _ hm)]
      · rw [if_neg hm, if_neg (by simp only [List.mem_cons, not_or]; exact ⟨fun e => hj e.symm, hm⟩)]
theorem wipe_set {σ : St} {vs : List Nat} {i : Nat} {x : Option V} (h : i ∈ vs) : wipe (σ.set i x) vs = wipe σ vs := by
  apply List.ext_getElem?
  intro j
  rw [wipe_get, wipe_get, List.length_set]
  by_cases hm : j ∈ vs
  · rw [if_pos hm, if_pos hm]
  · rw [if_neg hm, if_neg hm, List.getElem?_set_ne (fun e => hm (by rw [← e]; exact h))]
theorem wipe_wipe (σ : St) (vs : List Nat) : wipe (wipe σ vs) vs = wipe σ vs := by
  apply List.ext_getElem?
  intro j
  rw [wipe_get, wipe_length]
  by_cases hm : j ∈ vs
  · rw [if_pos hm, wipe_get, if_pos hm]
  · rw [if_neg hm]
theorem wipe_setV {vs : List Nat} : ∀ {b : List (Nat × V)} {σ : St}, (∀ p ∈ b, p.1 ∈ vs) → wipe (setV σ b) vs = wipe σ vs
  | [], _, _ => rfl
  | (i, v) :: r, σ, h => by
    show wipe (setV (σ.set i (some v)) r) vs = _
    rw [wipe_setV fun p hp => h p (List.mem_cons_of_mem _ hp), wipe_set (h _ List.mem_cons_self)]
theorem wipeE_length (ρ : Ev) : ∀ vs : List Nat, (wipeE ρ vs).length = ρ.length
  | [] => rfl
  | v :: vs => by unfold wipeE; rw [List.length_set, wipeE_length ρ vs]
theorem EnvOk.wipe {K : PySem.W.Frag} {F : Hp} {φ : List Addr} {ρ : Ev} {σ : St} (h : EnvOk K F φ ρ σ) : ∀ vs : List Nat, EnvOk K F φ (wipeE ρ vs) (wipe σ vs)
  | [] => h
  | v :: vs => by
    have ih := EnvOk.wipe h vs
    refine ⟨by rw [wipeE_length, wipe_length, h.1], fun i x e => ?_⟩
    unfold wipeE at e
    unfold L2.wipe
    by_cases hv : v = i
    · subst hv
      by_cases hl : v < (wipeE ρ vs).length
      · rw [List.getElem?_set_self hl] at e
        cases e
      · rw [List.getElem?_eq_none (by rw [List.length_set]; omega)] at e
        cases e
    · rw [List.getElem?_set_ne hv] at e ⊢
      exact ih.2 i x e
def BIn (B : TB) (vs : List Nat) : Prop := ∀ d a, B d = some a → ∀ p ∈ a, p.1 ∈ vs
def BIns (B : TBs) (vs : List Nat) : Prop := ∀ d a, B d = some a → ∀ p ∈ a, p.1 ∈ vs
theorem bin_name {i : Nat} {vs : List Nat} (h : i ∈ vs := by decide) : BIn (bN i) vs := fun d a e p hp => by
  cases e
  cases hp with
  | head => exact h
  | tail _ h' => cases h'
theorem bin_nil {vs : List Nat} : BIns bNil vs := fun d a e p hp => by
  unfold bNil at e
  split at e
  · cases e
    cases hp
  · cases e
theorem bin_cons {B : TB} {Bs : TBs} {vs : List Nat} (h : BIn B vs) (hs : BIns Bs vs) : BIns (bCons B Bs) vs := fun ds a e p hp => by
  cases ds with
  | nil => cases e
  | cons d ds =>
    simp only [bCons] at e
    split at e
    · rename_i a1 r1 h3 h4
      cases e
      rcases List.mem_append.mp hp with z | z
      · exact h _ _ h3 p z
      · exact hs _ _ h4 p z
    · cases e
theorem bin_tup {Bs : TBs} {vs : List Nat} (hs : BIns Bs vs) : BIn (bTup Bs) vs := fun d a e p hp => by
  unfold bTup at e
  split at e
  · exact hs _ _ e p hp
  · exact hs _ _ e p hp
  · cases e
theorem RAs.slots {K : PySem.W.Frag} {F : Hp} {vs : List Nat} : ∀ {a : List (Nat × D)} {b : List (Nat × V)}, RAs K F a b → (∀ p ∈ a, p.1 ∈ vs) → ∀ p ∈ b, p.1 ∈ vs
  | _, _, .nil, _, p, hp => by cases hp
  | _, _, .cons r t, h, p, hp => by
    rcases List.mem_cons.mp hp with e | hp
    · subst e
      exact h _ List.mem_cons_self
    · exact RAs.slots t (fun q hq => h q (List.mem_cons_of_mem _ hq)) p hp

def bYes : BM := fun _ S => .ok true S
def compL (B : TB) (mt : BM) (me : EM) (ρ : Ev) : List D → Store → Out (List D)
  | [], S => .ok [] S
  | d :: ds, S => match B d with
    | none => .bad
    | some a => match mt (setE ρ a) S with
      | .ok c S1 => if c = true then (match me (setE ρ a) S1 with
          | .ok (.dat x) S2 => (compL B mt me ρ ds S2).bind fun xs S3 => .ok (x :: xs) S3
          | _ => .bad) else compL B mt me ρ ds S1
      | _ => .bad
def eComp (ws : List Nat) (m : IM) (B : TB) (mt : BM) (me : EM) : EM := fun ρ S => (m ρ S).bind fun ds S1 => if ds.length ≤ 1000000 then (compL B mt me (wipeE ρ ws) ds S1).bind fun xs S2 => .ok (.dat (.lst xs)) S2 else .bad
/-- a ghost comes -/
theorem Base.ghost {K : PySem.W.Frag} {cl : Nat → Addr} {gh : List (Addr × HO)} {F H : Hp} {φ : List Addr} {S : Store} (b : Base K ⟨cl, gh⟩ F φ S H) {p : Addr} (o : HO) (h : H p = none) : Base K ⟨cl, (p, o) :: gh⟩ F φ S (upd H p o) := by
  have k : Same H (upd H p o) := same_upd h
  refine ⟨b.le.trans k, b.len, b.nd, fun a ha => ?_, fun i c a h1 h2 => (b.cell i c a h1 h2).mono (.refl F) (List.prefix_refl _) (fun o e => k _ _ e), b.own, fun q hq => ?_⟩
  · obtain ⟨u, e⟩ := b.there a ha
    exact ⟨u, k _ _ e⟩
  · rcases List.mem_cons.mp hq with e | hq
    · subst e
      refine ⟨upd_same, b.le.free h, fun hm => ?_⟩
      obtain ⟨u, e⟩ := b.there _ hm
      have h' : H p = none := h
      rw [h'] at e
      cases e
    · obtain ⟨g1, g2, g3⟩ := b.gho q hq
      exact ⟨k _ _ g1, g2, g3⟩
/-- a ghost changes -/
theorem Base.reghost {K : PySem.W.Frag} {cl : Nat → Addr} {gh : List (Addr × HO)} {F H : Hp} {φ : List Addr} {S : Store} {p : Addr} {o : HO} (b : Base K ⟨cl, (p, o) :: gh⟩ F φ S H) (hg : ∀ q ∈ gh, q.1 ≠ p) (o' : HO) : Base K ⟨cl, (p, o') :: gh⟩ F φ S (upd H p o') := by
  obtain ⟨g1, g2, g3⟩ := b.gho _ List.mem_cons_self
  have k : ∀ a, a ≠ p → upd H p o' a = H a := fun a h => upd_ne h
  have kF : ∀ a u, F a = some u → a ≠ p := fun a u e z => by
    rw [z] at e
    have g2' : F p = none := g2
    rw [g2'] at e
    cases e
  have kφ : ∀ a, a ∈ φ → a ≠ p := fun a e z => g3 (z ▸ e)
  refine ⟨fun a u e => ?_, b.len, b.nd, fun a ha => ?_, fun i c a h1 h2 => (b.cell i c a h1 h2).mono (.refl F) (List.prefix_refl _) (fun o e => ?_), b.own, fun q hq => ?_⟩
  · rw [k a (kF a u e)]
    exact b.le _ _ e
  · rw [k a (kφ a ha)]
    exact b.there a ha
  · rw [k a (kφ a (List.mem_of_getElem? h2))]
    exact e
  · rcases List.mem_cons.mp hq with e | hq
    · subst e
      exact ⟨upd_same, g2, g3⟩
    · obtain ⟨a1, a2, a3⟩ := b.gho q (List.mem_cons_of_mem _ hq)
      refine ⟨?_, a2, a3⟩
      rw [k _ (hg q hq)]
      exact a1
/-- a ghost stays as it is -/
theorem Base.settle {K : PySem.W.Frag} {cl : Nat → Addr} {gh : List (Addr × HO)} {F H : Hp} {φ : List Addr} {S : Store} {p : Addr} {o : HO} (b : Base K ⟨cl, (p, o) :: gh⟩ F φ S H) (hg : ∀ q ∈ gh, q.1 ≠ p) : Base K ⟨cl, gh⟩ (upd F p o) φ S H ∧ Same F (upd F p o) := by
  obtain ⟨g1, g2, g3⟩ := b.gho _ List.mem_cons_self
  have s : Same F (upd F p o) := same_upd g2
  refine ⟨⟨fun a u e => ?_, b.len, b.nd, b.there, fun i c a h1 h2 => (b.cell i c a h1 h2).mono (.of s) (List.prefix_refl _) (fun _ e => e), fun i c a h1 h2 h3 => ?_, fun q hq => ?_⟩, s⟩
  · by_cases z : a = p
    · subst z
      rw [upd_same] at e
      cases e
      exact g1
    · rw [upd_ne z] at e
      exact b.le _ _ e
  · rw [upd_ne (fun z => g3 (by
      have hm := List.mem_of_getElem? h2
      rw [z] at hm
      exact hm))]
    exact b.own i c a h1 h2 h3
  · obtain ⟨a1, a2, a3⟩ := b.gho q (List.mem_cons_of_mem _ hq)
    refine ⟨a1, ?_, a3⟩
    rw [upd_ne (hg q hq)]
    exact a2
section
variable {K : PySem.W.Frag} {cl : Nat → Addr} {W : WX} {m : IM} {B : TB} {mt : BM} {me : EM} {ws : List Nat}
theorem lc_ok {σ : St} {H : Hp} {Q : VK} (hB : BIn B ws) (h : tG K cl W (rV K) (eComp ws m B mt me) σ H Q) :
    tLc (tI K cl W m) (gD K B) (tG K cl (fun _ _ _ _ => False) rB mt) (tG K cl (fun _ _ _ _ => False) (rV K) me) ws σ H Q := by
  obtain ⟨gh, F, φ, ρ, S, r, p⟩ := h
  refine ⟨gh, F, φ, ρ, S, r, ?_⟩
  cases e : m ρ S with
  | bad =>
    rw [eComp, e] at p
    exact p
  | exc c S' =>
    rw [eComp, e] at p
    exact p
  | ok ds S' =>
    rw [eComp, e] at p
    simp only [Out.bind] at p
    by_cases hlen : ds.length ≤ 1000000
    rotate_left
    · rw [if_neg hlen] at p
      exact p.elim
    rw [if_pos hlen] at p
    intro J F1 φ1 H1 x1 r1 y Dd hDd
    have hg : ∀ q ∈ gh, q.1 ≠ Dd := fun q hq z => by
      have := (r1.b.gho q hq).1
      rw [z, hDd] at this
      cases this
    have p0 := p.ext x1
    refine ⟨fun i m H => m = ds.length - i ∧ i ≤ ds.length ∧ ∃ F2 φ2 S2 acc vs, Ext F1 φ1 F2 φ2 ∧ Rep K ⟨cl, (Dd, .lst vs) :: gh⟩ F2 φ2 (wipeE ρ ws) S2 (wipe σ ws) H ∧ Rvs K F2 acc vs ∧ acc.length ≤ i ∧
      Post K ⟨cl, gh⟩ W (rV K) F2 φ2 ρ σ Q ((compL B mt me (wipeE ρ ws) (ds.drop i) S2).bind fun xs S' => .ok (.dat (.lst (acc ++ xs))) S'), ?_, ?_⟩
    · refine ⟨ds.length, rfl, Nat.zero_le _, F1, φ1, S', [], [], .refl F1 φ1, ⟨r1.b.ghost _ hDd, r1.e.wipe ws⟩, .nil, Nat.zero_le _, ?_⟩
      rw [List.drop_zero]
      simp only [List.nil_append]
      exact p0
    · rintro i mm H2 ⟨rfl, hi, F2, φ2, S2, acc, vs, x2, r2, ra, hacc, p2⟩
      obtain ⟨ys, yg⟩ := y F2 H2 x2.s r2.b.le i
      by_cases hl : i < ds.length
      · have hd : ds[i]? = some ds[i] := List.getElem?_eq_getElem hl
        obtain ⟨go, yl⟩ := yg _ hd
        have hdr : ds.drop i = ds[i] :: ds.drop (i + 1) := List.drop_eq_getElem_cons hl
        rw [hdr] at p2
        simp only [compL] at p2
        refine .inr ⟨go, fun H' => ∃ F2 φ2 S2 acc vs, Ext F1 φ1 F2 φ2 ∧ Rep K ⟨cl, (Dd, .lst vs) :: gh⟩ F2 φ2 (wipeE ρ ws) S2 (wipe σ ws) H' ∧ Rvs K F2 acc vs ∧ acc.length ≤ i + 1 ∧
          Post K ⟨cl, gh⟩ W (rV K) F2 φ2 ρ σ Q ((compL B mt me (wipeE ρ ws) (ds.drop (i + 1)) S2).bind fun xs S' => .ok (.dat (.lst (acc ++ xs))) S'), fun H' h => ⟨ds.length - (i + 1), by omega, rfl, hl, h⟩, fun x H' hy => ?_⟩
        obtain ⟨F3, g3, rv⟩ := yl x H' hy
        have r3 := r2.grow g3
        have p3 := p2.ext (g3.ext φ2)
        cases ha : B ds[i] with
        | none =>
          rw [ha] at p3
          exact p3.elim
        | some a =>
          rw [ha] at p3
          simp only at p3
          refine ⟨F3, ds[i], a, r3.b.le, rv, ha, fun b hb => ⟨?_, ?_⟩⟩
          · rw [wipe_setV (hb.slots (hB _ _ ha)), wipe_wipe]
          · refine ⟨(Dd, .lst vs) :: gh, F3, φ2, setE (wipeE ρ ws) a, S2, ⟨r3.b, r3.e.setE hb⟩, ?_⟩
            cases hm : mt (setE (wipeE ρ ws) a) S2 with
            | bad =>
              rw [hm] at p3
              exact p3.elim
            | exc c S3 =>
              rw [hm] at p3
              exact p3.elim
            | ok c S3 =>
              rw [hm] at p3
              simp only at p3
              intro v F4 φ4 H4 x4 r4 ev
              subst ev
              have r4' : Rep K ⟨cl, (Dd, .lst vs) :: gh⟩ F4 φ4 (wipeE ρ ws) S3 (wipe σ ws) H4 := ⟨r4.b, (r3.e.mono (.of x4.s) x4.p)⟩
              have p4 := p3.ext x4
              cases c with
              | false =>
                rw [if_neg Bool.false_ne_true] at p4
                rw [if_neg Bool.false_ne_true]
                exact ⟨F4, φ4, S3, acc, vs, (x2.trans (g3.ext φ2)).trans x4, r4', (ra.mono (.of g3.s)).mono (.of x4.s), Nat.le_succ_of_le hacc, p4⟩
              | true =>
                rw [if_pos rfl] at p4
                rw [if_pos rfl]
                refine ⟨(Dd, .lst vs) :: gh, F4, φ4, setE (wipeE ρ ws) a, S3, r4, ?_⟩
                cases hme : me (setE (wipeE ρ ws) a) S3 with
                | bad =>
                  rw [hme] at p4
                  exact p4.elim
                | exc c S4 =>
                  rw [hme] at p4
                  exact p4.elim
                | ok z S4 =>
                  rw [hme] at p4
                  cases z with
                  | ptr _ => exact p4.elim
                  | dat z =>
                    simp only at p4
                    intro v F5 φ5 H5 x5 r5 q5
                    cases q5 with
                    | dat q5 =>
                      have ra5 : Rvs K F5 acc vs := ((ra.mono (.of g3.s)).mono (.of x4.s)).mono (.of x5.s)
                      refine ⟨vs, (r5.b.gho _ List.mem_cons_self).1, ?_, F5, φ5, S4, acc ++ [z], vs ++ [v], ((x2.trans (g3.ext φ2)).trans x4).trans x5, ⟨r5.b.reghost hg _, (r4'.e.mono (.of x5.s) x5.p)⟩, ra5.append (.cons q5 .nil), ?_, ?_⟩
                      · rw [← ra5.len]
                        exact Nat.lt_of_le_of_lt (Nat.le_trans hacc (Nat.le_trans hi hlen)) (by decide)
                      · rw [List.length_append]
                        exact Nat.succ_le_succ hacc
                      · have p5 := p4.ext x5
                        cases hr : compL B mt me (wipeE ρ ws) (ds.drop (i + 1)) S4 with
                        | bad =>
                          rw [hr] at p5
                          exact p5
                        | exc c S5 =>
                          rw [hr] at p5
                          exact p5
                        | ok xs S5 =>
                          rw [hr] at p5
                          simp only [Out.bind, List.append_assoc, List.singleton_append] at p5 ⊢
                          exact p5
      · have e : i = ds.length := by omega
        subst e
        rw [List.drop_length] at p2
        simp only [compL, Out.bind, List.append_nil] at p2
        obtain ⟨b3, s3⟩ := r2.b.settle hg
        refine .inl ⟨ys (Nat.le_refl _), p2 _ _ φ2 _ ⟨s3, List.prefix_refl _⟩ ⟨b3, r1.e.mono (.of (x2.s.trans s3)) x2.p⟩ (.dat (.lst upd_same (ra.mono (.of s3))))⟩
end
section
variable {X : Cx} {cl : Nat → Addr} {elt tg iter c : Expr} {ifs : List Expr} {scope : Scope} {own : List (Str × Nat)} {pos : Pos} {m : IM} {B : TB} {mt : BM} {me : EM}
def DPs (cl : Nat → Addr) (X : Cx) (ifs : List Expr) (mt : BM) : Prop := ∀ W, Takes X W → PTs X ifs (tG X.K cl W rB mt)
theorem pts_imp {t t' : TT} (h : PTs X ifs t) (i : ∀ σ H Q, t' σ H Q → t σ H Q) : PTs X ifs t' := ⟨fun p s σ H Q I q => h.run p s σ H Q I (i σ H Q q)⟩
theorem dps_nil : DPs cl X [] bYes := fun W _ => pts_imp pts_nil fun σ H Q ⟨gh, F, φ, ρ, S, r, p⟩ => p true F φ H (.refl F φ) r rfl
theorem dps_one (h : DT cl X c mt) : DPs cl X [c] mt := fun W tk => pts_one (h W tk)
theorem de_lc (own : List (Str × Nat)) (hc : X.calm = true) (hN : X.N.Nodup) (hi : DI cl X tg iter m) (ok : BlkOk X.N X.env.scope scope own)
    (hg : ∀ (s : Shared) (H : Hp) (C : Addr) (ce : List (Str × Addr)) (fp : List Addr), DG (X.blk s H scope (compEnvC scope ce C X.env) fp) tg B)
    (ht : ∀ (s : Shared) (H : Hp) (C : Addr) (ce : List (Str × Addr)) (fp : List Addr), DPs cl (X.blk s H scope (compEnvC scope ce C X.env) fp) ifs mt)
    (he : ∀ (s : Shared) (H : Hp) (C : Addr) (ce : List (Str × Addr)) (fp : List Addr), DE cl (X.blk s H scope (compEnvC scope ce C X.env) fp) elt me)
    (hB : BIn B (own.map (·.2))) (hs : ∀ x, foldedSetIterable iter X.env x = pure x := by intro _; rfl) : DE cl X (.ListComp elt [⟨tg, iter, ifs, 0⟩] scope pos) (eComp (own.map (·.2)) m B mt me) := fun W tk =>
  pe_imp (pe_lc (g := gD X.K B) hc hN (hi W tk) ok (fun s H C ce fp => hg s H C ce fp) (fun s H C ce fp => ht s H C ce fp _ takesNo) (fun s H C ce fp => he s H C ce fp _ takesNo) hs) fun σ H Q h => lc_ok hB h
/-- name = [..] on one line -/
theorem ds_setLc {i : Nat} {y : Str} {py spos : Pos} (own : List (Str × Nat)) (hc : X.calm = true) (hN : X.N.Nodup) (hi : DI cl X tg iter m) (ok : BlkOk X.N X.env.scope scope own)
    (hg : ∀ (s : Shared) (H : Hp) (C : Addr) (ce : List (Str × Addr)) (fp : List Addr), DG (X.blk s H scope (compEnvC scope ce C X.env) fp) tg B)
    (ht : ∀ (s : Shared) (H : Hp) (C : Addr) (ce : List (Str × Addr)) (fp : List Addr), DPs cl (X.blk s H scope (compEnvC scope ce C X.env) fp) ifs mt)
    (he : ∀ (s : Shared) (H : Hp) (C : Addr) (ce : List (Str × Addr)) (fp : List Addr), DE cl (X.blk s H scope (compEnvC scope ce C X.env) fp) elt me)
    (hB : BIn B (own.map (·.2))) (hsw : swapsWith (.ListComp elt [⟨tg, iter, ifs, 0⟩] scope pos) (some (.Name y py)) spos.line X.env = pure true) (hy : X.N[i]? = some y := by rfl) (hyl : X.env.scope.names.lookup y = some .local := by rfl)
    (hs : ∀ x, foldedSetIterable iter X.env x = pure x := by intro _; rfl) : DS cl X (.Assign [.Name y py] (.ListComp elt [⟨tg, iter, ifs, 0⟩] scope pos) spos) (sSet i (eComp (own.map (·.2)) m B mt me)) := fun W tk _ =>
  ps_imp (ps_setLc (g := gD X.K B) hc hN hy hyl hsw (hi W tk) ok (fun s H C ce fp => hg s H C ce fp) (fun s H C ce fp => ht s H C ce fp _ takesNo) (fun s H C ce fp => he s H C ce fp _ takesNo) hs) fun E σ H ⟨gh, F, φ, ρ, S, r, p⟩ =>
    lc_ok hB ((tS_of (R := rV X.K) r p).imp fun v H1 ⟨x, S1, F1, φ1, x1, r1, q1, p1⟩ => p1 F1 φ1 _ H1 (.refl F1 φ1) ⟨r1.b, r1.e.set q1 i⟩)
end

/-- T may stand behind a call that began at S: its instances are as they were, or bear no places -/
def CutOk (S T : Store) : Prop := ∀ (j c : Nat) (fs : List (Str × Val)), T[j]? = some (.obj c fs) → S[j]? = some (.obj c fs) ∨ ∀ q ∈ fs, ∀ i, q.2 ≠ .ptr i
open Classical in
noncomputable def cutS {α : Type} (S : Store) (S' : Store) (k : Store → Out α) : Out α := if CutOk S (S'.take S.length) then k (S'.take S.length) else .bad
noncomputable def cut (S : Store) (keep : Bool) (v : Val) (S' : Store) : Out Val := if keep = true then .ok v S' else match v with
  | .dat d => cutS S S' (.ok (.dat d))
  | .ptr i => if i < S.length then cutS S S' (.ok (.ptr i)) else .ok (.ptr i) S'
def env0 (n : Nat) (xs : List Val) : Ev := xs.map some ++ List.replicate (n - xs.length) none
/-- a def of n slots by its body's mirror; keep: what it has made in the store stays -/
noncomputable def fnOf (n : Nat) (body : SM) (keep : Bool := false) : Fn := fun xs S => match body (env0 n xs) S with
  | .nx _ S' => cut S keep (.dat .non) S'
  | .rt v S' => cut S keep v S'
  | .exc c _ S' => cutS S S' (.exc c)
  | _ => .bad
theorem take_get {α : Type} {l : List α} {n i : Nat} {a : α} (h : (l.take n)[i]? = some a) : l[i]? = some a ∧ i < n := by
  by_cases hi : i < n
  · rw [List.getElem?_take_of_lt hi] at h
    exact ⟨h, hi⟩
  · rw [List.getElem?_eq_none (by rw [List.length_take]; omega)] at h
    cases h
theorem RFs.ptr {K : PySem.W.Frag} {F : Hp} {φ : List Addr} : ∀ {fs : List (Str × Val)} {vs : List (Str × V)}, RFs K F φ fs vs → ∀ q ∈ fs, ∀ j, q.2 = .ptr j → j < φ.length
  | _, _, .nil, q, hq, _, _ => by cases hq
  | _, _, .cons r t, q, hq, j, e => by
    rcases List.mem_cons.mp hq with z | hq
    · subst z
      have e' := e
      simp only at e'
      subst e'
      cases r with
      | ptr h => exact (List.getElem?_eq_some_iff.mp h).1
    · exact RFs.ptr t q hq j e
theorem RFs.take {K : PySem.W.Frag} {F : Hp} {φ : List Addr} {n : Nat} : ∀ {fs : List (Str × Val)} {vs : List (Str × V)}, RFs K F φ fs vs → (∀ q ∈ fs, ∀ j, q.2 = .ptr j → j < n) → RFs K F (φ.take n) fs vs
  | _, _, .nil, _ => .nil
  | _, _, .cons (n := nm) (x := x) r t, h => by
    refine .cons ?_ (RFs.take t fun q hq => h q (List.mem_cons_of_mem _ hq))
    cases r with
    | dat r => exact .dat r
    | @ptr i a e =>
      refine .ptr ?_
      rw [List.getElem?_take_of_lt (h (nm, .ptr i) List.mem_cons_self i rfl)]
      exact e
theorem Base.take {K : PySem.W.Frag} {cs : CS} {F F' H H' : Hp} {φ φ' : List Addr} {S S' : Store} (b : Base K cs F φ S H) (b' : Base K cs F' φ' S' H') (x : Ext F φ F' φ') (hc : CutOk S (S'.take S.length)) : Base K cs F' φ (S'.take S.length) H' := by
  have hφ : φ'.take S.length = φ := by
    obtain ⟨t, rfl⟩ := x.p
    rw [← b.len]
    exact List.take_left
  have hle : φ.length ≤ φ'.length := by
    obtain ⟨t, rfl⟩ := x.p
    rw [List.length_append]
    omega
  rw [← hφ]
  refine ⟨b'.le, by rw [List.length_take, List.length_take, b'.len], b'.nd.sublist (List.take_sublist _ _), fun a h => b'.there a (List.mem_of_mem_take h), fun i c a h1 h2 => ?_, fun i c a h1 h2 => b'.own i c a (take_get h1).1 (take_get h2).1, fun p hp => ?_⟩
  · have q := b'.cell i c a (take_get h1).1 (take_get h2).1
    cases c with
    | lst xs => exact q
    | dct ks => exact q
    | dcu ks => exact q
    | dead => exact q
    | obj c fs =>
      obtain ⟨dx, vs, e1, r⟩ := q
      refine ⟨dx, vs, e1, r.take fun q hq j e => ?_⟩
      rcases hc i c fs h1 with z | z
      · cases hφi : φ[i]? with
        | none =>
          have := List.getElem?_eq_none_iff.mp hφi
          have h3 := (List.getElem?_eq_some_iff.mp z).1
          have h4 := b.len
          omega
        | some a0 =>
          obtain ⟨_, vs0, _, r0⟩ := b.cell i _ a0 z hφi
          have := r0.ptr q hq j e
          rw [b.len] at this
          exact this
      · exact absurd e (z q hq j)
  · obtain ⟨g1, g2, g3⟩ := b'.gho p hp
    exact ⟨g1, g2, fun hm => g3 (List.mem_of_mem_take hm)⟩
theorem env0_ok {K : PySem.W.Frag} {F : Hp} {φ : List Addr} {N : List Str} {xs : List Val} {vs : List V} (r : RVs K F φ xs vs) : EnvOk K F φ (env0 N.length xs) (L2.start N vs) := by
  have hl := r.len
  refine ⟨by unfold env0 L2.start; rw [List.length_append, List.length_append, List.length_map, List.length_map, List.length_replicate, List.length_replicate, hl], fun i x e => ?_⟩
  unfold env0 at e
  unfold L2.start
  by_cases hi : i < xs.length
  · rw [List.getElem?_append_left (by rw [List.length_map]; exact hi), List.getElem?_map] at e
    cases hx : xs[i]? with
    | none =>
      rw [hx] at e
      cases e
    | some y =>
      rw [hx] at e
      cases e
      obtain ⟨v, h1, h2⟩ := r.get hx
      refine ⟨v, ?_, h2⟩
      rw [List.getElem?_append_left (by rw [List.length_map, ← hl]; exact hi), List.getElem?_map, h1]
      rfl
  · rw [List.getElem?_append_right (by rw [List.length_map]; omega), List.getElem?_replicate] at e
    split at e <;> cases e
section
variable {P : Program} {w : World} {K : PySem.W.Frag} {mg : Str → Option Value} {base : Heap} {cl : Nat → Addr}
/-- THE RULE of a def: its body has a mirror -/
theorem fn_ok {x qual : Str} {params : Arguments} {body : List Stmt} {scope : Scope} {f : Addr} {fd : FuncData} {N ps : List Str} {k : Nat} {m : SM} {keep : Bool} (F : FunD K x qual params body scope [] [] f fd) (S : FnScope N ps scope)
    (hb : ∀ (cdv : Value) (A : Around) (outer : List PySem.Env) (s : Shared) (H : Hp) (E : XK), Room k (A.deeper (envOfC qual scope s.heap.objs.size f cdv)) → DSs cl (cxOf (L2N.CX P w) P w K mg base N qual scope f cdv A outer s H E) body m) :
    FnOk P w K mg base (L2N.CX P w) (k + 1) f fd ps (spD K cl ps.length (fnOf N.length m keep)) := by
  refine F.ok S (fun vs H Q E h => spD_len h) (fun cdv A outer s H vs Q E hr h => ?_)
  refine ⟨_, hb cdv A outer s H E hr _ (L2N.takes_of rfl rfl rfl rfl) (passes_of rfl), ?_⟩
  obtain ⟨gh, F0, φ, S0, xs, b, r, hl, h⟩ := h
  refine ⟨gh, F0, φ, env0 N.length xs, S0, ⟨b, env0_ok r⟩, ?_⟩
  simp only [fnOf] at h
  have fin : ∀ {v : Val} {S' : Store}, (match cut S0 keep v S' with
      | .ok v S' => ∀ v' F' φ' H', Ext F0 φ F' φ' → Base K ⟨cl, gh⟩ F' φ' S' H' → RV K F' φ' v v' → Q v' H'
      | .exc c S' => ∀ F' φ' H', Ext F0 φ F' φ' → Base K ⟨cl, gh⟩ F' φ' S' H' → E (.ref (cl c)) none H'
      | .bad => False) → ∀ v' F' φ' H', Ext F0 φ F' φ' → Base K ⟨cl, gh⟩ F' φ' S' H' → RV K F' φ' v v' → Q v' H' := fun {v S'} h v' F' φ' H' x b' rv => by
    unfold cut at h
    cases keep with
    | true => exact h v' F' φ' H' x b' rv
    | false =>
      simp only [Bool.false_eq_true, if_false] at h
      have small : ∀ {a : Val}, RV K F' φ a v' → (match cutS S0 S' (Out.ok a) with
          | .ok v S' => ∀ v' F' φ' H', Ext F0 φ F' φ' → Base K ⟨cl, gh⟩ F' φ' S' H' → RV K F' φ' v v' → Q v' H'
          | .exc c S' => ∀ F' φ' H', Ext F0 φ F' φ' → Base K ⟨cl, gh⟩ F' φ' S' H' → E (.ref (cl c)) none H'
          | .bad => False) → Q v' H' := fun {a} ra h => by
        unfold cutS at h
        split at h
        · rename_i o a' S'' e
          split at e
          · rename_i hc
            cases e
            exact h v' F' φ H' ⟨x.s, List.prefix_refl _⟩ (b.take b' x hc) ra
          · cases e
        · rename_i e
          split at e <;> cases e
        · exact h.elim
      cases rv with
      | dat rv => exact small (.dat rv) h
      | @ptr i a e =>
        by_cases hi : i < S0.length
        · simp only [if_pos hi] at h
          refine small (.ptr ?_) h
          obtain ⟨t, rfl⟩ := x.p
          rw [List.getElem?_append_left (by rw [b.len]; exact hi)] at e
          exact e
        · simp only [if_neg hi] at h
          exact h _ F' φ' H' x b' (.ptr e)
  cases e : m (env0 N.length xs) S0 with
  | bad =>
    rw [e] at h
    exact h
  | bk _ _ =>
    rw [e] at h
    exact h.elim
  | ct _ _ =>
    rw [e] at h
    exact h.elim
  | nx ρ' S' =>
    rw [e] at h
    exact fun F' φ' σ' H' x r' => fin h .non F' φ' H' x r'.b (.dat .non)
  | rt v S' =>
    rw [e] at h
    exact fun v' F' φ' H' x b' rv => fin h v' F' φ' H' x b' rv
  | exc c ρ' S' =>
    rw [e] at h
    refine fun F' φ' σ' H' x r' => ?_
    simp only [cutS] at h
    by_cases hc : CutOk S0 (S'.take S0.length)
    · rw [if_pos hc] at h
      exact h F' φ H' ⟨x.s, List.prefix_refl _⟩ (b.take r'.b x hc)
    · rw [if_neg hc] at h
      exact h.elim
end
end DL

namespace DL
open PySem PySem.Spec PyProof.Rows L2

mutual
def toPy : D → PyData
  | .non => .none
  | .bl b => .bool b
  | .int i => .int i
  | .str s => .str (toStr s)
  | .tup xs => .tuple (toPys xs)
  | .ktp xs => .tuple (toPys xs)
  | .lst xs => .list (toPys xs)
  | .dct _ => .dict []
  | .dcu _ => .dict []
  | .scr ns => .list (ns.map PyData.int)
def toPys : List D → List PyData
  | [] => []
  | x :: xs => toPy x :: toPys xs
end
theorem toPys_map : ∀ xs : List D, toPys xs = xs.map toPy
  | [] => rfl
  | x :: xs => by rw [toPys, toPys_map xs]; rfl
/-- no dicts, so deep at most -/
def sh : Nat → D → Bool
  | _, .non => true
  | _, .bl _ => true
  | _, .int _ => true
  | _, .str _ => true
  | 0, _ => false
  | n + 1, .tup xs => xs.all (sh n)
  | n + 1, .ktp xs => xs.all (sh n)
  | n + 1, .lst xs => xs.all (sh n)
  | _ + 1, .scr _ => true
  | _ + 1, .dct _ => false
  | _ + 1, .dcu _ => false
def eqD (d e : D) : Bool := PyData.eqv (toPy d) (toPy e)
theorem strOk_of {s : List Nat} (h : strGood s) : PyData.strOk (toStr s) = true := by
  unfold PyData.strOk toStr
  rw [Array.all_eq_true]
  intro i hi
  have hi' : i < s.length := by simpa using hi
  have := h s[i] (List.getElem_mem hi')
  simpa using this
theorem depthAll_le {n : Nat} : ∀ {xs : List PyData}, (∀ x ∈ xs, x.depth ≤ n) → PyData.depthAll xs ≤ n
  | [], _ => by simp [PyData.depthAll]
  | x :: xs, h => by
    have h1 := h x List.mem_cons_self
    have h2 := depthAll_le (xs := xs) fun y hy => h y (List.mem_cons_of_mem _ hy)
    simp only [PyData.depthAll]
    omega
theorem ints_dp {K : PySem.W.Frag} {H : Hp} : ∀ ns : List Int, DpAll K H (ns.map V.int) (ns.map PyData.int)
  | [] => .nil
  | n :: ns => .cons (.int n) (ints_dp ns)
theorem ints_lay : ∀ ns : List Int, PyData.canLayAll0 (ns.map PyData.int) = true
  | [] => by simp [PyData.canLayAll0]
  | n :: ns => by
    rw [List.map_cons]
    simp only [PyData.canLayAll0, PyData.canLay0, ints_lay ns, Bool.and_self]
mutual
theorem Rv.dp {K : PySem.W.Frag} {H : Hp} : ∀ (n : Nat) {d : D} {v : V}, Rv K H d v → sh n d = true → Dp K H v (toPy d) ∧ (toPy d).canLay0 = true ∧ (toPy d).depth ≤ n + 1
  | n, _, _, .non, _ => ⟨.non, by simp [toPy, PyData.canLay0], by simp [toPy, PyData.depth]⟩
  | n, _, _, .bl b, _ => ⟨.bl b, by simp [toPy, PyData.canLay0], by simp [toPy, PyData.depth]⟩
  | n, _, _, .int i, _ => ⟨.int i, by simp [toPy, PyData.canLay0], by simp [toPy, PyData.depth]⟩
  | n, _, _, .str (s := s) h, _ => ⟨.str _, by simp [toPy, PyData.canLay0, strOk_of h], by simp [toPy, PyData.depth]⟩
  | 0, _, _, .tup _ _, h => by simp [sh] at h
  | n + 1, _, _, .tup (ds := ds) hs r, h => by
    obtain ⟨a, b, c⟩ := Rvs.dp n r (by simpa [sh] using h)
    exact ⟨.tup hs.sq a, by simpa [toPy, PyData.canLay0] using b, by simp only [toPy, PyData.depth]; omega⟩
  | 0, _, _, .ktp _ _, h => by simp [sh] at h
  | n + 1, _, _, .ktp (ds := ds) hs r, h => by
    obtain ⟨a, b, c⟩ := Rvs.dp n r (by simpa [sh] using h)
    exact ⟨.tup (.of hs) a, by simpa [toPy, PyData.canLay0] using b, by simp only [toPy, PyData.depth]; omega⟩
  | 0, _, _, .lst _ _, h => by simp [sh] at h
  | n + 1, _, _, .lst (ds := ds) hs r, h => by
    obtain ⟨a, b, c⟩ := Rvs.dp n r (by simpa [sh] using h)
    exact ⟨.lst (.of hs) a, by simpa [toPy, PyData.canLay0] using b, by simp only [toPy, PyData.depth]; omega⟩
  | 0, _, _, .scr _, h => by simp [sh] at h
  | n + 1, _, _, .scr (ns := ns) hs, h => by
    refine ⟨.lst hs (ints_dp ns), by simpa [toPy, PyData.canLay0] using ints_lay ns, ?_⟩
    have : PyData.depthAll (ns.map PyData.int) ≤ 1 := depthAll_le fun x hx => by
      obtain ⟨i, _, rfl⟩ := List.mem_map.mp hx
      simp [PyData.depth]
    simp only [toPy, PyData.depth]
    omega
  | 0, _, _, .dct _ _, h => by simp [sh] at h
  | n + 1, _, _, .dct _ _, h => by simp [sh] at h
  | 0, _, _, .dctT _ _, h => by simp [sh] at h
  | n + 1, _, _, .dctT _ _, h => by simp [sh] at h
theorem Rvs.dp {K : PySem.W.Frag} {H : Hp} : ∀ (n : Nat) {ds : List D} {vs : List V}, Rvs K H ds vs → (∀ d ∈ ds, sh n d = true) → DpAll K H vs (toPys ds) ∧ PyData.canLayAll0 (toPys ds) = true ∧ PyData.depthAll (toPys ds) ≤ n + 1
  | n, _, _, .nil, _ => ⟨by rw [toPys]; exact .nil, by simp [toPys, PyData.canLayAll0], by simp [toPys, PyData.depthAll]⟩
  | n, _, _, .cons r t, h => by
    obtain ⟨a, b, c⟩ := Rv.dp n r (h _ List.mem_cons_self)
    obtain ⟨a', b', c'⟩ := Rvs.dp n t fun d hd => h d (List.mem_cons_of_mem _ hd)
    refine ⟨by rw [toPys]; exact .cons a a', by simp [toPys, PyData.canLayAll0, b, b'], ?_⟩
    simp only [toPys, PyData.depthAll]
    omega
end
theorem sh_ndct {n : Nat} {d : D} (h : sh n d = true) : ndct d = true := by
  cases d <;> first
    | rfl
    | (cases n <;> simp [sh] at h)
theorem Rv.shaped {K : PySem.W.Frag} {H : Hp} {d : D} {v : V} (r : Rv K H d v) (h : sh 9 d = true) : Dp K H v (toPy d) ∧ SeqAt.shaped (toPy d) = true := by
  obtain ⟨a, b, c⟩ := r.dp 9 h
  refine ⟨a, ?_⟩
  unfold SeqAt.shaped
  rw [b, Bool.true_and]
  exact decide_eq_true (by omega)

def sizeOk (n : Nat) : Bool := decide (n ≤ 1000000)
def pAdd : D → D → Option D
  | .int i, .int j => some (.int (i + j))
  | .str s, .str t => if s.length + t.length ≤ 1000000 then some (.str (s ++ t)) else none
  | .lst s, .lst t => if s.length + t.length ≤ 1000000 then some (.lst (s ++ t)) else none
  | .tup s, .tup t => if s.length + t.length ≤ 1000000 then some (.tup (s ++ t)) else none
  | _, _ => none
def pSub : D → D → Option D
  | .int i, .int j => some (.int (i - j))
  | _, _ => none
def pMul : D → D → Option D
  | .int i, .int j => if (-(2 ^ 64) < i ∧ i < 2 ^ 64) ∨ (-(2 ^ 64) < j ∧ j < 2 ^ 64) then some (.int (i * j)) else none
  | .lst s, .int k => if -1000 ≤ k ∧ k ≤ 1000 ∧ s.length ≤ 1000 then some (.lst (List.replicate k.toNat s).flatten) else none
  | _, _ => none
def pMod : D → D → Option D
  | .int i, .int j => if 0 < j then some (.int (i % j)) else none
  | _, _ => none
def pDiv : D → D → Option D
  | .int i, .int j => if 0 < j ∧ j < 1073741824 then some (.int (i / j)) else none
  | _, _ => none
def pPow : D → D → Option D
  | .int i, .int j => if 0 ≤ j ∧ j ≤ 1000000 ∧ i.natAbs < 2 ^ 64 then some (.int (i ^ j.toNat)) else none
  | _, _ => none
def pNeg : D → Option D
  | .int i => some (.int (-i))
  | _ => none
def pEq (d e : D) : Option D := if sh 9 d = true ∧ sh 9 e = true then some (.bl (eqD d e)) else none
def pNe (d e : D) : Option D := if sh 9 d = true ∧ sh 9 e = true then some (.bl (!eqD d e)) else none
def pLt : D → D → Option D
  | .int i, .int j => some (.bl (decide (i < j)))
  | .str s, .str t => some (.bl (decide (s < t)))
  | _, _ => none
def pLe : D → D → Option D
  | .int i, .int j => some (.bl (decide (i ≤ j)))
  | .str s, .str t => some (.bl (!decide (t < s)))
  | _, _ => none
def pGt : D → D → Option D
  | .int i, .int j => some (.bl (decide (j < i)))
  | _, _ => none
def pGe : D → D → Option D
  | .int i, .int j => some (.bl (decide (j ≤ i)))
  | _, _ => none
def isNon : D → Bool
  | .non => true
  | _ => false
def pIs : D → D → Option D
  | d, .non => some (.bl (isNon d))
  | _, _ => none
def pIsNot : D → D → Option D
  | d, .non => some (.bl (!isNon d))
  | _, _ => none

section
variable {X : Cx}
def rAdds (K : PySem.W.Frag) : R2 := fun x y H Q => rI0 (fun i j => .int (i + j)) x y H Q ∨ (∃ i j, x = .str i ∧ y = .str j ∧ i.length + j.length ≤ sizeLine ∧ Q (.str (i ++ j)) H) ∨ rCat x y H Q ∨ rCatX K x y H Q
theorem op_adds : OpR X (binaryOp .Add) (rAdds X.K) := op_add.or (op_add_str.or (op_cat.or op_catX))
theorem toStr_append (s t : List Nat) : toStr s ++ toStr t = toStr (s ++ t) := by
  show (⟨s.toArray ++ t.toArray⟩ : Str) = ⟨(s ++ t).toArray⟩
  simp
theorem toStr_len (s : List Nat) : (toStr s).length = s.length := by
  show s.toArray.size = s.length
  simp
theorem gAdd : Gives2 X.K (rAdds X.K) pAdd := by
  intro F H d e c x y Q le rx ry h q
  cases rx with
  | int i =>
    cases ry with
    | int j =>
      cases h
      exact .inl ⟨i, j, rfl, rfl, q F H _ (.refl le) (.int _)⟩
    | _ => cases h
  | @str s hs =>
    cases ry with
    | @str t ht =>
      simp only [pAdd] at h
      split at h
      · rename_i hl
        cases h
        refine .inr (.inl ⟨_, _, rfl, rfl, by rw [toStr_len, toStr_len]; exact line_of hl, ?_⟩)
        rw [toStr_append]
        exact q F H _ (.refl le) (.str fun c hc => (List.mem_append.mp hc).elim (hs c) (ht c))
      · cases h
    | _ => cases h
  | @lst a ds vs hs rs =>
    cases ry with
    | @lst b es us ht rt =>
      simp only [pAdd] at h
      split at h
      · rename_i hl
        cases h
        refine .inr (.inr (.inl ⟨a, b, vs, us, rfl, rfl, hs, ht, by rw [← rs.len, ← rt.len]; exact line_of hl, fun p hp => ?_⟩))
        have g := Grow.new le (.lst (vs ++ us)) hp
        exact q _ _ _ g (.lst upd_same ((rs.append rt).mono (.of g.s)))
      · cases h
    | _ => cases h
  | @tup a ds vs hs rs =>
    cases ry with
    | @tup b es us ht rt =>
      simp only [pAdd] at h
      split at h
      · rename_i hl
        cases h
        refine .inr (.inr (.inr ⟨a, b, vs, us, rfl, rfl, (hs.same le).sq, (ht.same le).sq, by rw [← rs.len, ← rt.len]; exact line_of hl, fun e => ?_, fun _ e => ?_, fun _ _ p ob hp hd => ?_⟩))
        · subst e
          cases rs
          exact q F H _ (.refl le) (.tup ht rt)
        · subst e
          cases rt
          rw [List.append_nil] at q
          exact q F H _ (.refl le) (.tup hs rs)
        · have g := Grow.new le (.frz ob (.tup (vs ++ us))) hp
          exact q _ _ _ g (.tup (.new hd) ((rs.append rt).mono (.of g.s)))
      · cases h
    | _ => cases h
  | _ => cases h
theorem gSub : Gives2 X.K (rI0 fun i j => .int (i - j)) pSub := by
  intro F H d e c x y Q le rx ry h q
  cases rx <;> cases ry <;> first
    | (cases h; done)
    | (cases h; exact ⟨_, _, rfl, rfl, q F H _ (.refl le) (.int _)⟩)
def rMuls (K : PySem.W.Frag) : R2 := fun x y H Q => rI CMul (fun i j => .int (i * j)) x y H Q ∨ rRep x y H Q
theorem op_muls : OpR X (binaryOp .Mult) (rMuls X.K) := op_mul.or op_rep
theorem Rvs.rep {K : PySem.W.Frag} {F : Hp} {ds : List D} {vs : List V} (r : Rvs K F ds vs) : ∀ n : Nat, Rvs K F (List.replicate n ds).flatten (List.replicate n vs).flatten
  | 0 => .nil
  | n + 1 => by
    rw [List.replicate_succ, List.replicate_succ, List.flatten_cons, List.flatten_cons]
    exact r.append (Rvs.rep r n)
theorem gMul : Gives2 X.K (rMuls X.K) pMul := by
  intro F H d e c x y Q le rx ry h q
  cases rx with
  | int i =>
    cases ry with
    | int j =>
      simp only [pMul] at h
      split at h
      · rename_i hc
        cases h
        exact .inl ⟨i, j, rfl, rfl, hc, q F H _ (.refl le) (.int _)⟩
      · cases h
    | _ => cases h
  | @lst a ds vs hs rs =>
    cases ry with
    | int j =>
      simp only [pMul] at h
      split at h
      · rename_i hc
        obtain ⟨h1, h2, h3⟩ := hc
        cases h
        refine .inr ⟨a, j, vs, rfl, rfl, hs, by omega, by omega, ?_, fun p hp => ?_⟩
        · rw [← rs.len]
          refine Nat.le_trans (Nat.mul_le_mul h3 (show j.toNat ≤ 1000 by omega)) (by decide)
        · have g := Grow.new le (.lst (List.replicate j.toNat vs).flatten) hp
          exact q _ _ _ g (.lst upd_same ((rs.rep j.toNat).mono (.of g.s)))
      · cases h
    | _ => cases h
  | _ => cases h
theorem gMod : Gives2 X.K (rI (fun _ j => 0 < j) fun i j => .int (i % j)) pMod := by
  intro F H d e c x y Q le rx ry h q
  cases rx with
  | int i =>
    cases ry with
    | int j =>
      simp only [pMod] at h
      split at h
      · rename_i hc
        cases h
        exact ⟨i, j, rfl, rfl, hc, q F H _ (.refl le) (.int _)⟩
      · cases h
    | _ => cases h
  | _ => cases h
theorem gDiv : Gives2 X.K (rI CDiv fun i j => .int (i / j)) pDiv := by
  intro F H d e c x y Q le rx ry h q
  cases rx with
  | int i =>
    cases ry with
    | int j =>
      simp only [pDiv] at h
      split at h
      · rename_i hc
        cases h
        exact ⟨i, j, rfl, rfl, hc, q F H _ (.refl le) (.int _)⟩
      · cases h
    | _ => cases h
  | _ => cases h
theorem gPow : Gives2 X.K (rI CPow fun i j => .int (i ^ j.toNat)) pPow := by
  intro F H d e c x y Q le rx ry h q
  cases rx with
  | int i =>
    cases ry with
    | int j =>
      simp only [pPow] at h
      split at h
      · rename_i hc
        cases h
        exact ⟨i, j, rfl, rfl, hc, q F H _ (.refl le) (.int _)⟩
      · cases h
    | _ => cases h
  | _ => cases h
theorem gNeg : Gives1 X.K (rU fun i => .int (-i)) pNeg := by
  intro F H d c x Q le rx h q
  cases rx with
  | int i =>
    cases h
    exact ⟨i, rfl, q F H _ (.refl le) (.int _)⟩
  | _ => cases h
theorem gEq : Gives2 X.K (rEqD X.K) pEq := by
  intro F H d e c x y Q le rx ry h q
  unfold pEq at h
  split at h
  · rename_i hc
    cases h
    obtain ⟨a1, a2⟩ := (rx.rv (.of le) (sh_ndct hc.1)).shaped hc.1
    obtain ⟨b1, b2⟩ := (ry.rv (.of le) (sh_ndct hc.2)).shaped hc.2
    exact ⟨_, _, a1, b1, a2, b2, q F H _ (.refl le) (.bl _)⟩
  · cases h
theorem gNe : Gives2 X.K (rNeD X.K) pNe := by
  intro F H d e c x y Q le rx ry h q
  unfold pNe at h
  split at h
  · rename_i hc
    cases h
    obtain ⟨a1, a2⟩ := (rx.rv (.of le) (sh_ndct hc.1)).shaped hc.1
    obtain ⟨b1, b2⟩ := (ry.rv (.of le) (sh_ndct hc.2)).shaped hc.2
    exact ⟨_, _, a1, b1, a2, b2, q F H _ (.refl le) (.bl _)⟩
  · cases h
def rLts : R2 := fun x y H Q => rI0 (fun i j => .bl (decide (i < j))) x y H Q ∨ ∃ i j, x = .str i ∧ y = .str j ∧ Q (.bl (decide (i.cps.toList < j.cps.toList))) H
theorem op_lts : OpR X (compareOp .Lt) rLts := op_lt.or op_lt_str
theorem gLt : Gives2 X.K rLts pLt := by
  intro F H d e c x y Q le rx ry h q
  cases rx with
  | int i =>
    cases ry with
    | int j =>
      cases h
      exact .inl ⟨i, j, rfl, rfl, q F H _ (.refl le) (.bl _)⟩
    | _ => cases h
  | @str s hs =>
    cases ry with
    | @str t ht =>
      cases h
      exact .inr ⟨_, _, rfl, rfl, q F H _ (.refl le) (.bl _)⟩
    | _ => cases h
  | _ => cases h
def rLes : R2 := fun x y H Q => rI0 (fun i j => .bl (decide (i ≤ j))) x y H Q ∨ ∃ i j, x = .str i ∧ y = .str j ∧ Q (.bl (!decide (j.cps.toList < i.cps.toList))) H
theorem op_les : OpR X (compareOp .LtE) rLes := op_le.or op_le_str
theorem gLe : Gives2 X.K rLes pLe := by
  intro F H d e c x y Q le rx ry h q
  cases rx with
  | int i =>
    cases ry with
    | int j =>
      cases h
      exact .inl ⟨i, j, rfl, rfl, q F H _ (.refl le) (.bl _)⟩
    | _ => cases h
  | @str s hs =>
    cases ry with
    | @str t ht =>
      cases h
      exact .inr ⟨_, _, rfl, rfl, q F H _ (.refl le) (.bl _)⟩
    | _ => cases h
  | _ => cases h
theorem gGt : Gives2 X.K (rI0 fun i j => .bl (decide (j < i))) pGt := by
  intro F H d e c x y Q le rx ry h q
  cases rx with
  | int i =>
    cases ry with
    | int j =>
      cases h
      exact ⟨i, j, rfl, rfl, q F H _ (.refl le) (.bl _)⟩
    | _ => cases h
  | _ => cases h
theorem gGe : Gives2 X.K (rI0 fun i j => .bl (decide (j ≤ i))) pGe := by
  intro F H d e c x y Q le rx ry h q
  cases rx with
  | int i =>
    cases ry with
    | int j =>
      cases h
      exact ⟨i, j, rfl, rfl, q F H _ (.refl le) (.bl _)⟩
    | _ => cases h
  | _ => cases h
theorem isNon_ok {K : PySem.W.Frag} {F H : Hp} {d : D} {x : V} (r : RT K F H d x) : decide (x = .non) = isNon d := by
  cases r <;> simp [isNon]
theorem gIs : Gives2 X.K (fun x y H Q => y = .non ∧ Q (.bl (decide (x = .non))) H) pIs := by
  intro F H d e c x y Q le rx ry h q
  cases ry with
  | non =>
    cases h
    refine ⟨rfl, ?_⟩
    rw [isNon_ok rx]
    exact q F H _ (.refl le) (.bl _)
  | _ => cases h
theorem gIsNot : Gives2 X.K (fun x y H Q => y = .non ∧ Q (.bl (!decide (x = .non))) H) pIsNot := by
  intro F H d e c x y Q le rx ry h q
  cases ry with
  | non =>
    cases h
    refine ⟨rfl, ?_⟩
    rw [isNon_ok rx]
    exact q F H _ (.refl le) (.bl _)
  | _ => cases h
end
end DL

namespace DL
open PySem PySem.Spec PyProof.Rows L2

section
variable {K : PySem.W.Frag} {F H : Hp}
theorem key_ndct {d : D} {q : Key} (h : keyOf d = some q) : ndct d = true := by
  cases d <;> first
    | rfl
    | cases h
theorem rv_key {d : D} {v : V} {q : Key} (r : Rv K F d v) (h : keyOf d = some q) : v = kV q := by
  cases r <;> simp [keyOf] at h <;> subst h <;> rfl
theorem rvs_keys : ∀ {ds : List D} {vs : List V} {q : List Key}, Rvs K F ds vs → keysOf ds = some q → vs = q.map kV
  | [], _, _, .nil, h => by
    cases h
    rfl
  | d :: ds, _, _, .cons r t, h => by
    simp only [keysOf] at h
    split at h
    · rename_i a b h1 h2
      cases h
      rw [rv_key r h1, rvs_keys t h2]
      rfl
    · cases h
theorem rks_look : ∀ {ks : List (D × D)} {kvs : List (Key × V)} (q : Key), Rks K F ks kvs → (∀ d, (ks.find? fun p => decide (keyOf p.1 = some q)).map (·.2) = some d → ∃ v, valV kvs q = some v ∧ Rv K F d v) ∧ ((ks.find? fun p => decide (keyOf p.1 = some q)).map (·.2) = none → valV kvs q = none)
  | _, _, q, .nil => ⟨fun d h => by simp at h, fun _ => rfl⟩
  | _, _, q, .cons (k := k) (d := d) (q := q') (v := v) (kvs := kvs) e rk rd t => by
    obtain ⟨i1, i2⟩ := rks_look q t
    by_cases hq : q' = q
    · subst hq
      have hd : decide (keyOf k = some q') = true := decide_eq_true e
      refine ⟨fun d' h => ?_, fun h => ?_⟩
      · simp only [List.find?_cons, hd, Option.map_some, Option.some.injEq] at h
        subst h
        exact ⟨v, valV_pos rfl, rd⟩
      · simp only [List.find?_cons, hd, Option.map_some] at h
        cases h
    · have hd : decide (keyOf k = some q) = false := decide_eq_false (by rw [e]; exact fun z => hq (Option.some.inj z))
      refine ⟨fun d' h => ?_, fun h => ?_⟩
      · simp only [List.find?_cons, hd] at h
        rw [valV_neg (show ¬ (q', v).1 = q from hq)]
        exact i1 d' h
      · simp only [List.find?_cons, hd] at h
        rw [valV_neg (show ¬ (q', v).1 = q from hq)]
        exact i2 h
theorem rts_look : ∀ {ks : List (D × D)} {kvs : List (List Key × V)} (q : List Key), Rts K F ks kvs → (∀ d, (ks.find? fun p => decide (tkeyOf p.1 = some q)).map (·.2) = some d → ∃ v, valV kvs q = some v ∧ Rv K F d v) ∧ ((ks.find? fun p => decide (tkeyOf p.1 = some q)).map (·.2) = none → valV kvs q = none)
  | _, _, q, .nil => ⟨fun d h => by simp at h, fun _ => rfl⟩
  | _, _, q, .cons (es := es) (d := d) (q := q') (v := v) (kvs := kvs) e rk rd t => by
    obtain ⟨i1, i2⟩ := rts_look q t
    have e' : tkeyOf (.ktp es) = some q' := e
    by_cases hq : q' = q
    · subst hq
      have hd : decide (tkeyOf (.ktp es) = some q') = true := decide_eq_true e'
      refine ⟨fun d' h => ?_, fun h => ?_⟩
      · simp only [List.find?_cons, hd, Option.map_some, Option.some.injEq] at h
        subst h
        exact ⟨v, valV_pos rfl, rd⟩
      · simp only [List.find?_cons, hd, Option.map_some] at h
        cases h
    · have hd : decide (tkeyOf (.ktp es) = some q) = false := decide_eq_false (by rw [e']; exact fun z => hq (Option.some.inj z))
      refine ⟨fun d' h => ?_, fun h => ?_⟩
      · simp only [List.find?_cons, hd] at h
        rw [valV_neg (show ¬ (q', v).1 = q from hq)]
        exact i1 d' h
      · simp only [List.find?_cons, hd] at h
        rw [valV_neg (show ¬ (q', v).1 = q from hq)]
        exact i2 h
end
/-- what a dict holds at a key -/
def lookD (ks : List (D × D)) (q : Key) : Option D := (ks.find? fun p => decide (keyOf p.1 = some q)).map (·.2)
def lookT (ks : List (D × D)) (q : List Key) : Option D := (ks.find? fun p => decide (tkeyOf p.1 = some q)).map (·.2)
def pGet : D → D → Option (Option D)
  | .dct ks, y => (keyOf y).map (lookD ks)
  | .dcu ks, y => (tkeyOf y).map (lookT ks)
  | _, _ => none
theorem sh_mono {n m : Nat} (h : n ≤ m) : ∀ {d : D}, sh n d = true → sh m d = true := by
  induction n generalizing m with
  | zero =>
    intro d hd
    cases d <;> first
      | (cases m <;> rfl)
      | (simp [sh] at hd)
  | succ n ih =>
    intro d hd
    obtain ⟨m, rfl⟩ : ∃ k, m = k + 1 := ⟨m - 1, by omega⟩
    cases d with
    | tup xs =>
      simp only [sh, List.all_eq_true] at hd ⊢
      exact fun x hx => ih (by omega) (hd x hx)
    | lst xs =>
      simp only [sh, List.all_eq_true] at hd ⊢
      exact fun x hx => ih (by omega) (hd x hx)
    | ktp xs =>
      simp only [sh, List.all_eq_true] at hd ⊢
      exact fun x hx => ih (by omega) (hd x hx)
    | dct _ => simp [sh] at hd
    | dcu _ => simp [sh] at hd
    | _ => rfl
def pIx : D → D → Option D
  | .lst ds, .int i => atI ds i
  | .tup ds, .int i => atI ds i
  | .ktp ds, .int i => atI ds i
  | .scr ns, .int i => (atI ns i).map .int
  | .str s, .int i => if -1000000 ≤ i ∧ i ≤ 1000000 then (atI s i).map fun c => .str [c] else none
  | .dct ks, y => (pGet (.dct ks) y).bind id
  | .dcu ks, y => (pGet (.dcu ks) y).bind id
  | _, _ => none
section
variable {X : Cx}
theorem ixr_or {r r' : R2} (h : IxR X r) (h' : IxR X r') : IxR X (fun x y H Q => r x y H Q ∨ r' x y H Q) := fun v sl p s σ H x y a b Q I rx ry q hs => q.elim (fun z => h v sl p s σ H x y a b Q I rx ry z hs) fun z => h' v sl p s σ H x y a b Q I rx ry z hs
def rIxD : R2 := fun x y H Q => ∃ a v, x = .ref a ∧ DGet H a y (some v) ∧ Q v H
theorem ix_dict (hu : X.A.units + 1 < cLine) : IxR X rIxD := by
  intro v sl p s σ H x y a b Q I rx ry ⟨d, z, ex, g, q⟩ hs
  subst ex
  obtain rfl : a = Value.ref d := rx
  exact tail_any (dict_typeIs I g) PySem.F.slot_dict_getitem.lookup (d_getItem hu I g ry fun w' s3 I3 rw' => ⟨z, H, I3, rw', q⟩) hs
def rIxS : R2 := fun x y H Q => ∃ z i c, x = .str z ∧ y = .int i ∧ -(2 ^ 63 : Int) ≤ i ∧ i < 2 ^ 63 ∧ atI z.cps.toList i = some c ∧ Q (.str ⟨#[c]⟩) H
theorem ix_str : IxR X rIxS := by
  intro v sl p s σ H x y a b Q I rx ry ⟨z, i, c, ex, ey, h1, h2, hc, q⟩ hs
  subst ex ey
  obtain ⟨t, rfl⟩ := rx
  obtain ⟨t', rfl⟩ := ry
  obtain ⟨j, e1, e2, _⟩ := atI_get hc
  have e3 : seqIndex? i z.length = some j := by
    rw [← e1]
    show seqIndex? i z.cps.size = seqIndex? i z.cps.toList.length
    rw [Array.length_toList]
  exact tail_any (typeIs_str s z t) slot_str_getitem.lookup (getItem_str (c := c) (by
    rw [decide_eq_false (show ¬ i < -(2 ^ 63 : Int) by omega), decide_eq_false (show ¬ i ≥ 2 ^ 63 by omega)] <;> rfl) (by
    rw [e3]
    show z.cps[j]? = some c
    rw [← Array.getElem?_toList]
    exact e2) ⟨.str ⟨#[c]⟩, H, I.tok _, ⟨_, rfl⟩, q⟩) hs
def rIxs (K : PySem.W.Frag) : R2 := fun x y H Q => rIxL K x y H Q ∨ rIxT K x y H Q ∨ rIxS x y H Q ∨ rIxD x y H Q
theorem ix_all (hu : X.A.units + 1 < cLine) : IxR X (rIxs X.K) := ixr_or ix_list (ixr_or ix_tup (ixr_or ix_str (ix_dict hu)))
theorem Rvs.at {K : PySem.W.Frag} {F : Hp} {ds : List D} {vs : List V} {i : Int} {d : D} (r : Rvs K F ds vs) (h : atI ds i = some d) : ∃ v, atI vs i = some v ∧ Rv K F d v := by
  unfold atI at h ⊢
  rw [← r.len]
  cases e : ixN ds.length i with
  | none =>
    rw [e] at h
    cases h
  | some j =>
    rw [e] at h
    exact r.get h
theorem dget_ok {K : PySem.W.Frag} {F H : Hp} {d : D} {x : V} {y : D} {v : V} {o : Option D} (le : Same F H) (rd : RT K F H d x) (ry : RT K F H y v) (h : pGet d y = some o) :
    ∃ a u, x = .ref a ∧ DGet H a v u ∧ (∀ d, o = some d → ∃ w, u = some w ∧ Rv K F d w) ∧ (o = none → u = none) := by
  cases rd with
  | @dct a ks kvs hd rk =>
    simp only [pGet] at h
    cases hq : keyOf y with
    | none =>
      rw [hq] at h
      cases h
    | some q =>
      rw [hq] at h
      cases h
      obtain ⟨i1, i2⟩ := rks_look q rk
      exact ⟨a, _, rfl, .inl ⟨_, q, hd, rv_key (ry.rv (.of le) (key_ndct hq)) hq, rfl⟩, fun d e => i1 d e, fun e => i2 e⟩
  | @dctT a ks kvs hd rk =>
    simp only [pGet] at h
    cases hq : tkeyOf y with
    | none =>
      rw [hq] at h
      cases h
    | some q =>
      rw [hq] at h
      cases h
      obtain ⟨i1, i2⟩ := rts_look q rk
      cases ry with
      | @ktp b es vs hb rs =>
        have hes : keysOf es = some q := hq
        have ev := rvs_keys rs hes
        exact ⟨a, _, rfl, .inr ⟨_, q, b, hd, rfl, by rw [← ev]; exact le _ _ hb, rfl⟩, fun d e => i1 d e, fun e => i2 e⟩
      | _ => cases hq
  | _ => cases h
theorem gIx : Gives2 X.K (rIxs X.K) pIx := by
  intro F H d e c x y Q le rx ry h q
  have dct : ∀ (z : D), (pGet d e).bind id = some z → (∀ F' H' v, Grow F H F' H' → Rv X.K F' z v → Q v H') → rIxs X.K x y H Q := fun z hz qz => by
    cases ho : pGet d e with
    | none =>
      rw [ho] at hz
      cases hz
    | some o =>
      rw [ho] at hz
      have hz' : o = some z := hz
      obtain ⟨a, u, ex, g, h1, h2⟩ := dget_ok le rx ry ho
      obtain ⟨w, ew, rw'⟩ := h1 z hz'
      subst ew
      exact .inr (.inr (.inr ⟨a, w, ex, g, qz F H w (.refl le) rw'⟩))
  cases rx with
  | @lst a ds vs hs rs =>
    cases ry with
    | int i =>
      obtain ⟨v, h1, h2⟩ := rs.at h
      exact .inl ⟨a, vs, i, v, rfl, rfl, .of hs, h1, q F H v (.refl le) h2⟩
    | _ => cases h
  | @tup a ds vs hs rs =>
    cases ry with
    | int i =>
      obtain ⟨v, h1, h2⟩ := rs.at h
      exact .inr (.inl ⟨a, vs, i, v, rfl, rfl, (hs.same le).sq, h1, q F H v (.refl le) h2⟩)
    | _ => cases h
  | @ktp a ds vs hs rs =>
    cases ry with
    | int i =>
      obtain ⟨v, h1, h2⟩ := rs.at h
      exact .inr (.inl ⟨a, vs, i, v, rfl, rfl, .of (le _ _ hs), h1, q F H v (.refl le) h2⟩)
    | _ => cases h
  | @scr a ns hs =>
    cases ry with
    | int i =>
      simp only [pIx] at h
      cases hz : atI ns i with
      | none =>
        rw [hz] at h
        cases h
      | some z =>
        rw [hz] at h
        cases h
        refine .inl ⟨a, _, i, .int z, rfl, rfl, (Mono.of le).sl hs, ?_, q F H _ (.refl le) (.int z)⟩
        unfold atI at hz ⊢
        rw [List.length_map]
        cases e : ixN ns.length i with
        | none =>
          rw [e] at hz
          cases hz
        | some j =>
          rw [e] at hz
          have hz' : ns[j]? = some z := hz
          show (ns.map V.int)[j]? = some (.int z)
          rw [List.getElem?_map, hz']
          rfl
    | _ => cases h
  | @str s hs =>
    cases ry with
    | int i =>
      simp only [pIx] at h
      split at h
      · rename_i hb
        cases hz : atI s i with
        | none =>
          rw [hz] at h
          cases h
        | some z =>
          rw [hz] at h
          cases h
          refine .inr (.inr (.inl ⟨_, i, z, rfl, rfl, by omega, by omega, hz, q F H _ (.refl le) (.str fun c hc => ?_)⟩))
          obtain ⟨j, _, e2, _⟩ := atI_get hz
          cases hc with
          | head => exact hs _ (List.mem_of_getElem? e2)
          | tail _ h' => cases h'
      · cases h
    | _ => cases h
  | dct hd rk => exact dct c h q
  | dctT hd rk => exact dct c h q
  | _ => cases h

def pIn : D → D → Option D
  | d, .lst ds => if sh 8 d = true ∧ sh 9 (.lst ds) = true then some (.bl (ds.any fun z => eqD z d)) else none
  | d, .tup ds => if sh 0 d = true ∧ ds.all (sh 0) = true then some (.bl (ds.any fun z => eqD z d)) else none
  | .str s, .str t => if s.length = 1 then some (.bl (decide (∃ c ∈ t, s = [c]))) else none
  | y, .dct ks => (pGet (.dct ks) y).map fun o => .bl o.isSome
  | y, .dcu ks => (pGet (.dcu ks) y).map fun o => .bl o.isSome
  | _, _ => none
def pNotIn (d e : D) : Option D := match pIn d e with
  | some (.bl b) => some (.bl (!b))
  | _ => none
def rInDc (neg : Bool) : R2 := fun x y H Q => ∃ a o, y = .ref a ∧ DGet H a x o ∧ Q (.bl (if neg then !o.isSome else o.isSome)) H
theorem op_inDc (hu : X.A.units + 1 < cLine) : OpR X (compareOp .In) (rInDc false) := by
  intro p s σ H x y v u Q I rx ry ⟨a, o, ey, g, q⟩
  subst ey
  obtain rfl : u = Value.ref a := ry
  exact d_in hu I g rx fun s3 I3 => ⟨.bl o.isSome, H, I3, rfl, q⟩
theorem op_notInDc (hu : X.A.units + 1 < cLine) : OpR X (compareOp .NotIn) (rInDc true) := by
  intro p s σ H x y v u Q I rx ry ⟨a, o, ey, g, q⟩
  subst ey
  obtain rfl : u = Value.ref a := ry
  exact d_notIn hu I g rx fun s3 I3 => ⟨.bl (!o.isSome), H, I3, rfl, q⟩
def rIns (K : PySem.W.Frag) : R2 := fun x y H Q => rInD K x y H Q ∨ rIn K false x y H Q ∨ (∃ (c : Nat) (z : Str), x = .str ⟨#[c]⟩ ∧ y = .str z ∧ Q (.bl (decide (c ∈ z.cps.toList))) H) ∨ rInDc false x y H Q
def rNotIns (K : PySem.W.Frag) : R2 := fun x y H Q => rNotInD K x y H Q ∨ rIn K true x y H Q ∨ (∃ (c : Nat) (z : Str), x = .str ⟨#[c]⟩ ∧ y = .str z ∧ Q (.bl (!decide (c ∈ z.cps.toList))) H) ∨ rInDc true x y H Q
theorem op_ins (hu : X.A.units + 65 < cLine) : OpR X (compareOp .In) (rIns X.K) := (op_inD hu).or (op_in_seq.or (op_in_sign.or (op_inDc (by omega))))
theorem op_notIns (hu : X.A.units + 65 < cLine) : OpR X (compareOp .NotIn) (rNotIns X.K) := (op_notInD hu).or (op_notIn_seq.or (op_notIn_sign.or (op_notInDc (by omega))))
theorem eqD_flat {K : PySem.W.Frag} {F : Hp} {d e : D} {x y : V} (rx : Rv K F d x) (ry : Rv K F e y) (hx : sh 0 d = true) (hy : sh 0 e = true) : flatV x = true ∧ L2.eqV x y = eqD d e := by
  cases rx <;> first
    | (simp [sh] at hx; done)
    | (cases ry <;> first
        | (simp [sh] at hy; done)
        | (refine ⟨rfl, ?_⟩; simp [L2.eqV, eqD, toPy, PyData.eqv]; done))
theorem toStr_inj {s t : List Nat} (h : toStr s = toStr t) : s = t := by
  have h' : (toStr s).cps.toList = (toStr t).cps.toList := by rw [h]
  simpa [toStr] using h'
theorem flat_all {K : PySem.W.Frag} {F : Hp} {d : D} {x : V} (rx : Rv K F d x) (hx : sh 0 d = true) : ∀ {ds : List D} {vs : List V}, Rvs K F ds vs → ds.all (sh 0) = true → vs.all flatV = true ∧ inV x vs = ds.any fun z => eqD z d
  | _, _, .nil, _ => ⟨rfl, rfl⟩
  | _, _, .cons r t, h => by
    rw [List.all_cons, Bool.and_eq_true] at h
    obtain ⟨a, b⟩ := flat_all rx hx t h.2
    obtain ⟨c, e⟩ := eqD_flat r rx h.1 hx
    refine ⟨by rw [List.all_cons, c, a]; rfl, ?_⟩
    unfold inV at b ⊢
    rw [List.any_cons, List.any_cons, e, b]
theorem in_ok {F H : Hp} {d e c : D} {x y : V} (le : Same F H) (rx : RT X.K F H d x) (ry : RT X.K F H e y) (h : pIn d e = some c) : ∃ b, c = .bl b ∧ (∀ Q : VK, Q (.bl b) H → rIns X.K x y H Q) ∧ ∀ Q : VK, Q (.bl (!b)) H → rNotIns X.K x y H Q := by
  have dct : ∀ {o : Option D}, pGet e d = some o → (∀ Q : VK, Q (.bl o.isSome) H → rIns X.K x y H Q) ∧ ∀ Q : VK, Q (.bl (!o.isSome)) H → rNotIns X.K x y H Q := fun {o} ho => by
    obtain ⟨a, u, ey, g, h1, h2⟩ := dget_ok le ry rx ho
    have eo : u.isSome = o.isSome := by
      cases o with
      | none => rw [h2 rfl]; rfl
      | some z =>
        obtain ⟨w, ew, _⟩ := h1 z rfl
        rw [ew]
        rfl
    refine ⟨fun Q q => .inr (.inr (.inr ⟨a, u, ey, g, ?_⟩)), fun Q q => .inr (.inr (.inr ⟨a, u, ey, g, ?_⟩))⟩
    · rw [eo]
      exact q
    · rw [eo]
      exact q
  cases ry with
  | @lst a ds vs hs rs =>
    have h' : (if sh 8 d = true ∧ sh 9 (.lst ds) = true then some (D.bl (ds.any fun z => eqD z d)) else none) = some c := by
      cases d <;> exact h
    split at h'
    · rename_i hc
      cases h'
      obtain ⟨a1, a2⟩ := (rx.rv (.of le) (sh_ndct hc.1)).shaped (by
        have := hc.1
        exact sh_mono (by decide) this)
      obtain ⟨b1, b2⟩ := (RT.rv (.of le) (.lst hs rs : RT X.K F H (.lst ds) (.ref a)) rfl).shaped hc.2
      have e1 : (ds.any fun z => eqD z d) = (toPys ds).any fun z => PyData.eqv z (toPy d) := by
        rw [toPys_map, List.any_map]
        rfl
      refine ⟨_, rfl, fun Q q => .inl ⟨_, _, a1, b1, a2, b2, ?_⟩, fun Q q => .inl ⟨_, _, a1, b1, a2, b2, ?_⟩⟩
      · rw [← e1]
        exact q
      · rw [← e1]
        exact q
    · cases h'
  | @tup a ds vs hs rs =>
    have h' : (if sh 0 d = true ∧ ds.all (sh 0) = true then some (D.bl (ds.any fun z => eqD z d)) else none) = some c := by
      cases d <;> exact h
    split at h'
    · rename_i hc
      cases h'
      have rx' := rx.rv (.of le) (sh_ndct hc.1)
      have rs' := rs.mono (.of le)
      obtain ⟨a1, a2⟩ := flat_all rx' hc.1 rs' hc.2
      obtain ⟨f1, _⟩ := eqD_flat rx' rx' hc.1 hc.1
      refine ⟨_, rfl, fun Q q => .inr (.inl ⟨a, vs, rfl, .inr (hs.same le).sq, f1, a1, ?_⟩), fun Q q => .inr (.inl ⟨a, vs, rfl, .inr (hs.same le).sq, f1, a1, ?_⟩)⟩
      · rw [a2]
        exact q
      · rw [a2]
        exact q
    · cases h'
  | @str t ht =>
    cases rx with
    | @str s hs =>
      simp only [pIn] at h
      split at h
      · rename_i hl
        cases h
        obtain ⟨k, rfl⟩ : ∃ k, s = [k] := by
          match s, hl with
          | [k], _ => exact ⟨k, rfl⟩
        have e1 : decide (∃ c ∈ t, [k] = [c]) = decide (k ∈ (toStr t).cps.toList) := by
          apply decide_eq_decide.mpr
          show _ ↔ k ∈ t
          exact ⟨fun ⟨c, h1, h2⟩ => by
            cases h2
            exact h1, fun h => ⟨k, h, rfl⟩⟩
        refine ⟨_, rfl, fun Q q => .inr (.inr (.inl ⟨k, toStr t, rfl, rfl, ?_⟩)), fun Q q => .inr (.inr (.inl ⟨k, toStr t, rfl, rfl, ?_⟩))⟩
        · rw [← e1]
          exact q
        · rw [← e1]
          exact q
      · cases h
    | _ => cases h
  | dct hd rk =>
    rename_i ks kvs
    have h' : (pGet (.dct ks) d).map (fun o => D.bl o.isSome) = some c := by
      cases d <;> exact h
    cases ho : pGet (.dct ks) d with
    | none =>
      rw [ho] at h'
      cases h'
    | some o =>
      rw [ho] at h'
      cases h'
      exact ⟨_, rfl, dct ho⟩
  | dctT hd rk =>
    rename_i ks kvs
    have h' : (pGet (.dcu ks) d).map (fun o => D.bl o.isSome) = some c := by
      cases d <;> exact h
    cases ho : pGet (.dcu ks) d with
    | none =>
      rw [ho] at h'
      cases h'
    | some o =>
      rw [ho] at h'
      cases h'
      exact ⟨_, rfl, dct ho⟩
  | _ => cases d <;> cases h
theorem gIn : Gives2 X.K (rIns X.K) pIn := by
  intro F H d e c x y Q le rx ry h q
  obtain ⟨b, rfl, h1, _⟩ := in_ok le rx ry h
  exact h1 Q (q F H _ (.refl le) (.bl b))
theorem gNotIn : Gives2 X.K (rNotIns X.K) pNotIn := by
  intro F H d e c x y Q le rx ry h q
  unfold pNotIn at h
  split at h
  · rename_i b hb
    cases h
    obtain ⟨b', e1, _, h2⟩ := in_ok le rx ry hb
    cases e1
    exact h2 Q (q F H _ (.refl le) (.bl _))
  · cases h
end
end DL

namespace DL
open PySem PySem.Spec PyProof.Rows L2

def cutL {α : Type} (xs : List α) (lo hi : Option Int) : List α := (xs.drop (HT.sIx xs.length 0 lo)).take (HT.sIx xs.length xs.length hi - HT.sIx xs.length 0 lo)
def pSl (d : D) (lo hi : Option Int) : Option D := match d with
  | .lst ds => some (.lst (cutL ds lo hi))
  | .tup ds => some (.tup (cutL ds lo hi))
  | .str s => if s.length ≤ 1000000 then some (.str (cutL s lo hi)) else none
  | _ => none
abbrev OM := Ev → Store → Out (Option Int)
abbrev rO : Hp → List Addr → Option Int → Option Int → Prop := fun _ _ a b => a = b
def DO (cl : Nat → Addr) (X : Cx) (e : Option Expr) (m : OM) : Prop := ∀ W, Takes X W → PO X e (tG X.K cl W rO m)
def oNone : OM := fun _ S => .ok none S
def oSome (m : EM) : OM := fun ρ S => (m ρ S).bind fun x S1 => match x with
  | .dat (.int i) => .ok (some i) S1
  | _ => .bad
def eSl (m : EM) (lo hi : OM) : EM := fun ρ S => (m ρ S).bind fun x S1 => (lo ρ S1).bind fun l S2 => (hi ρ S2).bind fun h S3 => match deref S3 x with
  | some d => (match pSl d l h with
    | some c => .ok (.dat c) S3
    | none => .bad)
  | none => .bad
section
variable {X : Cx} {cl : Nat → Addr} {cs : CS} {e o : Expr} {me mo : EM} {ml mh : OM} {lo hi : Option Expr} {pos p2 apos cpos : Pos} {es : List Expr} {ms : AM}
theorem po_imp {e : Option Expr} {t t' : TO} (h : PO X e t) (i : ∀ σ H Q, t' σ H Q → t σ H Q) : PO X e t' := ⟨fun p s σ H Q I q => h.run p s σ H Q I (i σ H Q q)⟩
theorem do_none : DO cl X none oNone := fun W _ => po_imp po_none fun σ H Q ⟨gh, F, φ, ρ, S, r, p⟩ => p _ F φ H (.refl F φ) r rfl
theorem do_some (h : DE cl X e me) : DO cl X (some e) (oSome me) := fun W tk => po_imp (po_some (h W tk)) fun σ H Q ⟨gh, F, φ, ρ, S, rp, p⟩ => by
  refine (tG_bind (R := rV X.K) (R2' := rO) (m := me) rp p).imp fun v H1 ⟨x, S1, F1, φ1, x1, r1, q1, p1⟩ => ?_
  split at p1
  · rename_i i
    cases q1 with
    | dat q1 =>
      cases q1
      exact ⟨_, rfl, p1 _ F1 φ1 H1 (.refl F1 φ1) r1 rfl⟩
  · exact p1.elim
def rSls (K : PySem.W.Frag) : V → Option Int → Option Int → Hp → VK → Prop := fun x lo hi H Q => rSlL K x lo hi H Q ∨ rSlX K x lo hi H Q ∨ rSlS x lo hi H Q
theorem sl_all : SlR X (rSls X.K) := sl_list.or (sl_tupX.or sl_str)
theorem Rvs.cutL {K : PySem.W.Frag} {F : Hp} {ds : List D} {vs : List V} (r : Rvs K F ds vs) (lo hi : Option Int) : Rvs K F (cutL ds lo hi) (cutV vs lo hi) := by
  unfold DL.cutL L2.cutV
  rw [r.len]
  exact (r.drop _).take _
theorem cutL_mem {α : Type} {xs : List α} {lo hi : Option Int} {x : α} (h : x ∈ cutL xs lo hi) : x ∈ xs := List.mem_of_mem_drop (List.mem_of_mem_take h)
theorem sl_ok {F H : Hp} {d c : D} {x : V} {lo hi : Option Int} {Q : VK} (le : Same F H) (rx : RT X.K F H d x) (h : pSl d lo hi = some c) (q : ∀ F' H' v, Grow F H F' H' → Rv X.K F' c v → Q v H') : rSls X.K x lo hi H Q := by
  cases rx with
  | @lst a ds vs hs rs =>
    cases h
    refine .inl ⟨a, vs, rfl, .of hs, fun p hp => ?_⟩
    have g := Grow.new le (.lst (cutV vs lo hi)) hp
    exact q _ _ _ g (.lst upd_same ((rs.cutL lo hi).mono (.of g.s)))
  | @tup a ds vs hs rs =>
    cases h
    refine .inr (.inl ⟨a, vs, rfl, (hs.same le).sq, fun e => ?_, fun _ p ob hp hd => ?_⟩)
    · obtain ⟨e1, e2⟩ := e
      have e3 : DL.cutL ds lo hi = ds := by
        unfold DL.cutL
        rw [← rs.len] at e1 e2
        rw [e1, e2, List.drop_zero, Nat.sub_zero, List.take_length]
      rw [e3] at q
      exact q F H _ (.refl le) (.tup hs rs)
    · have g := Grow.new le (.frz ob (.tup (cutV vs lo hi))) hp
      exact q _ _ _ g (.tup (.new hd) ((rs.cutL lo hi).mono (.of g.s)))
  | @str s hs =>
    simp only [pSl] at h
    split at h
    · rename_i hl
      cases h
      refine .inr (.inr ⟨_, rfl, by rw [toStr_len]; exact line_of hl, ?_⟩)
      have e1 : L2.cutS (toStr s) lo hi = toStr (DL.cutL s lo hi) := by
        unfold L2.cutS DL.cutL
        rw [toStr_len]
        rfl
      rw [e1]
      exact q F H _ (.refl le) (.str fun c hc => hs c (cutL_mem hc))
    · cases h
  | _ => cases h
theorem de_slice (he : DE cl X e me) (hl : DO cl X lo ml) (hh : DO cl X hi mh) : DE cl X (.Subscript e (.Slice lo hi none p2) pos) (eSl me ml mh) := fun W tk =>
  pe_imp (pe_slice sl_all (he W tk) (hl W tk) (hh W tk)) fun σ H Q ⟨gh, F, φ, ρ, S, rp, p⟩ => by
    refine (tG_bind (R := rV X.K) rp p).imp fun v H1 ⟨x, S1, F1, φ1, x1, r1, q1, p1⟩ => ?_
    refine (tG_bind (R := rO) (R2' := rV X.K) (m := ml) r1 p1).imp fun l H2 ⟨x2, S2, F2, φ2, y2, r2, q2, p2⟩ => ?_
    refine (tG_bind (R := rO) (R2' := rV X.K) (m := mh) r2 p2).imp fun u H3 ⟨x3, S3, F3, φ3, y3, r3, q3, p3⟩ => ?_
    subst q2 q3
    split at p3
    · rename_i d hd
      split at p3
      · rename_i c hc
        exact sl_ok r3.b.le (deref_ok r3.b ((y2.trans y3).rv q1) hd) hc fun F' H' w gr rw' => p3 w F' φ3 H' (gr.ext φ3) (r3.grow gr) (.dat rw')
      · exact p3.elim
    · exact p3.elim

def pOne (g : D → Option D) : List D → Option D
  | [d] => g d
  | _ => none
def pTwo (g : D → D → Option D) : List D → Option D
  | [d, e] => g d e
  | _ => none
theorem RTs.one {K : PySem.W.Frag} {F H : Hp} {d : D} {xs : List V} (r : RTs K F H [d] xs) : ∃ x, xs = [x] ∧ RT K F H d x := by
  cases r with
  | cons r t =>
    cases t
    exact ⟨_, rfl, r⟩
theorem RTs.two {K : PySem.W.Frag} {F H : Hp} {d e : D} {xs : List V} (r : RTs K F H [d, e] xs) : ∃ x y, xs = [x, y] ∧ RT K F H d x ∧ RT K F H e y := by
  cases r with
  | cons r t =>
    obtain ⟨y, rfl, r2⟩ := t.one
    exact ⟨_, _, rfl, r, r2⟩
theorem gives_one {K : PySem.W.Frag} {r : List V → Hp → VK → Prop} {g : D → Option D} (h : Gives1 K (fun x H Q => r [x] H Q) g) : GivesN K r (pOne g) := by
  intro F H ds c xs Q le rx hg q
  unfold pOne at hg
  split at hg
  · obtain ⟨x, rfl, r1⟩ := rx.one
    exact h F H _ c x Q le r1 hg q
  · cases hg
theorem gives_two {K : PySem.W.Frag} {r : List V → Hp → VK → Prop} {g : D → D → Option D} (h : Gives2 K (fun x y H Q => r [x, y] H Q) g) : GivesN K r (pTwo g) := by
  intro F H ds c xs Q le rx hg q
  unfold pTwo at hg
  split at hg
  · obtain ⟨x, y, rfl, r1, r2⟩ := rx.two
    exact h F H _ _ c x y Q le r1 r2 hg q
  · cases hg
def pLen : D → Option D
  | .lst ds => some (.int ds.length)
  | .tup ds => some (.int ds.length)
  | .ktp ds => some (.int ds.length)
  | .str s => if s.length ≤ 1000000 then some (.int s.length) else none
  | .scr ns => some (.int ns.length)
  | _ => none
theorem gLen : GivesN X.K (fun xs H Q => ∃ x n, xs = [x] ∧ LenV X.K x H n ∧ Q (.int n) H) (pOne pLen) := gives_one fun F H d c x Q le r h q => by
  cases r with
  | @lst a es vs hs rs =>
    cases h
    exact ⟨_, _, rfl, .inl ⟨vs, .of hs, rs.len⟩, q F H _ (.refl le) (.int _)⟩
  | @tup a es vs hs rs =>
    cases h
    exact ⟨_, _, rfl, .inr ⟨vs, (hs.same le).sq, rs.len⟩, q F H _ (.refl le) (.int _)⟩
  | @ktp a es vs hs rs =>
    cases h
    exact ⟨_, _, rfl, .inr ⟨vs, .of (le _ _ hs), rs.len⟩, q F H _ (.refl le) (.int _)⟩
  | @scr a ns hs =>
    cases h
    exact ⟨_, _, rfl, .inl ⟨_, (Mono.of le).sl hs, by rw [List.length_map]⟩, q F H _ (.refl le) (.int _)⟩
  | @str s hs =>
    simp only [pLen] at h
    split at h
    · rename_i hl
      cases h
      exact ⟨_, s.length, rfl, ⟨by rw [toStr_len]; exact line_of hl, by rw [toStr_len]⟩, q F H _ (.refl le) (.int _)⟩
    · cases h
  | _ => cases h
def pMax2 : D → D → Option D
  | .int i, .int j => some (.int (if j > i then j else i))
  | _, _ => none
def pMin2 : D → D → Option D
  | .int i, .int j => some (.int (if j < i then j else i))
  | _, _ => none
theorem gMax2 : GivesN X.K (fun xs H Q => ∃ i j, xs = [.int i, .int j] ∧ Q (.int (if j > i then j else i)) H) (pTwo pMax2) := gives_two fun F H d e c x y Q le rx ry h q => by
  cases rx with
  | int i =>
    cases ry with
    | int j =>
      cases h
      exact ⟨_, _, rfl, q F H _ (.refl le) (.int _)⟩
    | _ => cases h
  | _ => cases h
theorem gMin2 : GivesN X.K (fun xs H Q => ∃ i j, xs = [.int i, .int j] ∧ Q (.int (if j < i then j else i)) H) (pTwo pMin2) := gives_two fun F H d e c x y Q le rx ry h q => by
  cases rx with
  | int i =>
    cases ry with
    | int j =>
      cases h
      exact ⟨_, _, rfl, q F H _ (.refl le) (.int _)⟩
    | _ => cases h
  | _ => cases h
def boolsOf : List D → Option (List Bool)
  | [] => some []
  | .bl b :: r => match boolsOf r with
    | some bs => some (b :: bs)
    | none => none
  | _ :: _ => none
def intsOf : List D → Option (List Int)
  | [] => some []
  | .int b :: r => match intsOf r with
    | some bs => some (b :: bs)
    | none => none
  | _ :: _ => none
theorem rvs_bools {K : PySem.W.Frag} {F : Hp} : ∀ {ds : List D} {vs : List V} {bs : List Bool}, Rvs K F ds vs → boolsOf ds = some bs → vs = bs.map V.bl
  | [], _, _, .nil, h => by
    cases h
    rfl
  | d :: ds, _, bs, .cons r t, h => by
    cases r <;> first
      | (cases h; done)
      | (simp only [boolsOf] at h
         split at h
         · rename_i bs' h'
           cases h
           rw [rvs_bools t h']
           rfl
         · cases h)
theorem rvs_ints {K : PySem.W.Frag} {F : Hp} : ∀ {ds : List D} {vs : List V} {bs : List Int}, Rvs K F ds vs → intsOf ds = some bs → vs = bs.map V.int
  | [], _, _, .nil, h => by
    cases h
    rfl
  | d :: ds, _, bs, .cons r t, h => by
    cases r <;> first
      | (cases h; done)
      | (simp only [intsOf] at h
         split at h
         · rename_i bs' h'
           cases h
           rw [rvs_ints t h']
           rfl
         · cases h)
def pAll : D → Option D
  | .lst ds => (boolsOf ds).map fun bs => .bl (bs.all id)
  | _ => none
def pAny : D → Option D
  | .lst ds => (boolsOf ds).map fun bs => .bl (bs.any id)
  | _ => none
def pSum : D → Option D
  | .lst ds => (intsOf ds).map fun bs => .int bs.sum
  | _ => none
theorem gAll : GivesN X.K (rAll X.K) (pOne pAll) := gives_one fun F H d c x Q le r h q => by
    cases r with
    | @lst a es vs hs rs =>
      simp only [pAll] at h
      cases hb : boolsOf es with
      | none =>
        rw [hb] at h
        cases h
      | some bs =>
        rw [hb] at h
        cases h
        have ev := rvs_bools rs hb
        subst ev
        exact ⟨a, bs, rfl, .of hs, q F H _ (.refl le) (.bl _)⟩
    | _ => cases h
theorem gAny : GivesN X.K (rAny X.K) (pOne pAny) := gives_one fun F H d c x Q le r h q => by
    cases r with
    | @lst a es vs hs rs =>
      simp only [pAny] at h
      cases hb : boolsOf es with
      | none =>
        rw [hb] at h
        cases h
      | some bs =>
        rw [hb] at h
        cases h
        have ev := rvs_bools rs hb
        subst ev
        exact ⟨a, bs, rfl, .of hs, q F H _ (.refl le) (.bl _)⟩
    | _ => cases h
theorem gSum : GivesN X.K (rSum X.K) (pOne pSum) := gives_one fun F H d c x Q le r h q => by
    cases r with
    | @lst a es vs hs rs =>
      simp only [pSum] at h
      cases hb : intsOf es with
      | none =>
        rw [hb] at h
        cases h
      | some bs =>
        rw [hb] at h
        cases h
        have ev := rvs_ints rs hb
        subst ev
        exact ⟨a, bs, rfl, .of hs, q F H _ (.refl le) (.int _)⟩
    | _ => cases h
def pTuple : D → Option D
  | .lst ds => some (.tup ds)
  | .tup ds => some (.tup ds)
  | _ => none
theorem gTuple : GivesN X.K (rTupleX X.K) (pOne pTuple) := gives_one fun F H d c x Q le r h q => by
    cases r with
    | @lst a es vs hs rs =>
      cases h
      refine ⟨a, vs, rfl, .inl ⟨.of hs, fun p ob hp hd => ?_⟩⟩
      have g := Grow.new le (.frz ob (.tup vs)) hp
      exact q _ _ _ g (.tup (.new hd) (rs.mono (.of g.s)))
    | @tup a es vs hs rs =>
      cases h
      exact ⟨a, vs, rfl, .inr ⟨(hs.same le).sq, q F H _ (.refl le) (.tup hs rs)⟩⟩
    | _ => cases h
def pList : D → Option D
  | .lst ds => some (.lst ds)
  | .tup ds => some (.lst ds)
  | .ktp ds => some (.lst ds)
  | _ => none
theorem gList : GivesN X.K (fun xs H Q => ∃ p ys, xs = [.ref p] ∧ (SqL X.K H p ys ∨ SqT X.K H p ys) ∧ ∀ l, H l = none → Q (.ref l) (upd H l (.lst ys))) (pOne pList) := gives_one fun F H d c x Q le r h q => by
    cases r with
    | @lst a es vs hs rs =>
      cases h
      refine ⟨a, vs, rfl, .inl (.of hs), fun p hp => ?_⟩
      have g := Grow.new le (.lst vs) hp
      exact q _ _ _ g (.lst upd_same (rs.mono (.of g.s)))
    | @tup a es vs hs rs =>
      cases h
      refine ⟨a, vs, rfl, .inr (hs.same le).sq, fun p hp => ?_⟩
      have g := Grow.new le (.lst vs) hp
      exact q _ _ _ g (.lst upd_same (rs.mono (.of g.s)))
    | @ktp a es vs hs rs =>
      cases h
      refine ⟨a, vs, rfl, .inr (.of (le _ _ hs)), fun p hp => ?_⟩
      have g := Grow.new le (.lst vs) hp
      exact q _ _ _ g (.lst upd_same (rs.mono (.of g.s)))
    | _ => cases h

def tyName : D → Option String
  | .non => some "NoneType"
  | .bl _ => some "bool"
  | .int _ => some "int"
  | .str _ => some "str"
  | .tup _ => some "tuple"
  | .ktp _ => some "tuple"
  | .lst _ => some "list"
  | .dct _ => some "dict"
  | _ => none
def pIsI (T : String) (d : D) : Option D := match tyName d with
  | some t => (kitB t T).map .bl
  | none => none
theorem ty_ok {F H : Hp} {d : D} {x : V} {t : String} (rx : RT X.K F H d x) (le : Same F H) (h : tyName d = some t) : TyX X.K H x (.type t) := by
  cases rx with
  | non =>
    cases h
    exact .base .non
  | bl b =>
    cases h
    exact .base (.bl b)
  | int i =>
    cases h
    exact .base (.int i)
  | str hs =>
    cases h
    exact .base (.str _)
  | tup hs rs =>
    cases h
    obtain ⟨ob, hs, _⟩ := hs
    exact .fTuple (le _ _ hs)
  | ktp hs rs =>
    cases h
    exact .base (.tup (le _ _ hs))
  | lst hs rs =>
    cases h
    exact .base (.lst hs)
  | dct hd rk =>
    cases h
    rcases hd with hd | ⟨o, hd⟩
    · exact .base (.dK hd)
    · exact .fDict hd
  | dctT hd rk => cases h
  | scr hs => cases h
theorem de_isi {p q : Pos} {T : Str} {n : String} (hm : X.mg "isinstance" = none) (hm2 : X.mg T = none) (hv2 : bootBuiltins T = some (.type n)) (ha : DE cl X e me) (hg : Gl X "isinstance" := by rfl) (hg2 : Gl X T := by rfl)
    (hv : bootBuiltins "isinstance" = some (.builtin "isinstance") := by decide +kernel) (hn : T ≠ "__name__" := by decide) (hdb : (T == ("__debug__" : Str)) = false := by decide)
    (he : starEach (e :: [.Name T q]) X.env = (false, eval e X.env) :: starEach [.Name T q] X.env := by rfl) (he2 : starEach [.Name T q] X.env = (false, eval (.Name T q) X.env) :: starEach [] X.env := by rfl) (hpl : (backTo pos (starEach [.Name T q] X.env)).any (·.1) = false := by rfl) :
    DE cl X (.Call (.Name "isinstance" p) [e, .Name T q] [] pos) (eOp1 (pIsI n) me) := fun W tk =>
  pe_imp (pe_callB call_isi hg hm hv (pa_cons (ha W tk) (pa_cons (pe_bltn (v := .ty n) hg2 hm2 hv2 rfl hn hdb) pa_nil he2) he) (by decide) (by decide) he hpl) fun σ H Q ⟨gh, F, φ, ρ, S, rp, p⟩ => by
    refine (tG_bind (R := rV X.K) rp p).imp fun v H1 ⟨x, S1, F1, φ1, x1, r1, q1, p1⟩ => ?_
    simp only [op1] at p1
    split at p1
    · rename_i d hd
      split at p1
      · rename_i c hc
        unfold pIsI at hc
        split at hc
        · rename_i t ht
          cases hk : kitB t n with
          | none =>
            rw [hk] at hc
            cases hc
          | some b =>
            rw [hk] at hc
            cases hc
            exact ⟨v, .ty n, .type t, .type n, b, rfl, .ty n, ty_ok (deref_ok r1.b q1 hd) r1.b.le ht, kit_ty hk, p1 _ F1 φ1 H1 (.refl F1 φ1) r1 (.dat (.bl b))⟩
        · cases hc
      · exact p1.elim
    · exact p1.elim

def GivesM (K : PySem.W.Frag) (T : String) (r : V → List V → Hp → VK → Prop) (g : D → List D → Option D) : Prop := ∀ (F H : Hp) (d c : D) (ds : List D) (x : V) (xs : List V) (Q : VK), Same F H → RT K F H d x → RTs K F H ds xs → g d ds = some c →
  (∀ F' H' v, Grow F H F' H' → Rv K F' c v → Q v H') → r x xs H Q
def tyD (T : String) : D → Bool
  | .str _ => T == "str"
  | .lst _ => T == "list"
  | .scr _ => T == "list"
  | _ => false
theorem tyD_ok {F H : Hp} {d : D} {x : V} {T : String} (rx : RT X.K F H d x) (le : Same F H) (h : tyD T d = true) : tyV X.K T x H := by
  cases rx with
  | str hs =>
    have e : T = "str" := by simpa [tyD] using h
    exact e
  | lst hs rs =>
    have e : T = "list" := by simpa [tyD] using h
    exact .inl ⟨e, _, .of hs⟩
  | scr hs =>
    have e : T = "list" := by simpa [tyD] using h
    exact .inl ⟨e, _, (Mono.of le).sl hs⟩
  | _ => simp [tyD] at h
def eMeth (T : String) (g : D → List D → Option D) (mo : EM) (ms : AM) : EM := fun ρ S => (mo ρ S).bind fun x S1 => match deref S1 x with
  | some d0 => if tyD T d0 = true then (ms ρ S1).bind fun xs S2 => (match deref S2 x, derefs S2 xs with
      | some d, some ds => (match g d ds with
        | some c => .ok (.dat c) S2
        | none => .bad)
      | _, _ => .bad) else .bad
  | none => .bad
theorem de_meth {T id : String} {name : Str} {r : V → List V → Hp → VK → Prop} {g : D → List D → Option D} (pa : PlainAttrs T) (slot : Slot T name id) (hty : typeOf (.builtin id) = pure (.type "method_descriptor")) (hm : MtR X id r) (gv : GivesM X.K T r g)
    (ho : DE cl X o mo) (ha : DAs cl X (e :: es) ms) (hbase : attributeBase o name X.env (eval o X.env) = eval o X.env := by rfl)
    (hfew : ((backTo cpos (starEach (e :: es) X.env)).all (fun x => !x.1) && (backToKw cpos (keywordEach [] X.env)).all (fun x => x.1.isSome)
      && decide ((e :: es).length + ([] : List Keyword).length + (if ([] : List Keyword).isEmpty then 0 else 1) < 30)) = true := by rfl)
    (hline : (apos.endLine == cpos.line) = true := by rfl) (hs : starEach (e :: es) X.env = (false, eval e X.env) :: starEach es X.env := by rfl) (hplain : (backTo cpos (starEach es X.env)).any (·.1) = false := by rfl) :
    DE cl X (.Call (.Attribute o name apos) (e :: es) [] cpos) (eMeth T g mo ms) := fun W tk =>
  pe_imp (pe_bm pa slot hty hm (ho W tk) (ha W tk) hbase hfew hline hs hplain) fun σ H Q ⟨gh, F, φ, ρ, S, rp, p⟩ => by
    refine (tG_bind (R := rV X.K) rp p).imp fun v H1 ⟨x, S1, F1, φ1, x1, r1, q1, p1⟩ => ?_
    split at p1
    · rename_i d0 hd0
      split at p1
      · rename_i ht
        refine ⟨tyD_ok (deref_ok r1.b q1 hd0) r1.b.le ht, (tG_bind (R := rVs X.K) r1 p1).imp fun vs H2 ⟨xs, S2, F2, φ2, x2, r2, q2, p2⟩ => ?_⟩
        split at p2
        · rename_i d ds hd hds
          split at p2
          · rename_i c hc
            exact gv F2 H2 d c ds v vs Q r2.b.le (deref_ok r2.b (x2.rv q1) hd) (derefs_ok r2.b q2 hds) hc fun F' H' w gr rw' => p2 w F' φ2 H' (gr.ext φ2) (r2.grow gr) (.dat rw')
          · exact p2.elim
        · exact p2.elim
      · exact p1.elim
    · exact p1.elim
end
end DL

namespace DL
open PySem PySem.Spec PyProof.Rows L2

theorem nd_ix {α : Type} {l : List α} (h : l.Nodup) {i j : Nat} {a : α} (e : l[i]? = some a) (e' : l[j]? = some a) : i = j := by
  obtain ⟨h1, e1⟩ := List.getElem?_eq_some_iff.mp e
  obtain ⟨h2, e2⟩ := List.getElem?_eq_some_iff.mp e'
  exact (List.getElem_inj h).mp (e1.trans e2.symm)
section
variable {K : PySem.W.Frag} {cs : CS} {F H : Hp} {φ : List Addr} {S : Store} {ρ : Ev} {σ : St}
theorem Base.setCell {i : Nat} {a : Addr} {c c' : Cell} {o : HO} (b : Base K cs F φ S H) (hφ : φ[i]? = some a) (hc : S[i]? = some c) (hl : c ≠ .dead) (new : CellOk K cs F φ (upd H a o) a c') : Base K cs F φ (S.set i c') (upd H a o) := by
  have ha : F a = none := b.own i c a hc hφ hl
  have kF : ∀ x u, F x = some u → x ≠ a := fun x u e z => by
    rw [z, ha] at e
    cases e
  have kG : ∀ p ∈ cs.gh, p.1 ≠ a := fun p hp z => (b.gho p hp).2.2 (z ▸ List.mem_of_getElem? hφ)
  refine ⟨fun x u e => by rw [upd_ne (kF x u e)]; exact b.le _ _ e, by rw [List.length_set, b.len], b.nd, fun x hx => ?_, fun j d x h1 h2 => ?_, fun j d x h1 h2 h3 => ?_, fun p hp => ?_⟩
  · by_cases e : x = a
    · subst e
      exact ⟨o, upd_same⟩
    · rw [upd_ne e]
      exact b.there x hx
  · by_cases hj : i = j
    · subst hj
      have hx : x = a := Option.some.inj (h2.symm.trans hφ)
      subst hx
      rw [List.getElem?_set_self (List.getElem?_eq_some_iff.mp hc).1] at h1
      cases h1
      exact new
    · rw [List.getElem?_set_ne hj] at h1
      have hx : x ≠ a := fun e => by
        subst e
        exact hj (nd_ix b.nd hφ h2)
      exact (b.cell j d x h1 h2).mono (.refl F) (List.prefix_refl _) fun o e => by rw [upd_ne hx]; exact e
  · by_cases hj : i = j
    · subst hj
      have hx : x = a := Option.some.inj (h2.symm.trans hφ)
      subst hx
      exact ha
    · rw [List.getElem?_set_ne hj] at h1
      exact b.own j d x h1 h2 h3
  · obtain ⟨g1, g2, g3⟩ := b.gho p hp
    refine ⟨?_, g2, g3⟩
    rw [upd_ne (kG p hp)]
    exact g1
theorem Rep.setCell {i : Nat} {a : Addr} {c c' : Cell} {o : HO} (r : Rep K cs F φ ρ S σ H) (hφ : φ[i]? = some a) (hc : S[i]? = some c) (hl : c ≠ .dead) (new : CellOk K cs F φ (upd H a o) a c') : Rep K cs F φ ρ (S.set i c') σ (upd H a o) := ⟨r.b.setCell hφ hc hl new, r.e⟩
/-- a new place -/
theorem Base.push {p : Addr} {c : Cell} {o : HO} (b : Base K cs F φ S H) (hp : H p = none) (new : CellOk K cs F (φ ++ [p]) (upd H p o) p c) : Base K cs F (φ ++ [p]) (S ++ [c]) (upd H p o) := by
  have hφ : p ∉ φ := fun h => by
    obtain ⟨u, e⟩ := b.there p h
    rw [hp] at e
    cases e
  have k : Same H (upd H p o) := same_upd hp
  refine ⟨b.le.trans k, by rw [List.length_append, List.length_append, b.len]; rfl, ?_, fun a ha => ?_, fun i d a h1 h2 => ?_, fun i d a h1 h2 h3 => ?_, fun q hq => ?_⟩
  · rw [List.nodup_append]
    refine ⟨b.nd, by simp, fun x hx y hy e => ?_⟩
    have hy' : y = p := by simpa using hy
    subst hy' e
    exact hφ hx
  · rcases List.mem_append.mp ha with ha | ha
    · obtain ⟨u, e⟩ := b.there a ha
      exact ⟨u, k _ _ e⟩
    · have e : a = p := by simpa using ha
      subst e
      exact ⟨o, upd_same⟩
  · by_cases hi : i < S.length
    · rw [List.getElem?_append_left hi] at h1
      rw [List.getElem?_append_left (by rw [b.len]; exact hi)] at h2
      exact (b.cell i d a h1 h2).mono (.refl F) ⟨[p], rfl⟩ fun o e => k _ _ e
    · rw [List.getElem?_append_right (by omega)] at h1
      rw [List.getElem?_append_right (by rw [b.len]; omega), b.len] at h2
      have hi0 : i - S.length = 0 := by
        have := (List.getElem?_eq_some_iff.mp h1).1
        simp at this
        omega
      rw [hi0] at h1 h2
      cases h1
      cases h2
      exact new
  · by_cases hi : i < S.length
    · rw [List.getElem?_append_left hi] at h1
      rw [List.getElem?_append_left (by rw [b.len]; exact hi)] at h2
      exact b.own i d a h1 h2 h3
    · rw [List.getElem?_append_right (by rw [b.len]; omega), b.len] at h2
      have hi0 : i - S.length = 0 := by
        have := (List.getElem?_eq_some_iff.mp h2).1
        simp at this
        omega
      rw [hi0] at h2
      cases h2
      exact b.le.free hp
  · obtain ⟨g1, g2, g3⟩ := b.gho q hq
    refine ⟨k _ _ g1, g2, fun hm => ?_⟩
    rcases List.mem_append.mp hm with hm | hm
    · exact g3 hm
    · have e : q.1 = p := by simpa using hm
      rw [e, hp] at g1
      cases g1
/-- a dead place's object is known from here on -/
theorem Base.adopt {i : Nat} {a : Addr} {o : HO} (b : Base K cs F φ S H) (hφ : φ[i]? = some a) (hc : S[i]? = some .dead) (ha : F a = none) (ho : H a = some o) : Base K cs (upd F a o) φ S H ∧ Same F (upd F a o) := by
  have s : Same F (upd F a o) := same_upd ha
  refine ⟨⟨fun x u e => ?_, b.len, b.nd, b.there, fun j d x h1 h2 => (b.cell j d x h1 h2).mono (.of s) (List.prefix_refl _) fun _ e => e, fun j d x h1 h2 h3 => ?_, fun q hq => ?_⟩, s⟩
  · by_cases z : x = a
    · subst z
      rw [upd_same] at e
      cases e
      exact ho
    · rw [upd_ne z] at e
      exact b.le _ _ e
  · have hj : i ≠ j := fun e => by
      subst e
      rw [hc] at h1
      cases h1
      exact h3 rfl
    rw [upd_ne (fun e => by
      subst e
      exact hj (nd_ix b.nd hφ h2))]
    exact b.own j d x h1 h2 h3
  · obtain ⟨g1, g2, g3⟩ := b.gho q hq
    refine ⟨g1, ?_, g3⟩
    rw [upd_ne (fun e => g3 (by rw [e]; exact List.mem_of_getElem? hφ))]
    exact g2
/-- a place is left as it is, for good -/
theorem Base.freeze {i : Nat} {a : Addr} {c : Cell} {o : HO} (b : Base K cs F φ S H) (hφ : φ[i]? = some a) (hc : S[i]? = some c) (hl : c ≠ .dead) (ho : H a = some o) : Base K cs (upd F a o) φ (S.set i .dead) H ∧ Same F (upd F a o) := by
  have ha : F a = none := b.own i c a hc hφ hl
  have s : Same F (upd F a o) := same_upd ha
  refine ⟨⟨fun x u e => ?_, by rw [List.length_set, b.len], b.nd, b.there, fun j d x h1 h2 => ?_, fun j d x h1 h2 h3 => ?_, fun q hq => ?_⟩, s⟩
  · by_cases z : x = a
    · subst z
      rw [upd_same] at e
      cases e
      exact ho
    · rw [upd_ne z] at e
      exact b.le _ _ e
  · by_cases hj : i = j
    · subst hj
      rw [List.getElem?_set_self (List.getElem?_eq_some_iff.mp hc).1] at h1
      cases h1
      trivial
    · rw [List.getElem?_set_ne hj] at h1
      exact (b.cell j d x h1 h2).mono (.of s) (List.prefix_refl _) fun _ e => e
  · by_cases hj : i = j
    · subst hj
      rw [List.getElem?_set_self (List.getElem?_eq_some_iff.mp hc).1] at h1
      cases h1
      exact absurd rfl h3
    · rw [List.getElem?_set_ne hj] at h1
      rw [upd_ne (fun e => by
        subst e
        exact hj (nd_ix b.nd hφ h2))]
      exact b.own j d x h1 h2 h3
  · obtain ⟨g1, g2, g3⟩ := b.gho q hq
    refine ⟨g1, ?_, g3⟩
    rw [upd_ne (fun e => g3 (by rw [e]; exact List.mem_of_getElem? hφ))]
    exact g2
end
/-- what a new object is -/
def ObjD (K : PySem.W.Frag) (F : Hp) : Cell → HO → Prop
  | .lst xs, o => ∃ vs, o = .lst vs ∧ Rvs K F xs vs
  | .dct ks, o => ∃ kvs, o = .dK kvs ∧ Rks K F ks kvs
  | .dcu ks, o => ∃ kvs, o = .dT kvs ∧ Rts K F ks kvs
  | _, _ => False
abbrev CM := Ev → Store → Out Cell
def FPost (K : PySem.W.Frag) (cs : CS) (W : WX) (F : Hp) (φ : List Addr) (ρ : Ev) (σ : St) (Q : VK) : Out Cell → Prop
  | .ok c S' => ∀ p o F' φ' H', Ext F φ F' φ' → Rep K cs F' φ' ρ S' σ H' → H' p = none → ObjD K F' c o → Q (.ref p) (upd H' p o)
  | .exc c S' => ∀ F' φ' H', Ext F φ F' φ' → Rep K cs F' φ' ρ S' σ H' → W (.ref (cs.cls c)) none σ H'
  | .bad => False
def tF (K : PySem.W.Frag) (cl : Nat → Addr) (W : WX) (m : CM) : TE := fun σ H Q => ∃ gh F φ ρ S, Rep K ⟨cl, gh⟩ F φ ρ S σ H ∧ FPost K ⟨cl, gh⟩ W F φ ρ σ Q (m ρ S)
/-- an expression that makes a new object -/
def DF (cl : Nat → Addr) (X : Cx) (e : Expr) (m : CM) : Prop := ∀ W, Takes X W → PE X e (tF X.K cl W m)
def cellD : Cell → Option D
  | .lst xs => some (.lst xs)
  | .dct ks => some (.dct ks)
  | .dcu ks => some (.dcu ks)
  | _ => none
/-- new, never changed -/
def eFrz (m : CM) : EM := fun ρ S => (m ρ S).bind fun c S1 => match cellD c with
  | some d => .ok (.dat d) S1
  | none => .bad
/-- new, a place -/
def eNew (m : CM) : EM := fun ρ S => (m ρ S).bind fun c S1 => .ok (.ptr S1.length) (S1 ++ [c])
/-- a place, never changed from here on -/
def eFin (m : EM) : EM := fun ρ S => (m ρ S).bind fun x S1 => match x with
  | .ptr i => (match S1[i]? with
    | some c => (match cellD c with
      | some d => .ok (.dat d) (S1.set i .dead)
      | none => .bad)
    | none => .bad)
  | .dat d => .ok (.dat d) S1
def cLst (a : AM) : CM := fun ρ S => (a ρ S).bind fun xs S1 => match dats xs with
  | some ds => if ds.length ≤ 1000000 then .ok (.lst ds) S1 else .bad
  | none => .bad
def cEmpty : CM := fun _ S => .ok (.dct []) S
def cEmptyT : CM := fun _ S => .ok (.dcu []) S
def cComp (ws : List Nat) (m : IM) (B : TB) (mt : BM) (me : EM) : CM := fun ρ S => (m ρ S).bind fun ds S1 => if ds.length ≤ 1000000 then (compL B mt me (wipeE ρ ws) ds S1).bind fun xs S2 => .ok (.lst xs) S2 else .bad
def cOf (m : EM) : CM := fun ρ S => (m ρ S).bind fun x S1 => match deref S1 x with
  | some (.lst ds) => .ok (.lst ds) S1
  | some (.tup ds) => .ok (.lst ds) S1
  | _ => .bad
section
variable {X : Cx} {cl : Nat → Addr} {cs : CS} {e o tg iter : Expr} {es : List Expr} {me mo : EM} {mc : CM} {ms : AM} {pos p apos cpos : Pos}
/-- the object that a datum made of the cell stands at: a dict is locked -/
def lkd (c : Cell) (ob : Obj) (o : HO) : HO := match c with
  | .dct _ => .frz ob o
  | .dcu _ => .frz ob o
  | _ => o
theorem ObjD.rv {K : PySem.W.Frag} {F : Hp} {c : Cell} {o : HO} {d : D} {a : Addr} {ob : Obj} (h : ObjD K F c o) (hd : cellD c = some d) (ha : F a = some (lkd c ob o)) : Rv K F d (.ref a) := by
  cases c with
  | lst xs =>
    obtain ⟨vs, rfl, r⟩ := h
    cases hd
    exact .lst ha r
  | dct ks =>
    obtain ⟨vs, rfl, r⟩ := h
    cases hd
    exact .dct ⟨_, ha⟩ r
  | dcu ks =>
    obtain ⟨vs, rfl, r⟩ := h
    cases hd
    exact .dctT ⟨_, ha⟩ r
  | _ => cases hd
/-- an expression's value is locked -/
theorem pe_lkd {X : Cx} {e : Expr} {t : TE} (h : PE X e t) : PE X e (fun σ H Q => t σ H fun v H1 => Q v H1 ∨ ∃ d u, H1 d = some u ∧ Mut (some u) ∧ ∀ od, Q v (upd H1 d (.frz od u))) := by
  refine ⟨fun pins s σ H Q I hw => thn (h.run pins s σ H _ I hw) fun v s1 ⟨x, H1, I1, r, q⟩ => ?_⟩
  rcases q with q | ⟨d, u, hd, mu, q⟩
  · exact ⟨x, H1, I1, r, q⟩
  · obtain ⟨od, I2⟩ := I1.lock hd mu
    exact ⟨x, _, I2, r, q od⟩
theorem upd_upd {H : Hp} {p : Addr} {o o' : HO} : upd (upd H p o) p o' = upd H p o' := by
  funext x
  by_cases e : x = p
  · subst e
    rw [upd_same, upd_same]
  · rw [upd_ne e, upd_ne e, upd_ne e]
/-- locked or not, by what the cell is -/
theorem lkd_or {Q : VK} {v : V} {H : Hp} {p : Addr} {c : Cell} {o : HO} {K : PySem.W.Frag} {F : Hp} (ho : ObjD K F c o) (hp : H p = some o) (q : ∀ ob, Q v (upd H p (lkd c ob o))) : Q v H ∨ ∃ d u, H d = some u ∧ Mut (some u) ∧ ∀ od, Q v (upd H d (.frz od u)) := by
  have same : upd H p o = H := by
    funext x
    by_cases e : x = p
    · subst e
      rw [upd_same, hp]
    · rw [upd_ne e]
  cases c with
  | lst xs =>
    have z := q { cls := .none, data := .fields #[] }
    simp only [lkd] at z
    rw [same] at z
    exact .inl z
  | dct ks =>
    obtain ⟨vs, rfl, r⟩ := ho
    exact .inr ⟨p, _, hp, trivial, q⟩
  | dcu ks =>
    obtain ⟨vs, rfl, r⟩ := ho
    exact .inr ⟨p, _, hp, trivial, q⟩
  | _ => exact ho.elim
theorem ObjD.mono {K : PySem.W.Frag} {F G : Hp} (m : Mono F G) : ∀ {c : Cell} {o : HO}, ObjD K F c o → ObjD K G c o
  | .lst _, _, ⟨vs, e, r⟩ => ⟨vs, e, r.mono m⟩
  | .dct _, _, ⟨vs, e, r⟩ => ⟨vs, e, r.mono m⟩
  | .dcu _, _, ⟨vs, e, r⟩ => ⟨vs, e, r.mono m⟩
theorem ObjD.cell {K : PySem.W.Frag} {F H : Hp} {φ : List Addr} {a : Addr} : ∀ {c : Cell} {o : HO}, ObjD K F c o → H a = some o → CellOk K cs F φ H a c
  | .lst _, _, ⟨vs, e, r⟩, h => ⟨vs, by rw [h, e], r⟩
  | .dct _, _, ⟨vs, e, r⟩, h => ⟨vs, by rw [h, e], r⟩
  | .dcu _, _, ⟨vs, e, r⟩, h => ⟨vs, by rw [h, e], r⟩
theorem cell_obj {K : PySem.W.Frag} {F H : Hp} {φ : List Addr} {a : Addr} {c : Cell} {d : D} (h : CellOk K cs F φ H a c) (hd : cellD c = some d) : ∃ o, H a = some o ∧ ObjD K F c o := by
  cases c with
  | lst xs =>
    obtain ⟨vs, e, r⟩ := h
    exact ⟨_, e, vs, rfl, r⟩
  | dct xs =>
    obtain ⟨vs, e, r⟩ := h
    exact ⟨_, e, vs, rfl, r⟩
  | dcu xs =>
    obtain ⟨vs, e, r⟩ := h
    exact ⟨_, e, vs, rfl, r⟩
  | _ => cases hd
theorem de_frz (h : DF cl X e mc) : DE cl X e (eFrz mc) := fun W tk => pe_imp (pe_lkd (h W tk)) fun σ H Q ⟨gh, F, φ, ρ, S, rp, p⟩ => by
  refine ⟨gh, F, φ, ρ, S, rp, ?_⟩
  cases hm : mc ρ S with
  | bad =>
    rw [eFrz, hm] at p
    exact p
  | exc c S' =>
    rw [eFrz, hm] at p
    exact p
  | ok c S' =>
    rw [eFrz, hm] at p
    simp only [Out.bind] at p
    intro q u F' φ' H' x r hq ho
    split at p
    · rename_i d hd
      refine lkd_or ho upd_same fun ob => ?_
      rw [upd_upd]
      have g := Grow.new r.b.le (lkd c ob u) hq
      exact p _ _ φ' _ (x.trans (g.ext φ')) (r.grow g) (.dat ((ho.mono (.of g.s)).rv hd upd_same))
    · exact p.elim
theorem de_new (h : DF cl X e mc) : DE cl X e (eNew mc) := fun W tk => pe_imp (h W tk) fun σ H Q ⟨gh, F, φ, ρ, S, rp, p⟩ => by
  refine ⟨gh, F, φ, ρ, S, rp, ?_⟩
  cases hm : mc ρ S with
  | bad =>
    rw [eNew, hm] at p
    exact p
  | exc c S' =>
    rw [eNew, hm] at p
    exact p
  | ok c S' =>
    rw [eNew, hm] at p
    simp only [Out.bind] at p
    intro q u F' φ' H' x r hq ho
    refine p _ F' (φ' ++ [q]) _ ⟨x.s, x.p.trans ⟨[q], rfl⟩⟩ ⟨r.b.push hq (ho.cell upd_same), r.e.mono (.refl F') ⟨[q], rfl⟩⟩ (.ptr ?_)
    rw [← r.b.len]
    simp
theorem de_fin (h : DE cl X e me) : DE cl X e (eFin me) := fun W tk => pe_imp (pe_lkd (h W tk)) fun σ H Q ⟨gh, F, φ, ρ, S, rp, p⟩ => by
  refine (tG_bind (R := rV X.K) rp p).imp fun v H1 ⟨x, S1, F1, φ1, x1, r1, q1, p1⟩ => ?_
  cases q1 with
  | dat q1 => exact .inl <| p1 v F1 φ1 H1 (.refl F1 φ1) r1 (.dat q1)
  | @ptr i a ha =>
    simp only at p1
    split at p1
    · rename_i c hc
      split at p1
      · rename_i d hd
        have hl : c ≠ .dead := fun e => by
          rw [e] at hd
          cases hd
        obtain ⟨u, hu, ho⟩ := cell_obj (r1.b.cell i c a hc ha) hd
        refine lkd_or ho hu fun ob => ?_
        obtain ⟨b2, s2⟩ := (r1.b.setCell (o := lkd c ob u) ha hc hl (c' := .dead) trivial).adopt ha (List.getElem?_set_self (List.getElem?_eq_some_iff.mp hc).1) (r1.b.own i c a hc ha hl) upd_same
        exact p1 _ _ φ1 _ ⟨s2, List.prefix_refl _⟩ ⟨b2, r1.e.mono (.of s2) (List.prefix_refl _)⟩ (.dat ((ho.mono (.of s2)).rv hd upd_same))
      · exact p1.elim
    · exact p1.elim
theorem df_lst (h : DAs cl X es ms) : DF cl X (.List es pos) (cLst ms) := fun W tk => pe_imp (pe_lst (h W tk)) fun σ H Q ⟨gh, F, φ, ρ, S, rp, p⟩ => by
  have key : tG X.K cl W (rVs X.K) ms σ H fun vs H1 => ∃ S1 F1 φ1 ds, Ext F φ F1 φ1 ∧ Rep X.K ⟨cl, gh⟩ F1 φ1 ρ S1 σ H1 ∧ Rvs X.K F1 ds vs ∧ ds.length ≤ 1000000 ∧ FPost X.K ⟨cl, gh⟩ W F φ ρ σ Q (.ok (.lst ds) S1) := by
    refine ⟨gh, F, φ, ρ, S, rp, ?_⟩
    cases hm : ms ρ S with
    | bad =>
      rw [cLst, hm] at p
      exact p
    | exc c S' =>
      rw [cLst, hm] at p
      exact p
    | ok xs S' =>
      rw [cLst, hm] at p
      simp only [Out.bind] at p
      intro vs F1 φ1 H1 x1 r1 q1
      split at p
      · rename_i ds hd
        split at p
        · rename_i hl
          exact ⟨S', F1, φ1, ds, x1, r1, dats_ok q1 hd, hl, p⟩
        · exact p.elim
      · exact p.elim
  refine key.imp fun vs H1 ⟨S1, F1, φ1, ds, x1, r1, rr, hl, p1⟩ => ⟨by rw [← rr.len]; exact line_of hl, fun q hq => ?_⟩
  exact p1 q (.lst vs) F1 φ1 H1 x1 r1 hq ⟨vs, rfl, rr⟩
theorem df_empty : DF cl X (.Dict [] [] pos) cEmpty := fun W tk => pe_imp pe_dnewK fun σ H Q ⟨gh, F, φ, ρ, S, rp, p⟩ q hq => p q (.dK []) F φ H (.refl F φ) rp hq ⟨[], rfl, .nil⟩
theorem df_emptyT : DF cl X (.Dict [] [] pos) cEmptyT := fun W tk => pe_imp pe_dnewT fun σ H Q ⟨gh, F, φ, ρ, S, rp, p⟩ q hq => p q (.dT []) F φ H (.refl F φ) rp hq ⟨[], rfl, .nil⟩
theorem df_listOf {q : Pos} (hm : X.mg "list" = none) (ha : DE cl X e me) (hg : Gl X "list" := by rfl) (hv : bootBuiltins "list" = some (.type "list") := by decide +kernel)
    (he : starEach (e :: []) X.env = (false, eval e X.env) :: starEach [] X.env := by rfl) (hpl : (backTo pos (starEach [] X.env)).any (·.1) = false := by rfl) : DF cl X (.Call (.Name "list" q) [e] [] pos) (cOf me) := fun W tk =>
  pe_imp (pe_callTy call_list_of hg hm hv (pa_cons (ha W tk) pa_nil he) (by decide) (by decide) he hpl) fun σ H Q ⟨gh, F, φ, ρ, S, rp, p⟩ => by
    have key : tG X.K cl W (rV X.K) me σ H fun v H1 => ∃ x S1 F1 φ1 ds, Ext F φ F1 φ1 ∧ Rep X.K ⟨cl, gh⟩ F1 φ1 ρ S1 σ H1 ∧ RV X.K F1 φ1 x v ∧ (deref S1 x = some (.lst ds) ∨ deref S1 x = some (.tup ds)) ∧ FPost X.K ⟨cl, gh⟩ W F φ ρ σ Q (.ok (.lst ds) S1) := by
      refine ⟨gh, F, φ, ρ, S, rp, ?_⟩
      cases hm : me ρ S with
      | bad =>
        rw [cOf, hm] at p
        exact p
      | exc c S' =>
        rw [cOf, hm] at p
        exact p
      | ok x S' =>
        rw [cOf, hm] at p
        simp only [Out.bind] at p
        intro v F1 φ1 H1 x1 r1 q1
        split at p
        · rename_i ds hd
          exact ⟨x, S', F1, φ1, ds, x1, r1, q1, .inl hd, p⟩
        · rename_i ds hd
          exact ⟨x, S', F1, φ1, ds, x1, r1, q1, .inr hd, p⟩
        · exact p.elim
    refine key.imp fun v H1 ⟨x, S1, F1, φ1, ds, x1, r1, q1, hd, p1⟩ => ?_
    rcases hd with hd | hd
    · cases deref_ok r1.b q1 hd with
      | @lst a _ vs hs rs => exact ⟨a, vs, rfl, .inl (.of hs), fun l hl => p1 l (.lst vs) F1 φ1 H1 x1 r1 hl ⟨vs, rfl, rs⟩⟩
    · cases deref_ok r1.b q1 hd with
      | @tup a _ vs hs rs => exact ⟨a, vs, rfl, .inr (hs.same r1.b.le).sq, fun l hl => p1 l (.lst vs) F1 φ1 H1 x1 r1 hl ⟨vs, rfl, rs⟩⟩

/-- arguments: data (fz), or what places hold too -/
def argD (fz : Bool) (S : Store) (xs : List Val) : Option (List D) := if fz = true then dats xs else derefs S xs
theorem rvs_rts {K : PySem.W.Frag} {F H : Hp} (m : Mono F H) : ∀ {ds : List D} {vs : List V}, Rvs K F ds vs → RTs K F H ds vs
  | _, _, .nil => .nil
  | _, _, .cons r t => .cons (r.rt m) (rvs_rts m t)
theorem argD_ok {K : PySem.W.Frag} {cs : CS} {F H : Hp} {φ : List Addr} {S : Store} {fz : Bool} {xs : List Val} {vs : List V} {ds : List D} (b : Base K cs F φ S H) (r : RVs K F φ xs vs) (h : argD fz S xs = some ds) : RTs K F H ds vs ∧ (fz = true → Rvs K F ds vs) := by
  unfold argD at h
  cases fz with
  | true =>
    rw [if_pos rfl] at h
    have q := dats_ok r h
    exact ⟨rvs_rts b.m q, fun _ => q⟩
  | false =>
    rw [if_neg Bool.false_ne_true] at h
    exact ⟨derefs_ok b r h, fun z => nomatch z⟩
def GivesL (K : PySem.W.Frag) (fz : Bool) (r : V → List V → Hp → VK → Prop) (g : List D → List D → Option (D × List D)) : Prop := ∀ (F H : Hp) (a : Addr) (xs ys ds : List D) (d : D) (vs us : List V) (Q : VK), Same F H → H a = some (.lst vs) → Rvs K F xs vs → RTs K F H ds us → (fz = true → Rvs K F ds us) → g xs ds = some (d, ys) →
  (∀ v ws, Rv K F d v → Rvs K F ys ws → Q v (upd H a (.lst ws))) → r (.ref a) us H Q
def mutL (fz : Bool) (g : List D → List D → Option (D × List D)) (ms : AM) (ρ : Ev) (x : Val) (S1 : Store) : Out Val := match x with
  | .ptr i => (match S1[i]? with
    | some (.lst _) => (ms ρ S1).bind fun ys S2 => (match S2[i]?, argD fz S2 ys with
      | some (.lst xs), some ds => (match g xs ds with
        | some (d, zs) => .ok (.dat d) (S2.set i (.lst zs))
        | none => .bad)
      | _, _ => .bad)
    | _ => .bad)
  | _ => .bad
def eMutL (fz : Bool) (g : List D → List D → Option (D × List D)) (mo : EM) (ms : AM) : EM := fun ρ S => (mo ρ S).bind (mutL fz g ms ρ)
theorem mutL_ok {fz : Bool} {W : WX} {F H1 : Hp} {φ : List Addr} {ρ : Ev} {S1 : Store} {σ : St} {r : V → List V → Hp → VK → Prop} {g : List D → List D → Option (D × List D)} {v : V} {x : Val} {Q : VK} (gv : GivesL X.K fz r g) (r1 : Rep X.K cs F φ ρ S1 σ H1) (q1 : RV X.K F φ x v)
    (p1 : Post X.K cs W (rV X.K) F φ ρ σ Q (mutL fz g ms ρ x S1)) : tyV X.K "list" v H1 ∧ tG X.K cs.cls W (rVs X.K) ms σ H1 fun us H2 => r v us H2 Q := by
  cases q1 with
  | dat q1 => exact p1.elim
  | @ptr i a ha =>
    simp only [mutL] at p1
    split at p1
    · rename_i xs0 hc
      obtain ⟨vs0, e0, _⟩ := r1.b.cell i _ a hc ha
      refine ⟨.inl ⟨rfl, _, .of e0⟩, (tG_bind (R := rVs X.K) r1 p1).imp fun us H2 ⟨ys, S2, F2, φ2, x2, r2, q2, p2⟩ => ?_⟩
      split at p2
      · rename_i xs ds hx hds
        split at p2
        · rename_i d zs hg
          obtain ⟨vs, e1, rs⟩ := r2.b.cell i _ a hx (pre_get x2.p ha)
          exact gv F2 H2 a xs zs ds d vs us Q r2.b.le e1 rs (argD_ok r2.b q2 hds).1 (argD_ok r2.b q2 hds).2 hg fun v ws rv rws => p2 v F2 φ2 _ (.refl F2 φ2) (r2.setCell (pre_get x2.p ha) hx (fun z => nomatch z) ⟨ws, upd_same, rws⟩) (.dat rv)
        · exact p2.elim
      · exact p2.elim
    · exact p1.elim
theorem de_mutL {fz : Bool} {id : String} {name : Str} {r : V → List V → Hp → VK → Prop} {g : List D → List D → Option (D × List D)} (slot : Slot "list" name id) (hty : typeOf (.builtin id) = pure (.type "method_descriptor")) (hm : MtM X id r) (gv : GivesL X.K fz r g)
    (ho : DE cl X o mo) (ha : DAs cl X (e :: es) ms) (hbase : attributeBase o name X.env (eval o X.env) = eval o X.env := by rfl)
    (hfew : ((backTo cpos (starEach (e :: es) X.env)).all (fun x => !x.1) && (backToKw cpos (keywordEach [] X.env)).all (fun x => x.1.isSome)
      && decide ((e :: es).length + ([] : List Keyword).length + (if ([] : List Keyword).isEmpty then 0 else 1) < 30)) = true := by rfl)
    (hline : (apos.endLine == cpos.line) = true := by rfl) (hs : starEach (e :: es) X.env = (false, eval e X.env) :: starEach es X.env := by rfl) (hplain : (backTo cpos (starEach es X.env)).any (·.1) = false := by rfl) :
    DE cl X (.Call (.Attribute o name apos) (e :: es) [] cpos) (eMutL fz g mo ms) := fun W tk =>
  pe_imp (pe_bm PySem.F.plainAttrs_list slot hty hm (ho W tk) (ha W tk) hbase hfew hline hs hplain) fun σ H Q ⟨gh, F, φ, ρ, S, rp, p⟩ =>
    (tG_bind (R := rV X.K) rp p).imp fun v H1 ⟨x, S1, F1, φ1, x1, r1, q1, p1⟩ => mutL_ok gv r1 q1 p1
theorem de_mutL0 {fz : Bool} {id : String} {name : Str} {r : V → List V → Hp → VK → Prop} {g : List D → List D → Option (D × List D)} (slot : Slot "list" name id) (hty : typeOf (.builtin id) = pure (.type "method_descriptor")) (hm : MtM X id r) (gv : GivesL X.K fz r g)
    (ho : DE cl X o mo) (hbase : attributeBase o name X.env (eval o X.env) = eval o X.env := by rfl) (hline : (apos.endLine == cpos.line) = true := by rfl) : DE cl X (.Call (.Attribute o name apos) [] [] cpos) (eMutL fz g mo aNil) := fun W tk =>
  pe_imp (pe_bm0 PySem.F.plainAttrs_list slot hty hm (ho W tk) hbase hline) fun σ H Q ⟨gh, F, φ, ρ, S, rp, p⟩ =>
    (tG_bind (R := rV X.K) rp p).imp fun v H1 ⟨x, S1, F1, φ1, x1, r1, q1, p1⟩ => by
      obtain ⟨t, h⟩ := mutL_ok (ms := aNil) gv r1 q1 p1
      refine ⟨t, ?_⟩
      obtain ⟨gh', F', φ', ρ', S', r', p'⟩ := h
      exact p' [] F' φ' H1 (.refl F' φ') r' .nil
def mAppend : List D → List D → Option (D × List D)
  | xs, [d] => if xs.length < 1000000 then some (.non, xs ++ [d]) else none
  | _, _ => none
def mExtend : List D → List D → Option (D × List D)
  | xs, [.lst ys] => if xs.length + ys.length ≤ 1000000 then some (.non, xs ++ ys) else none
  | _, _ => none
def mPop : List D → List D → Option (D × List D)
  | xs, [] => match xs[xs.length - 1]? with
    | some d => some (d, xs.dropLast)
    | none => none
  | _, _ => none
def mPop0 : List D → List D → Option (D × List D)
  | d :: xs, [.int 0] => some (d, xs)
  | _, _ => none
end
end DL

namespace DL
open PySem PySem.Spec PyProof.Rows L2

section
variable {X : Cx}
theorem Rvs.one {K : PySem.W.Frag} {F : Hp} {d : D} {vs : List V} (r : Rvs K F [d] vs) : ∃ v, vs = [v] ∧ Rv K F d v := by
  cases r with
  | cons r t =>
    cases t
    exact ⟨_, rfl, r⟩
theorem gAppend : GivesL X.K true rAppend mAppend := by
  intro F H a xs ys ds d vs us Q le hl rs rd rf hg q
  unfold mAppend at hg
  split at hg
  · rename_i e
    split at hg
    · rename_i hlen
      cases hg
      obtain ⟨x, rfl, r1⟩ := (rf rfl).one
      refine ⟨a, vs, x, rfl, rfl, hl, ?_, q _ _ .non (rs.append (.cons r1 .nil))⟩
      rw [← rs.len]
      exact Nat.lt_of_lt_of_le hlen (by decide)
    · cases hg
  · cases hg
theorem gExtend : GivesL X.K false rExtend mExtend := by
  intro F H a xs ys ds d vs us Q le hl rs rd rf hg q
  unfold mExtend at hg
  split at hg
  · rename_i zs
    split at hg
    · rename_i hlen
      cases hg
      obtain ⟨x, rfl, r1⟩ := rd.one
      cases r1 with
      | @lst b _ ws hb rb =>
        refine ⟨a, b, vs, ws, rfl, rfl, hl, hb, ?_, q _ _ .non (rs.append rb)⟩
        rw [← rs.len, ← rb.len]
        exact line_of hlen
    · cases hg
  · cases hg
theorem Rvs.dropLast {K : PySem.W.Frag} {F : Hp} {ds : List D} {vs : List V} (r : Rvs K F ds vs) : Rvs K F ds.dropLast vs.dropLast := by
  rw [List.dropLast_eq_take, List.dropLast_eq_take, r.len]
  exact r.take _
theorem gPop : GivesL X.K false rPop mPop := by
  intro F H a xs ys ds d vs us Q le hl rs rd rf hg q
  unfold mPop at hg
  split at hg
  · cases rd
    split at hg
    · rename_i e he
      cases hg
      obtain ⟨v, hv, rv⟩ := rs.get he
      rw [rs.len] at hv
      exact ⟨a, vs, v, rfl, rfl, hl, hv, q _ _ rv rs.dropLast⟩
    · cases hg
  · cases hg
theorem gPop0 : GivesL X.K false rPopAt mPop0 := by
  intro F H a xs ys ds d vs us Q le hl rs rd rf hg q
  unfold mPop0 at hg
  split at hg
  · cases hg
    obtain ⟨x, rfl, r1⟩ := rd.one
    cases r1
    cases rs with
    | @cons _ _ v vs r t =>
      refine ⟨a, v :: vs, 0, 0, v, rfl, rfl, hl, by omega, by omega, ?_, rfl, q _ _ r t⟩
      exact PySem.StrLaws.seqIndex_nonneg (by omega) (by rw [List.length_cons]; omega)
  · cases hg
end

section
variable {K : PySem.W.Frag} {F : Hp}
theorem yields_list {a : Addr} {ds : List D} {vs : List V} (h : SqL K F a vs) (r : Rvs K F ds vs) : Yields K (Itl K a) F ds := fun F' H s le i => by
  have hH : SqL K H a vs := (Mono.of (s.trans le)).sl h
  refine ⟨fun hl => ⟨vs, hH, by rw [← r.len]; exact hl⟩, fun d hd => ?_⟩
  obtain ⟨v, hv, rv⟩ := r.get hd
  refine ⟨⟨vs, v, hH, hv⟩, fun x H' ⟨e, hx⟩ => ?_⟩
  subst e
  have e1 := hx vs hH
  rw [hv] at e1
  cases e1
  exact ⟨F', .refl le, rv.mono (.of s)⟩
theorem yields_tup {a : Addr} {ds : List D} {vs : List V} (h : SqT K F a vs) (r : Rvs K F ds vs) : Yields K (Itt K a) F ds := fun F' H s le i => by
  have hH : SqT K H a vs := (Mono.of (s.trans le)).st h
  refine ⟨fun hl => ⟨vs, hH, by rw [← r.len]; exact hl⟩, fun d hd => ?_⟩
  obtain ⟨v, hv, rv⟩ := r.get hd
  refine ⟨⟨vs, v, hH, hv⟩, fun x H' ⟨e, hx⟩ => ?_⟩
  subst e
  have e1 := hx vs hH
  rw [hv] at e1
  cases e1
  exact ⟨F', .refl le, rv.mono (.of s)⟩
def rangeD (lo : Int) (n : Nat) : List D := (List.range n).map fun i => .int (lo + (i : Nat))
theorem yields_range {lo : Int} {n : Nat} : Yields K (Itr lo n) F (rangeD lo n) := fun F' H s le i => by
  refine ⟨fun hl => ?_, fun d hd => ?_⟩
  · unfold rangeD at hl
    rw [List.length_map, List.length_range] at hl
    exact hl
  · unfold rangeD at hd
    rw [List.getElem?_map] at hd
    cases e : (List.range n)[i]? with
    | none =>
      rw [e] at hd
      cases hd
    | some j =>
      rw [e] at hd
      cases hd
      obtain ⟨h1, h2⟩ := List.getElem?_eq_some_iff.mp e
      rw [List.getElem_range] at h2
      subst h2
      refine ⟨(by simpa using h1 : i < n), fun x H' ⟨e1, e2⟩ => ?_⟩
      subst e1 e2
      exact ⟨F', .refl le, .int _⟩
theorem yields_str {s : List Nat} (hs : strGood s) : Yields K (Its (toStr s)) F (s.map fun c => .str [c]) := fun F' H sm le i => by
  refine ⟨fun hl => ?_, fun d hd => ?_⟩
  · rw [List.length_map] at hl
    show s.toArray.size ≤ i
    simpa using hl
  · rw [List.getElem?_map] at hd
    cases e : s[i]? with
    | none =>
      rw [e] at hd
      cases hd
    | some c =>
      rw [e] at hd
      cases hd
      refine ⟨?_, fun x H' ⟨e1, c', e2, e3⟩ => ?_⟩
      · show i < s.toArray.size
        simpa using (List.getElem?_eq_some_iff.mp e).1
      · subst e1 e3
        have e4 : (toStr s).cps[i]? = s[i]? := by simp [toStr]
        rw [e4, e] at e2
        cases e2
        exact ⟨F', .refl le, .str fun z hz => by
          cases hz with
          | head => exact hs _ (List.mem_of_getElem? e)
          | tail _ h => cases h⟩
def enumD (ds : List D) : List D := ds.zipIdx.map fun p => .ktp [.int (p.2 : Nat), p.1]
theorem yields_enum {a : Addr} {ds : List D} {vs : List V} (h : SqL K F a vs) (r : Rvs K F ds vs) : Yields K (Ite K a) F (enumD ds) := fun F' H s le i => by
  have hH : SqL K H a vs := (Mono.of (s.trans le)).sl h
  unfold enumD
  refine ⟨fun hl => ⟨vs, hH, by rw [← r.len]; simpa using hl⟩, fun d hd => ?_⟩
  rw [List.getElem?_map, List.getElem?_zipIdx] at hd
  cases e : ds[i]? with
  | none =>
    rw [e] at hd
    cases hd
  | some d0 =>
    rw [e] at hd
    obtain ⟨v, hv, rv⟩ := r.get e
    refine ⟨⟨vs, v, hH, hv⟩, fun x H' ⟨T, y, e1, hT, e2, hy⟩ => ?_⟩
    subst e1 e2
    have e3 := hy vs hH
    rw [hv] at e3
    cases e3
    have g := Grow.new le (.tup [.int (i : Nat), v]) hT
    refine ⟨_, g, ?_⟩
    have hd' : d = .ktp [.int (i : Nat), d0] := by
      have := Option.some.inj hd
      rw [← this]
      simp
    rw [hd']
    exact .ktp upd_same (.cons (.int _) (.cons (rv.mono (.of (s.trans g.s))) .nil))
def zipD (ds es : List D) : List D := (ds.zip es).map fun p => .ktp [p.1, p.2]
theorem yields_zipL {a b : Addr} {ds es : List D} {vs us : List V} (h : SqL K F a vs) (r : Rvs K F ds vs) (h' : SqL K F b us) (r' : Rvs K F es us) : Yields K (Itz K a b) F (zipD ds es) := fun F' H s le i => by
  have hH : SqL K H a vs := (Mono.of (s.trans le)).sl h
  have hH' : SqL K H b us := (Mono.of (s.trans le)).sl h'
  unfold zipD
  refine ⟨fun hl => ⟨vs, us, hH, hH', ?_⟩, fun d hd => ?_⟩
  · rw [← r.len, ← r'.len]
    rw [List.length_map, List.length_zip] at hl
    omega
  · rw [List.getElem?_map] at hd
    cases e : (ds.zip es)[i]? with
    | none =>
      rw [e] at hd
      cases hd
    | some p =>
      rw [e] at hd
      cases hd
      obtain ⟨e1, e2⟩ := List.getElem?_zip_eq_some.mp e
      obtain ⟨v, hv, rv⟩ := r.get e1
      obtain ⟨u, hu, ru⟩ := r'.get e2
      refine ⟨⟨vs, us, v, u, hH, hH', hv, hu⟩, fun x H' ⟨T, y, z, e1, hT, e2, hy, hz⟩ => ?_⟩
      subst e1 e2
      have e3 := hy vs hH
      have e4 := hz us hH'
      rw [hv] at e3
      rw [hu] at e4
      cases e3
      cases e4
      have g := Grow.new le (.tup [v, u]) hT
      exact ⟨_, g, .ktp upd_same (.cons (rv.mono (.of (s.trans g.s))) (.cons (ru.mono (.of (s.trans g.s))) .nil))⟩
theorem yields_zipT {a b : Addr} {ds es : List D} {vs us : List V} (h : SqT K F a vs) (r : Rvs K F ds vs) (h' : SqT K F b us) (r' : Rvs K F es us) : Yields K (RZ.ItzT K a b) F (zipD ds es) := fun F' H s le i => by
  have hH : SqT K H a vs := (Mono.of (s.trans le)).st h
  have hH' : SqT K H b us := (Mono.of (s.trans le)).st h'
  unfold zipD
  refine ⟨fun hl => ⟨vs, us, hH, hH', ?_⟩, fun d hd => ?_⟩
  · rw [← r.len, ← r'.len]
    rw [List.length_map, List.length_zip] at hl
    omega
  · rw [List.getElem?_map] at hd
    cases e : (ds.zip es)[i]? with
    | none =>
      rw [e] at hd
      cases hd
    | some p =>
      rw [e] at hd
      cases hd
      obtain ⟨e1, e2⟩ := List.getElem?_zip_eq_some.mp e
      obtain ⟨v, hv, rv⟩ := r.get e1
      obtain ⟨u, hu, ru⟩ := r'.get e2
      refine ⟨⟨vs, us, v, u, hH, hH', hv, hu⟩, fun x H' ⟨T, y, z, e1, hT, e2, hy, hz⟩ => ?_⟩
      subst e1 e2
      have e3 := hy vs hH
      have e4 := hz us hH'
      rw [hv] at e3
      rw [hu] at e4
      cases e3
      cases e4
      have g := Grow.new le (.tup [v, u]) hT
      exact ⟨_, g, .ktp upd_same (.cons (rv.mono (.of (s.trans g.s))) (.cons (ru.mono (.of (s.trans g.s))) .nil))⟩
theorem Rks.at {ks : List (D × D)} {kvs : List (Key × V)} : ∀ {i : Nat} {d : D}, Rks K F ks kvs → (ks.map (·.1))[i]? = some d → ∃ q v, kvs[i]? = some (q, v) ∧ Rv K F d (kV q) := by
  intro i d r
  induction ks generalizing kvs i with
  | nil =>
    intro e
    simp at e
  | cons k ks ih =>
    cases r with
    | cons e rk r t =>
      intro e2
      cases i with
      | zero =>
        simp at e2
        subst e2
        exact ⟨_, _, rfl, rk⟩
      | succ i =>
        obtain ⟨q, v, a, b⟩ := ih (i := i) t (by simpa using e2)
        exact ⟨q, v, by simpa using a, b⟩
theorem Rks.lenK {ks : List (D × D)} {kvs : List (Key × V)} (r : Rks K F ks kvs) : ks.length = kvs.length := by
  induction ks generalizing kvs with
  | nil => cases r; rfl
  | cons k ks ih =>
    cases r with
    | cons _ _ _ t => exact congrArg (· + 1) (ih t)
theorem yields_keys {a : Addr} {ob : Obj} {ks : List (D × D)} {kvs : List (Key × V)} (h : F a = some (.frz ob (.dK kvs))) (r : Rks K F ks kvs) : Yields K (Itk a ob kvs) F (ks.map (·.1)) := fun F' H s le i => by
  have hH := le _ _ (s _ _ h)
  refine ⟨fun hl => ⟨hH, by rw [List.length_map] at hl; rw [← r.lenK]; exact hl⟩, fun d hd => ?_⟩
  obtain ⟨q, v, e, rd⟩ := r.at hd
  refine ⟨⟨hH, (List.getElem?_eq_some_iff.mp e).1⟩, fun x H' ⟨e1, k, w, e2, e3⟩ => ?_⟩
  subst e1 e3
  rw [e] at e2
  cases e2
  exact ⟨F', .refl le, rd.mono (.of s)⟩
end
/-- the items of what is walked -/
def itemsD : D → Option (List D)
  | .lst ds => some ds
  | .tup ds => some ds
  | .ktp ds => some ds
  | .scr ns => some (ns.map .int)
  | .str s => some (s.map fun c => .str [c])
  | .dct ks => some (ks.map (·.1))
  | _ => none
def iOf (m : EM) : IM := fun ρ S => (m ρ S).bind fun x S1 => match x with
  | .dat d => (match itemsD d with
    | some ds => .ok ds S1
    | none => .bad)
  | _ => .bad
def iRange1 (m : EM) : IM := fun ρ S => (m ρ S).bind fun x S1 => match x with
  | .dat (.int n) => if -1000000 ≤ n ∧ n ≤ 1000000 then .ok (rangeD 0 n.toNat) S1 else .bad
  | _ => .bad
def rng2 (x y : Val) (S : Store) : Out (List D) := match x, y with
  | .dat (.int a), .dat (.int b) => if (-1000000 ≤ a ∧ a ≤ 1000000) ∧ -1000000 ≤ b ∧ b ≤ 1000000 then .ok (rangeD a (b - a).toNat) S else .bad
  | _, _ => .bad
def iRange2 (m m' : EM) : IM := fun ρ S => (m ρ S).bind fun x S1 => (m' ρ S1).bind fun y S2 => rng2 x y S2
def iEnumD (m : EM) : IM := fun ρ S => (m ρ S).bind fun x S1 => match x with
  | .dat (.lst ds) => .ok (enumD ds) S1
  | _ => .bad
def zip2 (x y : Val) (S : Store) : Out (List D) := match x, y with
  | .dat (.lst ds), .dat (.lst es) => .ok (zipD ds es) S
  | .dat (.tup ds), .dat (.tup es) => .ok (zipD ds es) S
  | _, _ => .bad
def iZipD (m m' : EM) : IM := fun ρ S => (m ρ S).bind fun x S1 => (m' ρ S1).bind fun y S2 => zip2 x y S2
section
variable {X : Cx} {cl : Nat → Addr} {tg e e2 a b : Expr} {me : EM} {ms : AM} {p pos tpos : Pos} {elts : List Expr} {kk : Nat}
theorem pi_imp {t t' : TI} {iter : Expr} (h : PI X tg iter t) (i : ∀ σ H R, t' σ H R → t σ H R) : PI X tg iter t' := ⟨fun p s σ H R I q => h.run p s σ H R I (i σ H R q)⟩
theorem pi_or {t t' : TI} {iter : Expr} (h : PI X tg iter t) (h' : PI X tg iter t') : PI X tg iter (fun σ H R => t σ H R ∨ t' σ H R) := ⟨fun p s σ H R I q => q.elim (h.run p s σ H R I) (h'.run p s σ H R I)⟩
theorem IPost.ext {K : PySem.W.Frag} {cs : CS} {W : WX} {F F' : Hp} {φ φ' : List Addr} {ρ : Ev} {σ : St} {R : It → Hp → Prop} (x : Ext F φ F' φ') : ∀ {o : Out (List D)}, IPost K cs W F φ ρ σ R o → IPost K cs W F' φ' ρ σ R o
  | .ok _ _, p => fun J F'' φ'' H' e r y => p J F'' φ'' H' (x.trans e) r y
  | .exc _ _, p => fun F'' φ'' H' e r => p F'' φ'' H' (x.trans e) r
  | .bad, p => p
theorem tI_bind {α β : Type} {K : PySem.W.Frag} {cs : CS} {W : WX} {Rr : Hp → List Addr → α → β → Prop} {F H : Hp} {φ : List Addr} {ρ : Ev} {S : Store} {σ : St} {m : Ev → Store → Out α} {k : α → Store → Out (List D)} {R : It → Hp → Prop} (r : Rep K cs F φ ρ S σ H) (h : IPost K cs W F φ ρ σ R ((m ρ S).bind k)) :
    tG K cs.cls W Rr m σ H fun v H1 => ∃ x S1 F1 φ1, Ext F φ F1 φ1 ∧ Rep K cs F1 φ1 ρ S1 σ H1 ∧ Rr F1 φ1 x v ∧ IPost K cs W F1 φ1 ρ σ R (k x S1) := by
  refine ⟨cs.gh, F, φ, ρ, S, r, ?_⟩
  cases e : m ρ S with
  | bad =>
    rw [e] at h
    exact h
  | exc c S' =>
    rw [e] at h
    exact h
  | ok x S' =>
    rw [e] at h
    exact fun v F1 φ1 H1 x1 r1 q1 => ⟨x, S', F1, φ1, x1, r1, q1, IPost.ext x1 h⟩
/-- a list, a tuple, a text -/
theorem di_of (h : DE cl X e me) : DI cl X tg e (iOf me) := fun W tk => pi_imp (pi_or (pi_list (h W tk)) (pi_or (pi_tup (h W tk)) (pi_or (pi_str (h W tk)) (pi_keys (h W tk))))) fun σ H R ⟨gh, F, φ, ρ, S, rp, p⟩ => by
  cases hm : me ρ S with
  | bad =>
    rw [iOf, hm] at p
    exact p.elim
  | exc c S' =>
    rw [iOf, hm] at p
    refine .inl ⟨gh, F, φ, ρ, S, rp, ?_⟩
    rw [hm]
    exact p
  | ok x S' =>
    rw [iOf, hm] at p
    simp only [Out.bind] at p
    cases x with
    | ptr _ => exact p.elim
    | dat d =>
      simp only at p
      cases hd : itemsD d with
      | none =>
        rw [hd] at p
        exact p.elim
      | some ds =>
        rw [hd] at p
        simp only at p
        have mk : ∀ {t : V → Hp → Prop}, (∀ v F1 φ1 H1, Ext F φ F1 φ1 → Rep X.K ⟨cl, gh⟩ F1 φ1 ρ S' σ H1 → Rv X.K F1 d v → t v H1) → tG X.K cl W (rV X.K) me σ H t := fun {t} ht => by
          refine ⟨gh, F, φ, ρ, S, rp, ?_⟩
          rw [hm]
          intro v F1 φ1 H1 x1 r1 q1
          cases q1 with
          | dat q1 => exact ht v F1 φ1 H1 x1 r1 q1
        cases d with
        | lst es =>
          cases hd
          refine .inl (mk fun v F1 φ1 H1 x1 r1 q1 => ?_)
          cases q1 with
          | @lst a _ vs ha rs => exact ⟨a, rfl, ⟨vs, .of (r1.b.le _ _ ha)⟩, p _ F1 φ1 H1 x1 r1 (yields_list (.of ha) rs)⟩
        | scr ns =>
          cases hd
          refine .inl (mk fun v F1 φ1 H1 x1 r1 q1 => ?_)
          cases q1 with
          | @scr a _ ha => exact ⟨a, rfl, ⟨_, (Mono.of r1.b.le).sl ha⟩, p _ F1 φ1 H1 x1 r1 (yields_list ha (by
              have : ∀ ns : List Int, Rvs X.K F1 (ns.map D.int) (ns.map V.int) := fun ns => by
                induction ns with
                | nil => exact .nil
                | cons n ns ih => exact .cons (.int n) ih
              exact this ns))⟩
        | tup es =>
          cases hd
          refine .inr (.inl (mk fun v F1 φ1 H1 x1 r1 q1 => ?_))
          cases q1 with
          | @tup a _ vs ha rs => exact ⟨a, rfl, ⟨vs, (ha.same r1.b.le).sq⟩, p _ F1 φ1 H1 x1 r1 (yields_tup ha.sq rs)⟩
        | ktp es =>
          cases hd
          refine .inr (.inl (mk fun v F1 φ1 H1 x1 r1 q1 => ?_))
          cases q1 with
          | @ktp a _ vs ha rs => exact ⟨a, rfl, ⟨vs, .of (r1.b.le _ _ ha)⟩, p _ F1 φ1 H1 x1 r1 (yields_tup (.of ha) rs)⟩
        | str s =>
          cases hd
          refine .inr (.inr (.inl (mk fun v F1 φ1 H1 x1 r1 q1 => ?_)))
          cases q1 with
          | str hs => exact ⟨_, rfl, p _ F1 φ1 H1 x1 r1 (yields_str hs)⟩
        | dct ks =>
          cases hd
          refine .inr (.inr (.inr (mk fun v F1 φ1 H1 x1 r1 q1 => ?_)))
          cases q1 with
          | @dct a _ kvs ha rs =>
            obtain ⟨ob, ha⟩ := ha
            exact ⟨a, ob, rfl, .inl ⟨kvs, r1.b.le _ _ ha, p _ F1 φ1 H1 x1 r1 (yields_keys ha rs)⟩⟩
        | _ => cases hd
theorem RVs.one {K : PySem.W.Frag} {F : Hp} {φ : List Addr} {x : Val} {vs : List V} (r : RVs K F φ [x] vs) : ∃ v, vs = [v] ∧ RV K F φ x v := by
  cases r with
  | cons r t =>
    cases t
    exact ⟨_, rfl, r⟩
theorem RVs.two {K : PySem.W.Frag} {F : Hp} {φ : List Addr} {x y : Val} {vs : List V} (r : RVs K F φ [x, y] vs) : ∃ v u, vs = [v, u] ∧ RV K F φ x v ∧ RV K F φ y u := by
  cases r with
  | cons r t =>
    obtain ⟨u, rfl, r2⟩ := t.one
    exact ⟨_, _, rfl, r, r2⟩
theorem RV.d {K : PySem.W.Frag} {F : Hp} {φ : List Addr} {d : D} {v : V} (r : RV K F φ (.dat d) v) : Rv K F d v := by
  cases r with
  | dat r => exact r
theorem Rv.int' {K : PySem.W.Frag} {F : Hp} {i : Int} {v : V} (r : Rv K F (.int i) v) : v = .int i := by
  cases r
  rfl
theorem di_range1 (hm : X.mg "range" = none) (ha : DE cl X a me) (hg : Gl X "range" := by rfl) (hs : starEach [a] X.env = [(false, eval a X.env)] := by rfl) : DI cl X tg (.Call (.Name "range" p) [a] [] pos) (iRange1 me) := fun W tk =>
  pi_imp (pi_range1 hg hm (pa_cons (ha W tk) pa_nil hs) hs) fun σ H R ⟨gh, F, φ, ρ, S, rp, q⟩ => (tI_bind (Rr := rV X.K) rp q).imp fun v H1 ⟨x, S1, F1, φ1, x1, r1, q1, p1⟩ => by
    split at p1
    · rename_i n
      split at p1
      · rename_i hn
        have ev := q1.d.int'
        subst ev
        exact ⟨n, rfl, by omega, by omega, p1 _ F1 φ1 H1 (.refl F1 φ1) r1 yields_range⟩
      · exact p1.elim
    · exact p1.elim
theorem di_range2 {mb : EM} (hm : X.mg "range" = none) (ha : DE cl X a me) (hb : DE cl X b mb) (hg : Gl X "range" := by rfl) (hs : starEach [a, b] X.env = [(false, eval a X.env), (false, eval b X.env)] := by rfl) (hs2 : starEach [b] X.env = [(false, eval b X.env)] := by rfl)
    (hs3 : starEach [a, b] X.env = (false, eval a X.env) :: starEach [b] X.env := by rfl) : DI cl X tg (.Call (.Name "range" p) [a, b] [] pos) (iRange2 me mb) := fun W tk =>
  pi_imp (pi_range2 hg hm (pa_cons (ha W tk) (pa_cons (hb W tk) pa_nil hs2) hs3) hs hs2) fun σ H R ⟨gh, F, φ, ρ, S, rp, q⟩ => (tI_bind (Rr := rV X.K) rp q).imp fun v H1 ⟨x, S1, F1, φ1, x1, r1, q1, p1⟩ =>
    (tI_bind (Rr := rV X.K) r1 p1).imp fun u H2 ⟨y, S2, F2, φ2, x2, r2, q2, p2⟩ => by
      unfold rng2 at p2
      split at p2
      · rename_i i j
        split at p2
        · rename_i hn
          have ev := q1.d.int'
          have eu := q2.d.int'
          subst ev eu
          exact ⟨_, _, rfl, ⟨by omega, by omega, by omega, by omega⟩, p2 _ F2 φ2 H2 (.refl F2 φ2) r2 yields_range⟩
        · exact p2.elim
      · exact p2.elim
theorem di_enum (hm : X.mg "enumerate" = none) (ha : DE cl X e me) (hg : Gl X "enumerate" := by rfl) (hs : starEach [e] X.env = [(false, eval e X.env)] := by rfl) : DI cl X (.Tuple elts kk tpos) (.Call (.Name "enumerate" p) [e] [] pos) (iEnumD me) := fun W tk =>
  pi_imp (pi_enum hg hm (pa_cons (ha W tk) pa_nil hs) hs) fun σ H R ⟨gh, F, φ, ρ, S, rp, q⟩ => (tI_bind (Rr := rV X.K) rp q).imp fun v H1 ⟨x, S1, F1, φ1, x1, r1, q1, p1⟩ => by
    split at p1
    · rename_i ds
      have q2 := q1.d
      cases q2 with
      | @lst a _ vs ha rs => exact ⟨a, vs, rfl, .of (r1.b.le _ _ ha), p1 _ F1 φ1 H1 (.refl F1 φ1) r1 (yields_enum (.of ha) rs)⟩
    · exact p1.elim
theorem di_zip {mb : EM} (hm : X.mg "zip" = none) (ha : DE cl X e me) (hb : DE cl X e2 mb) (hg : Gl X "zip" := by rfl) (hs : starEach [e, e2] X.env = (false, eval e X.env) :: starEach [e2] X.env := by rfl) (hs2 : starEach [e2] X.env = [(false, eval e2 X.env)] := by rfl) (hpl : (backTo pos (starEach [e2] X.env)).any (·.1) = false := by rfl) :
    DI cl X (.Tuple elts kk tpos) (.Call (.Name "zip" p) [e, e2] [] pos) (iZipD me mb) := fun W tk =>
  pi_imp (RZ.pi_zipA hg hm (pa_cons (ha W tk) (pa_cons (hb W tk) pa_nil hs2) hs) hs hpl) fun σ H R ⟨gh, F, φ, ρ, S, rp, q⟩ => (tI_bind (Rr := rV X.K) rp q).imp fun v H1 ⟨x, S1, F1, φ1, x1, r1, q1, p1⟩ =>
    (tI_bind (Rr := rV X.K) r1 p1).imp fun u H2 ⟨y, S2, F2, φ2, x2, r2, q2, p2⟩ => by
      unfold zip2 at p2
      split at p2
      · have qa := (x2.rv q1).d
        have qb := q2.d
        cases qa with
        | @lst a _ vs ha rs =>
          cases qb with
          | @lst b _ us hb rt => exact ⟨a, b, vs, us, rfl, .inl ⟨.of (r2.b.le _ _ ha), .of (r2.b.le _ _ hb), p2 _ F2 φ2 H2 (.refl F2 φ2) r2 (yields_zipL (.of ha) rs (.of hb) rt)⟩⟩
      · have qa := (x2.rv q1).d
        have qb := q2.d
        cases qa with
        | @tup a _ vs ha rs =>
          cases qb with
          | @tup b _ us hb rt => exact ⟨a, b, vs, us, rfl, .inr ⟨(ha.same r2.b.le).sq, (hb.same r2.b.le).sq, p2 _ F2 φ2 H2 (.refl F2 φ2) r2 (yields_zipT ha.sq rs hb.sq rt)⟩⟩
      · exact p2.elim

def sBad : SM := fun _ _ => .bad
def eBad : EM := fun _ _ => .bad
theorem ds_never {st : Stmt} : DS cl X st sBad := fun W _ _ => ps_imp ps_never fun E σ H ⟨gh, F, φ, ρ, S, r, p⟩ => p
theorem dss_never {st : List Stmt} : DSs cl X st sBad := fun W _ _ => pss_imp pss_never fun E σ H ⟨gh, F, φ, ρ, S, r, p⟩ => p
def sRaise (c : Nat) : SM := fun ρ S => .exc c ρ S
/-- an own class of errors over ValueError -/
structure ExcAt (K : PySem.W.Frag) (mg : Str → Option Value) (cl : Nat → Addr) (c : Nat) (x : Str) : Prop where
  g : mg x = some (.ref (cl c))
  e : PySem.W.excIn K (cl c) [.type "ValueError", .type "Exception", .type "BaseException", .type "object"] "ValueError.__new__" = true
  k : PySem.W.keepIn K (.ref (cl c)) = true
  b : PySem.W.subIn K (.ref (cl c)) (.type "BaseException") = some true
  t : PySem.W.typeIn K (.ref (cl c)) = some (.type "type")
theorem ds_raise {x m : Str} {j : Nat} {c : Nat} {p p2 pos pos2 : Pos} (h : ExcAt X.K X.mg cl c x) (hc : X.calm = true) (hg : Gl X x := by rfl) (hdb : (x == ("__debug__" : Str)) = false := by decide) : DS cl X (.Raise (some (.Call (.Name x p) [.Constant (.str m) j p2] [] pos2)) none pos) (sRaise c) := fun W tk _ =>
  ps_imp (L2N.ps_raise hc tk (L2N.pmk_own PySem.F.excBase_ValueError h.e h.g h.k (raises_own h.b h.t) hg hdb)) fun E σ H ⟨gh, F, φ, ρ, S, r, q⟩ => q F φ σ H (.refl F φ) r
end
end DL

namespace DL
open PySem PySem.Spec PyProof.Rows L2

section
variable {α : Type} [DecidableEq α]
def inL (x : α) (l : List α) : Bool := l.any fun y => decide (y = x)
theorem inL_snoc (x k : α) (l : List α) : inL x (l ++ [k]) = (inL x l || decide (x = k)) := by
  unfold inL
  rw [List.any_append, List.any_cons, List.any_nil, Bool.or_false]
  congr 1
  exact decide_eq_decide.mpr ⟨Eq.symm, Eq.symm⟩
def seenGo (acc : List α) : List α → List α
  | [] => acc
  | k :: ks => seenGo (if inL k acc = true then acc else acc ++ [k]) ks
def seenIn (ks : List α) : List α := seenGo [] ks
theorem seenGo_snoc (k : α) : ∀ (ks acc : List α), seenGo acc (ks ++ [k]) = if inL k (seenGo acc ks) = true then seenGo acc ks else seenGo acc ks ++ [k]
  | [], acc => rfl
  | x :: ks, acc => seenGo_snoc k ks _
theorem seenIn_snoc (ks : List α) (k : α) : seenIn (ks ++ [k]) = if inL k (seenIn ks) = true then seenIn ks else seenIn ks ++ [k] := seenGo_snoc k ks []
theorem seenGo_len : ∀ (ks acc : List α), (seenGo acc ks).length ≤ acc.length + ks.length
  | [], acc => Nat.le_refl _
  | x :: ks, acc => by
    have ih := seenGo_len ks (if inL x acc = true then acc else acc ++ [x])
    show (seenGo (if inL x acc = true then acc else acc ++ [x]) ks).length ≤ _
    rw [List.length_cons]
    by_cases h : inL x acc = true
    · rw [if_pos h] at ih ⊢
      omega
    · rw [if_neg h] at ih ⊢
      rw [List.length_append, List.length_singleton] at ih
      omega
theorem seenIn_len (ks : List α) : (seenIn ks).length ≤ ks.length := by
  have := seenGo_len ks ([] : List α)
  rw [List.length_nil, Nat.zero_add] at this
  exact this
end

namespace SetL
section
variable {P : Program} {w : World} {A : Around} {R : Result → Shared → Prop} {I : Addr} {fp wr : List Addr} {G : Array GenState → Array GenState → Prop} {n : Nat} {Y : Nat → Value → Prop} {St : Nat → Shared → Prop}
def Has (P : Program) (w : World) (h : Heap) (a : Addr) (l : List Key) : Prop := h.SetOf (mixKind P w) a (fun k => inL k (seenIn l)) (seenIn l).length
theorem Has.at {h h' : Heap} {a : Addr} {l : List Key} (q : Has P w h a l) (k : ∀ o, h.get? a = some o → h'.get? a = some o) : Has P w h' a l := setOf_at q k
theorem Has.next {h : Heap} {a : Addr} {l : List Key} {x : Key} (q : h.SetOf (mixKind P w) a (fun k' => inL k' (seenIn l) || decide (k' = x)) (if inL x (seenIn l) = true then (seenIn l).length else (seenIn l).length + 1)) : Has P w h a (l ++ [x]) := by
  unfold Has
  rw [seenIn_snoc]
  by_cases hx : inL x (seenIn l) = true
  · rw [if_pos hx]
    rw [if_pos hx] at q
    have e : (fun k' => inL k' (seenIn l) || decide (k' = x)) = fun k' => inL k' (seenIn l) := funext fun k => by
      by_cases e : k = x
      · subst e
        rw [hx]
        rfl
      · rw [decide_eq_false e, Bool.or_false]
    rw [e] at q
    exact q
  · rw [if_neg hx]
    rw [if_neg hx] at q
    have e : (fun k' => inL k' (seenIn l) || decide (k' = x)) = fun k' => inL k' (seenIn l ++ [x]) := funext fun k => (inL_snoc k x _).symm
    rw [e] at q
    rw [List.length_append]
    exact q
/-- the loop of set.update over what is walked -/
theorem go (W : WalksS P w A.in1 I fp wr G n Y St) (D : Addr) (hD : D ∉ fp) (ks : List Key) (hn : ks.length = n) (hbd : n + 1 < scanBound) (hv : ∀ i u, Y i u → ∃ k, ks[i]? = some k ∧ RelV (kV k) u) :
    ∀ (m i : Nat) (s : Shared), i + m = n → St i s → Has P w s.heap D (ks.take i) → (∀ s', Moved (D :: wr) G s s' → Has P w s'.heap D ks → R (.ok (.ret .none)) s') →
      codeAny (model P w) A (.builtin "set.update.loop" ⟨[.ref D, .ref I], []⟩) R s := by
  have up : ∀ b ∈ wr, b ∈ D :: wr := fun b hb => List.mem_cons_of_mem _ hb
  have nw : D ∉ wr := fun z => hD (W.sub _ z)
  intro m
  induction m with
  | zero =>
    intro i s him st hs hR
    have ei : i = n := him
    subst ei
    refine codeAny_builtin PyProof.Rows.F.entry_set_update_loop ?_
    rw [Around.under_plainId PyProof.Rows.F.plain_set_update_loop _]
    change wpAny _ A.in1 (pyNext (.ref I) >>= _) _ _ s
    refine wpAny_bind (W.done s _ _ st fun s2 mv => ?_)
    change wpAny _ A.in1 (ret Value.none) _ _ s2
    refine wpAny_pure (hR s2 (mv.mono up) (Has.at (l := ks) ?_ fun o e => mv.heap D o nw e))
    rw [← hn, List.take_length] at hs
    exact hs
  | succ m ih =>
    intro i s him st hs hR
    have hi : i < n := by omega
    refine codeAny_builtin PyProof.Rows.F.entry_set_update_loop ?_
    rw [Around.under_plainId PyProof.Rows.F.plain_set_update_loop _]
    change wpAny _ A.in1 (pyNext (.ref I) >>= _) _ _ s
    refine wpAny_bind (W.item i s _ _ hi st fun v s2 hy st2 mv => ?_)
    obtain ⟨k, hk, rk⟩ := hv i v hy
    have hs2 : Has P w s2.heap D (ks.take i) := hs.at fun o e => mv.heap D o nw e
    change wpAny _ A.in1 (holding [v] (setAdd D v) >>= _) _ _ s2
    refine wpAny_bind (wpAny_holding ?_)
    unfold setAdd
    refine wpAny_holding (wpAny_bind ((mixKind P w).pyHash (kV_is rk) ?_))
    refine wpAny_setAddHashed_of (knd := mixKind P w) (s := { s2 with toks := s2.toks + 1 }) (kV_is rk) (key_scan rk) hs2 ?_ fun h3 sb hs3 => ?_
    · have := seenIn_len (ks.take i)
      rw [List.length_take] at this
      omega
    have hs4 : Has P w h3 D (ks.take (i + 1)) := by
      have e : ks.take (i + 1) = ks.take i ++ [k] := by rw [List.take_add_one, hk]; rfl
      rw [e]
      exact Has.next hs3
    have same : ∀ b, b ≠ D → ∀ o, s2.heap.get? b = some o → h3.get? b = some o := fun b hb o e => (sb.2 b hb).trans e
    refine wpAny_pure ⟨plainId_quiet PyProof.Rows.F.plain_set_update_loop _, ih (i + 1) _ (by omega) (W.frame _ s2 _ _ st2 (Nat.le_succ _) fun b hb o e => same b (fun z => hD (z ▸ hb)) o e) hs4 fun s5 mv5 hs5 => hR s5 ?_ hs5⟩
    exact Moved.trans W.gtrans ((mv.mono up).then_heap (Nat.le_succ _) fun b o hb e => same b (fun z => hb (by rw [z]; exact List.mem_cons_self)) o e) mv5

/-- set.__init__ over a list of keys -/
theorem init_list {A : Around} {E : Value → Shared → Prop} {s : Shared} {b D : Addr} {led : Bool} {us : Array Value} {ks : List Key} {Q : Value → Shared → Prop} (hot : A.handled = none) (q : s.heap.IsList b us) (bD : b ≠ D) (hset : s.heap.get? D = some { cls := .type "set", dict := none, data := .set #[] 0 (.fresh 0 0 led) })
    (hv : Vals (ks.map kV) us.toList) (hlen : ks.length ≤ 4000)
    (fin : ∀ (h2 : Heap) (tk : Nat), Has P w h2 D ks → (∀ c o, c ≠ D → s.heap.get? c = some o → h2.get? c = some o) → Q .none { s with heap := h2, toks := tk }) :
    wpAny (model P w) A (Builtin.«set.__init__» ⟨[.ref D, .ref b], []⟩) (fun f s2 => match f with
      | .done (.ret r) => Q r s2
      | _ => False) E s := by
  obtain ⟨ob, hob, hcl, ep, hdt⟩ := id q
  obtain ⟨k1, k2, k3, k4⟩ := ob
  simp only at hcl hdt
  subst hcl hdt
  have n1 := PySem.F.sub_list_set
  have n2 := PySem.F.sub_list_frozenset
  have n3 : (Value.type "list" == Value.type "dict") = false := by decide
  unfold Builtin.«set.__init__» noKeywords Builtin.Frozenset.updateFrom
  generalize hIt : pyIter = It
  wp_walk
  subst hIt
  refine wpAny_pyIter_list q (wpAny_bind (wpAny_runValue ?_))
  have nb : b ≠ s.heap.objs.size := Nat.ne_of_lt (Heap.lt_size hob)
  have nD : D ≠ s.heap.objs.size := Nat.ne_of_lt (Heap.lt_size hset)
  have esz : ks.length = us.size := by
    have := hv.length
    rw [List.length_map, Array.length_toList] at this
    exact this
  refine go (ks := ks) ((Walks.list (show A.in1.handled = none from by simp [hot]) s.heap.objs.size b nb us).toS) D (by simp [nD, Ne.symm bD]) esz (by unfold scanBound; omega) (fun i u hu => ?_) us.size 0 _ (Nat.zero_add _) ⟨⟨_, Heap.get?_push_size _ rfl, rfl, rfl⟩, q.push _⟩ ?_ fun s2 mv hs => ?_
  · have h1 : us.toList[i]? = some u := by rw [Array.getElem?_toList]; exact hu
    obtain ⟨hi, h2⟩ := List.getElem?_eq_some_iff.mp h1
    have hi' : i < ks.length := by
      rw [Array.length_toList] at hi
      omega
    refine ⟨ks[i], List.getElem?_eq_getElem hi', ?_⟩
    obtain ⟨u', e', r'⟩ := hv.get (i := i) (by rw [List.getElem?_map, List.getElem?_eq_getElem hi']; rfl)
    rw [h1] at e'
    cases e'
    exact r'
  · exact ⟨_, #[], 0, _, Heap.get?_push_of_some _ hset, ⟨rfl, rfl, rfl⟩, rfl, (fun e he => by simp at he), (fun k => by simp [inL, seenIn, seenGo]), (by decide), (by cases led <;> rfl), rfl⟩
  · obtain ⟨h2, g2, d2, t2, o2⟩ := s2
    have e1 : g2 = s.gens := mv.gens
    have e2 : d2 = s.drawn := mv.drawn
    have e3 : o2 = s.os := mv.os
    subst e1 e2 e3
    change wpAny _ _ _ _ _ _
    refine wpAny_pure (wpAny_pure ?_)
    exact fin h2 t2 hs fun c o hc e => mv.heap c o (by simp [hc, Nat.ne_of_lt (Heap.lt_size e)]) (Heap.get?_push_of_some _ e)

/-- set.__init__ over a tuple of keys -/
theorem init_tuple {A : Around} {E : Value → Shared → Prop} {s : Shared} {b D : Addr} {led : Bool} {us : Array Value} {ks : List Key} {Q : Value → Shared → Prop} (hot : A.handled = none) (q : s.heap.IsTuple b us) (bD : b ≠ D) (hset : s.heap.get? D = some { cls := .type "set", dict := none, data := .set #[] 0 (.fresh 0 0 led) })
    (hv : Vals (ks.map kV) us.toList) (hlen : ks.length ≤ 4000)
    (fin : ∀ (h2 : Heap) (tk : Nat), Has P w h2 D ks → (∀ c o, c ≠ D → s.heap.get? c = some o → h2.get? c = some o) → Q .none { s with heap := h2, toks := tk }) :
    wpAny (model P w) A (Builtin.«set.__init__» ⟨[.ref D, .ref b], []⟩) (fun f s2 => match f with
      | .done (.ret r) => Q r s2
      | _ => False) E s := by
  obtain ⟨ob, hob, hcl, ep, hdt⟩ := id q
  obtain ⟨k1, k2, k3, k4⟩ := ob
  simp only at hcl hdt
  subst hcl hdt
  have n1 := PySem.F.sub_tuple_set
  have n2 := PySem.F.sub_tuple_frozenset
  have n3 : (Value.type "tuple" == Value.type "dict") = false := by decide
  unfold Builtin.«set.__init__» noKeywords Builtin.Frozenset.updateFrom
  generalize hIt : pyIter = It
  wp_walk
  subst hIt
  refine wpAny_pyIter_tuple q (wpAny_bind (wpAny_runValue ?_))
  have nb : b ≠ s.heap.objs.size := Nat.ne_of_lt (Heap.lt_size hob)
  have nD : D ≠ s.heap.objs.size := Nat.ne_of_lt (Heap.lt_size hset)
  have esz : ks.length = us.size := by
    have := hv.length
    rw [List.length_map, Array.length_toList] at this
    exact this
  refine go (ks := ks) ((Walks.tuple (show A.in1.handled = none from by simp [hot]) s.heap.objs.size b nb us).toS) D (by simp [nD, Ne.symm bD]) esz (by unfold scanBound; omega) (fun i u hu => ?_) us.size 0 _ (Nat.zero_add _) ⟨⟨_, Heap.get?_push_size _ rfl, rfl, rfl⟩, q.push _⟩ ?_ fun s2 mv hs => ?_
  · have h1 : us.toList[i]? = some u := by rw [Array.getElem?_toList]; exact hu
    obtain ⟨hi, h2⟩ := List.getElem?_eq_some_iff.mp h1
    have hi' : i < ks.length := by
      rw [Array.length_toList] at hi
      omega
    refine ⟨ks[i], List.getElem?_eq_getElem hi', ?_⟩
    obtain ⟨u', e', r'⟩ := hv.get (i := i) (by rw [List.getElem?_map, List.getElem?_eq_getElem hi']; rfl)
    rw [h1] at e'
    cases e'
    exact r'
  · exact ⟨_, #[], 0, _, Heap.get?_push_of_some _ hset, ⟨rfl, rfl, rfl⟩, rfl, (fun e he => by simp at he), (fun k => by simp [inL, seenIn, seenGo]), (by decide), (by cases led <;> rfl), rfl⟩
  · obtain ⟨h2, g2, d2, t2, o2⟩ := s2
    have e1 : g2 = s.gens := mv.gens
    have e2 : d2 = s.drawn := mv.drawn
    have e3 : o2 = s.os := mv.os
    subst e1 e2 e3
    change wpAny _ _ _ _ _ _
    refine wpAny_pure (wpAny_pure ?_)
    exact fin h2 t2 hs fun c o hc e => mv.heap c o (by simp [hc, Nat.ne_of_lt (Heap.lt_size e)]) (Heap.get?_push_of_some _ e)

/-- set(x): new, then filled -/
theorem set_shell {A : Around} {E : Value → Shared → Prop} {s : Shared} {x : Value} {Q : Value → Shared → Prop}
    (hx : ∀ led : Bool, wpAny (model P w) A.in1.in1 (Builtin.«set.__init__» ⟨[.ref s.heap.objs.size, x], []⟩) (fun f s2 => match f with
      | .done (.ret r) => r = .none ∧ Q (.ref s.heap.objs.size) s2
      | _ => False) E { s with heap := s.heap.push { cls := .type "set", dict := none, data := .set #[] 0 (.fresh 0 0 led) } }) :
    wpAny (model P w) A (call (.type "set") [x]) Q E s := by
  have F := PySem.F.called_set
  obtain ⟨c0, l0, mr⟩ := F.mro
  have md := F.made
  have sb := F.sub
  refine wpAny_call (codeAny_of_tree ?_)
  change wpAny _ _ (callAny (.type "set") _) _ _ _
  refine wpAny_pure ⟨Code.quiet_builtin _ (by decide +kernel), codeAny_builtin PySem.F.entry_type_call ?_⟩
  rw [Around.under_plain (weight_type_call_type "set" [x] []) rfl]
  have g1 := F.notType
  have g2 := F.canCreate
  have g3 := PySem.F.typeCall_set_1 x
  repeat (any_goals (first | assumption | wp_step))
  refine codeAny_mono (code_set_new_1 x (E := E) (Q₁ := fun ob s1 => ∃ led : Bool, ob = .ref s.heap.objs.size ∧ s1 = { s with heap := s.heap.push { cls := .type "set", dict := none, data := .set #[] 0 (.fresh 0 0 led) } }) fun led => ⟨led, rfl, rfl⟩) fun r s1 hr => ?_
  cases r with
  | error e => exact hr
  | ok fl =>
    cases fl with
    | ret ob =>
      obtain ⟨led, rfl, rfl⟩ := hr
      have ty : Shared.TypeIs { s with heap := s.heap.push { cls := .type "set", dict := none, data := .set #[] 0 (.fresh 0 0 led) } } (.ref s.heap.objs.size) "set" := ⟨_, Heap.get?_push_size _ rfl, rfl⟩
      have g4 := F.init.lookup
      have g5 := F.init.bind (.ref s.heap.objs.size)
      repeat (any_goals (first | assumption | wp_step))
      refine codeAny_mono (codeAny_call_builtin (R := wants (fun r s2 => r = .none ∧ Q (.ref s.heap.objs.size) s2) E) F.init.plain PySem.F.entry_set_init (check_set_init_1 ty (wpAny_mono (hx led) (fun f s2 h => ?_) fun e s2 h => h))) fun r2 s2 h2 => ?_
      · cases f with
        | done fl =>
          cases fl with
          | ret r => exact h
          | _ => exact h.elim
        | again _ => exact h.elim
      · cases r2 with
        | error e => exact h2
        | ok fl2 =>
          cases fl2 with
          | ret r =>
            obtain ⟨rfl, h3⟩ := h2
            repeat (any_goals (first | assumption | wp_step))
          | _ => exact h2.elim
    | _ => exact hr.elim
end
end SetL
end DL

namespace DL
open PySem PySem.Spec PyProof.Rows L2

def pLenSet : D → Option D
  | .lst ds => match keysOf ds with
    | some ks => if ks.length ≤ 4000 then some (.int (seenIn ks).length) else none
    | none => none
  | .tup ds => match keysOf ds with
    | some ks => if ks.length ≤ 4000 then some (.int (seenIn ks).length) else none
    | none => none
  | _ => none
section
variable {X : Cx} {cl : Nat → Addr} {a : Expr} {ma : EM} {p p2 q pos : Pos}
def tLenK (K : PySem.W.Frag) (ta : TE) : TE := fun σ H Q => ta σ H fun x H1 => ∃ (l : Addr) (ks : List Key), x = .ref l ∧ (SqL K H1 l (ks.map kV) ∨ SqT K H1 l (ks.map kV)) ∧ ks.length ≤ 4000 ∧ Q (.int (seenIn ks).length) H1
theorem pe_lenK {ta : TE} (hc : X.calm = true) (g1 : Gl X "len") (m1 : X.mg "len" = none) (g2 : Gl X "set") (m2 : X.mg "set" = none) (ha : PE X a ta)
    (na : starEach [a] X.env = (false, eval a X.env) :: starEach [] X.env := by rfl) : PE X (.Call (.Name "len" p) [.Call (.Name "set" p2) [a] [] q] [] pos) (tLenK X.K ta) := by
  constructor
  intro pins s σ H Q I h
  refine Call_ (ld_blt I g1 m1 boot_len (PyProof.Rows.callWith_builtin1 (PyProof.Rows.args_cons ?_ rfl) rfl rfl))
  refine Call_ (ld_blt I g2 m2 boot_set (PyProof.Rows.callWith_type1 (PyProof.Rows.args_cons (thn (ha.run pins s σ H _ I h) fun v s1 ⟨x, H1, I1, r1, q1⟩ => PyProof.Rows.args_nil ?_) na) na rfl))
  obtain ⟨l, ks, rfl, hq, hl, q1⟩ := q1
  cases r1
  have after : ∀ (h2 : Heap) (tk : Nat), SetL.Has X.prog X.w h2 s1.heap.objs.size ks → (∀ c o, s1.heap.get? c = some o → h2.get? c = some o) →
      wpAny (model X.prog X.w) X.A (spliced (backTo pos (starEach [] X.env))) (fun vs s2 => wpAny (model X.prog X.w) X.A (call (.builtin "len") (Value.ref s1.heap.objs.size :: vs)) (EP X pins σ Q) X.xe s2) X.xe { s1 with heap := h2, toks := tk } := fun h2 tk hs hk => by
    refine PyProof.Rows.args_nil ?_
    obtain ⟨o, es, ep, t, ho, hex, hd, _, _, _, hf, hn⟩ := hs
    have I2 : Inv X pins σ H1 { s1 with heap := h2, toks := tk } := I1.kept hk
    have := seenIn_len ks
    exact call_len_set ho hex hd hf (by rw [hn]; omega) ⟨.int (seenIn ks).length, H1, I2.tok _, ⟨_, by rw [hn]⟩, q1⟩
  have h0 : X.A.in1.in1.handled = none := by
    have := I1.ok.hd hc
    simp [this]
  refine SetL.set_shell fun led => ?_
  have hD : (s1.heap.push { cls := .type "set", dict := none, data := .set #[] 0 (.fresh 0 0 led) }).get? s1.heap.objs.size = some { cls := .type "set", dict := none, data := .set #[] 0 (.fresh 0 0 led) } := Heap.get?_push_size _ rfl
  rcases hq with hq | hq
  · obtain ⟨its, r, pl, hz⟩ := I1.list hq
    have hlt : l < s1.heap.objs.size := by
      obtain ⟨o, ho, _⟩ := pl.isList
      exact Heap.lt_size ho
    refine SetL.init_list h0 (pl.isList.push _) (Nat.ne_of_lt hlt) hD (by simpa using r) hl (Q := fun r s2 => r = .none ∧ wpAny (model X.prog X.w) X.A _ _ X.xe s2) fun h2 tk hs hk => ⟨rfl, after h2 tk hs fun c o e => hk c o (Nat.ne_of_lt (Heap.lt_size e)) (Heap.get?_push_of_some _ e)⟩
  · obtain ⟨its, r, pl, hz⟩ := I1.tuple hq
    have hlt : l < s1.heap.objs.size := by
      obtain ⟨o, ho, _⟩ := pl
      exact Heap.lt_size ho
    refine SetL.init_tuple h0 (pl.push _) (Nat.ne_of_lt hlt) hD (by simpa using r) hl (Q := fun r s2 => r = .none ∧ wpAny (model X.prog X.w) X.A _ _ X.xe s2) fun h2 tk hs hk => ⟨rfl, after h2 tk hs fun c o e => hk c o (Nat.ne_of_lt (Heap.lt_size e)) (Heap.get?_push_of_some _ e)⟩
theorem de_lenSet (hc : X.calm = true) (m1 : X.mg "len" = none) (m2 : X.mg "set" = none) (ha : DE cl X a ma) (g1 : Gl X "len" := by rfl) (g2 : Gl X "set" := by rfl)
    (na : starEach [a] X.env = (false, eval a X.env) :: starEach [] X.env := by rfl) : DE cl X (.Call (.Name "len" p) [.Call (.Name "set" p2) [a] [] q] [] pos) (eOp1 pLenSet ma) := fun W tk =>
  pe_imp (pe_lenK hc g1 m1 g2 m2 (ha W tk) na) fun σ H Q ⟨gh, F, φ, ρ, S, rp, p⟩ => by
    refine (tG_bind (R := rV X.K) rp p).imp fun v H1 ⟨x, S1, F1, φ1, x1, r1, q1, p1⟩ => ?_
    simp only [op1] at p1
    split at p1
    · rename_i d hd
      split at p1
      · rename_i c hc
        have rt := deref_ok r1.b q1 hd
        cases rt with
        | @lst a _ vs ha rs =>
          simp only [pLenSet] at hc
          split at hc
          · rename_i ks hk
            split at hc
            · rename_i hl
              cases hc
              have e := rvs_keys rs hk
              subst e
              exact ⟨a, ks, rfl, .inl (.of ha), hl, p1 _ F1 φ1 H1 (.refl F1 φ1) r1 (.dat (.int _))⟩
            · cases hc
          · cases hc
        | @tup a _ vs ha rs =>
          simp only [pLenSet] at hc
          split at hc
          · rename_i ks hk
            split at hc
            · rename_i hl
              cases hc
              have e := rvs_keys rs hk
              subst e
              exact ⟨a, ks, rfl, .inr ((ha.same r1.b.le).sq), hl, p1 _ F1 φ1 H1 (.refl F1 φ1) r1 (.dat (.int _))⟩
            · cases hc
          · cases hc
        | _ => cases hc
      · exact p1.elim
    · exact p1.elim
end

def sgV (z : Str) : List V := z.cps.toList.map fun c => V.str ⟨#[c]⟩
theorem sg_vals {z : Str} {acc : Array Value} (h : ItemsOf (SignAt z) acc z.cps.size) : Vals (sgV z) acc.toList := by
  refine vals_of_at ?_ fun j x u h1 h2 => ?_
  · unfold sgV
    rw [List.length_map, Array.length_toList, Array.length_toList, h.1]
  · rw [Array.getElem?_toList] at h2
    obtain ⟨c, t, hc, rfl⟩ := h.2 j u h2
    unfold sgV at h1
    rw [List.getElem?_map, Array.getElem?_toList, hc] at h1
    cases h1
    exact ⟨t, rfl⟩
theorem callr_or {X : Cx} {f : Value} {r r' : List V → Hp → VK → Prop} (h : CallR X f r) (h' : CallR X f r') : CallR X f (fun xs H Q => r xs H Q ∨ r' xs H Q) := fun pins s σ H xs us Q I rv q => q.elim (h pins s σ H xs us Q I rv) (h' pins s σ H xs us Q I rv)
section
variable {X : Cx}
def rListT : List V → Hp → VK → Prop := fun xs H Q => ∃ z : Str, xs = [.str z] ∧ z.length ≤ sizeLine ∧ ∀ l, H l = none → Q (.ref l) (upd H l (.lst (sgV z)))
def rTupT : List V → Hp → VK → Prop := fun xs H Q => ∃ z : Str, xs = [.str z] ∧ z.length ≤ sizeLine ∧ FreshT (sgV z) H Q
theorem call_listT (hc : X.calm = true) : CallR X (.type "list") rListT := by
  intro pins s σ H xs us Q I rv h
  obtain ⟨z, rfl, hz, q⟩ := h
  cases rv with
  | cons r1 rr =>
    cases rr
    obtain ⟨t, rfl⟩ := r1
    refine PySem.call_list_str (I.ok.hd hc) z t (fun h2 tk acc ep hk hS hi => ?_) hz
    have len : (sgV z).length ≤ sizeLine := by
      unfold sgV
      rw [List.length_map, Array.length_toList]
      exact hz
    exact ⟨.ref _, upd H s.heap.objs.size (.lst (sgV z)), I.laid (t' := tk) hk (Nat.le_refl _) ⟨len, acc.toList, ep, sg_vals hi, by simpa [seqObj] using hS⟩, rfl, q _ (I.hok.fresh (Nat.le_refl _))⟩
theorem call_tupT (hc : X.calm = true) : CallR X (.type "tuple") rTupT := by
  intro pins s σ H xs us Q I rv h
  obtain ⟨z, rfl, hz, q⟩ := h
  cases rv with
  | cons r1 rr =>
    cases rr
    obtain ⟨t, rfl⟩ := r1
    refine PySem.call_tuple_str (I.ok.hd hc) z t (fun h2 tk acc hk hi => ?_) hz
    have len : (sgV z).length ≤ sizeLine := by
      unfold sgV
      rw [List.length_map, Array.length_toList]
      exact hz
    have I1 : Inv X pins σ H { s with heap := h2, toks := tk } := I.kept hk
    have e := laidX I1 len (sg_vals hi) q tk
    simpa using e

theorem collect_txt {P : Program} {w : World} {A : Around} {E : Value → Shared → Prop} {s : Shared} {z : Str} {t : Tok} {Q : List Value → Shared → Prop} (hot : A.handled = none) (hz : z.cps.size ≤ sizeLine)
    (h : ∀ (h2 : Heap) (tk : Nat) (acc : Array Value), (∀ b o, s.heap.get? b = some o → h2.get? b = some o) → s.heap.objs.size < h2.objs.size → ItemsOf (SignAt z) acc z.cps.size → Q acc.toList { s with heap := h2, toks := tk }) :
    wpAny (model P w) A (collect (.str z t)) Q E s := by
  have key : ∀ R : Result → Shared → Prop, (∀ (h2 : Heap) (tk : Nat) (acc : Array Value) (ep : Nat), (∀ b o, s.heap.get? b = some o → h2.get? b = some o) → h2.get? s.heap.objs.size = some { cls := .type "list", dict := none, data := .seq acc ep, slots := #[] } →
      ItemsOf (SignAt z) acc z.cps.size → R (.ok (.ret (.ref s.heap.objs.size))) { s with heap := h2, toks := tk }) → codeAny (model P w) A (.builtin "proto.collect" ⟨[.str z t], []⟩) R s := fun R hR => by
    refine codeAny_builtin entry_proto_collect' ?_
    change wpAny _ _ (do again (.builtin "list.__iadd__" ⟨[← newList [], .str z t], []⟩)) _ _ s
    refine wpAny_bind (wpAny_newList (wpAny_pure ⟨Code.quiet_builtin _ (by decide +kernel), codeAny_builtin entry_list_iadd' ?_⟩))
    change wpAny _ _ (Builtin.List.listExtendWith (.ref s.heap.objs.size) (.str z t) (.ref s.heap.objs.size)) _ _ { s with heap := s.heap.push (seqObj "list" #[] 0) }
    have pl : plainId "list.__iadd__" = true := by decide +kernel
    rw [Around.under_plainId pl _]
    refine PySem.wpAny_extend_str (R := R) (s := { s with heap := s.heap.push (seqObj "list" #[] 0) }) hot z t s.heap.objs.size _ 0 (Heap.get?_push_size _ rfl) (fun h2 tk acc ep hk hS hi => ?_) hz
    exact hR h2 tk acc ep (fun b o e => hk b o (Nat.ne_of_lt (Heap.lt_size e)) (Heap.get?_push_of_some _ e)) hS hi
  unfold collect
  refine wpAny_bind (wpAny_runValue (key _ fun h2 tk acc ep hk hS hi => ?_))
  change wpAny (model P w) A (do
      let o ← load s.heap.objs.size
      match o.data with
      | .seq xs _ => pure xs.toList
      | _ => unsupported "internal:collect") Q E { s with heap := h2, toks := tk }
  refine wpAny_bind (wpAny_load hS ?_)
  exact wpAny_pure (h h2 tk acc hk (Heap.lt_size hS) hi)
theorem sorted_txt {P : Program} {w : World} {A : Around} {E : Value → Shared → Prop} {s : Shared} {z : Str} {t : Tok} {Q : Value → Shared → Prop} (hot : A.handled = none) (hz : z.cps.size < 64) {ys : List Str} (hys : ∀ acc : Array Value, ItemsOf (SignAt z) acc z.cps.size → StrsAre acc.toList ys)
    (h : ∀ (h2 : Heap) (tk : Nat) (out : Array Value) (a : Addr) (ep : Nat) (zs : List Str), (∀ b o, s.heap.get? b = some o → h2.get? b = some o) → s.heap.objs.size ≤ a → h2.get? a = some (seqObj "list" out ep) → StrsAre out.toList zs → zs.Perm ys → sortedS zs = true → Q (.ref a) { s with heap := h2, toks := tk }) :
    wpAny (model P w) A (call (.builtin "sorted") [.str z t]) Q E s := by
  refine Calls.call_function_entry kind_sorted plain_sorted entry_sorted (args_sorted1 _) ?_
  unfold Builtin.«sorted»
  refine wpAny_bind (m := checkCount "sorted" 1 1 _) (wpAny_pure ?_)
  refine wpAny_bind (collect_txt (by simpa using hot) (by rw [sizeLine_eq]; omega) fun h2 tk acc hk hlt hi => ?_)
  have hn : acc.toList.length < 64 := by
    rw [Array.length_toList, hi.1]
    exact hz
  have hst := hys acc hi
  refine wpAny_bind (wpAny_newList ?_ (by rw [sizeLine_eq]; omega))
  have ho : (h2.push (seqObj "list" acc.toList.toArray 0)).get? h2.objs.size = some (seqObj "list" acc.toList.toArray 0) := Heap.get?_push_size _ rfl
  change wpAny _ _ _ _ _ { s with heap := h2.push (seqObj "list" acc.toList.toArray 0), toks := tk }
  refine wpAny_bind (wpAny_holding (wpAny_call_entry slot_list_sort ⟨_, ho, rfl⟩ entry_list_sort (list_sort_treeK strKind_oneLt ho hst.keysOf (fun v1 v2 rest e => keyKind_strs (by rw [← e]; exact hst)) hn fun st a1 a2 => ⟨_, rfl, ?_⟩) (args_list_sort _)))
  obtain ⟨zs, z1, z2, z3⟩ := sorted_out_str hst a1 a2
  obtain ⟨ep, he⟩ := sortedHeap_at (vs := acc.toList) (out := (arrOf st).map (·.2)) ho
  refine wpAny_pure ⟨_, rfl, h _ _ _ h2.objs.size ep zs (fun b o e => ?_) (Nat.le_of_lt hlt) he z1 z2 z3⟩
  have hb := Heap.lt_size (hk b o e)
  change (sortedHeap _ _ _ _).get? b = some o
  rw [sortedHeap_old (Nat.ne_of_lt hb) (by rw [size_push']; exact Nat.lt_succ_of_lt hb)]
  exact Heap.get?_push_of_some _ (hk b o e)
end
end DL

namespace DL
open PySem PySem.Spec PyProof.Rows L2

section
variable {α : Type}
def insS (le : α → α → Bool) (x : α) : List α → List α
  | [] => [x]
  | y :: ys => if le x y = true then x :: y :: ys else y :: insS le x ys
def isort (le : α → α → Bool) : List α → List α
  | [] => []
  | x :: xs => insS le x (isort le xs)
theorem insS_perm (le : α → α → Bool) (x : α) : ∀ ys : List α, (insS le x ys).Perm (x :: ys)
  | [] => .refl _
  | y :: ys => by
    unfold insS
    split
    · exact .refl _
    · exact ((insS_perm le x ys).cons y).trans (List.Perm.swap x y ys)
theorem isort_perm (le : α → α → Bool) : ∀ xs : List α, (isort le xs).Perm xs
  | [] => .refl _
  | x :: xs => (insS_perm le x _).trans ((isort_perm le xs).cons x)
theorem insS_pw {le : α → α → Bool} (tot : ∀ a b, le a b = true ∨ le b a = true) (tr : ∀ a b c, le a b = true → le b c = true → le a c = true) (x : α) : ∀ ys : List α, ys.Pairwise (fun a b => le a b = true) → (insS le x ys).Pairwise (fun a b => le a b = true)
  | [], _ => List.pairwise_singleton ..
  | y :: ys, h => by
    obtain ⟨h1, h2⟩ := List.pairwise_cons.mp h
    unfold insS
    split
    · rename_i e
      exact List.pairwise_cons.mpr ⟨fun z hz => by
        rcases List.mem_cons.mp hz with q | q
        · subst q
          exact e
        · exact tr _ _ _ e (h1 z q), h⟩
    · rename_i e
      have e' : le y x = true := (tot x y).resolve_left e
      refine List.pairwise_cons.mpr ⟨fun z hz => ?_, insS_pw tot tr x ys h2⟩
      rcases List.mem_cons.mp ((insS_perm le x ys).mem_iff.mp hz) with q | q
      · subst q
        exact e'
      · exact h1 z q
theorem isort_pw {le : α → α → Bool} (tot : ∀ a b, le a b = true ∨ le b a = true) (tr : ∀ a b c, le a b = true → le b c = true → le a c = true) : ∀ xs : List α, (isort le xs).Pairwise (fun a b => le a b = true)
  | [] => .nil
  | x :: xs => insS_pw tot tr x _ (isort_pw tot tr xs)
/-- sorted, the same items: the same -/
theorem isort_only {le : α → α → Bool} (tot : ∀ a b, le a b = true ∨ le b a = true) (tr : ∀ a b c, le a b = true → le b c = true → le a c = true) (an : ∀ a b, le a b = true → le b a = true → a = b) {xs ys : List α} (hp : ys.Perm xs) (hs : ys.Pairwise (fun a b => le a b = true)) : ys = isort le xs :=
  List.Perm.eq_of_pairwise (fun a b _ _ h1 h2 => an a b h1 h2) hs (isort_pw tot tr xs) (hp.trans (isort_perm le xs).symm)
end
def leI (i j : Int) : Bool := decide (i ≤ j)
def leT (s t : List Nat) : Bool := !decide (t < s)
theorem leT_iff {s t : List Nat} : leT s t = true ↔ s ≤ t := by
  unfold leT
  rw [Bool.not_eq_true', decide_eq_false_iff_not]
  exact List.not_lt
theorem leT_tot (s t : List Nat) : leT s t = true ∨ leT t s = true := by
  rw [leT_iff, leT_iff]
  exact List.le_total s t
theorem leT_tr (a b c : List Nat) (h : leT a b = true) (h2 : leT b c = true) : leT a c = true := leT_iff.mpr (List.le_trans (leT_iff.mp h) (leT_iff.mp h2))
theorem leT_an (a b : List Nat) (h : leT a b = true) (h2 : leT b a = true) : a = b := List.le_antisymm (leT_iff.mp h) (leT_iff.mp h2)
theorem leI_tot (s t : Int) : leI s t = true ∨ leI t s = true := by
  unfold leI
  rw [decide_eq_true_eq, decide_eq_true_eq]
  omega
theorem leI_tr (a b c : Int) (h : leI a b = true) (h2 : leI b c = true) : leI a c = true := by
  unfold leI at *
  rw [decide_eq_true_eq] at *
  omega
theorem leI_an (a b : Int) (h : leI a b = true) (h2 : leI b a = true) : a = b := by
  unfold leI at *
  rw [decide_eq_true_eq] at *
  omega
def ofStr (z : Str) : List Nat := z.cps.toList
theorem ofStr_to (s : List Nat) : ofStr (toStr s) = s := by
  unfold ofStr toStr
  simp
theorem toStr_of (z : Str) : toStr (ofStr z) = z := by
  cases z
  unfold ofStr toStr
  simp
theorem rising_pw : ∀ (r : List Str) (p : Str), risingS p r = true → (p :: r).Pairwise (fun a b => leT (ofStr a) (ofStr b) = true)
  | [], p, _ => List.pairwise_singleton ..
  | x :: r, p, h => by
    unfold risingS at h
    rw [Bool.and_eq_true] at h
    have ih := rising_pw r x h.2
    have e : leT (ofStr p) (ofStr x) = true := by
      have := h.1
      rw [ltCps_eq] at this
      exact this
    refine List.pairwise_cons.mpr ⟨fun z hz => ?_, ih⟩
    rcases List.mem_cons.mp hz with q | q
    · subst q
      exact e
    · exact leT_tr _ _ _ e ((List.pairwise_cons.mp ih).1 z q)
theorem sortedS_pw {l : List Str} (h : sortedS l = true) : l.Pairwise (fun a b => leT (ofStr a) (ofStr b) = true) := by
  cases l with
  | nil => exact .nil
  | cons x r => exact rising_pw r x h
theorem sortedS_only {xs : List (List Nat)} {ys : List Str} (hp : ys.Perm (xs.map toStr)) (hs : sortedS ys = true) : ys = (isort leT xs).map toStr := by
  have e1 : ys.map ofStr = isort leT xs := by
    refine isort_only leT_tot leT_tr leT_an ?_ (List.pairwise_map.mpr (sortedS_pw hs))
    have := hp.map ofStr
    rw [List.map_map] at this
    have e2 : (ofStr ∘ toStr) = id := funext ofStr_to
    rw [e2, List.map_id] at this
    exact this
  rw [← e1, List.map_map]
  have e3 : (toStr ∘ ofStr) = id := funext toStr_of
  rw [e3, List.map_id]
def strsOf : List D → Option (List (List Nat))
  | [] => some []
  | .str b :: r => match strsOf r with
    | some bs => some (b :: bs)
    | none => none
  | _ :: _ => none
theorem rvs_strs {K : PySem.W.Frag} {F : Hp} : ∀ {ds : List D} {vs : List V} {bs : List (List Nat)}, Rvs K F ds vs → strsOf ds = some bs → vs = (bs.map toStr).map V.str ∧ ∀ b ∈ bs, strGood b
  | [], _, _, .nil, h => by
    cases h
    exact ⟨rfl, fun b hb => nomatch hb⟩
  | d :: ds, _, bs, .cons r t, h => by
    cases r <;> first
      | (cases h; done)
      | (rename_i s hs
         simp only [strsOf] at h
         split at h
         · rename_i bs' h'
           cases h
           obtain ⟨e1, e2⟩ := rvs_strs t h'
           rw [e1]
           refine ⟨rfl, fun b hb => ?_⟩
           rcases List.mem_cons.mp hb with z | z
           · subst z
             exact hs
           · exact e2 b z
         · cases h)
theorem rvs_of_strs {K : PySem.W.Frag} {F : Hp} : ∀ {bs : List (List Nat)}, (∀ b ∈ bs, strGood b) → Rvs K F (bs.map .str) ((bs.map toStr).map V.str)
  | [], _ => .nil
  | b :: bs, h => .cons (.str (h b List.mem_cons_self)) (rvs_of_strs fun c hc => h c (List.mem_cons_of_mem _ hc))
theorem rvs_of_ints {K : PySem.W.Frag} {F : Hp} : ∀ {bs : List Int}, Rvs K F (bs.map .int) (bs.map V.int)
  | [] => .nil
  | b :: bs => .cons (.int b) rvs_of_ints
def sgs (s : List Nat) : List (List Nat) := s.map fun c => [c]
theorem sgs_good {s : List Nat} (h : strGood s) : ∀ b ∈ sgs s, strGood b := fun b hb c hc => by
  obtain ⟨x, hx, rfl⟩ := List.mem_map.mp hb
  rcases List.mem_cons.mp hc with z | z
  · subst z
    exact h _ hx
  · cases z
theorem sgV_eq (s : List Nat) : sgV (toStr s) = ((sgs s).map toStr).map V.str := by
  unfold sgV sgs toStr
  simp
def pSorted : D → Option D
  | .lst ds => match intsOf ds with
    | some ns => some (.lst ((isort leI ns).map .int))
    | none => (match strsOf ds with
      | some ss => if ss.length < 64 then some (.lst ((isort leT ss).map .str)) else none
      | none => none)
  | .str s => if s.length < 64 then some (.lst ((isort leT (sgs s)).map .str)) else none
  | _ => none
def pListA : D → Option D
  | .str s => if s.length ≤ 1000000 then some (.lst ((sgs s).map .str)) else none
  | d => pList d
def pTupleA : D → Option D
  | .str s => if s.length ≤ 1000000 then some (.tup ((sgs s).map .str)) else none
  | d => pTuple d
section
variable {X : Cx}
def rSortT : List V → Hp → VK → Prop := fun xs H Q => ∃ z : List Nat, xs = [.str (toStr z)] ∧ z.length < 64 ∧ ∀ l, H l = none → Q (.ref l) (upd H l (.lst (((isort leT (sgs z)).map toStr).map V.str)))
theorem call_sortT (hc : X.calm = true) : CallR X (.builtin "sorted") rSortT := by
  intro pins s σ H xs us Q I rv h
  obtain ⟨z, rfl, hz, q⟩ := h
  cases rv with
  | cons r1 rr =>
    cases rr
    obtain ⟨t, rfl⟩ := r1
    have hsz : (toStr z).cps.size = z.length := by simp [toStr]
    refine sorted_txt (ys := (sgs z).map toStr) (I.ok.hd hc) (by rw [hsz]; exact hz) (fun acc hi => ?_) fun h2 tk out a ep zs hk ha ho hs hp hst => ?_
    · have v := sg_vals hi
      rw [sgV_eq] at v
      exact L2.strsAre_of v
    · have e := sortedS_only hp hst
      subst e
      have len : (((isort leT (sgs z)).map toStr).map V.str).length ≤ sizeLine := by
        rw [List.length_map, List.length_map, (isort_perm leT _).length_eq, sgs, List.length_map, sizeLine_eq]
        omega
      exact ⟨.ref _, upd H a (.lst (((isort leT (sgs z)).map toStr).map V.str)), I.laid (t' := tk) hk ha ⟨len, out.toList, ep, vals_of_strs hs, by simpa using ho⟩, rfl, q _ (I.hok.fresh ha)⟩
def rSorts (K : PySem.W.Frag) : List V → Hp → VK → Prop := fun xs H Q => rSortedI K xs H Q ∨ (rSortedS K xs H Q ∨ rSortT xs H Q)
theorem call_sorts (hc : X.calm = true) : CallR X (.builtin "sorted") (rSorts X.K) := callr_or cr_sortedI (callr_or cr_sortedS (call_sortT hc))
theorem gSorted : GivesN X.K (rSorts X.K) (pOne pSorted) := gives_one fun F H d c x Q le r h q => by
  cases r with
  | @lst a ds vs hs rs =>
    simp only [pSorted] at h
    split at h
    · rename_i ns hn
      cases h
      have e := rvs_ints rs hn
      subst e
      refine .inl ⟨a, ns, rfl, .of hs, fun ns' p hp hpw hf => ?_⟩
      have e : ns' = isort leI ns := isort_only leI_tot leI_tr leI_an hp (hpw.imp fun h => decide_eq_true h)
      subst e
      have g := Grow.new le (.lst ((isort leI ns).map V.int)) hf
      exact q _ _ _ g (.lst upd_same rvs_of_ints)
    · split at h
      · rename_i ss hn
        split at h
        · rename_i hl
          cases h
          obtain ⟨e, good⟩ := rvs_strs rs hn
          subst e
          refine .inr (.inl ⟨a, ss.map toStr, rfl, .of hs, by rw [List.length_map]; exact hl, fun ys p hp hst hf => ?_⟩)
          have e := sortedS_only hp hst
          subst e
          have g := Grow.new le (.lst (((isort leT ss).map toStr).map V.str)) hf
          exact q _ _ _ g (.lst upd_same (rvs_of_strs fun b hb => good b ((isort_perm leT ss).mem_iff.mp hb)))
        · cases h
      · cases h
  | @str s hs =>
    simp only [pSorted] at h
    split at h
    · rename_i hl
      cases h
      refine .inr (.inr ⟨s, rfl, hl, fun p hf => ?_⟩)
      have g := Grow.new le (.lst (((isort leT (sgs s)).map toStr).map V.str)) hf
      exact q _ _ _ g (.lst upd_same (rvs_of_strs fun b hb => sgs_good hs b ((isort_perm leT _).mem_iff.mp hb)))
    · cases h
  | _ => cases h
theorem gives_or {K : PySem.W.Frag} {r r' : List V → Hp → VK → Prop} {f g k : D → Option D} (h : GivesN K r (pOne f)) (h' : GivesN K r' (pOne g)) (e : ∀ d, k d = f d ∨ k d = g d) : GivesN K (fun xs H Q => r xs H Q ∨ r' xs H Q) (pOne k) := by
  intro F H ds c xs Q le rx hg q
  match ds, hg with
  | [d], hg =>
    rcases e d with e | e
    · exact .inl (h F H [d] c xs Q le rx (show f d = some c by rw [← e]; exact hg) q)
    · exact .inr (h' F H [d] c xs Q le rx (show g d = some c by rw [← e]; exact hg) q)
theorem gListT : GivesN X.K rListT (pOne fun d => match d with
    | .str s => if s.length ≤ 1000000 then some (.lst ((sgs s).map .str)) else none
    | _ => none) := gives_one fun F H d c x Q le r h q => by
  cases r with
  | @str s hs =>
    simp only at h
    split at h
    · rename_i hl
      cases h
      refine ⟨_, rfl, by rw [toStr_len]; exact line_of hl, fun l hf => ?_⟩
      have g := Grow.new le (.lst (sgV (toStr s))) hf
      exact q _ _ _ g (.lst upd_same (by rw [sgV_eq]; exact rvs_of_strs (sgs_good hs)))
    · cases h
  | _ => cases h
theorem gTupT : GivesN X.K rTupT (pOne fun d => match d with
    | .str s => if s.length ≤ 1000000 then some (.tup ((sgs s).map .str)) else none
    | _ => none) := gives_one fun F H d c x Q le r h q => by
  cases r with
  | @str s hs =>
    simp only at h
    split at h
    · rename_i hl
      cases h
      refine ⟨_, rfl, by rw [toStr_len]; exact line_of hl, fun l ob hf hd => ?_⟩
      have g := Grow.new le (.frz ob (.tup (sgV (toStr s)))) hf
      exact q _ _ _ g (.tup (.new hd) (by rw [sgV_eq]; exact rvs_of_strs (sgs_good hs)))
    · cases h
  | _ => cases h

theorem gLists : GivesN X.K (fun xs H Q => (∃ p ys, xs = [.ref p] ∧ (SqL X.K H p ys ∨ SqT X.K H p ys) ∧ ∀ l, H l = none → Q (.ref l) (upd H l (.lst ys))) ∨ rListT xs H Q) (pOne pListA) := gives_or gList gListT fun d => by
  cases d <;> first
    | exact .inl rfl
    | exact .inr rfl
theorem gTuples : GivesN X.K (fun xs H Q => rTupleX X.K xs H Q ∨ rTupT xs H Q) (pOne pTupleA) := gives_or gTuple gTupT fun d => by
  cases d <;> first
    | exact .inl rfl
    | exact .inr rfl

/-- a text of the model as data -/
def outS (z : Str) : Option D := if (ofStr z).all (· < 1114112) = true then some (.str (ofStr z)) else none
theorem outS_ok {K : PySem.W.Frag} {F : Hp} {z : Str} {c : D} (h : outS z = some c) : Rv K F c (.str z) := by
  unfold outS at h
  split at h
  · rename_i g
    cases h
    have : Rv K F (.str (ofStr z)) (.str (toStr (ofStr z))) := .str fun c hc => by simpa using List.all_eq_true.mp g c hc
    rw [toStr_of] at this
    exact this
  · cases h
def pStrip : D → List D → Option D
  | .str s, [.str t] => if s.length ≤ 1000000 then outS (Txt.stripChars (toStr s) (toStr t)) else none
  | _, _ => none
theorem gStrip : GivesM X.K "str" (fun x xs H Q => ∃ a b, x = .str a ∧ xs = [.str b] ∧ a.length ≤ sizeLine ∧ Q (.str (Txt.stripChars a b)) H) pStrip := by
  intro F H d c ds x xs Q le rx rs h q
  unfold pStrip at h
  split at h
  · split at h
    · rename_i hl
      obtain ⟨y, rfl, r1⟩ := rs.one
      cases rx
      cases r1
      exact ⟨_, _, rfl, rfl, by rw [toStr_len]; exact line_of hl, q F H _ (.refl le) (outS_ok h)⟩
    · cases h
  · cases h
def pIndexS : D → List D → Option D
  | .str s, [.str t] => match Txt.index0 (toStr s) (toStr t) with
    | some k => some (.int (k : Nat))
    | none => none
  | _, _ => none
def rIndexS : V → List V → Hp → VK → Prop := fun x xs H Q => ∃ (a b : Str) (k : Nat), x = .str a ∧ xs = [.str b] ∧ Txt.index0 a b = some k ∧ Q (.int (k : Nat)) H
theorem mt_indexS : MtR X "str.index" rIndexS := by
  intro pins s σ H x xs v us Q I rx rs h
  obtain ⟨a, b, k, rfl, rfl, hk, q⟩ := h
  obtain ⟨t, rfl⟩ := rx
  cases rs with
  | cons r1 rr =>
    cases rr
    obtain ⟨u, rfl⟩ := r1
    unfold Txt.index0 at hk
    cases ho : Builtin.Str.occurrences a b 0 a.length 1 with
    | nil =>
      rw [ho] at hk
      cases hk
    | cons j rest =>
      rw [ho] at hk
      cases hk
      exact PySem.SC.index ho ⟨.int (k : Nat), H, I.tok _, ⟨_, rfl⟩, q⟩
theorem gIndexS : GivesM X.K "str" rIndexS pIndexS := by
  intro F H d c ds x xs Q le rx rs h q
  unfold pIndexS at h
  split at h
  · split at h
    · rename_i k hk
      cases h
      obtain ⟨y, rfl, r1⟩ := rs.one
      cases rx
      cases r1
      exact ⟨_, _, k, rfl, rfl, hk, q F H _ (.refl le) (.int _)⟩
    · cases h
  · cases h
theorem tl_to (s : List Nat) : TL.tl (toStr s) = s := by simp [TL.tl, toStr]
def pJoin : D → List D → Option D
  | .str s, [.lst ds] => match strsOf ds with
    | some ss => if (ss.map (·.length)).sum + ss.length * s.length ≤ 1000000 then some (.str (TL.joinL s ss)) else none
    | none => none
  | _, _ => none
theorem joinL_good {s : List Nat} (hs : strGood s) : ∀ ss : List (List Nat), (∀ b ∈ ss, strGood b) → strGood (TL.joinL s ss)
  | [], _ => fun c hc => nomatch hc
  | [p], h => h p List.mem_cons_self
  | p :: q :: r, h => fun c hc => by
    rcases List.mem_append.mp hc with z | z
    · exact h p List.mem_cons_self c z
    · rcases List.mem_append.mp z with z | z
      · exact hs c z
      · exact joinL_good hs (q :: r) (fun b hb => h b (List.mem_cons_of_mem _ hb)) c z
theorem join_to (s : List Nat) (ss : List (List Nat)) : Txt.join (toStr s) (ss.map toStr) = toStr (TL.joinL s ss) := by
  have e4 := TL.tl_join (toStr s) (ss.map toStr)
  rw [tl_to, List.map_map] at e4
  have e5 : (TL.tl ∘ toStr) = id := funext tl_to
  rw [e5, List.map_id] at e4
  rw [TL.join_eq, ← e4]
  exact (toStr_of _).symm
theorem gJoin : GivesM X.K "str" (fun x xs H Q => ∃ a p, ∃ ys : List Str, x = .str a ∧ xs = [.ref p] ∧ (SqL X.K H p (ys.map V.str) ∨ SqT X.K H p (ys.map V.str)) ∧ (ys.map (·.length)).sum + ys.length * a.length ≤ 16777216 ∧ Q (.str (Txt.join a ys)) H) pJoin := by
  intro F H d c ds x xs Q le rx rs h q
  unfold pJoin at h
  split at h
  · split at h
    · rename_i ss hss
      split at h
      · rename_i hl
        cases h
        obtain ⟨y, rfl, r1⟩ := rs.one
        cases rx with
        | str hs =>
          cases r1 with
          | @lst a es vs ha re =>
            obtain ⟨e, good⟩ := rvs_strs re hss
            subst e
            refine ⟨_, a, ss.map toStr, rfl, rfl, .inl (.of ha), ?_, ?_⟩
            · rw [List.map_map, List.length_map, toStr_len]
              have e2 : ((fun z : Str => z.length) ∘ toStr) = fun z => z.length := funext toStr_len
              rw [e2]
              omega
            · rw [join_to]
              exact q F H _ (.refl le) (.str (joinL_good hs ss good))
      · cases h
    · cases h
  · cases h
def pUpper : D → List D → Option D
  | .str s, [] => if s.length ≤ 1000000 then outS (Txt.upper (toStr s)) else none
  | _, _ => none
theorem gUpper : GivesM X.K "str" (fun x xs H Q => ∃ a, x = .str a ∧ xs = [] ∧ a.length ≤ 5592405 ∧ Q (.str (Txt.upper a)) H) pUpper := by
  intro F H d c ds x xs Q le rx rs h q
  unfold pUpper at h
  split at h
  · split at h
    · rename_i hl
      cases rs
      cases rx
      exact ⟨_, rfl, rfl, by rw [toStr_len]; omega, q F H _ (.refl le) (outS_ok h)⟩
    · cases h
  · cases h
theorem de_meth0 {cl : Nat → Addr} {o : Expr} {mo : EM} {apos cpos : Pos} {T id : String} {name : Str} {r : V → List V → Hp → VK → Prop} {g : D → List D → Option D} (pa : PlainAttrs T) (slot : Slot T name id) (hty : typeOf (.builtin id) = pure (.type "method_descriptor")) (hm : MtR X id r) (gv : GivesM X.K T r g)
    (ho : DE cl X o mo) (hbase : attributeBase o name X.env (eval o X.env) = eval o X.env := by rfl) (hline : (apos.endLine == cpos.line) = true := by rfl) :
    DE cl X (.Call (.Attribute o name apos) [] [] cpos) (eMeth T g mo aNil) := fun W tk =>
  pe_imp (pe_bm0 pa slot hty hm (ho W tk) hbase hline) fun σ H Q ⟨gh, F, φ, ρ, S, rp, p⟩ => by
    refine (tG_bind (R := rV X.K) rp p).imp fun v H1 ⟨x, S1, F1, φ1, x1, r1, q1, p1⟩ => ?_
    split at p1
    · rename_i d0 hd0
      split at p1
      · rename_i ht
        refine ⟨tyD_ok (deref_ok r1.b q1 hd0) r1.b.le ht, ?_⟩
        simp only [aNil, Out.bind, hd0, derefs] at p1
        split at p1
        · rename_i c hc
          exact gv F1 H1 d0 c [] v [] Q r1.b.le (deref_ok r1.b q1 hd0) .nil hc fun F' H' w gr rw' => p1 w F' φ1 H' (gr.ext φ1) (r1.grow gr) (.dat rw')
        · exact p1.elim
      · exact p1.elim
    · exact p1.elim
end
end DL

namespace DL
open PySem PySem.Spec PyProof.Rows L2 L2H

section
variable {P : Program} {w : World} {K : PySem.W.Frag} {mg : Str → Option Value} {base : Heap} {CT : CXT}
theorem hot_of {k : Nat} {x qual : Str} {params : Arguments} {body : List Stmt} {scope : Scope} {f : Addr} {fd : FuncData} {N ps : List Str} {sp : Addr × Obj → Sp} (F : FunD K x qual params body scope [] [] f fd) (S : FnScope N ps scope)
    (len : ∀ pe vs H Q E, sp pe vs H Q E → vs.length = ps.length)
    (hb : ∀ (cd : Value) (A : Around) (outer : List PySem.Env) (s : Shared) (H : Hp) (vs : List V) (Q : VK) (E : XK) (pe : Addr × Obj), Hot1 A pe → RoomH k (A.deeper (envOfC qual scope s.heap.objs.size f cd)) → sp pe vs H Q E →
      ∃ t, PSs (cxH CT P w K mg base N qual scope f cd A outer s H E pe) body t ∧ t { nx := fun _ H' => Q .non H', rt := Q } (L2.start N vs) H) :
    ∀ (pe : Addr × Obj) (A : Around) (outer : List PySem.Env) (s : Shared) (H : Hp) (us : List Value) (vs : List V) (Q : VK) (E : XK) (ar : Args), RoomH (k + 1) A → Hot1 A pe → PinOk outer H s pe → Env0 P w K mg base A outer s H →
      BindsTo s fd ar (ps.zip us) → Vals vs us → sp pe vs H Q E → codeAny (model P w) A (.call (.ref f) ar) (CR CT outer P w H s Q E) s := by
  obtain ⟨oc, od, dV, kV0, doc, pm, an, cd, ct, osl, rfl, lk, hcd, _, _⟩ := F.ex
  intro pe A outer s H us vs Q E ar hr hot hpin e0 b r hsp
  have n1 := len _ _ _ _ _ hsp
  have kin : K.In s.heap := e0.mod.kin.keeps fun c o e => (e0.bs c o e).1
  have nolim : s.heap.NoLimit := e0.mod.nolimit.keeps fun c o e => (e0.bs c o e).1
  have kinds : ∀ y ∈ ps.zip us, scope.names.lookup y.1 = some .local ∨ (scope.names.lookup y.1 = some .cell ∧ ((cellsFrom (s.heap.objs.size + 1) scope.names []).lookup y.1).isSome = true) := fun y hy =>
    (S.par y.1 (List.of_mem_zip (a := y.1) (b := y.2) hy).1).imp id fun z => ⟨z, PySem.W.cellsFrom_some _ _ _ (.inl z)⟩
  refine codeAny_call_function hr.depth (kin _ _ lk) rfl S.co S.gen rfl (PySem.W.codeRec_of kin hcd) (b _ _ _ _ (wpAny_newFunctionEnv_cells S.kind kinds fun env he s1 made => ?_))
  subst he
  refine ⟨nolim.keeps made.toInCall.keep, codeAny_func ?_⟩
  obtain ⟨t, ht, hq⟩ := hb cd A outer s H vs Q E pe hot (hr.deeper _) hsp
  have J := inv_startH (CX := CT) (f := f) (cd := cd) (E := E) S hpin e0 n1 r made
  refine wpAny_mono (ht.run [] s1 (L2.start N vs) H _ J hq) (fun fl s2 h2 => ?_) fun _ _ z => z
  cases fl with
  | ret u =>
    obtain ⟨v, σ2, H2, J2, rv, q2⟩ := h2
    exact ⟨v, H2, J2.os, J2.bare, J2.base, J2.hok, rv, q2⟩
  | next =>
    obtain ⟨σ2, H2, J2, q2⟩ := h2
    exact ⟨.non, H2, J2.os, J2.bare, J2.base, J2.hok, rfl, q2⟩
  | brk => exact h2.elim fun _ z => z.elim fun _ z => z.2.elim
  | cont => exact h2.elim fun _ z => z.elim fun _ z => z.2.elim
end

section
variable {X : Cx} {a C : Addr} {oe : Obj}
theorem call_isP (hC : ExcC X.K C) (h1 : oe.cls = .ref C) (h2 : oe.dict = none) (h3 : ∃ vs, oe.data = .fields vs) (hp : (a, oe) ∈ X.pn) : CallR X (.builtin "isinstance") (rIsE X.K C a) := by
  intro pins s σ H xs us Q I rv h
  obtain ⟨c, cv, b, rfl, hcv, e, q⟩ := h
  cases rv with
  | cons ra rr =>
    cases rr with
    | cons rt rr =>
      cases rr
      cases ra
      have ec := hcv _ rt
      subst ec
      have there := (I.pin (a, oe) (List.mem_append.mpr (.inl hp))).1
      have at_ : PySem.W.InstAt s.heap a oe C none := by
        obtain ⟨vs, h3⟩ := h3
        obtain ⟨q1, q2, q3, q4⟩ := oe
        simp only at h1 h2 h3
        subst h1 h2 h3
        exact ⟨there, rfl, rfl, trivial⟩
      exact PySem.W.kia_one (PySem.W.handS_kitx_exc hC.hg hC.hk hC.hs hC.hd hC.ha hC.hn hC.ht hC.hm) I.kIn at_ e (fun z => nomatch z) fun tk => ⟨.bl b, H, I.kept (t' := tk) fun _ _ z => z, rfl, q⟩
/-- an answer about what the first slot holds -/
def tE (a : Addr) (b : Bool) : TE := fun σ H Q => σ[0]? = some (some (.ref a)) ∧ Q (.bl b) H
def tEs (a : Addr) (bs : List Bool) : TA := fun σ H Q => σ[0]? = some (some (.ref a)) ∧ Q (bs.map V.bl) H
theorem tEs_nil {X : Cx} {a : Addr} : PA X [] (tEs a []) := pa_imp pa_nil fun σ H Q h => h.2
theorem tEs_cons {X : Cx} {a : Addr} {e : Expr} {es : List Expr} {b : Bool} {bs : List Bool} (h : PE X e (tE a b)) (h2 : PA X es (tEs a bs)) (hs : starEach (e :: es) X.env = (false, eval e X.env) :: starEach es X.env := by rfl) : PA X (e :: es) (tEs a (b :: bs)) :=
  pa_imp (pa_cons h h2 hs) fun σ H Q q => ⟨q.1, q.1, q.2⟩
theorem pe_isP {e : Str} {y : Str} {cv : Value} {u : V} {b : Bool} {p p1 p2 pos : Pos} (hC : ExcC X.K C) (h1 : oe.cls = .ref C) (h2 : oe.dict = none) (h3 : ∃ vs, oe.data = .fields vs) (hp : (a, oe) ∈ X.pn) (hm : X.mg "isinstance" = none) (hN : X.N[0]? = some e) (hv : Vis X.env.scope e)
    (hy : PE X (.Name y p2) (tC u)) (hu : ∀ z, RelV u z → z = cv) (hk : PySem.W.kitOne X.K (.ref C) cv = some b)
    (hg : Gl X "isinstance" := by rfl) (hd : (e == ("__debug__" : Str)) = false := by decide) (hcd : (e == ("__classdict__" : Str)) = false := by decide)
    (he : starEach [.Name e p1, .Name y p2] X.env = (false, eval (.Name e p1) X.env) :: starEach [.Name y p2] X.env := by rfl) (he2 : starEach [.Name y p2] X.env = (false, eval (.Name y p2) X.env) :: starEach [] X.env := by rfl)
    (hpl : (backTo pos (starEach [.Name y p2] X.env)).any (·.1) = false := by rfl) (hbo : bootBuiltins "isinstance" = some (.builtin "isinstance") := by decide +kernel) :
    PE X (.Call (.Name "isinstance" p) [.Name e p1, .Name y p2] [] pos) (tE a b) :=
  pe_imp (pe_callB (call_isP hC h1 h2 h3 hp) hg hm hbo (pa_cons (pe_var hN hv hd hcd) (pa_cons hy pa_nil he2) he) (by decide) (by decide) he hpl) fun σ H Q q => ⟨_, q.1, ⟨u, cv, b, rfl, hu, hk, q.2⟩⟩
end

def rCntD (K : PySem.W.Frag) : V → List V → Hp → VK → Prop := fun x xs H Q => ∃ (a : Addr) (y : V) (d : PyData) (ds : List PyData), x = .ref a ∧ xs = [y] ∧ Dp K H (.ref a) (.list ds) ∧ Dp K H y d ∧ SeqAt.shaped (.list ds) = true ∧ SeqAt.shaped d = true ∧ Q (.int (ds.countP (PyData.eqv · d) : Nat)) H
theorem mt_cntD {X : Cx} (hu : X.A.units + 65 < cLine) : MtR X "list.count" (rCntD X.K) := by
  intro pins s σ H x xs v us Q I rx rxs h
  obtain ⟨a, y, d, ds, rfl, rfl, hl, hy, s1, s2, q⟩ := h
  cases rx
  obtain ⟨u, rfl, ru⟩ := rxs.one
  obtain ⟨bs, rb⟩ := Dp.reads I d y u hy ru
  have lay : PyData.canLayAll0 ds = true := SeqAt.canLay_of_shaped s1
  have room : X.A.units + 1 + min (PyData.depthAll ds) d.depth < cLine := room_in_shaped s2 hu
  cases hl with
  | lst hs ha =>
    obtain ⟨its, rv, ⟨⟨c1, c2, c3, c4⟩, n, ho, e1, e2, e3⟩, _⟩ := I.list hs
    simp only at e1 e3
    subst e1 e3
    obtain ⟨as, ra⟩ := Dp.readsAll I ds _ its ha rv
    have em : its.map (SeqAt.readOf s.heap) = ds := SeqAt.readsAll_map ds its as lay ra
    refine call_meets PySem.F.slot_list_count ⟨_, ho, rfl⟩ PySem.F.entry_list_count (PySem.F.args_list_count_2 _ _) (SeqAt.list_countAt a its.toArray n c2 c4 u fun z => PyData.eqv (SeqAt.readOf s.heap z) d)
      ⟨ho, SeqAt.items_eqAt (vs := its.toArray) (show ReadsAll s.heap its.toArray.toList ds as from ra) rb lay (SeqAt.canLay_of_shaped s2) room, ⟨.int (ds.countP (PyData.eqv · d) : Nat), H, I.tok _, ⟨s.toks, ?_⟩, q⟩⟩
    have ec : its.countP (fun z => PyData.eqv (SeqAt.readOf s.heap z) d) = ds.countP (PyData.eqv · d) := by
      rw [← em, List.countP_map]
      rfl
    show Value.int ((its.toArray.toList.countP (fun z => PyData.eqv (SeqAt.readOf s.heap z) d) : Nat) : Int) s.toks = _
    rw [show its.toArray.toList = its from by simp, ec]
def pCount : D → List D → Option D
  | .lst ds, [d] => if sh 9 (.lst ds) = true ∧ sh 9 d = true then some (.int (ds.countP (eqD · d) : Nat)) else none
  | _, _ => none
def pIndexL : D → List D → Option D
  | .lst ds, [d] => if sh 9 (.lst ds) = true ∧ sh 9 d = true then (ds.findIdx? (eqD · d)).map fun k => .int (k : Nat) else none
  | _, _ => none
theorem gCount {K : PySem.W.Frag} : GivesM K "list" (rCntD K) pCount := by
  intro F H d c ds x xs Q le rx rs h q
  unfold pCount at h
  split at h
  · rename_i es e
    split at h
    · rename_i hs
      cases h
      obtain ⟨y, rfl, r1⟩ := rs.one
      obtain ⟨a1, a2⟩ := (rx.rv (.of le) (sh_ndct hs.1)).shaped hs.1
      obtain ⟨b1, b2⟩ := (r1.rv (.of le) (sh_ndct hs.2)).shaped hs.2
      cases rx with
      | @lst a _ vs ha re =>
        refine ⟨a, y, _, _, rfl, rfl, a1, b1, a2, b2, ?_⟩
        have e1 : (toPys es).countP (PyData.eqv · (toPy e)) = es.countP (eqD · e) := by
          rw [toPys_map, List.countP_map]
          rfl
        rw [e1]
        exact q F H _ (.refl le) (.int _)
    · cases h
  · cases h
theorem gIndexL {K : PySem.W.Frag} : GivesM K "list" (rIndexD K) pIndexL := by
  intro F H d c ds x xs Q le rx rs h q
  unfold pIndexL at h
  split at h
  · rename_i es e
    split at h
    · rename_i hs
      cases hf : es.findIdx? (eqD · e) with
      | none =>
        rw [hf] at h
        cases h
      | some j =>
        rw [hf] at h
        cases h
        obtain ⟨y, rfl, r1⟩ := rs.one
        obtain ⟨a1, a2⟩ := (rx.rv (.of le) (sh_ndct hs.1)).shaped hs.1
        obtain ⟨b1, b2⟩ := (r1.rv (.of le) (sh_ndct hs.2)).shaped hs.2
        obtain ⟨hj, e1, e2⟩ := List.findIdx?_eq_some_iff_getElem.mp hf
        cases rx with
        | @lst a _ vs ha re =>
          refine ⟨a, y, toPy e, toPys es, j, toPy es[j], rfl, rfl, a1, b1, a2, b2, ?_, e1, fun m z' hm hz => ?_, q F H _ (.refl le) (.int _)⟩
          · rw [toPys_map, List.getElem?_map, List.getElem?_eq_getElem hj]
            rfl
          · rw [toPys_map, List.getElem?_map, List.getElem?_eq_getElem (Nat.lt_trans hm hj)] at hz
            cases hz
            have := e2 m hm
            simpa [eqD] using this
    · cases h
  · cases h
end DL

namespace DL
open PySem PySem.Spec PyProof.Rows L2 L2H

section
variable {K : PySem.W.Frag} {H0 H : Hp} {a : Addr} {σ : St} {bs cs : List Bool}
/-- slot 0: the exception, slot 1: a new list of answers; all that was is as it was -/
structure WI (H0 : Hp) (a : Addr) (bs : List Bool) (σ : St) (H : Hp) : Prop where
  s0 : σ[0]? = some (some (.ref a))
  s1 : ∃ p, σ[1]? = some (some (.ref p)) ∧ H p = some (.lst (bs.map V.bl)) ∧ H0 p = none
  le : Same H0 H
theorem same_at {H0 H : Hp} (s : Same H0 H) {p : Addr} (h : H0 p = none) (o : HO) : Same H0 (upd H p o) := fun b u e => by
  have hb : b ≠ p := fun z => by
    rw [z, h] at e
    cases e
  rw [upd_ne hb]
  exact s b u e
end
section
variable {X : Cx} {H0 : Hp} {a : Addr} {bs cs : List Bool} {x : Str} {es : List Expr} {e : Expr} {p1 p2 p3 pos apos cpos : Pos}
def tW1 (H0 : Hp) (a : Addr) (bs : List Bool) : TS := fun E σ H => (σ[0]? = some (some (.ref a)) ∧ σ.length = 2 ∧ Same H0 H) ∧ ∀ σ' H', WI H0 a bs σ' H' → E.nx σ' H'
theorem ps_w1 (h : PA X es (tEs a bs)) (hN : X.N.Nodup) (hi : X.N[1]? = some x) (hl : bs.length ≤ 100) (hx : Loc X.env.scope x) (hs : swapsWith (.List es p2) (some (.Name x p1)) pos.line X.env = pure false) (hf : X.fn x = true ∨ X.env.scope.names.lookup x = some .local) :
    PS X (.Assign [.Name x p1] (.List es p2) pos) (tW1 H0 a bs) :=
  ps_imp (ps_set hN hi hx (pe_lst h) hs hf) fun E σ H ⟨⟨h0, h1, le⟩, q⟩ => by
    refine ⟨h0, ?_, fun p hp => q _ _ ⟨?_, ⟨p, ?_, upd_same, le.free hp⟩, same_at le (le.free hp) _⟩⟩
    · rw [List.length_map]
      exact Nat.le_trans hl (by decide)
    · rw [List.getElem?_set_ne (by decide)]
      exact h0
    · rw [List.getElem?_set_self (by rw [h1]; decide)]
def tW2 (H0 : Hp) (a : Addr) (bs cs : List Bool) : TS := fun E σ H => WI H0 a bs σ H ∧ ∀ σ' H', WI H0 a (bs ++ cs) σ' H' → E.nx σ' H'
theorem ps_w2 (h : PA X es (tEs a cs)) (hi : X.N[1]? = some x) (hv : Vis X.env.scope x) (hd : (x == ("__debug__" : Str)) = false) (hcd : (x == ("__classdict__" : Str)) = false) (hl : bs.length + cs.length ≤ 100)
    (hbase : attributeBase (.Name x p1) "extend" X.env (eval (.Name x p1) X.env) = eval (.Name x p1) X.env)
    (hfew : ((backTo cpos (starEach [.List es p2] X.env)).all (fun x => !x.1) && (backToKw cpos (keywordEach [] X.env)).all (fun x => x.1.isSome)
      && decide (([.List es p2] : List Expr).length + ([] : List Keyword).length + (if ([] : List Keyword).isEmpty then 0 else 1) < 30)) = true)
    (hline : (apos.endLine == cpos.line) = true) (hs : starEach [.List es p2] X.env = (false, eval (.List es p2) X.env) :: starEach [] X.env) (hplain : (backTo cpos (starEach [] X.env)).any (·.1) = false) (hsw : swapsWith (.Call (.Attribute (.Name x p1) "extend" apos) [.List es p2] [] cpos) none pos.line X.env = pure false) :
    PS X (.Expr (.Call (.Attribute (.Name x p1) "extend" apos) [.List es p2] [] cpos) pos) (tW2 H0 a bs cs) :=
  ps_imp (ps_expr (pe_bm PySem.F.plainAttrs_list PySem.F.slot_list_extend PySem.F.type_list_extend mt_extend (pe_var hi hv hd hcd) (pa_cons (pe_lst h) pa_nil hs) hbase hfew hline hs hplain) hsw) fun E σ H ⟨⟨h0, ⟨p, h1, h2, h3⟩, le⟩, q⟩ => by
    refine ⟨_, h1, .inl ⟨rfl, _, .of h2⟩, h0, ?_, fun r hr => ?_⟩
    · rw [List.length_map]
      exact Nat.le_trans (Nat.le_trans (Nat.le_add_left _ _) hl) (by decide)
    · have hrp : p ≠ r := fun z => by
        rw [← z, h2] at hr
        cases hr
      refine ⟨p, r, _, _, rfl, rfl, by rw [upd_ne hrp]; exact h2, upd_same, ?_, q _ _ ⟨h0, ⟨p, h1, by rw [upd_same, List.map_append], h3⟩, same_at (same_at le (le.free hr) _) h3 _⟩⟩
      rw [List.length_map, List.length_map]
      exact Nat.le_trans hl (by decide)
theorem ps_w3 {b : Bool} (h : PE X e (tE a b)) (hi : X.N[1]? = some x) (hv : Vis X.env.scope x) (hd : (x == ("__debug__" : Str)) = false) (hcd : (x == ("__classdict__" : Str)) = false) (hl : bs.length ≤ 100)
    (hbase : attributeBase (.Name x p1) "append" X.env (eval (.Name x p1) X.env) = eval (.Name x p1) X.env)
    (hfew : ((backTo cpos (starEach [e] X.env)).all (fun x => !x.1) && (backToKw cpos (keywordEach [] X.env)).all (fun x => x.1.isSome)
      && decide (([e] : List Expr).length + ([] : List Keyword).length + (if ([] : List Keyword).isEmpty then 0 else 1) < 30)) = true)
    (hline : (apos.endLine == cpos.line) = true) (hs : starEach [e] X.env = (false, eval e X.env) :: starEach [] X.env) (hplain : (backTo cpos (starEach [] X.env)).any (·.1) = false) (hsw : swapsWith (.Call (.Attribute (.Name x p1) "append" apos) [e] [] cpos) none pos.line X.env = pure false) :
    PS X (.Expr (.Call (.Attribute (.Name x p1) "append" apos) [e] [] cpos) pos) (tW2 H0 a bs [b]) :=
  ps_imp (ps_expr (pe_bm PySem.F.plainAttrs_list PySem.F.slot_list_append PySem.F.type_list_append mt_append (pe_var hi hv hd hcd) (pa_cons h pa_nil hs) hbase hfew hline hs hplain) hsw) fun E σ H ⟨⟨h0, ⟨p, h1, h2, h3⟩, le⟩, q⟩ => by
    refine ⟨_, h1, .inl ⟨rfl, _, .of h2⟩, h0, p, _, _, rfl, rfl, h2, ?_, q _ _ ⟨h0, ⟨p, h1, by rw [upd_same, List.map_append]; rfl, h3⟩, same_at le h3 _⟩⟩
    rw [List.length_map]
    exact Nat.lt_of_le_of_lt hl (by decide)
end

theorem WI.grow {K : PySem.W.Frag} {H0 H F H' F' : Hp} {a : Addr} {bs : List Bool} {σ : St} (h : WI H0 a bs σ H) (g : Grow F H F' H') : WI H0 a bs σ H' := by
  obtain ⟨h0, ⟨p, h1, h2, h3⟩, le⟩ := h
  exact ⟨h0, ⟨p, h1, g.k _ _ h2, h3⟩, le.trans g.k⟩
theorem rvs_of_bools {K : PySem.W.Frag} {F : Hp} : ∀ {bs : List Bool}, Rvs K F (bs.map .bl) (bs.map V.bl)
  | [] => .nil
  | b :: bs => .cons (.bl b) rvs_of_bools
theorem sh_bools (bs : List Bool) : sh 9 (.lst (bs.map .bl)) = true := by
  simp only [sh, List.all_map, List.all_eq_true]
  intro x _
  rfl
theorem ne11 : pNe (.int 1) (.int 1) = some (.bl false) := by
  unfold pNe
  rw [if_pos ⟨rfl, rfl⟩, show eqD (.int 1) (.int 1) = true by decide +kernel]
  rfl
theorem refGood : strGood [114, 101, 102, 117, 115, 101, 100] := fun c hc => by
  have : [114, 101, 102, 117, 115, 101, 100].all (· < 1114112) = true := by decide
  simpa using List.all_eq_true.mp this c hc
theorem eqD_bl (b c : Bool) : eqD (.bl b) (.bl c) = (b == c) := by
  cases b <;> cases c <;> decide +kernel
section
variable {X : Cx} {H0 : Hp} {a C : Addr} {oe : Obj} {bs : List Bool} {x e y : Str} {p0 p1 p2 p3 p4 pos apos cpos : Pos} {j j2 : Nat}
def tW4 (H0 : Hp) (a : Addr) (bs : List Bool) : TT := fun σ H Q => WI H0 a bs σ H ∧ bs.countP id = 1 ∧ ∀ H', WI H0 a bs σ H' → Q false H'
theorem pt_w4 (hu : X.A.units + 65 < cLine) (hi : X.N[1]? = some x) (hv : Vis X.env.scope x) (hd : (x == ("__debug__" : Str)) = false) (hcd : (x == ("__classdict__" : Str)) = false)
    (hbase : attributeBase (.Name x p1) "count" X.env (eval (.Name x p1) X.env) = eval (.Name x p1) X.env)
    (hfew : ((backTo cpos (starEach [.Constant (.bool true) j p2] X.env)).all (fun x => !x.1) && (backToKw cpos (keywordEach [] X.env)).all (fun x => x.1.isSome)
      && decide (([.Constant (.bool true) j p2] : List Expr).length + ([] : List Keyword).length + (if ([] : List Keyword).isEmpty then 0 else 1) < 30)) = true)
    (hline : (apos.endLine == cpos.line) = true) (hs : starEach [.Constant (.bool true) j p2] X.env = (false, eval (.Constant (.bool true) j p2) X.env) :: starEach [] X.env) (hplain : (backTo cpos (starEach [] X.env)).any (·.1) = false)
    (hm : behindInMarks .NotEq (.Constant (.int 1) j2 p3) = false) :
    PT X (.Compare (.Call (.Attribute (.Name x p1) "count" apos) [.Constant (.bool true) j p2] [] cpos) [.NotEq] [.Constant (.int 1) j2 p3] pos) (tW4 H0 a bs) :=
  pt_imp (pt_cmpR (op_neD (by omega)) (pe_bm PySem.F.plainAttrs_list PySem.F.slot_list_count PySem.F.type_list_count (mt_cntD hu) (pe_var hi hv hd hcd) (pa_cons pe_bl pa_nil hs) hbase hfew hline hs hplain) pe_int hm) fun σ H Q ⟨wi, one, q⟩ => by
    obtain ⟨p, h1, h2, h3⟩ := wi.s1
    refine ⟨_, h1, .inl ⟨rfl, _, .of h2⟩, ?_⟩
    have ec : (bs.map D.bl).countP (eqD · (.bl true)) = 1 := by
      rw [List.countP_map]
      have : ((fun z => eqD z (.bl true)) ∘ D.bl) = id := funext fun b => by
        show eqD (.bl b) (.bl true) = b
        rw [eqD_bl]
        cases b <;> rfl
      rw [this, one]
    show rCntD X.K (.ref p) [.bl true] H fun x H1 => rNeD X.K x (.int 1) H1 fun x H' => ∃ k, x = .bl k ∧ Q k H'
    refine gCount (K := X.K) H H (.lst (bs.map .bl)) (.int 1) [.bl true] (.ref p) [.bl true] _ (Same.refl H) (.lst h2 rvs_of_bools) (.cons (.bl true) .nil) ?_ fun F' H' v g rv => ?_
    · show (if _ then some (D.int (((bs.map D.bl).countP (eqD · (.bl true)) : Nat) : Int)) else none) = _
      rw [if_pos ⟨sh_bools bs, rfl⟩, ec]
      rfl
    · refine gNe (X := X) F' H' (.int 1) (.int 1) (.bl false) v (.int 1) _ g.le (rv.rt (.of g.le)) (.int 1) ne11 fun F2 H2 v2 g2 rv2 => ?_
      cases rv2
      exact ⟨false, rfl, q _ ((wi.grow (K := X.K) g).grow (K := X.K) g2)⟩
def tW5 (a : Addr) : TT := fun σ H Q => σ[0]? = some (some (.ref a)) ∧ Q false H
theorem pt_w5 {e : Expr} (h : PE X e (tE a true)) (he : ∀ whole, isTrue e X.env whole = (do let v ← whole; standAt e.pos; holding [v] (truthy v))) : PT X (.UnaryOp .Not e pos) (tW5 a) :=
  pt_imp (pt_not (pt_val h he)) fun σ H Q ⟨h0, q⟩ => ⟨h0, true, rfl, q⟩
/-- neither: on -/
theorem ps_w6 {c d : Expr} {bd : List Stmt} (h4 : PT X c (tW4 H0 a bs)) (h5 : PT X d (tW5 a)) : PS X (.If (.BoolOp .Or [c, d] p1) bd [] pos) (fun E σ H => WI H0 a bs σ H ∧ bs.countP id = 1 ∧ ∀ H', WI H0 a bs σ H' → E.nx σ H') :=
  ps_imp (ps_if ((pw_or h4 (pw_or1 h5)).pt) pss_never pss_nil) fun E σ H ⟨wi, one, q⟩ => by
    refine ⟨wi, one, fun H' wi' => ?_⟩
    show (if (false : Bool) = true then _ else _)
    rw [if_neg Bool.false_ne_true]
    refine ⟨wi'.s0, ?_⟩
    show (if (false : Bool) = true then _ else _)
    rw [if_neg Bool.false_ne_true]
    exact q H' wi'
def refD (c : Nat) : D := .tup [.str [114, 101, 102, 117, 115, 101, 100], .int (c : Nat)]
theorem ps_w7 {c : Nat} {z : Str} {k : Nat} (hz : z = toStr [114, 101, 102, 117, 115, 101, 100]) (hu : X.A.units + 65 < cLine) (hi : X.N[1]? = some x) (hv : Vis X.env.scope x) (hd : (x == ("__debug__" : Str)) = false) (hcd : (x == ("__classdict__" : Str)) = false)
    (hbase : attributeBase (.Name x p1) "index" X.env (eval (.Name x p1) X.env) = eval (.Name x p1) X.env)
    (hfew : ((backTo cpos (starEach [.Constant (.bool true) j p2] X.env)).all (fun x => !x.1) && (backToKw cpos (keywordEach [] X.env)).all (fun x => x.1.isSome)
      && decide (([.Constant (.bool true) j p2] : List Expr).length + ([] : List Keyword).length + (if ([] : List Keyword).isEmpty then 0 else 1) < 30)) = true)
    (hline : (apos.endLine == cpos.line) = true) (hs : starEach [.Constant (.bool true) j p2] X.env = (false, eval (.Constant (.bool true) j p2) X.env) :: starEach [] X.env) (hplain : (backTo cpos (starEach [] X.env)).any (·.1) = false)
    (hs1 : starEach [.Constant (.str z) j2 p3, .Call (.Attribute (.Name x p1) "index" apos) [.Constant (.bool true) j p2] [] cpos] X.env = (false, eval (.Constant (.str z) j2 p3) X.env) :: starEach [.Call (.Attribute (.Name x p1) "index" apos) [.Constant (.bool true) j p2] [] cpos] X.env)
    (hs2 : starEach [.Call (.Attribute (.Name x p1) "index" apos) [.Constant (.bool true) j p2] [] cpos] X.env = (false, eval (.Call (.Attribute (.Name x p1) "index" apos) [.Constant (.bool true) j p2] [] cpos) X.env) :: starEach [] X.env) :
    PS X (.Return (some (.Tuple [.Constant (.str z) j2 p3, .Call (.Attribute (.Name x p1) "index" apos) [.Constant (.bool true) j p2] [] cpos] k p4)) pos)
      (fun E σ H => WI H0 a bs σ H ∧ bs.findIdx? id = some c ∧ ∃ F, Same F H0 ∧ ∀ F' H' v, Grow F H0 F' H' → Rv X.K F' (refD c) v → E.rt v H') :=
  ps_imp (ps_ret (pe_tupX (pa_cons pe_str (pa_cons (pe_bm PySem.F.plainAttrs_list PySem.F.slot_list_index PySem.F.type_list_index (mt_indexD hu) (pe_var hi hv hd hcd) (pa_cons pe_bl pa_nil hs) hbase hfew hline hs hplain) pa_nil hs2) hs1))) fun E σ H ⟨wi, hc, F, le, q⟩ => by
    obtain ⟨p, h1, h2, h3⟩ := wi.s1
    subst hz
    refine ⟨_, h1, .inl ⟨rfl, _, .of h2⟩, ?_⟩
    have ec : (bs.map D.bl).findIdx? (eqD · (.bl true)) = some c := by
      rw [List.findIdx?_map]
      have : ((fun z => eqD z (.bl true)) ∘ D.bl) = id := funext fun b => by
        show eqD (.bl b) (.bl true) = b
        rw [eqD_bl]
        cases b <;> rfl
      rw [this, hc]
    show rIndexD X.K (.ref p) [.bl true] H fun x H1 => (2 : Nat) ≤ sizeLine ∧ FreshT [V.str (toStr [114, 101, 102, 117, 115, 101, 100]), x] H1 E.rt
    refine gIndexL (K := X.K) F H (.lst (bs.map .bl)) (.int (c : Nat)) [.bl true] (.ref p) [.bl true] _ (le.trans wi.le) (.lst h2 rvs_of_bools) (.cons (.bl true) .nil) ?_ fun F1 H1 v g rv => ?_
    · show (if _ then Option.map (fun k : Nat => D.int (k : Int)) ((bs.map D.bl).findIdx? (eqD · (.bl true))) else none) = _
      rw [if_pos ⟨sh_bools bs, rfl⟩, ec]
      rfl
    · cases rv
      refine ⟨by decide, fun r ob hr hdn => ?_⟩
      have s1 : Same H0 H1 := wi.le.trans g.k
      have g2 := Grow.new (F := F) (H := H1) ((le.trans wi.le).trans g.k) (.frz ob (.tup [.str (toStr [114, 101, 102, 117, 115, 101, 100]), .int (c : Nat)])) hr
      refine q _ _ _ ⟨g2.s, s1.trans g2.k, fun b o e => ?_, g2.le⟩ (.tup (.new hdn) (.cons (.str refGood) (.cons (.int _) .nil)))
      rcases g2.n b o e with z | z
      · exact .inl z
      · exact .inr (s1.free z)
end
end DL

namespace DL
open PySem PySem.Spec PyProof.Rows L2 L2H

def spW (K : PySem.W.Frag) (cl : Nat → Addr) (Cs : List Nat) (pe : Addr × Obj) : Sp := fun vs H Q E => ∃ c, c ∈ Cs ∧ pe.2.cls = .ref (cl c) ∧ pe.2.dict = none ∧ (∃ us, pe.2.data = .fields us) ∧ vs = [.ref pe.1] ∧
  ∃ F, Same F H ∧ ∀ F' H' v, Grow F H F' H' → Rv K F' (refD c) v → Q v H'
def WhichAt (P : Program) (w : World) (K : PySem.W.Frag) (mg : Str → Option Value) (base : Heap) (cl : Nat → Addr) (k : Nat) (x : Str) (Cs : List Nat) : Prop :=
  ∃ (f : Addr) (fd : FuncData) (n : Str), mg x = some (.ref f) ∧ PySem.W.keepIn K (.ref f) = true ∧ Binds K fd [n] [] ∧
    ∀ (pe : Addr × Obj) (A : Around) (outer : List PySem.Env) (s : Shared) (H : Hp) (us : List Value) (vs : List V) (Q : VK) (E : XK) (ar : Args), RoomH k A → Hot1 A pe → PinOk outer H s pe → Env0 P w K mg base A outer s H →
      BindsTo s fd ar ([n].zip us) → Vals vs us → spW K cl Cs pe vs H Q E → codeAny (model P w) A (.call (.ref f) ar) (CR (L2N.CX P w) outer P w H s Q E) s
section
variable {X : Cx} {cl : Nat → Addr} {Cs : List Nat} {a : Addr} {oe : Obj} {cls : Value} {d : Option Addr} {pn : List (Addr × Obj)} {x e : Str} {q p1 pos : Pos} {i k j : Nat}
def tHot (K : PySem.W.Frag) (cl : Nat → Addr) (Cs : List Nat) (i : Nat) (a : Addr) (cls : Value) (d : Option Addr) : TE := fun σ H Q => σ[i]? = some (some (.ref a)) ∧ ∃ c, c ∈ Cs ∧ cls = .ref (cl c) ∧ d = none ∧ ∃ F, Same F H ∧ ∀ F' H' v, Grow F H F' H' → Rv K F' (refD c) v → Q v H'
theorem pe_hot (G : WhichAt X.prog X.w X.K X.mg X.base cl k x Cs) (hr : Room j X.A) (hk : k ≤ j) (hz : L2N.Zn cls d oe) (hd : ∃ vs, oe.data = .fields vs) (hN : X.N[i]? = some e) (hv : Vis X.env.scope e) (hg : Gl X x)
    (hdb : (x == ("__debug__" : Str)) = false) (he1 : (e == ("__debug__" : Str)) = false) (he2 : (e == ("__classdict__" : Str)) = false)
    (hs : starEach [.Name e p1] X.env = (false, eval (.Name e p1) X.env) :: starEach [] X.env) (hpl : (backTo pos (starEach [] X.env)).any (·.1) = false) :
    PE (X.suite a ((a, oe) :: pn)) (.Call (.Name x q) [.Name e p1] [] pos) (tHot X.K cl Cs i a cls d) := by
  obtain ⟨f, fd, n, g1, g2, g3, g4⟩ := G
  constructor
  intro pins s σ H Q I h
  obtain ⟨h0, c, hc, e1, e2, F, le, q⟩ := h
  refine wpAny_Call_Name_kw (ld_glob I hg g1 ?_ hdb)
  have ha : PA (X.suite a ((a, oe) :: pn)) [.Name e p1] (tCons (tVar i) tNil) := pa_cons (pe_var hN hv he1 he2) pa_nil hs
  refine PySem.W.callWith_K (h₀ := X.base) I.ok.mod.kin g2 (thn (ha.run pos pins s σ H (fun vs H1 => vs = [.ref a] ∧ H1 = H) I ⟨.ref a, h0, rfl, rfl⟩) fun us s1 ⟨vs, H1, I1, r, ev, eH⟩ => ⟨I1.kIn, ?_⟩) hs hpl
  subst ev eH
  have hl : us.length = 1 := by rw [← r.length]; rfl
  have b := g3 s1 us I1.kIn (by rw [List.append_nil]; exact hl)
  rw [List.append_nil] at b
  have pin := I1.pin (a, oe) (List.mem_append_left _ List.mem_cons_self)
  have hpin : PinOk X.stack H1 s1 (a, oe) := ⟨pin.1, pin.2.1, fun hm => (List.mem_cons.mp (I1.stkSub a hm)).elim pin.2.2.1 pin.2.2.2.1, pin.2.2.2.2⟩
  have hot : Hot1 (X.A.mark (some (.ref a))) (a, oe) := ⟨rfl, by
    obtain ⟨vs, hd⟩ := hd
    exact ⟨vs, hd, hz.2.2 vs hd⟩⟩
  have hrm : RoomH k (X.A.mark (some (.ref a))) := by
    have z := roomH_of (hr.mono hk)
    exact ⟨z.dp, z.un⟩
  refine wpAny_call (codeAny_mono (g4 (a, oe) (X.A.mark (some (.ref a))) X.stack s1 H1 us [.ref a] Q (fun _ _ _ => False) ⟨us, []⟩ hrm hot hpin I1.env0 b r ⟨c, hc, hz.1.trans e1, hz.2.1.trans e2, hd, rfl, F, le, q⟩) fun r s2 hq => ?_)
  cases r with
  | error e =>
    obtain ⟨_, _, _, _, _, _, _, _, _, _, _, _, z⟩ := hq
    exact z.elim
  | ok fl =>
    cases fl with
    | ret u => exact I1.after hq
    | next => exact hq.elim
    | brk => exact hq.elim
    | cont => exact hq.elim
def sTry (i : Nat) (Cs : List Nat) (m : SM) : SM := fun ρ S => match m ρ S with
  | .exc c ρ' S' => if c ∈ Cs ∧ i < ρ'.length then .rt (.dat (refD c)) S' else .bad
  | o => o
/-- try: .., except WordError as e: return which(e) -/
theorem ds_try {body : List Stmt} {mb : SM} {y n : Str} {cv : Value} {np pos2 pos3 pos4 : Pos} (G : WhichAt X.prog X.w X.K X.mg X.base cl k x Cs) (hr : Room j X.A) (hk : k ≤ j) (i : Nat) (hN : X.N.Nodup) (hc : Names X y cv) (hx : ∀ c ∈ Cs, PySem.W.exmOne X.K (.ref (cl c)) cv = some true)
    (hb : ∀ (pn : List (Addr × Obj)) (xe : Value → Shared → Prop), DSs cl (X.tr pn xe) body mb)
    (hi : X.N[i]? = some n := by rfl) (hln : X.env.kindOf n = some .local := by rfl) (hst : X.stack = X.env :: X.outer := by rfl) (hf : X.env.frame = some X.env.locals := by rfl) (hv : Vis X.env.scope n := by first | exact Or.inl rfl | exact Or.inr (Or.inl rfl) | exact Or.inr (Or.inr rfl)) (hg : Gl X x := by rfl)
    (hdb : (x == ("__debug__" : Str)) = false := by decide) (he1 : (n == ("__debug__" : Str)) = false := by decide) (he2 : (n == ("__classdict__" : Str)) = false := by decide)
    (hs : starEach [.Name n p1] X.env = (false, eval (.Name n p1) X.env) :: starEach [] X.env := by rfl) (hpl : (backTo pos2 (starEach [] X.env)).any (·.1) = false := by rfl) :
    DS cl X (.Try body [.ExceptHandler (some (.Name y np)) (some n) [.Return (some (.Call (.Name x q) [.Name n p1] [] pos2)) pos3] pos4] [] [] pos) (sTry i Cs mb) := fun W tk _ =>
  ps_imp (L2N.ps_try_as (tb := fun W => tS X.K cl W mb) (ts := fun a cls d => tRet (tHot X.K cl Cs i a cls d)) hst hf hN hi hln hc tk (fun W' pn xe tk' pw => hb pn xe W' tk' pw) fun a oe cls d pn hz hd => pss_one (ps_ret (pe_hot G hr hk hz hd hi hv hg hdb he1 he2 hs hpl))) fun E σ H ⟨gh, F, φ, ρ, S, r, p⟩ => by
    refine ⟨gh, F, φ, ρ, S, r, ?_⟩
    unfold sTry at p
    cases em : mb ρ S with
    | bad =>
      rw [em] at p
      exact p
    | nx ρ' S' =>
      rw [em] at p
      exact p
    | bk ρ' S' =>
      rw [em] at p
      exact p
    | ct ρ' S' =>
      rw [em] at p
      exact p
    | rt v S' =>
      rw [em] at p
      exact p
    | exc c ρ' S' =>
      rw [em] at p
      simp only at p
      intro F1 φ1 σ1 H1 x1 r1
      by_cases hcs : c ∈ Cs ∧ i < ρ'.length
      · rw [if_pos hcs] at p
        refine ⟨true, hx c hcs.1, fun _ a ha => ?_, fun z => nomatch z⟩
        have hl : i < σ1.length := by
          rw [← r1.e.1]
          exact hcs.2
        refine ⟨?_, c, hcs.1, rfl, rfl, F1, r1.b.le, fun F2 H2 v g rv => p v F2 φ1 H2 ⟨x1.s.trans g.s, x1.p⟩ (r1.b.grow g) (.dat rv)⟩
        rw [List.getElem?_set_self hl]
      · rw [if_neg hcs] at p
        exact p.elim
end

/-- defs of n parameters each -/
inductive DFL (cl : Nat → Addr) (X : Cx) (j n : Nat) : List Expr → List Fn → Prop
  | nil : DFL cl X j n [] []
  | cons {x : Str} {k : Nat} {ps : List Str} {f : Fn} {p : Pos} {es : List Expr} {fs : List Fn} : Dfn X.prog X.w X.K X.mg X.base cl k x ps f → ps.length = n → k ≤ j → Gl X x → (x == ("__debug__" : Str)) = false →
      starEach (.Name x p :: es) X.env = (false, eval (.Name x p) X.env) :: starEach es X.env → DFL cl X j n es fs → DFL cl X j n (.Name x p :: es) (f :: fs)
def FnAt (X : Cx) (cl : Nat → Addr) (j n : Nat) (f : Fn) (a : Addr) : Prop := ∃ fd ps, PySem.W.keepIn X.K (.ref a) = true ∧ Binds X.K fd ps [] ∧ ps.length = n ∧ FnOk X.prog X.w X.K X.mg X.base (L2N.CX X.prog X.w) j a fd ps (spD X.K cl n f)
theorem dfl_pa {X : Cx} {cl : Nat → Addr} {j n : Nat} {es : List Expr} {fs : List Fn} (h : DFL cl X j n es fs) : ∃ as : List Addr, as.length = fs.length ∧ (∀ (i : Nat) (f : Fn), fs[i]? = some f → ∃ a, as[i]? = some a ∧ FnAt X cl j n f a) ∧ PA X es (fun _ H Q => Q (as.map V.ref) H) := by
  induction h with
  | nil => exact ⟨[], rfl, fun i f h => by simp at h, pa_imp pa_nil fun σ H Q q => q⟩
  | @cons x k ps f p es fs G hl hk hg hd hs t ih =>
    obtain ⟨as, e1, e2, e3⟩ := ih
    obtain ⟨a, fd, g1, g2, g3, g4⟩ := G
    subst hl
    refine ⟨a :: as, by rw [List.length_cons, List.length_cons, e1], fun i f' hi => ?_, pa_imp (pa_cons (pe_glob (v := .ref a) hg g1 rfl hd) e3 hs) fun σ H Q q => q⟩
    cases i with
    | zero =>
      cases hi
      exact ⟨a, rfl, fd, ps, g2, g3, rfl, g4.mono hk⟩
    | succ i => exact e2 i f' (by simpa using hi)
def ePick (n : Nat) (fs : List Fn) (mi : EM) (ms : AM) : EM := fun ρ S => if fs.length ≤ 1000 then (mi ρ S).bind fun x S1 => match x with
  | .dat (.int i) => (match atI fs i with
    | some f => (ms ρ S1).bind fun xs S2 => if xs.length = n then f xs S2 else .bad
    | none => .bad)
  | _ => .bad else .bad
section
variable {X : Cx} {cl : Nat → Addr} {j n : Nat} {es args : List Expr} {e0 ix : Expr} {fs : List Fn} {mi : EM} {ms : AM} {p1 p2 pos : Pos}
theorem de_pick (h : DFL cl X j n es fs) (hr : Room j X.A) (hi : DE cl X ix mi) (ha : DAs cl X (e0 :: args) ms) (hs : PlainIx ix := by exact fun _ _ => rfl)
    (ht : eval (.Call (.Subscript (.List es p1) ix p2) (e0 :: args) [] pos) X.env = (do callWith pos (← eval (.Subscript (.List es p1) ix p2) X.env) [] (backTo pos (starEach (e0 :: args) X.env)) (backToKw pos (keywordEach [] X.env))) := by rfl)
    (he : starEach (e0 :: args) X.env = (false, eval e0 X.env) :: starEach args X.env := by rfl) (hpl : (backTo pos (starEach args X.env)).any (·.1) = false := by rfl) :
    DE cl X (.Call (.Subscript (.List es p1) ix p2) (e0 :: args) [] pos) (ePick n fs mi ms) := fun W tk => by
  obtain ⟨as, el, ef, pa⟩ := dfl_pa h
  constructor
  intro pins s σ H Q I ⟨gh, F, φ, ρ, S, r, p⟩
  unfold ePick at p
  by_cases hlen : fs.length ≤ 1000
  rotate_left
  · rw [if_neg hlen] at p
    exact p.elim
  rw [if_pos hlen] at p
  have step : tOp (rIxL X.K) (tLst fun _ H Q => Q (as.map V.ref) H) (tG X.K cl W (rV X.K) mi) σ H fun v H1 => ∃ a f S1 F1 φ1, v = .ref a ∧ FnAt X cl j n f a ∧ Ext F φ F1 φ1 ∧ Rep X.K ⟨cl, gh⟩ F1 φ1 ρ S1 σ H1 ∧ Post X.K ⟨cl, gh⟩ W (rV X.K) F1 φ1 ρ σ Q ((ms ρ S1).bind fun xs S2 => if xs.length = n then f xs S2 else .bad) := by
    refine ⟨?_, fun q hq => ?_⟩
    · rw [List.length_map, el, sizeLine_eq]
      omega
    have g := Grow.new r.b.le (.lst (as.map V.ref)) hq
    refine (tG_bind (R := rV X.K) (r.grow g) (p.ext (g.ext φ))).imp fun v H1 ⟨x, S1, F1, φ1, x1, r1, q1, p1⟩ => ?_
    split at p1
    · rename_i i
      have ev := q1.d.int'
      subst ev
      split at p1
      · rename_i f hf
        obtain ⟨m, m1, m2⟩ : ∃ m, ixN fs.length i = some m ∧ fs[m]? = some f := by
          unfold atI at hf
          cases e : ixN fs.length i with
          | none =>
            rw [e] at hf
            cases hf
          | some m =>
            rw [e] at hf
            exact ⟨m, rfl, hf⟩
        obtain ⟨a, ha, fa⟩ := ef m f m2
        refine ⟨q, as.map V.ref, i, .ref a, rfl, rfl, .of (r1.b.le _ _ (x1.s _ _ upd_same)), ?_, a, f, S1, F1, φ1, rfl, fa, (g.ext φ).trans x1, r1, p1⟩
        unfold atI
        rw [List.length_map, el]
        rw [m1]
        show (as.map V.ref)[m]? = _
        rw [List.getElem?_map, ha]
        rfl
      · exact p1.elim
    · exact p1.elim
  refine Call_ (thn ((pe_ix ix_list (pe_lst pa) (hi W tk) hs).run pins s σ H _ I step) fun u s1 ⟨v, H1, I1, rv, a, f, S1, F1, φ1, ev, ⟨fd, ps, k1, k2, k3, k4⟩, x1, r1, p1⟩ => ?_) ht
  subst ev
  obtain rfl : u = Value.ref a := rv
  have args_ : tG X.K cl W (rVs X.K) ms σ H1 fun vs H2 => spD X.K cl n f vs H2 Q (WE W σ) := (tG_bind (R := rVs X.K) r1 p1).imp fun vs H2 ⟨xs, S2, F2, φ2, x2, r2, q2, p2⟩ => call_ok r2 q2 p2
  refine PySem.W.callWith_K (h₀ := X.base) I1.ok.mod.kin k1 (thn ((ha W tk).run pos pins s1 σ H1 _ I1 args_) fun us s2 ⟨vs, H2, I2, r2, q2⟩ => ⟨I2.kIn, ?_⟩) he hpl
  exact run_fnS (E := WE W) k4 hr k2 (L2N.passAt tk σ) I2 r2 q2

def sPar (i j : Nat) (a : AM) : SM := fun ρ S => sOf (a ρ S) ρ fun xs S1 => match xs with
  | [x, y] => .nx ((ρ.set i (some x)).set j (some y)) S1
  | _ => .bad
theorem ds_par {x y : Str} {a b : Expr} {ms : AM} {px py pt pos pt2 : Pos} {kt k2 : Nat} (ha : DAs cl X [a, b] ms) (i j : Nat) (hc : X.calm = true) (hN : X.N.Nodup) (hw : swappedStores [.Tuple [.Name x px, .Name y py] kt pt] (.Tuple [a, b] k2 pt2) X.env = pure (some [x, y]))
    (hij : i ≠ j := by decide) (hi : X.N[i]? = some x := by rfl) (hj : X.N[j]? = some y := by rfl) (hx : X.env.scope.names.lookup x = some .local := by rfl) (hy : X.env.scope.names.lookup y = some .local := by rfl)
    (hs : swapsWithSole [.Tuple [.Name x px, .Name y py] kt pt] (.Tuple [a, b] k2 pt2) pos.line X.env = pure false := by rfl) :
    DS cl X (.Assign [.Tuple [.Name x px, .Name y py] kt pt] (.Tuple [a, b] k2 pt2) pos) (sPar i j ms) := fun W tk _ =>
  ps_imp (ps_par hc hN hi hj hij hx hy (ha W tk) hw hs) fun E σ H ⟨gh, F, φ, ρ, S, r, p⟩ => (tS_of (R := rVs X.K) r p).imp fun vs H1 ⟨xs, S1, F1, φ1, x1, r1, q1, p1⟩ => by
    split at p1
    · obtain ⟨v, u, rfl, rv, ru⟩ := q1.two
      exact ⟨v, u, rfl, p1 F1 φ1 _ H1 (.refl F1 φ1) ⟨r1.b, (r1.e.set rv i).set ru j⟩⟩
    · exact p1.elim
end
end DL

namespace DL
open PySem PySem.Spec PyProof.Rows L2 L2H
theorem rm65 {k : Nat} {A : Around} (hr : Room k A) : A.units + 65 < cLine := by
  have := hr.un
  omega
theorem rm64 {k : Nat} {A : Around} (hr : Room k A) : A.units + 64 < cLine := by
  have := hr.un
  omega
theorem rm1 {k : Nat} {A : Around} (hr : Room k A) : A.units + 1 < cLine := by
  have := hr.un
  omega
theorem rh65 {k : Nat} {A : Around} (hr : RoomH k A) : A.units + 65 < cLine := by
  have := hr.un
  omega
theorem bt_isinstance : bootBuiltins "isinstance" = some (.builtin "isinstance") := by decide +kernel
theorem bt_len : bootBuiltins "len" = some (.builtin "len") := by decide +kernel
theorem bt_max : bootBuiltins "max" = some (.builtin "max") := by decide +kernel
theorem bt_min : bootBuiltins "min" = some (.builtin "min") := by decide +kernel
theorem bt_all : bootBuiltins "all" = some (.builtin "all") := by decide +kernel
theorem bt_any : bootBuiltins "any" = some (.builtin "any") := by decide +kernel
theorem bt_sum : bootBuiltins "sum" = some (.builtin "sum") := by decide +kernel
theorem bt_sorted : bootBuiltins "sorted" = some (.builtin "sorted") := by decide +kernel
theorem bt_ValueError : bootBuiltins "ValueError" = some (.type "ValueError") := by decide +kernel
theorem bt_int : bootBuiltins "int" = some (.type "int") := by decide +kernel
theorem bt_str : bootBuiltins "str" = some (.type "str") := by decide +kernel
theorem bt_bool : bootBuiltins "bool" = some (.type "bool") := by decide +kernel
theorem bt_tuple : bootBuiltins "tuple" = some (.type "tuple") := by decide +kernel
theorem bt_list : bootBuiltins "list" = some (.type "list") := by decide +kernel
theorem bt_dict : bootBuiltins "dict" = some (.type "dict") := by decide +kernel
end DL

namespace DL
open PySem PySem.Spec PyProof.Rows L2 L2H
def exNames : List Str := ["NoWords", "NoLook", "NoNumbers", "NoRoom", "NoWord", "NoWorths", "Never", "Full", "Known", "NoPlace", "NoLetters", "NoText", "Nothing", "WordError", "Words", "Book"]
def exNm (c : Nat) : Str := exNames.getD c "WordError"
def exCl (K : PySem.W.Frag) (c : Nat) : Addr := He.ga K (exNm c)
def excB (K : PySem.W.Frag) (D : Addr) : Bool := He.eqO (PySem.W.findIn K (.ref D) "__getattribute__") (some (some (.builtin "BaseException.__getattribute__"))) && (He.eqO (PySem.W.findIn K (.ref D) "__getattr__") (some none) &&
  (decide (PySem.W.subIn K (.ref D) (.type "BaseException") = some true) && (PySem.W.hasDictIn K D && (He.eqO (PySem.W.findIn K (.ref D) "__class__") (some (some (.builtin "object.__class__"))) &&
  (He.eqO (PySem.W.specialIn K (.builtin "object.__class__") "__get__") (some (some (.builtin "getset_descriptor.__get__"))) && (decide (PySem.W.takesIn K (.builtin "object.__class__") = some true) && decide (PySem.W.mroIn K D (.type "object") = some true)))))))
theorem excB_ok {K : PySem.W.Frag} {D : Addr} (h : excB K D = true) : ExcC K D := by
  unfold excB at h
  simp only [Bool.and_eq_true] at h
  obtain ⟨h1, h2, h3, h4, h5, h6, h7, h8⟩ := h
  exact ⟨He.eqO_ok h1, He.eqO_ok h2, of_decide_eq_true h3, h4, He.eqO_ok h5, He.eqO_ok h6, of_decide_eq_true h7, of_decide_eq_true h8⟩
def whB (n : Nat) (Cs : List Nat) (K : PySem.W.Frag) : Bool := Cs.all fun c => excB K (exCl K c) && (((List.range n).all fun j => decide (PySem.W.kitOne K (.ref (exCl K c)) (.ref (exCl K j)) = some (decide (c = j)))) &&
  (decide (PySem.W.kitOne K (.ref (exCl K c)) (.type "ValueError") = some true) && decide (PySem.W.exmOne K (.ref (exCl K c)) (.ref (exCl K 13)) = some true)))
theorem whB_ok {n : Nat} {Cs : List Nat} {K : PySem.W.Frag} (h : whB n Cs K = true) : ∀ c, c ∈ Cs → (ExcC K (exCl K c) ∧ (∀ j, j < n → PySem.W.kitOne K (.ref (exCl K c)) (.ref (exCl K j)) = some (decide (c = j))) ∧ PySem.W.kitOne K (.ref (exCl K c)) (.type "ValueError") = some true) ∧ PySem.W.exmOne K (.ref (exCl K c)) (.ref (exCl K 13)) = some true := fun c hc => by
  have q := List.all_eq_true.mp h c hc
  simp only [Bool.and_eq_true] at q
  obtain ⟨q1, q2, q3, q4⟩ := q
  exact ⟨⟨excB_ok q1, fun j hj => of_decide_eq_true (List.all_eq_true.mp q2 j (List.mem_range.mpr hj)), of_decide_eq_true q3⟩, of_decide_eq_true q4⟩
section
variable {K : PySem.W.Frag} {h : Heap} {mg : Str → Option Value}
theorem excAt_of (X : K.In h) (G : h.Ns mainGlobals mg) (c : Nat) {x : Str} (e : x = exNm c) (g : (He.Fa.glo x).ok K = true) (q : (He.Fa.exc x).ok K = true) : ExcAt K mg (exCl K) c x := by
  subst e
  obtain ⟨a1, a2, a3, a4⟩ := He.exc_ok q
  exact ⟨He.glo_ok X G g, a1, a2, a3, a4⟩
theorem globI_of (X : K.In h) (G : h.Ns mainGlobals mg) {x : Str} {i : Int} (g : (He.Fa.int x i).ok K = true) : Glob mg x (.int i) := by
  obtain ⟨t, e⟩ := He.int_ok X G g
  exact ⟨_, .int i, e, ⟨t, rfl⟩, fun K F => .int i⟩
theorem globS_of (X : K.In h) (G : h.Ns mainGlobals mg) {x z : Str} {s : List Nat} (g : (He.Fa.str x z).ok K = true) (e : z = toStr s) (hs : s.all (· < 1114112) = true) : Glob mg x (.str s) := by
  obtain ⟨t, e1⟩ := He.str_ok X G g
  subst e
  exact ⟨_, .str (toStr s), e1, ⟨t, rfl⟩, fun K F => .str fun c hc => by simpa using List.all_eq_true.mp hs c hc⟩
end
/-- the law's def at the script -/
theorem spD_script {K : PySem.W.Frag} {cl : Nat → Addr} {d : Fn} {H : Hp} {a : Addr} {ns : List Int} {S : Store} (hd : d [.dat (.scr ns)] [] = .ok (.dat (.bl true)) S) (hS : SqL K H a (ns.map V.int)) : spD K cl 1 d [.ref a] H (fun v _ => v = .bl true) fun _ _ _ => False := by
  refine ⟨[], H, [], [], [.dat (.scr ns)], ⟨Same.refl H, rfl, .nil, (fun a h => nomatch h), (fun i c a h _ => by simp at h), (fun i c a h _ _ => by simp at h), (fun p h => nomatch h)⟩, .cons (.dat (.scr hS)) .nil, rfl, ?_⟩
  rw [hd]
  intro v F' φ' H' _ _ r
  cases r with
  | dat r =>
    cases r
    rfl
theorem cxNo {P : Program} {w : World} (H : Hp) (s : Shared) (e : Value) (s' : Shared) (h : L2N.CX P w [] H s (fun _ _ _ => False) e s') : False := by
  obtain ⟨_, _, _, _, _, _, _, _, _, _, _, _, h⟩ := h
  exact h
/-- what is let out, in some world -/
def CXe (P : Program) : CXT := fun outer H s E u s' => ∃ w, L2N.CX P w outer H s E u s'
theorem cxeNo {P : Program} (H : Hp) (s : Shared) (e : Value) (s' : Shared) (h : CXe P [] H s (fun _ _ _ => False) e s') : False := h.elim fun w h => cxNo H s e s' h
theorem fnOk_e {P : Program} {w : World} {K : PySem.W.Frag} {mg : Str → Option Value} {base : Heap} {k : Nat} {f : Addr} {fd : FuncData} {ps : List Str} {sp : Sp} (F : FnOk P w K mg base (L2N.CX P w) k f fd ps sp) : FnOk P w K mg base (CXe P) k f fd ps sp :=
  ⟨F.len, fun A outer s H args us vs Q E hr e0 hb hv hs => codeAny_mono (F.run A outer s H args us vs Q E hr e0 hb hv hs) fun r s' h => by
    cases r with
    | error e => exact ⟨w, h⟩
    | ok fl => cases fl <;> exact h⟩
end DL

namespace DL
open PySem PySem.Spec PyProof.Rows L2
def isT (T : String) (d : D) : Bool := match d with
  | .non => false
  | .bl _ => T == "bool" || T == "int"
  | .int _ => T == "int"
  | .str _ => T == "str"
  | .tup _ => T == "tuple"
  | .ktp _ => T == "tuple"
  | .lst _ => T == "list"
  | .dct _ => T == "dict"
  | .dcu _ => false
  | .scr _ => false
/-- data, not the script -/
def plainD : D → Bool
  | .scr _ => false
  | .dcu _ => false
  | _ => true
theorem isI_plain {d : D} (h : plainD d = true) : ∀ T ∈ ["int", "bool", "str", "tuple", "list"], pIsI T d = some (.bl (isT T d)) := by
  intro T hT
  simp only [List.mem_cons, List.not_mem_nil, or_false] at hT
  rcases hT with e | e | e | e | e <;> subst e <;> cases d <;> first
    | (cases h; done)
    | decide +kernel
    | rfl
theorem isI_int {d : D} (h : plainD d = true) : pIsI "int" d = some (.bl (isT "int" d)) := isI_plain h _ (by decide)
theorem isI_bool {d : D} (h : plainD d = true) : pIsI "bool" d = some (.bl (isT "bool" d)) := isI_plain h _ (by decide)
theorem isI_str {d : D} (h : plainD d = true) : pIsI "str" d = some (.bl (isT "str" d)) := isI_plain h _ (by decide)
theorem isI_tuple {d : D} (h : plainD d = true) : pIsI "tuple" d = some (.bl (isT "tuple" d)) := isI_plain h _ (by decide)
theorem isI_list {d : D} (h : plainD d = true) : pIsI "list" d = some (.bl (isT "list" d)) := isI_plain h _ (by decide)
theorem cutS_self {α : Type} (S : Store) (k : Store → Out α) : cutS S S k = k S := by
  unfold cutS
  rw [List.take_length, if_pos]
  exact fun j c fs h => .inl h
theorem cutS_more {α : Type} (S X : Store) (k : Store → Out α) : cutS S (S ++ X) k = k S := by
  unfold cutS
  rw [List.take_left, if_pos]
  exact fun j c fs h => .inl h
theorem cutS_head {α : Type} (a b : List D) (R X : Store) (k : Store → Out α) : cutS (.lst a :: R) (.lst b :: (R ++ X)) k = k (.lst b :: R) := by
  unfold cutS
  have e : (Cell.lst b :: (R ++ X)).take (Cell.lst a :: R).length = .lst b :: R := by
    rw [List.length_cons, List.take_succ_cons, List.take_left]
  rw [e, if_pos]
  intro j c fs h
  cases j with
  | zero => cases h
  | succ j => exact .inl h
theorem cutS_head0 {α : Type} (a b : List D) (R : Store) (k : Store → Out α) : cutS (.lst a :: R) (.lst b :: R) k = k (.lst b :: R) := by
  have := cutS_head a b R [] k
  rw [List.append_nil] at this
  exact this
theorem cutS_one {α : Type} (a b : List D) (X : Store) (k : Store → Out α) : cutS [.lst a] (.lst b :: X) k = k [.lst b] := cutS_head a b [] X k
theorem cutS_none {α : Type} (X : Store) (k : Store → Out α) : cutS [] X k = k [] := by
  unfold cutS
  rw [if_pos]
  · rfl
  · exact fun j c fs h => by simp at h
theorem cut_dat (S S' : Store) (d : D) : cut S false (.dat d) S' = cutS S S' (.ok (.dat d)) := by
  unfold cut
  rw [if_neg (by decide)]
theorem compL_map {i : Nat} {me : EM} {ρ : Ev} {f : D → D} : ∀ {ds : List D} {S : Store}, (∀ d ∈ ds, me (ρ.set i (some (.dat d))) S = .ok (.dat (f d)) S) → compL (bN i) bYes me ρ ds S = .ok (ds.map f) S
  | [], S, _ => rfl
  | d :: ds, S, h => by
    have ih := compL_map (i := i) (me := me) (ρ := ρ) (f := f) (ds := ds) (S := S) fun x hx => h x (List.mem_cons_of_mem _ hx)
    have e := h d List.mem_cons_self
    simp only [compL, bN, setE, bYes, if_true, e, ih, Out.bind, List.map_cons]
theorem boolsOf_map {α : Type} (f : α → Bool) : ∀ ds : List α, boolsOf (ds.map fun d => .bl (f d)) = some (ds.map f)
  | [] => rfl
  | d :: ds => by
    simp only [List.map_cons, boolsOf, boolsOf_map f ds]

theorem eqD_str (a b : List Nat) : eqD (.str a) (.str b) = decide (a = b) := by
  have : eqD (.str a) (.str b) = (toStr a == toStr b) := by simp [eqD, toPy, PyData.eqv]
  rw [this]
  by_cases h : a = b
  · subst h
    simp
  · rw [decide_eq_false h]
    exact beq_eq_false_iff_ne.mpr fun e => h (toStr_inj e)
theorem eqD_int (a b : Int) : eqD (.int a) (.int b) = decide (a = b) := by
  have : eqD (.int a) (.int b) = (a == b) := by simp [eqD, toPy, PyData.eqv]
  rw [this]
  by_cases h : a = b
  · subst h
    simp
  · rw [decide_eq_false h]
    exact beq_eq_false_iff_ne.mpr h
def stripL (s t : List Nat) : List Nat := ofStr (Txt.stripChars (toStr s) (toStr t))
theorem strip_mem {s t : List Nat} {c : Nat} (h : c ∈ stripL s t) : c ∈ s := by
  unfold stripL Txt.stripChars at h
  rw [stripBy_eq] at h
  unfold ofStr Builtin.Str.strSub at h
  rw [Array.toList_extract] at h
  have h3 := List.mem_of_mem_drop (List.mem_of_mem_take (by simpa using h))
  simpa [toStr] using h3
theorem take_all {p : Nat → Bool} : ∀ {l : List Nat}, (∀ c ∈ l, p c = true) → l.takeWhile p = l
  | [], _ => rfl
  | x :: r, h => by
    rw [List.takeWhile_cons, if_pos (h x List.mem_cons_self), take_all fun c hc => h c (List.mem_cons_of_mem _ hc)]
theorem strip_all {s t : List Nat} (h : ∀ c ∈ s, c ∈ t) : stripL s t = [] := by
  unfold stripL Txt.stripChars
  rw [stripBy_eq]
  have lo : stripLo (toStr t).cps.contains true (toStr s) = s.length := by
    unfold stripLo
    rw [if_pos rfl]
    have e : (toStr s).cps.toList = s := by simp [toStr]
    rw [e, take_all]
    intro c hc
    simpa [toStr] using h c hc
  rw [lo]
  unfold ofStr Builtin.Str.strSub
  have : ((toStr s).cps.extract s.length (stripHi (toStr t).cps.contains true (toStr s) s.length)).size = 0 := by
    rw [Array.size_extract]
    have : (toStr s).cps.size = s.length := by simp [toStr]
    omega
  rw [Array.eq_empty_of_size_eq_zero this]
def goodL (s : List Nat) : Bool := s.all (· < 1114112)
theorem pStrip_eq {s t : List Nat} (hl : s.length ≤ 1000000) (hg : goodL s = true) : pStrip (.str s) [.str t] = some (.str (stripL s t)) := by
  unfold pStrip
  simp only [if_pos hl]
  unfold outS
  rw [if_pos]
  · rfl
  · rw [List.all_eq_true]
    intro c hc
    exact List.all_eq_true.mp hg c (strip_mem hc)

theorem env_set0 {a b c : Option Val} {x : Val} : ([a, b, c] : Ev).set 0 (some x) = [some x, b, c] := rfl
theorem keysOf_strs : ∀ ss : List (List Nat), keysOf (ss.map .str) = some (ss.map fun s => Sum.inr (toStr s))
  | [] => rfl
  | s :: ss => by simp only [List.map_cons, keysOf, keyOf, keysOf_strs ss]
theorem strs_of_map : ∀ ss : List (List Nat), strsOf (ss.map .str) = some ss
  | [] => rfl
  | s :: ss => by simp only [List.map_cons, strsOf, strs_of_map ss]
theorem eqD_strs : ∀ a b : List (List Nat), PyData.eqvAll (toPys (a.map .str)) (toPys (b.map .str)) = decide (a = b)
  | [], [] => by simp [toPys, PyData.eqvAll]
  | [], _ :: _ => by simp [toPys, PyData.eqvAll]
  | _ :: _, [] => by simp [toPys, PyData.eqvAll]
  | x :: xs, y :: ys => by
    have ih := eqD_strs xs ys
    have h : PyData.eqv (toPy (.str x)) (toPy (.str y)) = decide (x = y) := eqD_str x y
    simp only [List.map_cons, toPys, PyData.eqvAll, ih, h]
    simp [Bool.decide_and]

theorem compL_mapB {B : TB} {me : EM} {ρ : Ev} {f : D → D} : ∀ {ds : List D} {S : Store}, (∀ d ∈ ds, ∃ a, B d = some a ∧ me (setE ρ a) S = .ok (.dat (f d)) S) → compL B bYes me ρ ds S = .ok (ds.map f) S
  | [], S, _ => rfl
  | d :: ds, S, h => by
    have ih := compL_mapB (B := B) (me := me) (ρ := ρ) (f := f) (ds := ds) (S := S) fun x hx => h x (List.mem_cons_of_mem _ hx)
    obtain ⟨a, e1, e2⟩ := h d List.mem_cons_self
    simp only [compL, e1, bYes, if_true, e2, ih, Out.bind, List.map_cons]
theorem cutL_1 {α : Type} (xs : List α) : cutL xs (some 1) none = xs.drop 1 := by
  cases xs with
  | nil => rfl
  | cons a r =>
    have h1 : HT.sIx (a :: r).length 0 (some 1) = 1 := by
      simp [HT.sIx]
    have h2 : HT.sIx (a :: r).length (a :: r).length none = (a :: r).length := rfl
    unfold cutL
    rw [h1, h2]
    simp
end DL

namespace DL
open PySem PySem.Spec PyProof.Rows L2 L2H

def putV (f : Str) (y : Val) : List (Str × Val) → List (Str × Val)
  | [] => [(f, y)]
  | (g, x) :: r => if g = f then (g, y) :: r else (g, x) :: putV f y r
section
variable {K : PySem.W.Frag} {F : Hp} {φ : List Addr}
theorem RFs.put {f : Str} {y : Val} {v : V} (r : RV K F φ y v) : ∀ {fs : List (Str × Val)} {vs : List (Str × V)}, RFs K F φ fs vs → RFs K F φ (putV f y fs) (putF f v vs)
  | _, _, .nil => .cons r .nil
  | (g, x) :: fs, _, .cons q t => by
    unfold putV putF
    by_cases h : g = f
    · rw [if_pos h, if_pos h]
      exact .cons r t
    · rw [if_neg h, if_neg h]
      exact .cons q (RFs.put r t)
theorem RFs.len : ∀ {fs : List (Str × Val)} {vs : List (Str × V)}, RFs K F φ fs vs → fs.length = vs.length
  | _, _, .nil => rfl
  | _, _, .cons _ t => congrArg (· + 1) (RFs.len t)
theorem RFs.look {f : Str} : ∀ {fs : List (Str × Val)} {vs : List (Str × V)}, RFs K F φ fs vs → (∀ x, fs.lookup f = some x → ∃ v, vs.lookup f = some v ∧ RV K F φ x v) ∧ (fs.lookup f = none → vs.lookup f = none)
  | _, _, .nil => ⟨fun x h => (by cases h), fun _ => rfl⟩
  | (g, y) :: fs, _, .cons (v := v) (vs := vs) q t => by
    obtain ⟨h1, h2⟩ := RFs.look (f := f) t
    rw [List.lookup_cons, List.lookup_cons]
    cases e : f == g with
    | true => exact ⟨fun x h => ⟨v, rfl, by cases h; exact q⟩, fun h => nomatch h⟩
    | false => exact ⟨h1, h2⟩
end

/-- a method (or __init__) with its mirror -/
def Mfn (P : Program) (w : World) (K : PySem.W.Frag) (mg : Str → Option Value) (base : Heap) (cl : Nat → Addr) (c k : Nat) (m : Str) (ps : List Str) (f : Fn) : Prop :=
  ∃ (a : Addr) (fd : FuncData), Meth K (cl c) m a ∧ Binds K fd ps [] ∧ FnOk P w K mg base (L2N.CX P w) k a fd ps (spD K cl ps.length f)
structure ClsAt (K : PySem.W.Frag) (mg : Str → Option Value) (cl : Nat → Addr) (c : Nat) (x : Str) : Prop where
  g : mg x = some (.ref (cl c))
  ok : Cls K (cl c)
  m : PySem.W.makesIn K (cl c) = true
  k : PySem.W.keepIn K (.ref (cl c)) = true
def eMake (c n : Nat) (f : Fn) (a : AM) : EM := fun ρ S => (a ρ S).bind fun xs S1 => if xs.length + 1 = n then (f (.ptr S1.length :: xs) (S1 ++ [.obj c []])).bind fun v S2 => match v with
  | .dat .non => .ok (.ptr S1.length) S2
  | _ => .bad else .bad
def objAt (c : Nat) (x : Val) (S : Store) : Option (Nat × List (Str × Val)) := match x with
  | .ptr i => (match S[i]? with
    | some (.obj c' fs) => if c' = c then some (i, fs) else none
    | _ => none)
  | _ => none
def eMth (c n : Nat) (m : Str) (f : Fn) (o : EM) (a : AM) : EM := fun ρ S => (o ρ S).bind fun x S1 => match objAt c x S1 with
  | some (_, fs) => if fs.lookup m = none then (a ρ S1).bind fun xs S2 => if xs.length + 1 = n then f (x :: xs) S2 else .bad else .bad
  | none => .bad
def eFld (c : Nat) (f : Str) (o : EM) : EM := fun ρ S => (o ρ S).bind fun x S1 => match objAt c x S1 with
  | some (_, fs) => (match fs.lookup f with
    | some v => .ok v S1
    | none => .bad)
  | none => .bad
def sFldS (c : Nat) (f : Str) (o e : EM) : SM := fun ρ S => sOf (e ρ S) ρ fun y S1 => sOf (o ρ S1) ρ fun x S2 => match objAt c x S2 with
  | some (i, fs) => if fs.length < 1000 then .nx ρ (S2.set i (.obj c (putV f y fs))) else .bad
  | none => .bad
section
variable {X : Cx} {cl : Nat → Addr} {cs : CS} {c k j : Nat} {x m : Str} {ps : List Str} {f : Fn} {e o : Expr} {es : List Expr} {ms : AM} {mo me : EM} {p pos apos : Pos}
theorem objAt_ok {F H : Hp} {φ : List Addr} {S : Store} {v : V} {y : Val} {i : Nat} {fs : List (Str × Val)} (b : Base X.K cs F φ S H) (r : RV X.K F φ y v) (h : objAt c y S = some (i, fs)) :
    ∃ a dx vs, v = .ref a ∧ y = .ptr i ∧ φ[i]? = some a ∧ S[i]? = some (.obj c fs) ∧ H a = some (.ins (cs.cls c) dx vs) ∧ RFs X.K F φ fs vs := by
  unfold objAt at h
  split at h
  · rename_i i'
    cases r with
    | @ptr _ a ha =>
      split at h
      · rename_i c' fs' hs
        split at h
        · rename_i hc
          cases h
          subst hc
          obtain ⟨dx, vs, h1, h2⟩ := b.cell i _ a hs ha
          exact ⟨a, dx, vs, rfl, rfl, ha, hs, h1, h2⟩
        · cases h
      · cases h
  · cases h
/-- __init__ runs on the new instance -/
theorem make_run {W : WX} {pins : List (Addr × Obj)} {σ : St} {H : Hp} {s : Shared} {Q : VK} {us : List Value} {vs : List V} (tk : Takes X W) (M : ClsAt X.K X.mg cl c x) (I0 : Mfn X.prog X.w X.K X.mg X.base cl c k "__init__" ps f) (hr : Room (k + 1) X.A) (I : Inv X pins σ H s) (rv : Vals vs us)
    (h : ∀ y dx, H y = none → H dx = none → dx ≠ y → spD X.K cl ps.length f (.ref y :: vs) (upd (upd H dx (.own y)) y (.ins (cl c) dx [])) (fun v H2 => v = .non ∧ Q (.ref y) H2) (WE W σ)) :
    wpAny (model X.prog X.w) X.A (call (.ref (cl c)) us) (EP X pins σ Q) X.xe s := by
  obtain ⟨a, fd, g1, g2, g3⟩ := I0
  have hq := h (s.heap.objs.size + 1) s.heap.objs.size (I.hok.fresh (Nat.le_succ _)) (I.hok.fresh (Nat.le_refl _)) (Nat.ne_of_lt (Nat.lt_succ_self _))
  have J := Inv.made (C := cl c) I
  have r2 : Vals (V.ref (s.heap.objs.size + 1) :: vs) (Value.ref (s.heap.objs.size + 1) :: us) := .cons rfl rv
  have hl : (Value.ref (s.heap.objs.size + 1) :: us ++ []).length = ps.length := by
    rw [List.append_nil, ← r2.length]
    exact spD_len hq
  have b := g2 _ (Value.ref (s.heap.objs.size + 1) :: us) J.kIn hl
  rw [List.append_nil] at b
  refine wpAny_call (make_map (f := a) I.kIn M.m g1.at_ (beq_iff_eq.mp g1.fn) (codeAny_mono (g3.run _ X.stack _ _ ⟨Value.ref (s.heap.objs.size + 1) :: us, []⟩ _ _ _ (WE W σ) (hr.make (cl c) us []) (J.env0.make (cl c) us []) b r2 hq) fun r s2 h2 => ?_))
  cases r with
  | error e => exact L2N.passAt tk σ pins _ _ e s2 J h2
  | ok fl =>
    cases fl with
    | ret u =>
      obtain ⟨v, H3, J3, rv3, ev, q3⟩ := J.after h2
      subst ev
      exact ⟨rv3, ⟨.ref (s.heap.objs.size + 1), H3, J3, rfl, q3⟩⟩
    | next => exact h2.elim
    | brk => exact h2.elim
    | cont => exact h2.elim
theorem de_make (M : ClsAt X.K X.mg cl c x) (I0 : Mfn X.prog X.w X.K X.mg X.base cl c k "__init__" ps f) (hr : Room j X.A) (ha : DAs cl X (e :: es) ms) (hk : k + 1 ≤ j := by decide) (hg : Gl X x := by rfl)
    (hdb : (x == ("__debug__" : Str)) = false := by decide) (he : starEach (e :: es) X.env = (false, eval e X.env) :: starEach es X.env := by rfl) (hpl : (backTo pos (starEach es X.env)).any (·.1) = false := by rfl) :
    DE cl X (.Call (.Name x p) (e :: es) [] pos) (eMake c ps.length f ms) := fun W tk => by
  constructor
  intro pins s σ H Q I ⟨gh, F, φ, ρ, S, rp, q⟩
  refine wpAny_Call_Name_kw (ld_glob I hg M.g ?_ hdb)
  refine PySem.W.callWith_K (h₀ := X.base) I.ok.mod.kin M.k (thn ((ha W tk).run pos pins s σ H _ I ((tG_bind (R := rVs X.K) rp q).imp fun vs H1 h => h)) fun us s1 ⟨vs, H1, I1, rv, xs, S1, F1, φ1, x1, r1, q1, p1⟩ => ⟨I1.kIn, ?_⟩) he hpl
  refine make_run tk M I0 (hr.mono hk) I1 rv fun y dx hy hdx hne => ?_
  by_cases hl : xs.length + 1 = ps.length
  · rw [if_pos hl] at p1
    have g := Grow.new r1.b.le (.own y) hdx
    have r2 := r1.grow g
    have hy2 : (upd H1 dx (.own y)) y = none := by rw [upd_ne (Ne.symm hne)]; exact hy
    have b3 := r2.b.push (c := .obj c []) (o := .ins (cl c) dx []) hy2 ⟨dx, [], upd_same, .nil⟩
    refine ⟨gh, _, _, _, .ptr S1.length :: xs, b3, .cons (.ptr ?_) (q1.mono (.of g.s) ⟨[y], rfl⟩), by rw [List.length_cons]; exact hl, ?_⟩
    · rw [← r1.b.len]
      simp
    · have p2 := p1.ext (F' := upd F1 dx (.own y)) (φ' := φ1 ++ [y]) ⟨g.s, ⟨[y], rfl⟩⟩
      cases ef : f (.ptr S1.length :: xs) (S1 ++ [.obj c []]) with
      | bad =>
        rw [ef] at p2
        exact p2
      | exc d S2 =>
        rw [ef] at p2
        exact fun F' φ' H' x b => p2 F' φ' H' x ⟨b, r1.e.mono (.of (g.s.trans x.s)) ((List.prefix_append φ1 [y]).trans x.p)⟩
      | ok v S2 =>
        rw [ef] at p2
        intro v' F' φ' H' x b rv'
        simp only [Out.bind] at p2
        split at p2
        · cases rv' with
          | dat rv' =>
            cases rv'
            refine ⟨rfl, p2 (.ref y) F' φ' H' x ⟨b, r1.e.mono (.of (g.s.trans x.s)) ((List.prefix_append φ1 [y]).trans x.p)⟩ (.ptr (pre_get x.p ?_))⟩
            rw [← r1.b.len]
            simp
        · exact p2.elim
  · rw [if_neg hl] at p1
    exact p1.elim
/-- o.m(e, ..) -/
theorem de_mth {pl : Sem Bool} (M : Cls X.K (cl c)) (G : Mfn X.prog X.w X.K X.mg X.base cl c k m ps f) (hr : Room j X.A) (ho : DE cl X o mo) (ha : DAs cl X (e :: es) ms) (hk : k ≤ j := by decide)
    (he : starEach (e :: es) X.env = (false, eval e X.env) :: starEach es X.env := by rfl) (hpl : (backTo pos (starEach es X.env)).any (·.1) = false := by rfl)
    (ht : eval (.Call (.Attribute o m apos) (e :: es) [] pos) X.env = (do
      let ov ← eval o X.env
      standAt apos.atName
      let (f, first) ← holding [ov] (getMethod ov m pl)
      callWith pos f first (backTo pos (starEach (e :: es) X.env)) (backToKw pos (keywordEach [] X.env))) := by rfl) :
    DE cl X (.Call (.Attribute o m apos) (e :: es) [] pos) (eMth c ps.length m f mo ms) := fun W tk => by
  obtain ⟨a, fd, g1, g2, g3⟩ := G
  constructor
  intro pins s σ H Q I ⟨gh, F, φ, ρ, S, rp, q⟩
  refine PySem.W.methodCall_KW (pl := pl) (thn ((ho W tk).run pins s σ H _ I ((tG_bind (R := rV X.K) rp q).imp fun v H1 h => h)) fun u s1 ⟨v, H1, I1, rv, y, S1, F1, φ1, x1, r1, q1, p1⟩ => ?_) ht
  split at p1
  · rename_i i fs hobj
    obtain ⟨b, dx, vs, ev, ey, hb, hs, hH, hf⟩ := objAt_ok r1.b q1 hobj
    subst ev
    obtain rfl : u = Value.ref b := rv
    split at p1
    · rename_i hno
      refine getmeth_ok I1 hH M g1 ((RFs.look hf).2 hno) ?_
      refine PySem.W.callWith_K (first := [.ref b]) (h₀ := X.base) I1.ok.mod.kin g1.kp (thn ((ha W tk).run pos pins s1 σ H1 _ I1 ((tG_bind (R := rVs X.K) r1 p1).imp fun v H2 h => h)) fun us s2 ⟨ws, H2, I2, rw2, xs, S2, F2, φ2, x2, r2, q2, p2⟩ => ⟨I2.kIn, ?_⟩) he hpl
      refine run_fnS (us := .ref b :: us) (vs := .ref b :: ws) (E := WE W) g3 (hr.mono hk) g2 (L2N.passAt tk σ) I2 (.cons rfl rw2) (call_ok (xs := y :: xs) r2 (.cons (x2.rv q1) q2) ?_)
      rw [List.length_cons]
      exact p2
    · exact p1.elim
  · exact p1.elim
/-- o.m() -/
theorem de_mth0 {pl : Sem Bool} (M : Cls X.K (cl c)) (G : Mfn X.prog X.w X.K X.mg X.base cl c k m ps f) (hr : Room j X.A) (ho : DE cl X o mo) (hk : k ≤ j := by decide)
    (ht : eval (.Call (.Attribute o m apos) [] [] pos) X.env = (do
      let ov ← eval o X.env
      standAt apos.atName
      let (f, first) ← holding [ov] (getMethod ov m pl)
      callWith pos f first (backTo pos (starEach [] X.env)) (backToKw pos (keywordEach [] X.env))) := by rfl) :
    DE cl X (.Call (.Attribute o m apos) [] [] pos) (eMth c ps.length m f mo aNil) := fun W tk => by
  obtain ⟨a, fd, g1, g2, g3⟩ := G
  constructor
  intro pins s σ H Q I ⟨gh, F, φ, ρ, S, rp, q⟩
  refine PySem.W.methodCall_KW (pl := pl) (thn ((ho W tk).run pins s σ H _ I ((tG_bind (R := rV X.K) rp q).imp fun v H1 h => h)) fun u s1 ⟨v, H1, I1, rv, y, S1, F1, φ1, x1, r1, q1, p1⟩ => ?_) ht
  split at p1
  · rename_i i fs hobj
    obtain ⟨b, dx, vs, ev, ey, hb, hs, hH, hf⟩ := objAt_ok r1.b q1 hobj
    subst ev
    obtain rfl : u = Value.ref b := rv
    split at p1
    · rename_i hno
      refine getmeth_ok I1 hH M g1 ((RFs.look hf).2 hno) ?_
      refine PySem.W.callWith_K0 (first := [.ref b]) I1.kIn g1.kp (run_fnS (us := [.ref b]) (vs := [.ref b]) (E := WE W) g3 (hr.mono hk) g2 (L2N.passAt tk σ) I1 (.cons rfl .nil) (call_ok (xs := [y]) r1 (.cons q1 .nil) ?_))
      exact p1
    · exact p1.elim
  · exact p1.elim
/-- o.f -/
theorem de_fld {g : Str} (M : Cls X.K (cl c)) (hn : NoAttr X.K (cl c) g) (ho : DE cl X o mo) (hb : attributeBase o g X.env (eval o X.env) = eval o X.env := by rfl) : DE cl X (.Attribute o g pos) (eFld c g mo) := fun W tk =>
  pe_imp (pe_fld (ho W tk) hb) fun σ H Q ⟨gh, F, φ, ρ, S, rp, q⟩ => by
    refine (tG_bind (R := rV X.K) rp q).imp fun v H1 ⟨y, S1, F1, φ1, x1, r1, q1, p1⟩ => ?_
    split at p1
    · rename_i i fs hobj
      obtain ⟨b, dx, vs, ev, ey, hb, hs, hH, hf⟩ := objAt_ok r1.b q1 hobj
      split at p1
      · rename_i z hz
        obtain ⟨u, h1, h2⟩ := (RFs.look hf).1 z hz
        exact ⟨b, cl c, dx, vs, u, ev, hH, M, hn, h1, p1 u F1 φ1 H1 (.refl F1 φ1) r1 h2⟩
      · exact p1.elim
    · exact p1.elim
/-- o.f = e -/
theorem ds_fld {g : Str} {pos' : Pos} (M : Cls X.K (cl c)) (hn : NoAttr X.K (cl c) g) (he : DE cl X e me) (ho : DE cl X o mo) (hs : swapsWith e (some (.Attribute o g pos')) pos.line X.env = pure false := by rfl) : DS cl X (.Assign [.Attribute o g pos'] e pos) (sFldS c g mo me) := fun W tk _ =>
  ps_imp (ps_fld (ho W tk) (he W tk) hs) fun E σ H ⟨gh, F, φ, ρ, S, r, p⟩ => (tS_of (R := rV X.K) r p).imp fun v H1 ⟨y, S1, F1, φ1, x1, r1, q1, p1⟩ => (tS_of (R := rV X.K) r1 p1).imp fun u H2 ⟨z, S2, F2, φ2, x2, r2, q2, p2⟩ => by
    split at p2
    · rename_i i fs hobj
      obtain ⟨b, dx, vs, ev, ey, hb, hc, hH, hf⟩ := objAt_ok r2.b q2 hobj
      split at p2
      · rename_i hl
        refine ⟨b, cl c, dx, vs, ev, hH, M, hn, by rw [← hf.len]; exact hl, p2 F2 φ2 σ _ (.refl F2 φ2) (r2.setCell hb hc (fun z => nomatch z) ⟨dx, _, upd_same, hf.put (x2.rv q1)⟩)⟩
      · exact p2.elim
    · exact p2.elim
end
end DL

namespace DL
open PySem PySem.Spec PyProof.Rows L2 L2H
namespace SetT
def kE (e : Int × Value) : Key := match e.2 with
  | .int i _ => .inl i
  | .str x _ => .inr x
  | _ => .inl 0
def Ge (w : World) (e : Int × Value) : Prop := keyIs (kE e) e.2 = true ∧ e.1 = keyH w (kE e)
theorem ge_is {w : World} {e : Int × Value} (g : Ge w e) (k : Key) : keyIs k e.2 = true ↔ kE e = k := by
  refine ⟨fun h => ?_, fun h => h ▸ g.1⟩
  rcases keyIs_shape h with ⟨i, t, rfl, q⟩ | ⟨x, t, rfl, q⟩ <;> simp [kE, q]
/-- a set's table: what keys it holds, some order -/
def Tab (w : World) (h : Heap) (a : Addr) (ks : List Key) : Prop :=
  ∃ o es ep t, h.get? a = some o ∧ o.ExactSet ∧ o.data = .set es ep t ∧ (∀ e ∈ es.toList, Ge w e) ∧ (es.toList.map kE).Perm ks ∧ es.size < scanBound ∧ t.fits es.size = true ∧ Ris t.place.toList ∧ (w.params.followText "set-order" = true ∨ t.led = true)
theorem Tab.at {w : World} {h h' : Heap} {a : Addr} {ks : List Key} (q : Tab w h a ks) (k : ∀ o, h.get? a = some o → h'.get? a = some o) : Tab w h' a ks := by
  obtain ⟨o, es, ep, t, ho, r⟩ := q
  exact ⟨o, es, ep, t, k o ho, r⟩
theorem Tab.perm {w : World} {h : Heap} {a : Addr} {ks ls : List Key} (q : Tab w h a ks) (p : ks.Perm ls) : Tab w h a ls := by
  obtain ⟨o, es, ep, t, h1, h2, h3, h4, h5, r⟩ := q
  exact ⟨o, es, ep, t, h1, h2, h3, h4, h5.trans p, r⟩
section
variable {P : Program} {w : World} {A : Around} {E : Value → Shared → Prop} {s : Shared} {a : Addr} {ks : List Key}
theorem elems {l : List (Int × Value)} (g : ∀ e ∈ l, Ge w e) : ElemsOf (mixKind P w) l := fun e he => by
  obtain ⟨g1, g2⟩ := g e he
  refine ⟨⟨kE e, g1, g2⟩, ?_⟩
  rcases keyIs_shape g1 with ⟨i, t, _, q⟩ | ⟨x, t, _, q⟩ <;> rw [q] <;> rfl
/-- the new entries are stored, the table laid anew where it is too full -/
theorem stored {g : Bool → Sem Unit} (hg : ∀ (b : Bool) (s1 : Shared) (Q1 : Unit → Shared → Prop), Q1 () s1 → wpAny (model P w) A (g b) Q1 E s1) {o : Obj} {es en : Array (Int × Value)} {ep : Nat} {t tn : SetTable} (ho : s.heap.get? a = some o) (hx : o.ExactSet) (hd : o.data = .set es ep t)
    (gn : ∀ e ∈ en.toList, Ge w e) (pn : (en.toList.map kE).Perm ks) (bn : en.size < scanBound) (fn : tn.fits en.size = true) (rn : Ris tn.place.toList) (ln : w.params.followText "set-order" = true ∨ tn.led = true) {dm : Bool} {R : Option Bool → Shared → Prop}
    (hR : ∀ h2, Heap.SameBut a s.heap h2 → Tab w h2 a ks → R (some true) { s with heap := h2 }) :
    wpAny (model P w) A (do
        storeSet a en tn
        if (!dm && tn.tooFull) = true then do
            g (relayAll tn en (SetTable.grown en.size)).2.2
            storeSet a (relayAll tn en (SetTable.grown en.size)).1 (relayAll tn en (SetTable.grown en.size)).2.1
            pure (some true)
          else pure (some true)) R E s := by
  have first := store_at (es' := en) (t' := tn) ho hd
  have sb := Heap.SameBut.update s.heap a (Obj.putSet en tn)
  refine wpAny_bind (wpAny_storeSet_of ho hd ?_ (fits_of_scanBound bn))
  split
  · have p2 := relayAll_perm tn en (SetTable.grown en.size)
    have f2 := relayAll_fits tn en (SetTable.grown en.size)
    have r2 := relayAll_ris tn en (SetTable.grown en.size)
    have l2 := relayAll_led tn en (SetTable.grown en.size)
    generalize relayAll tn en (SetTable.grown en.size) = Y at p2 f2 r2 l2 ⊢
    obtain ⟨e2, t2, gv⟩ := Y
    dsimp only at p2 f2 r2 l2 ⊢
    have n2 : e2.size = en.size := by rw [← Array.length_toList, p2.length_eq, Array.length_toList]
    refine wpAny_bind (hg _ _ _ (wpAny_bind (wpAny_storeSet_of first rfl ?_ (fits_of_scanBound (by rw [n2]; exact bn)))))
    refine wpAny_pure (hR _ (sb.trans (Heap.SameBut.update _ a _)) ⟨_, e2, _, t2, store_at (es' := e2) (t' := t2) first rfl, hx, rfl, fun e he => gn e (p2.mem_iff.mp he), (p2.map kE).trans pn, by rw [n2]; exact bn, f2, r2, ?_⟩)
    rw [l2]
    exact ln
  · exact wpAny_pure (hR _ sb ⟨_, en, _, tn, first, hx, rfl, gn, pn, bn, fn, rn, ln⟩)
theorem add {k : Key} {v : Value} {Q : Bool → Shared → Prop} (T : Tab w s.heap a ks) (rv : RelV (kV k) v) (room : ks.length + 1 < scanBound)
    (hQ : ∀ (b : Bool) h2, Heap.SameBut a s.heap h2 → Tab w h2 a (if inL k ks = true then ks else ks ++ [k]) → Q b { s with heap := h2 }) :
    wpAny (model P w) A (setAddHashed a v ((mixKind P w).hash k)) Q E s := by
  obtain ⟨o, es, ep, t, ho, hx, hd, ge, pm, bd, ft, ri, ld⟩ := T
  have hk : (mixKind P w).is k v = true := kV_is rv
  have sc : v.scannable = true := key_scan rv
  have hel := elems (P := P) ge
  unfold setAddHashed setAddHashedIn
  refine wpAny_holding (wpAny_bind (wpAny_setState_of ho hd ft ?_))
  dsimp only
  rw [byScan_of sc bd hel]
  simp only [↓reduceIte]
  unfold setAddByScan
  refine wpAny_bind (wpAny_bind (wpAny_rule (wpAny_bind (wpAny_setScan_of hk ho hd ft hel ?_))))
  have has : inL k ks = true ↔ ∃ e ∈ es.toList, (mixKind P w).is k e.2 = true := by
    unfold inL
    rw [List.any_eq_true]
    constructor
    · rintro ⟨y, hy, e⟩
      have ey : y = k := of_decide_eq_true e
      subst ey
      obtain ⟨z, hz, q⟩ := List.mem_map.mp (pm.mem_iff.mpr hy)
      exact ⟨z, hz, (ge_is (ge z hz) y).mpr q⟩
    · rintro ⟨z, hz, q⟩
      exact ⟨k, pm.mem_iff.mp (List.mem_map.mpr ⟨z, hz, (ge_is (ge z hz) k).mp q⟩), decide_eq_true rfl⟩
  cases hf : List.findIdx? (fun e => (mixKind P w).is k e.2) es.toList with
  | some j =>
    dsimp only
    obtain ⟨hj, pj, _⟩ := List.findIdx?_eq_some_iff_getElem.mp hf
    have hin : inL k ks = true := has.mpr ⟨es.toList[j], List.getElem_mem hj, pj⟩
    refine wpAny_pure (wpAny_pure (hQ _ s.heap (Heap.SameBut.refl a s.heap) ?_))
    rw [if_pos hin]
    exact ⟨o, es, ep, t, ho, hx, hd, ge, pm, bd, ft, ri, ld⟩
  | none =>
    dsimp only
    have hno : ¬ inL k ks = true := fun z => by
      obtain ⟨e, he, q⟩ := has.mp z
      have c := List.findIdx?_eq_none_iff.mp hf e he
      rw [q] at c
      cases c
    have gw : ∀ (b : Bool) {s1 : Shared} {Q1 : Unit → Shared → Prop}, Q1 () s1 → wpAny (model P w) A (match b with | true => rule "set.scan.the-table-gave-way" | false => pure ()) Q1 E s1 := fun b s1 Q1 q => by
      cases b
      · exact wpAny_pure q
      · exact wpAny_rule q
    have p1 := layNew_perm t es ((mixKind P w).hash k) v
    have f1 := layNew_fits t es ((mixKind P w).hash k) v
    have r1 := layNew_ris t es ((mixKind P w).hash k) v ri
    have l1 := layNew_led t es ((mixKind P w).hash k) v
    generalize layNew t es ((mixKind P w).hash k) v = Y at p1 f1 r1 l1 ⊢
    obtain ⟨e1, t1, dm, gv⟩ := Y
    dsimp only at p1 f1 r1 l1 ⊢
    rw [Array.toList_push] at p1
    have kv : kE ((mixKind P w).hash k, v) = k := by
      rcases keyIs_shape (show keyIs k v = true from hk) with ⟨i, t, rfl, q⟩ | ⟨x, t, rfl, q⟩ <;> rw [q] <;> rfl
    have g1 : ∀ e ∈ e1.toList, Ge w e := fun e he => by
      rcases List.mem_append.mp (p1.mem_iff.mp he) with z | z
      · exact ge e z
      · rw [List.mem_singleton.mp z]
        exact ⟨by rw [kv]; exact hk, by rw [kv]; rfl⟩
    have pk : (e1.toList.map kE).Perm (ks ++ [k]) := by
      have z := p1.map kE
      rw [List.map_append, List.map_singleton, kv] at z
      exact z.trans (pm.append_right [k])
    have n1 : e1.size = es.size + 1 := by
      rw [← Array.length_toList, p1.length_eq, List.length_append, Array.length_toList]
      rfl
    have nk : es.size = ks.length := by
      have := pm.length_eq
      rw [List.length_map, Array.length_toList] at this
      exact this
    have b1 : e1.size < scanBound := by omega
    have ld1 : w.params.followText "set-order" = true ∨ t1.led = true := by
      rw [l1]
      exact ld
    have fin : ∀ h2, Heap.SameBut a s.heap h2 → Tab w h2 a (ks ++ [k]) → Q true { s with heap := h2 } := fun h2 sb q => hQ true h2 sb (by rw [if_neg hno]; exact q)
    refine wpAny_bind (gw _ ?_)
    split
    · refine wpAny_bind ?_
      rw [hashByValue_scannable 8 sc]
      refine wpAny_pure (stored (ks := ks ++ [k]) ?_ ho hx hd g1 pk b1 ?_ ?_ ?_ ?_)
      · intro b s1 Q1 q
        cases b
        · exact wpAny_pure q
        · exact wpAny_rule q
      · first
          | (split <;> first
              | exact f1
              | exact SetTable.fits_plain_off f1)
          | exact f1
      · first
          | (split <;> exact r1)
          | exact r1
      · first
          | (split <;> exact ld1)
          | exact ld1
      · intro h2 sb q
        dsimp only
        exact wpAny_pure (fin h2 sb q)
    · refine wpAny_bind (wpAny_pure ?_)
      simp only [↓reduceIte]
      refine stored (ks := ks ++ [k]) ?_ ho hx hd g1 pk b1 f1 r1 ld1 ?_
      · intro b s1 Q1 q
        cases b
        · exact wpAny_pure q
        · exact wpAny_rule q
      · intro h2 sb q
        dsimp only
        exact wpAny_pure (fin h2 sb q)
end
section
variable {P : Program} {w : World} {A : Around} {R : Result → Shared → Prop} {I : Addr} {fp wr : List Addr} {G : Array GenState → Array GenState → Prop} {n : Nat} {Y : Nat → Value → Prop} {St : Nat → Shared → Prop}
/-- the loop of set.update over what is walked -/
theorem go (W : WalksS P w A.in1 I fp wr G n Y St) (D : Addr) (hD : D ∉ fp) (ks : List Key) (hn : ks.length = n) (hbd : n + 1 < scanBound) (hv : ∀ i u, Y i u → ∃ k, ks[i]? = some k ∧ RelV (kV k) u) :
    ∀ (m i : Nat) (s : Shared), i + m = n → St i s → Tab w s.heap D (seenIn (ks.take i)) → (∀ s', Moved (D :: wr) G s s' → Tab w s'.heap D (seenIn ks) → R (.ok (.ret .none)) s') →
      codeAny (model P w) A (.builtin "set.update.loop" ⟨[.ref D, .ref I], []⟩) R s := by
  have up : ∀ b ∈ wr, b ∈ D :: wr := fun b hb => List.mem_cons_of_mem _ hb
  have nw : D ∉ wr := fun z => hD (W.sub _ z)
  intro m
  induction m with
  | zero =>
    intro i s him st hs hR
    have ei : i = n := him
    subst ei
    refine codeAny_builtin PyProof.Rows.F.entry_set_update_loop ?_
    rw [Around.under_plainId PyProof.Rows.F.plain_set_update_loop _]
    change wpAny _ A.in1 (pyNext (.ref I) >>= _) _ _ s
    refine wpAny_bind (W.done s _ _ st fun s2 mv => ?_)
    change wpAny _ A.in1 (ret Value.none) _ _ s2
    refine wpAny_pure (hR s2 (mv.mono up) (Tab.at (ks := seenIn ks) ?_ fun o e => mv.heap D o nw e))
    rw [← hn, List.take_length] at hs
    exact hs
  | succ m ih =>
    intro i s him st hs hR
    have hi : i < n := by omega
    refine codeAny_builtin PyProof.Rows.F.entry_set_update_loop ?_
    rw [Around.under_plainId PyProof.Rows.F.plain_set_update_loop _]
    change wpAny _ A.in1 (pyNext (.ref I) >>= _) _ _ s
    refine wpAny_bind (W.item i s _ _ hi st fun v s2 hy st2 mv => ?_)
    obtain ⟨k, hk, rk⟩ := hv i v hy
    have hs2 : Tab w s2.heap D (seenIn (ks.take i)) := hs.at fun o e => mv.heap D o nw e
    change wpAny _ A.in1 (holding [v] (setAdd D v) >>= _) _ _ s2
    refine wpAny_bind (wpAny_holding ?_)
    unfold setAdd
    refine wpAny_holding (wpAny_bind ((mixKind P w).pyHash (kV_is rk) ?_))
    refine add (s := { s2 with toks := s2.toks + 1 }) hs2 rk ?_ fun b h3 sb hs3 => ?_
    · have := seenIn_len (ks.take i)
      rw [List.length_take] at this
      omega
    have hs4 : Tab w h3 D (seenIn (ks.take (i + 1))) := by
      have e : ks.take (i + 1) = ks.take i ++ [k] := by rw [List.take_add_one, hk]; rfl
      rw [e, seenIn_snoc]
      exact hs3
    have same : ∀ b, b ≠ D → ∀ o, s2.heap.get? b = some o → h3.get? b = some o := fun b hb o e => (sb.2 b hb).trans e
    refine wpAny_pure ⟨plainId_quiet PyProof.Rows.F.plain_set_update_loop _, ih (i + 1) _ (by omega) (W.frame _ s2 _ _ st2 (Nat.le_succ _) fun b hb o e => same b (fun z => hD (z ▸ hb)) o e) hs4 fun s5 mv5 hs5 => hR s5 ?_ hs5⟩
    exact Moved.trans W.gtrans ((mv.mono up).then_heap (Nat.le_succ _) fun b o hb e => same b (fun z => hb (by rw [z]; exact List.mem_cons_self)) o e) mv5

/-- set.__init__ over a list of keys -/
theorem fill_list {A : Around} {E : Value → Shared → Prop} {s : Shared} {b D : Addr} {led : Bool} (hled : w.params.followText "set-order" = true ∨ led = true) {us : Array Value} {ks : List Key} {Q : Value → Shared → Prop} (hot : A.handled = none) (q : s.heap.IsList b us) (bD : b ≠ D) (hset : s.heap.get? D = some { cls := .type "set", dict := none, data := .set #[] 0 (.fresh 0 0 led) })
    (hv : Vals (ks.map kV) us.toList) (hlen : ks.length ≤ 4000)
    (fin : ∀ (h2 : Heap) (tk : Nat), Tab w h2 D (seenIn ks) → (∀ c o, c ≠ D → s.heap.get? c = some o → h2.get? c = some o) → Q .none { s with heap := h2, toks := tk }) :
    wpAny (model P w) A (Builtin.«set.__init__» ⟨[.ref D, .ref b], []⟩) (fun f s2 => match f with
      | .done (.ret r) => Q r s2
      | _ => False) E s := by
  obtain ⟨ob, hob, hcl, ep, hdt⟩ := id q
  obtain ⟨k1, k2, k3, k4⟩ := ob
  simp only at hcl hdt
  subst hcl hdt
  have n1 := PySem.F.sub_list_set
  have n2 := PySem.F.sub_list_frozenset
  have n3 : (Value.type "list" == Value.type "dict") = false := by decide
  unfold Builtin.«set.__init__» noKeywords Builtin.Frozenset.updateFrom
  generalize hIt : pyIter = It
  wp_walk
  subst hIt
  refine wpAny_pyIter_list q (wpAny_bind (wpAny_runValue ?_))
  have nb : b ≠ s.heap.objs.size := Nat.ne_of_lt (Heap.lt_size hob)
  have nD : D ≠ s.heap.objs.size := Nat.ne_of_lt (Heap.lt_size hset)
  have esz : ks.length = us.size := by
    have := hv.length
    rw [List.length_map, Array.length_toList] at this
    exact this
  refine go (ks := ks) ((Walks.list (show A.in1.handled = none from by simp [hot]) s.heap.objs.size b nb us).toS) D (by simp [nD, Ne.symm bD]) esz (by unfold scanBound; omega) (fun i u hu => ?_) us.size 0 _ (Nat.zero_add _) ⟨⟨_, Heap.get?_push_size _ rfl, rfl, rfl⟩, q.push _⟩ ?_ fun s2 mv hs => ?_
  · have h1 : us.toList[i]? = some u := by rw [Array.getElem?_toList]; exact hu
    obtain ⟨hi, h2⟩ := List.getElem?_eq_some_iff.mp h1
    have hi' : i < ks.length := by
      rw [Array.length_toList] at hi
      omega
    refine ⟨ks[i], List.getElem?_eq_getElem hi', ?_⟩
    obtain ⟨u', e', r'⟩ := hv.get (i := i) (by rw [List.getElem?_map, List.getElem?_eq_getElem hi']; rfl)
    rw [h1] at e'
    cases e'
    exact r'
  · exact ⟨_, #[], 0, _, Heap.get?_push_of_some _ hset, ⟨rfl, rfl, rfl⟩, rfl, (fun e he => by simp at he), by simp [seenIn, seenGo], (by decide), (by cases led <;> rfl), List.Pairwise.nil, hled⟩
  · obtain ⟨h2, g2, d2, t2, o2⟩ := s2
    have e1 : g2 = s.gens := mv.gens
    have e2 : d2 = s.drawn := mv.drawn
    have e3 : o2 = s.os := mv.os
    subst e1 e2 e3
    change wpAny _ _ _ _ _ _
    refine wpAny_pure (wpAny_pure ?_)
    exact fin h2 t2 hs fun c o hc e => mv.heap c o (by simp [hc, Nat.ne_of_lt (Heap.lt_size e)]) (Heap.get?_push_of_some _ e)

/-- set.__init__ over a tuple of keys -/
theorem fill_tuple {A : Around} {E : Value → Shared → Prop} {s : Shared} {b D : Addr} {led : Bool} (hled : w.params.followText "set-order" = true ∨ led = true) {us : Array Value} {ks : List Key} {Q : Value → Shared → Prop} (hot : A.handled = none) (q : s.heap.IsTuple b us) (bD : b ≠ D) (hset : s.heap.get? D = some { cls := .type "set", dict := none, data := .set #[] 0 (.fresh 0 0 led) })
    (hv : Vals (ks.map kV) us.toList) (hlen : ks.length ≤ 4000)
    (fin : ∀ (h2 : Heap) (tk : Nat), Tab w h2 D (seenIn ks) → (∀ c o, c ≠ D → s.heap.get? c = some o → h2.get? c = some o) → Q .none { s with heap := h2, toks := tk }) :
    wpAny (model P w) A (Builtin.«set.__init__» ⟨[.ref D, .ref b], []⟩) (fun f s2 => match f with
      | .done (.ret r) => Q r s2
      | _ => False) E s := by
  obtain ⟨ob, hob, hcl, ep, hdt⟩ := id q
  obtain ⟨k1, k2, k3, k4⟩ := ob
  simp only at hcl hdt
  subst hcl hdt
  have n1 := PySem.F.sub_tuple_set
  have n2 := PySem.F.sub_tuple_frozenset
  have n3 : (Value.type "tuple" == Value.type "dict") = false := by decide
  unfold Builtin.«set.__init__» noKeywords Builtin.Frozenset.updateFrom
  generalize hIt : pyIter = It
  wp_walk
  subst hIt
  refine wpAny_pyIter_tuple q (wpAny_bind (wpAny_runValue ?_))
  have nb : b ≠ s.heap.objs.size := Nat.ne_of_lt (Heap.lt_size hob)
  have nD : D ≠ s.heap.objs.size := Nat.ne_of_lt (Heap.lt_size hset)
  have esz : ks.length = us.size := by
    have := hv.length
    rw [List.length_map, Array.length_toList] at this
    exact this
  refine go (ks := ks) ((Walks.tuple (show A.in1.handled = none from by simp [hot]) s.heap.objs.size b nb us).toS) D (by simp [nD, Ne.symm bD]) esz (by unfold scanBound; omega) (fun i u hu => ?_) us.size 0 _ (Nat.zero_add _) ⟨⟨_, Heap.get?_push_size _ rfl, rfl, rfl⟩, q.push _⟩ ?_ fun s2 mv hs => ?_
  · have h1 : us.toList[i]? = some u := by rw [Array.getElem?_toList]; exact hu
    obtain ⟨hi, h2⟩ := List.getElem?_eq_some_iff.mp h1
    have hi' : i < ks.length := by
      rw [Array.length_toList] at hi
      omega
    refine ⟨ks[i], List.getElem?_eq_getElem hi', ?_⟩
    obtain ⟨u', e', r'⟩ := hv.get (i := i) (by rw [List.getElem?_map, List.getElem?_eq_getElem hi']; rfl)
    rw [h1] at e'
    cases e'
    exact r'
  · exact ⟨_, #[], 0, _, Heap.get?_push_of_some _ hset, ⟨rfl, rfl, rfl⟩, rfl, (fun e he => by simp at he), by simp [seenIn, seenGo], (by decide), (by cases led <;> rfl), List.Pairwise.nil, hled⟩
  · obtain ⟨h2, g2, d2, t2, o2⟩ := s2
    have e1 : g2 = s.gens := mv.gens
    have e2 : d2 = s.drawn := mv.drawn
    have e3 : o2 = s.os := mv.os
    subst e1 e2 e3
    change wpAny _ _ _ _ _ _
    refine wpAny_pure (wpAny_pure ?_)
    exact fin h2 t2 hs fun c o hc e => mv.heap c o (by simp [hc, Nat.ne_of_lt (Heap.lt_size e)]) (Heap.get?_push_of_some _ e)

/-- set(x): new, then filled -/
theorem set_new {A : Around} {E : Value → Shared → Prop} {s : Shared} {x : Value} {Q : Value → Shared → Prop}
    (hx : ∀ led : Bool, (w.params.followText "set-order" = true ∨ led = true) → wpAny (model P w) A.in1.in1 (Builtin.«set.__init__» ⟨[.ref s.heap.objs.size, x], []⟩) (fun f s2 => match f with
      | .done (.ret r) => r = .none ∧ Q (.ref s.heap.objs.size) s2
      | _ => False) E { s with heap := s.heap.push { cls := .type "set", dict := none, data := .set #[] 0 (.fresh 0 0 led) } }) :
    wpAny (model P w) A (call (.type "set") [x]) Q E s := by
  have F := PySem.F.called_set
  obtain ⟨c0, l0, mr⟩ := F.mro
  have md := F.made
  have sb := F.sub
  refine wpAny_call (codeAny_of_tree ?_)
  change wpAny _ _ (callAny (.type "set") _) _ _ _
  refine wpAny_pure ⟨Code.quiet_builtin _ (by decide +kernel), codeAny_builtin PySem.F.entry_type_call ?_⟩
  rw [Around.under_plain (weight_type_call_type "set" [x] []) rfl]
  have g1 := F.notType
  have g2 := F.canCreate
  have g3 := PySem.F.typeCall_set_1 x
  repeat (any_goals (first | assumption | wp_step))
  refine codeAny_mono (code_set_led1 x (E := E) (Q₁ := fun ob s1 => ∃ led : Bool, (w.params.followText "set-order" = true ∨ led = true) ∧ ob = .ref s.heap.objs.size ∧ s1 = { s with heap := s.heap.push { cls := .type "set", dict := none, data := .set #[] 0 (.fresh 0 0 led) } }) ⟨!w.params.followText "set-order", by cases w.params.followText "set-order" <;> simp, rfl, rfl⟩) fun r s1 hr => ?_
  cases r with
  | error e => exact hr
  | ok fl =>
    cases fl with
    | ret ob =>
      obtain ⟨led, hld, rfl, rfl⟩ := hr
      have ty : Shared.TypeIs { s with heap := s.heap.push { cls := .type "set", dict := none, data := .set #[] 0 (.fresh 0 0 led) } } (.ref s.heap.objs.size) "set" := ⟨_, Heap.get?_push_size _ rfl, rfl⟩
      have g4 := F.init.lookup
      have g5 := F.init.bind (.ref s.heap.objs.size)
      repeat (any_goals (first | assumption | wp_step))
      refine codeAny_mono (codeAny_call_builtin (R := wants (fun r s2 => r = .none ∧ Q (.ref s.heap.objs.size) s2) E) F.init.plain PySem.F.entry_set_init (check_set_init_1 ty (wpAny_mono (hx led hld) (fun f s2 h => ?_) fun e s2 h => h))) fun r2 s2 h2 => ?_
      · cases f with
        | done fl =>
          cases fl with
          | ret r => exact h
          | _ => exact h.elim
        | again _ => exact h.elim
      · cases r2 with
        | error e => exact h2
        | ok fl2 =>
          cases fl2 with
          | ret r =>
            obtain ⟨rfl, h3⟩ := h2
            repeat (any_goals (first | assumption | wp_step))
          | _ => exact h2.elim
    | _ => exact hr.elim
end
end SetT
end DL

namespace DL
open PySem PySem.Spec PyProof.Rows L2 L2H
theorem inL_map {α β : Type} [DecidableEq α] [DecidableEq β] {f : α → β} (inj : ∀ a b, f a = f b → a = b) (x : α) (l : List α) : inL (f x) (l.map f) = inL x l := by
  unfold inL
  rw [List.any_map]
  congr 1
  funext y
  exact decide_eq_decide.mpr ⟨inj y x, fun e => by rw [e]⟩
theorem seenGo_map {α β : Type} [DecidableEq α] [DecidableEq β] {f : α → β} (inj : ∀ a b, f a = f b → a = b) : ∀ (ks acc : List α), seenGo (acc.map f) (ks.map f) = (seenGo acc ks).map f
  | [], acc => rfl
  | k :: ks, acc => by
    show seenGo (if inL (f k) (acc.map f) = true then acc.map f else acc.map f ++ [f k]) (ks.map f) = _
    rw [inL_map inj]
    have ih := seenGo_map inj ks (if inL k acc = true then acc else acc ++ [k])
    by_cases h : inL k acc = true
    · rw [if_pos h] at ih ⊢
      rw [ih]
      simp [seenGo, h]
    · rw [if_neg h] at ih ⊢
      rw [List.map_append] at ih
      rw [show [f k] = [k].map f from rfl, ih]
      simp [seenGo, h]
theorem seenIn_map {α β : Type} [DecidableEq α] [DecidableEq β] {f : α → β} (inj : ∀ a b, f a = f b → a = b) (ks : List α) : seenIn (ks.map f) = (seenIn ks).map f := seenGo_map inj ks []
def keyS (s : List Nat) : Key := .inr (toStr s)
def keyI (i : Int) : Key := .inl i
theorem keyS_inj (a b : List Nat) (h : keyS a = keyS b) : a = b := toStr_inj (Sum.inr.inj h)
theorem keyI_inj (a b : Int) (h : keyI a = keyI b) : a = b := Sum.inl.inj h
section
variable {P : Program} {w : World} {A : Around} {E : Value → Shared → Prop} {s : Shared} {a : Addr}
def strV : Value → Str
  | .str x _ => x
  | _ => ⟨#[]⟩
def intV : Value → Int
  | .int i _ => i
  | _ => 0
def unS : Key → Str
  | .inr x => x
  | _ => ⟨#[]⟩
def unI : Key → Int
  | .inl x => x
  | _ => 0
theorem strs_vals : ∀ (l : List Value), (∀ v ∈ l, ∃ x t, v = Value.str x t) → StrsAre l (l.map strV)
  | [], _ => .nil
  | v :: l, h => by
    obtain ⟨x, t, rfl⟩ := h v List.mem_cons_self
    exact .cons x t (strs_vals l fun u hu => h u (List.mem_cons_of_mem _ hu))
theorem ints_vals : ∀ (l : List Value), (∀ v ∈ l, ∃ x t, v = Value.int x t) → IntsAre l (l.map intV)
  | [], _ => .nil
  | v :: l, h => by
    obtain ⟨x, t, rfl⟩ := h v List.mem_cons_self
    exact .cons x t (ints_vals l fun u hu => h u (List.mem_cons_of_mem _ hu))
set_option maxHeartbeats 4000000 in
/-- sorted(a set of texts) -/
theorem sorted_tabS {ss : List (List Nat)} {Q : Value → Shared → Prop} (T : SetT.Tab w s.heap a (ss.map keyS)) (hot : A.handled = none) (h64 : ss.length < 64)
    (h : ∀ (s2 : Shared) (p : Addr) (out : Array Value) (ep : Nat), (∀ b o, s.heap.get? b = some o → s2.heap.get? b = some o) → s2.gens = s.gens → s2.os = s.os → s.heap.objs.size ≤ p → s2.heap.get? p = some (seqObj "list" out ep) →
      StrsAre out.toList ((isort leT ss).map toStr) → Q (.ref p) s2) : wpAny (model P w) A (call (.builtin "sorted") [.ref a]) Q E s := by
  obtain ⟨o, es, ep, t, ho, hx, hd, ge, pm, bd, ft, ri, ld⟩ := T
  refine Calls.call_function_entry kind_sorted plain_sorted entry_sorted (args_sorted1 _) ?_
  unfold Builtin.«sorted»
  refine wpAny_bind (m := checkCount "sorted" 1 1 _) (wpAny_pure ?_)
  refine wpAny_bind (collect_set (A := A.in1) hot ⟨o, ho, hx.1, hd⟩ ft bd ri ld fun s1 vs k1 z1 g1 o1 p1 => ?_)
  have all : ∀ v ∈ vs, ∃ x t, v = Value.str x t ∧ ∃ e ∈ es.toList, e.2 = v ∧ SetT.kE e = .inr x := fun v hv => by
    obtain ⟨e, he, ev⟩ := List.mem_map.mp (p1.mem_iff.mp hv)
    obtain ⟨z, hz, ez⟩ := List.mem_map.mp (pm.mem_iff.mp (List.mem_map.mpr ⟨e, he, rfl⟩))
    rcases keyIs_shape (ge e he).1 with ⟨i, t, q, _⟩ | ⟨x, t, q, q2⟩
    · rw [q] at ez
      cases ez
    · exact ⟨x, t, by rw [← ev, q2], e, he, ev, q⟩
  have st : StrsAre vs (vs.map strV) := strs_vals vs fun v hv => by
    obtain ⟨x, t, e, _⟩ := all v hv
    exact ⟨x, t, e⟩
  have pz : (vs.map strV).Perm (ss.map toStr) := by
    have q1 := p1.map strV
    have q2 := pm.map unS
    rw [List.map_map] at q1
    rw [List.map_map, List.map_map] at q2
    have e1 : ∀ e ∈ es.toList, (strV ∘ fun x => x.2) e = (unS ∘ SetT.kE) e := fun e he => by
      rcases keyIs_shape (ge e he).1 with ⟨i, t, q, _⟩ | ⟨x, t, q, q2⟩
      · obtain ⟨z, hz, ez⟩ := List.mem_map.mp (pm.mem_iff.mp (List.mem_map.mpr ⟨e, he, rfl⟩))
        rw [q] at ez
        cases ez
      · show strV e.2 = unS (SetT.kE e)
        rw [q, q2]
        rfl
    rw [List.map_congr_left e1] at q1
    exact q1.trans q2
  have hl : vs.length = ss.length := by
    have := pz.length_eq
    rw [List.length_map, List.length_map] at this
    exact this
  refine wpAny_bind (wpAny_newList ?_ (by rw [hl, sizeLine_eq]; omega))
  have hL : (s1.heap.push (seqObj "list" vs.toArray 0)).get? s1.heap.objs.size = some (seqObj "list" vs.toArray 0) := Heap.get?_push_size _ rfl
  refine wpAny_bind (wpAny_holding (wpAny_call_entry slot_list_sort ⟨_, hL, rfl⟩ entry_list_sort (list_sort_treeK strKind_oneLt hL st.keysOf (fun v1 v2 rest e => keyKind_strs (by rw [← e]; exact st)) (by rw [hl]; exact h64) fun ts a1 a2 => ⟨_, rfl, ?_⟩) (args_list_sort _)))
  obtain ⟨zs, y1, y2, y3⟩ := sorted_out_str st a1 a2
  have ez := sortedS_only (y2.trans pz) y3
  subst ez
  obtain ⟨c, hc⟩ := sortedHeap_at (vs := vs) (out := (arrOf ts).map (·.2)) hL
  refine wpAny_pure ⟨_, rfl, h _ s1.heap.objs.size _ c (fun b u e => ?_) g1 o1 z1 hc y1⟩
  have hb := Heap.lt_size (k1 b u e)
  change (sortedHeap _ _ _ _).get? b = some u
  rw [sortedHeap_old (Nat.ne_of_lt hb) (by rw [size_push']; exact Nat.lt_succ_of_lt hb)]
  exact Heap.get?_push_of_some _ (k1 b u e)
end

def pSortSet : D → Option D
  | .lst ds => match strsOf ds with
    | some ss => if ss.length < 64 then some (.lst ((isort leT (seenIn ss)).map .str)) else none
    | none => none
  | .tup ds => match strsOf ds with
    | some ss => if ss.length < 64 then some (.lst ((isort leT (seenIn ss)).map .str)) else none
    | none => none
  | _ => none
def tSortS (K : PySem.W.Frag) (ta : TE) : TE := fun σ H Q => ta σ H fun x H1 => ∃ (l : Addr) (ss : List (List Nat)), x = .ref l ∧ (SqL K H1 l ((ss.map toStr).map V.str) ∨ SqT K H1 l ((ss.map toStr).map V.str)) ∧ ss.length < 64 ∧
  ∀ p, H1 p = none → Q (.ref p) (upd H1 p (.lst (((isort leT (seenIn ss)).map toStr).map V.str)))
theorem keys_vals (ss : List (List Nat)) : (ss.map keyS).map kV = (ss.map toStr).map V.str := by
  rw [List.map_map, List.map_map]
  rfl
section
variable {X : Cx} {cl : Nat → Addr} {a : Expr} {ma : EM} {p p2 q pos : Pos}
theorem pe_sortS {ta : TE} (hc : X.calm = true) (g1 : Gl X "sorted") (m1 : X.mg "sorted" = none) (g2 : Gl X "set") (m2 : X.mg "set" = none) (ha : PE X a ta)
    (na : starEach [a] X.env = (false, eval a X.env) :: starEach [] X.env := by rfl) : PE X (.Call (.Name "sorted" p) [.Call (.Name "set" p2) [a] [] q] [] pos) (tSortS X.K ta) := by
  constructor
  intro pins s σ H Q I h
  refine Call_ (ld_blt I g1 m1 bt_sorted (PyProof.Rows.callWith_builtin1 (PyProof.Rows.args_cons ?_ rfl) rfl rfl))
  refine Call_ (ld_blt I g2 m2 boot_set (PyProof.Rows.callWith_type1 (PyProof.Rows.args_cons (thn (ha.run pins s σ H _ I h) fun v s1 ⟨x, H1, I1, r1, q1⟩ => PyProof.Rows.args_nil ?_) na) na rfl))
  obtain ⟨l, ss, rfl, hq, hl, q1⟩ := q1
  cases r1
  rw [← keys_vals] at hq
  have h00 := I1.ok.hd hc
  have sl : (seenIn ss).length < 64 := Nat.lt_of_le_of_lt (seenIn_len ss) hl
  have after : ∀ (h2 : Heap) (tk : Nat), SetT.Tab X.w h2 s1.heap.objs.size (seenIn (ss.map keyS)) → (∀ c o, s1.heap.get? c = some o → h2.get? c = some o) →
      wpAny (model X.prog X.w) X.A (spliced (backTo pos (starEach [] X.env))) (fun vs s2 => wpAny (model X.prog X.w) X.A (call (.builtin "sorted") (Value.ref s1.heap.objs.size :: vs)) (EP X pins σ Q) X.xe s2) X.xe { s1 with heap := h2, toks := tk } := fun h2 tk hs hk => by
    refine PyProof.Rows.args_nil ?_
    rw [seenIn_map keyS_inj] at hs
    have I2 : Inv X pins σ H1 { s1 with heap := h2, toks := tk } := I1.kept hk
    have hs' : SetT.Tab X.w ({ s1 with heap := h2, toks := tk } : Shared).heap s1.heap.objs.size ((seenIn ss).map keyS) := hs
    generalize ({ s1 with heap := h2, toks := tk } : Shared) = sA at I2 hs' ⊢
    refine sorted_tabS hs' h00 sl fun s3 d out ep kk gg oo hd hg st => ?_
    have ln : (((isort leT (seenIn ss)).map toStr).map V.str).length ≤ sizeLine := by
      rw [List.length_map, List.length_map, (isort_perm leT _).length_eq, sizeLine_eq]
      omega
    have hn : H1 d = none := I2.hok.fresh hd
    have J : Inv X pins σ (upd H1 d (.lst (((isort leT (seenIn ss)).map toStr).map V.str))) { sA with heap := s3.heap, gens := s3.gens, drawn := s3.drawn, toks := s3.toks } :=
      I2.call (ch := []) (Un.laid kk hd hn) (I2.hok.laid kk hd ⟨ln, out.toList, ep, vals_of_strs st, by simpa using hg⟩) (by rw [gg]; exact I2.bare) (fun _ z => nomatch z)
    have e : s3 = { sA with heap := s3.heap, gens := s3.gens, drawn := s3.drawn, toks := s3.toks } := by
      cases s3
      cases oo
      rfl
    rw [e]
    exact ⟨.ref d, _, J, rfl, q1 d hn⟩
  have h0 : X.A.in1.in1.handled = none := by simp [h00]
  have hl4 : (ss.map keyS).length ≤ 4000 := by
    rw [List.length_map]
    omega
  refine SetT.set_new fun led hled => ?_
  have hD : (s1.heap.push { cls := .type "set", dict := none, data := .set #[] 0 (.fresh 0 0 led) }).get? s1.heap.objs.size = some { cls := .type "set", dict := none, data := .set #[] 0 (.fresh 0 0 led) } := Heap.get?_push_size _ rfl
  rcases hq with hq | hq
  · obtain ⟨its, r, pl, hz⟩ := I1.list hq
    have hlt : l < s1.heap.objs.size := by
      obtain ⟨o, ho, _⟩ := pl.isList
      exact Heap.lt_size ho
    refine SetT.fill_list hled h0 (pl.isList.push _) (Nat.ne_of_lt hlt) hD (by simpa using r) hl4 (Q := fun r s2 => r = .none ∧ wpAny (model X.prog X.w) X.A _ _ X.xe s2) fun h2 tk hs hk => ⟨rfl, after h2 tk hs fun c o e => hk c o (Nat.ne_of_lt (Heap.lt_size e)) (Heap.get?_push_of_some _ e)⟩
  · obtain ⟨its, r, pl, hz⟩ := I1.tuple hq
    have hlt : l < s1.heap.objs.size := by
      obtain ⟨o, ho, _⟩ := pl
      exact Heap.lt_size ho
    refine SetT.fill_tuple hled h0 (pl.push _) (Nat.ne_of_lt hlt) hD (by simpa using r) hl4 (Q := fun r s2 => r = .none ∧ wpAny (model X.prog X.w) X.A _ _ X.xe s2) fun h2 tk hs hk => ⟨rfl, after h2 tk hs fun c o e => hk c o (Nat.ne_of_lt (Heap.lt_size e)) (Heap.get?_push_of_some _ e)⟩
theorem seenGo_mem {α : Type} [DecidableEq α] : ∀ (ks acc : List α) (x : α), x ∈ seenGo acc ks → x ∈ acc ∨ x ∈ ks
  | [], acc, x, h => .inl h
  | k :: ks, acc, x, h => by
    have h2 : x ∈ seenGo (if inL k acc = true then acc else acc ++ [k]) ks := h
    rcases seenGo_mem ks _ x h2 with z | z
    · by_cases e : inL k acc = true
      · rw [if_pos e] at z
        exact .inl z
      · rw [if_neg e] at z
        rcases List.mem_append.mp z with z | z
        · exact .inl z
        · rw [List.mem_singleton.mp z]
          exact .inr List.mem_cons_self
    · exact .inr (List.mem_cons_of_mem _ z)
theorem de_sortSet (hc : X.calm = true) (m1 : X.mg "sorted" = none) (m2 : X.mg "set" = none) (ha : DE cl X a ma) (g1 : Gl X "sorted" := by rfl) (g2 : Gl X "set" := by rfl)
    (na : starEach [a] X.env = (false, eval a X.env) :: starEach [] X.env := by rfl) : DE cl X (.Call (.Name "sorted" p) [.Call (.Name "set" p2) [a] [] q] [] pos) (eOp1 pSortSet ma) := fun W tk =>
  pe_imp (pe_sortS hc g1 m1 g2 m2 (ha W tk) na) fun σ H Q ⟨gh, F, φ, ρ, S, rp, p⟩ => by
    refine (tG_bind (R := rV X.K) rp p).imp fun v H1 ⟨x, S1, F1, φ1, x1, r1, q1, p1⟩ => ?_
    simp only [op1] at p1
    split at p1
    · rename_i d hd
      split at p1
      · rename_i c hc
        have rt := deref_ok r1.b q1 hd
        have fin : ∀ {ss : List (List Nat)}, (∀ b ∈ ss, strGood b) → c = .lst ((isort leT (seenIn ss)).map .str) → ∀ d, H1 d = none → Q (.ref d) (upd H1 d (.lst (((isort leT (seenIn ss)).map toStr).map V.str))) := fun {ss} gd ec d hd => by
          subst ec
          have g := Grow.new r1.b.le (.lst (((isort leT (seenIn ss)).map toStr).map V.str)) hd
          refine p1 _ _ φ1 _ (g.ext φ1) (r1.grow g) (.dat (.lst upd_same (rvs_of_strs fun b hb => ?_)))
          rcases seenGo_mem ss [] b ((isort_perm leT _).mem_iff.mp hb) with z | z
          · cases z
          · exact gd b z
        cases rt with
        | @lst a _ vs ha rs =>
          simp only [pSortSet] at hc
          split at hc
          · rename_i ss hk
            split at hc
            · rename_i hl
              cases hc
              obtain ⟨e, gd⟩ := rvs_strs rs hk
              subst e
              exact ⟨a, ss, rfl, .inl (.of ha), hl, fin gd rfl⟩
            · cases hc
          · cases hc
        | @tup a _ vs ha rs =>
          simp only [pSortSet] at hc
          split at hc
          · rename_i ss hk
            split at hc
            · rename_i hl
              cases hc
              obtain ⟨e, gd⟩ := rvs_strs rs hk
              subst e
              exact ⟨a, ss, rfl, .inr ((ha.same r1.b.le).sq), hl, fin gd rfl⟩
            · cases hc
          · cases hc
        | _ => cases hc
      · exact p1.elim
    · exact p1.elim
end
end DL

namespace DL
open PySem PySem.Spec PyProof.Rows L2 L2H
def pStr : D → Option D
  | .int i => if 0 ≤ i ∧ i.toNat ≤ 1000000 then some (.str (TL.numL i.toNat)) else none
  | _ => none
def pInt : D → Option D
  | .int i => some (.int i)
  | .bl b => some (.int (if b then 1 else 0))
  | .str s => if s.length ≤ 640 then (PySem.intText? (toStr s)).map .int else none
  | _ => none
def pSplit : D → List D → Option D
  | .str a, [.str b] => if b ≠ [] ∧ b.all (· < 256) = true ∧ a.length ≤ 1000000 ∧ (TL.spl b 0 [] a).all (fun p => p.all (· < 1114112)) = true then some (.lst ((TL.spl b 0 [] a).map .str)) else none
  | _, _ => none
theorem numL_good (n : Nat) : strGood (TL.numL n) := fun c hc => by
  have := TL.numL_digits n c hc
  omega
theorem to_num (n : Nat) : toStr (TL.numL n) = Str.ofString (toString ((n : Nat) : Int)) := by
  have e := TL.tl_num n
  rw [← e]
  exact toStr_of _
section
variable {X : Cx}
theorem gStr : GivesN X.K (fun xs H Q => ∃ i : Int, xs = [.int i] ∧ i.natAbs.log2 < 1920 ∧ Q (.str (toString i)) H) (pOne pStr) := gives_one fun F H d c x Q le r h q => by
  cases r with
  | int i =>
    simp only [pStr] at h
    split at h
    · rename_i hi
      cases h
      obtain ⟨n, rfl⟩ : ∃ n : Nat, i = (n : Int) := ⟨i.toNat, by omega⟩
      refine ⟨_, rfl, ?_, ?_⟩
      · have h1 : (n : Int).natAbs = n := by simp
        rw [h1]
        by_cases h0 : n = 0
        · subst h0
          decide
        · have : n.log2 < 40 := (Nat.log2_lt h0).mpr (by omega)
          omega
      · have e := to_num n
        have q2 := q F H _ (.refl le) (.str (numL_good n))
        rw [Int.toNat_natCast, e] at q2
        exact q2
    · cases h
  | _ => cases h
theorem gInt : GivesN X.K (fun xs H Q => ((∃ i, xs = [.int i] ∧ Q (.int i) H) ∨ ∃ k, xs = [.bl k] ∧ Q (.int (if k then 1 else 0)) H) ∨ ∃ a n, xs = [.str a] ∧ PySem.intText? a = some n ∧ a.length ≤ 640 ∧ Q (.int n) H) (pOne pInt) := gives_one fun F H d c x Q le r h q => by
  cases r with
  | int i =>
    cases h
    exact .inl (.inl ⟨i, rfl, q F H _ (.refl le) (.int _)⟩)
  | bl b =>
    cases h
    exact .inl (.inr ⟨b, rfl, q F H _ (.refl le) (.int _)⟩)
  | str hs =>
    simp only [pInt] at h
    split at h
    · rename_i s hl
      cases e : PySem.intText? (toStr s) with
      | none =>
        rw [e] at h
        cases h
      | some n =>
        rw [e] at h
        cases h
        exact .inr ⟨_, n, rfl, e, by rw [toStr_len]; exact hl, q F H _ (.refl le) (.int _)⟩
    · cases h
  | _ => cases h
theorem split_to {a b : List Nat} (hb : b ≠ []) (h : b.all (· < 256) = true) : Txt.split (toStr a) (toStr b) = (TL.spl b 0 [] a).map toStr := by
  have e := TL.split_spl (toStr a) (toStr b) (by rw [tl_to]; exact hb) (TL.kind_ok (by
    rw [Array.all_eq_true]
    intro i hi
    have hi' : i < b.length := by simpa [toStr] using hi
    have := List.all_eq_true.mp h b[i] (List.getElem_mem hi')
    exact decide_eq_true (by simpa [toStr] using this)))
  rw [tl_to, tl_to] at e
  have : (Txt.split (toStr a) (toStr b)).map (toStr ∘ TL.tl) = (TL.spl b 0 [] a).map toStr := by
    rw [← List.map_map, e]
  have e2 : (toStr ∘ TL.tl) = id := funext toStr_of
  rw [e2, List.map_id] at this
  exact this
theorem gSplit : GivesM X.K "str" (fun x xs H Q => ∃ a b, x = .str a ∧ xs = [.str b] ∧ (b.length == 0) = false ∧ a.length + 2 ≤ sizeLine ∧ rNewStrs (Txt.split a b) H Q) pSplit := by
  intro F H d c ds x xs Q le rx rs h q
  unfold pSplit at h
  split at h
  · rename_i a b
    split at h
    · rename_i hc
      obtain ⟨h1, h2, h3, h4⟩ := hc
      cases h
      obtain ⟨y, rfl, r1⟩ := rs.one
      cases rx
      cases r1
      refine ⟨_, _, rfl, rfl, ?_, ?_, fun p hp => ?_⟩
      · rw [toStr_len]
        cases b with
        | nil => exact absurd rfl h1
        | cons z r => rfl
      · rw [toStr_len, sizeLine_eq]
        omega
      · rw [split_to h1 h2]
        have g := Grow.new le (.lst (((TL.spl b 0 [] a).map toStr).map V.str)) hp
        exact q _ _ _ g (.lst upd_same (rvs_of_strs fun z hz c hc => by simpa using List.all_eq_true.mp (List.all_eq_true.mp h4 z hz) c hc))
    · cases h
  · cases h
end
end DL

namespace DL
open PySem PySem.Spec PyProof.Rows L2 L2H

def putD (ks : List (D × D)) (k d : D) : List (D × D) := if (ks.any fun p => decide (keyOf p.1 = keyOf k)) = true then ks.map (fun p => if keyOf p.1 = keyOf k then (p.1, d) else p) else ks ++ [(k, d)]
section
variable {K : PySem.W.Frag} {F : Hp}
theorem Rks.any {q : Key} : ∀ {ks : List (D × D)} {kvs : List (Key × V)}, Rks K F ks kvs → (ks.any fun p => decide (keyOf p.1 = some q)) = kvs.any fun kv => decide (kv.1 = q)
  | _, _, .nil => rfl
  | _, _, .cons (q := q') e _ _ t => by
    simp only [List.any_cons, Rks.any t, e, Option.some.injEq]
theorem Rks.mapPut {q : Key} {d : D} {v : V} (rd : Rv K F d v) : ∀ {ks : List (D × D)} {kvs : List (Key × V)}, Rks K F ks kvs → Rks K F (ks.map fun p => if keyOf p.1 = some q then (p.1, d) else p) (kvs.map fun kv => if kv.1 = q then (kv.1, v) else kv)
  | _, _, .nil => .nil
  | _, _, .cons (k := k) (q := q') e rk r t => by
    rw [List.map_cons, List.map_cons]
    by_cases h : q' = q
    · rw [if_pos (show keyOf k = some q by rw [e, h]), if_pos (show q' = q from h)]
      exact .cons e rk rd (Rks.mapPut rd t)
    · rw [if_neg (show ¬ keyOf k = some q by rw [e]; exact fun z => h (Option.some.inj z)), if_neg (show ¬ q' = q from h)]
      exact .cons e rk r (Rks.mapPut rd t)
theorem Rks.append : ∀ {ks ls : List (D × D)} {kvs lvs : List (Key × V)}, Rks K F ks kvs → Rks K F ls lvs → Rks K F (ks ++ ls) (kvs ++ lvs)
  | _, _, _, _, .nil, s => s
  | _, _, _, _, .cons e k r t, s => .cons e k r (Rks.append t s)
theorem Rks.len : ∀ {ks : List (D × D)} {kvs : List (Key × V)}, Rks K F ks kvs → ks.length = kvs.length
  | _, _, .nil => rfl
  | _, _, .cons _ _ _ t => congrArg (· + 1) (Rks.len t)
theorem Rks.put {k d : D} {q : Key} {v : V} {ks : List (D × D)} {kvs : List (Key × V)} (e : keyOf k = some q) (rk : Rv K F k (kV q)) (rd : Rv K F d v) (r : Rks K F ks kvs) : Rks K F (putD ks k d) (putK kvs q v) := by
  unfold putD putK
  rw [e, r.any]
  split
  · exact r.mapPut rd
  · exact r.append (.cons e rk rd .nil)
theorem Rks.drop {q : Key} : ∀ {ks : List (D × D)} {kvs : List (Key × V)}, Rks K F ks kvs → Rks K F (ks.filter fun p => decide (keyOf p.1 ≠ some q)) (dropK kvs q)
  | _, _, .nil => .nil
  | _, _, .cons (k := k) (q := q') e rk r t => by
    unfold dropK
    rw [List.filter_cons, List.filter_cons]
    by_cases h : q' = q
    · rw [if_neg (by simp [e, h]), if_neg (by simp [h])]
      exact Rks.drop t
    · rw [if_pos (by simp [e, h]), if_pos (by simp [h])]
      exact .cons e rk r (Rks.drop t)
end
def putAt (x k y : Val) (S : Store) : Option Store := match x, k, y with
  | .ptr i, .dat kd, .dat d => (match S[i]? with
    | some (.lst xs) => (match kd with
      | .int j => (match ixN xs.length j with
        | some n => some (S.set i (.lst (xs.set n d)))
        | none => none)
      | _ => none)
    | some (.dct ks) => if (keyOf kd).isSome = true ∧ ks.length < 1000000 then some (S.set i (.dct (putD ks kd d))) else none
    | _ => none)
  | _, _, _ => none
def sPut (o i e : EM) : SM := fun ρ S => sOf (e ρ S) ρ fun y S1 => sOf (o ρ S1) ρ fun x S2 => sOf (i ρ S2) ρ fun k S3 => match putAt x k y S3 with
  | some S4 => .nx ρ S4
  | none => .bad
section
variable {X : Cx} {cl : Nat → Addr} {e o i : Expr} {me mo mi : EM} {pos pos' : Pos}
theorem pset_or {t t' : TSet} (h : PSet X t) (h' : PSet X t') : PSet X (fun o i v H Q => t o i v H Q ∨ t' o i v H Q) := fun pins s σ H o i v ov iv u Q I r1 r2 r3 q => q.elim (h pins s σ H o i v ov iv u Q I r1 r2 r3) (h' pins s σ H o i v ov iv u Q I r1 r2 r3)
theorem putAt_ok {K : PySem.W.Frag} {cs : CS} {F H : Hp} {φ : List Addr} {ρ : Ev} {S T : Store} {σ : St} {x k y : Val} {a b c : V} {Q : Hp → Prop} (r : Rep K cs F φ ρ S σ H) (rx : RV K F φ x a) (rk : RV K F φ k b) (ry : RV K F φ y c) (h : putAt x k y S = some T)
    (q : ∀ H', Rep K cs F φ ρ T σ H' → Q H') : rSetL a b c H Q ∨ rSetD a b c H Q := by
  unfold putAt at h
  split at h
  · rename_i i kd d
    cases rx with
    | @ptr _ p hp =>
      cases rk with
      | dat rk =>
        cases ry with
        | dat ry =>
          split at h
          · rename_i xs hc
            obtain ⟨vs, e1, rs⟩ := r.b.cell i _ p hc hp
            split at h
            · rename_i j
              split at h
              · rename_i n hn
                cases h
                cases rk
                refine .inl ⟨p, vs, j, n, rfl, rfl, e1, by rw [← rs.len]; exact hn, q _ (r.setCell hp hc (fun z => nomatch z) ⟨_, upd_same, rs.set ry n⟩)⟩
              · cases h
            · cases h
          · rename_i ks hc
            obtain ⟨kvs, e1, rs⟩ := r.b.cell i _ p hc hp
            split at h
            · rename_i hk
              cases h
              obtain ⟨g, hg⟩ := Option.isSome_iff_exists.mp hk.1
              have eb := rv_key rk hg
              subst eb
              refine .inr ⟨p, _, rfl, DPut.k e1 (by rw [← rs.len]; exact Nat.lt_of_lt_of_le hk.2 (line_of (Nat.le_refl _))), q _ (r.setCell hp hc (fun z => nomatch z) ⟨_, upd_same, rs.put hg rk ry⟩)⟩
            · cases h
          · cases h
  · cases h
theorem ds_put (hu : X.A.units + 1 < cLine) (he : DE cl X e me) (ho : DE cl X o mo) (hi : DE cl X i mi) (hs : swapsWithSole [.Subscript o i pos'] e pos.line X.env = pure false := by rfl) (hw : swappedStores [.Subscript o i pos'] e X.env = pure none := by rfl)
    (h1 : (assignEach [.Subscript o i pos'] X.env).map (·.2) = [assign (.Subscript o i pos') X.env] := by rfl)
    (ha : ∀ v, assign (.Subscript o i pos') X.env v = (do
      let ov ← holding [v] (eval o X.env)
      let iv ← holding [v, ov] (eval i X.env)
      standAt pos'
      holding [v, ov, iv] (setItem ov iv v)
      release [v, ov, iv] []) := by intro _; rfl) : DS cl X (.Assign [.Subscript o i pos'] e pos) (sPut mo mi me) := fun W tk _ =>
  ps_imp (ps_asg (he W tk) (pg_sub (ho W tk) (hi W tk) (pset_or set_list (set_dict hu)) ha) hs hw h1) fun E σ H ⟨gh, F, φ, ρ, S, r, p⟩ => (tS_of (R := rV X.K) r p).imp fun v H1 ⟨y, S1, F1, φ1, x1, r1, q1, p1⟩ =>
    (tS_of (R := rV X.K) r1 p1).imp fun a H2 ⟨x, S2, F2, φ2, x2, r2, q2, p2⟩ => (tS_of (R := rV X.K) r2 p2).imp fun b H3 ⟨k, S3, F3, φ3, x3, r3, q3, p3⟩ => by
      split at p3
      · rename_i S4 h4
        exact putAt_ok r3 (x3.rv q2) q3 ((x2.trans x3).rv q1) h4 fun H' r' => p3 F3 φ3 σ H' (.refl F3 φ3) r'
      · exact p3.elim

def pGet1 (d y : D) : Option D := (pGet d y).map fun o => o.getD .non
def eGet (mo me : EM) : EM := fun ρ S => (mo ρ S).bind fun x S1 => match deref S1 x with
  | some (.dct _) => (me ρ S1).bind fun y S2 => op2 pGet1 x y S2
  | _ => .bad
theorem isD_rt {K : PySem.W.Frag} {F H : Hp} {ks : List (D × D)} {v : V} (r : RT K F H (.dct ks) v) : ∃ a, v = .ref a ∧ IsD H a := by
  cases r with
  | dct h _ => exact ⟨_, rfl, .inl ⟨_, h⟩⟩
theorem gGet : Gives2 X.K (fun x y H Q => ∃ a o, x = .ref a ∧ DGet H a y o ∧ Q (o.getD .non) H) pGet1 := by
  intro F H d e c x y Q le rx ry h q
  unfold pGet1 at h
  cases hp : pGet d e with
  | none =>
    rw [hp] at h
    cases h
  | some o =>
    rw [hp] at h
    cases h
    obtain ⟨a, u, ex, g, g1, g2⟩ := dget_ok le rx ry hp
    refine ⟨a, u, ex, g, q F H _ (.refl le) ?_⟩
    cases o with
    | none =>
      rw [g2 rfl]
      exact .non
    | some z =>
      obtain ⟨w, e1, e2⟩ := g1 z rfl
      rw [e1]
      exact e2
theorem de_get {apos cpos : Pos} (hu : X.A.units + 1 < cLine) (ho : DE cl X o mo) (he : DE cl X e me) (base : attributeBase o "get" X.env (eval o X.env) = eval o X.env := by rfl)
    (few : ((backTo cpos (starEach [e] X.env)).all (fun x => !x.1) && (backToKw cpos (keywordEach [] X.env)).all (fun x => x.1.isSome)
      && decide (([e] : List Expr).length + ([] : List Keyword).length + (if ([] : List Keyword).isEmpty then 0 else 1) < 30)) = true := by rfl) (line : (apos.endLine == cpos.line) = true := by rfl)
    (trees : backTo cpos (starEach [e] X.env) = [(false, eval e X.env)] := by rfl) : DE cl X (.Call (.Attribute o "get" apos) [e] [] cpos) (eGet mo me) := fun W tk =>
  pe_imp (pe_dget1 hu (ho W tk) (he W tk) ⟨base, few, line, trees⟩) fun σ H Q ⟨gh, F, φ, ρ, S, rp, p⟩ => by
    refine (tG_bind (R := rV X.K) rp p).imp fun v H1 ⟨x, S1, F1, φ1, x1, r1, q1, p1⟩ => ?_
    split at p1
    · rename_i ks hd
      obtain ⟨a, ea, ia⟩ := isD_rt (deref_ok r1.b q1 hd)
      refine ⟨a, ea, ia, (tG_bind (R := rV X.K) r1 p1).imp fun u H2 ⟨y, S2, F2, φ2, x2, r2, q2, p2⟩ => ?_⟩
      obtain ⟨a', o', e1, e2, e3⟩ := op2_ok gGet r2 (x2.rv q1) q2 p2
      rw [ea] at e1
      cases e1
      exact ⟨o', e2, e3⟩
    · exact p1.elim
def eDPop (mo me : EM) : EM := fun ρ S => (mo ρ S).bind fun x S1 => match x with
  | .ptr i => (match S1[i]? with
    | some (.dct _) => (me ρ S1).bind fun y S2 => (match S2[i]?, y with
      | some (.dct ks), .dat kd => (match keyOf kd with
        | some q => (match lookD ks q with
          | some d => .ok (.dat d) (S2.set i (.dct (ks.filter fun p => decide (keyOf p.1 ≠ some q))))
          | none => .bad)
        | none => .bad)
      | _, _ => .bad)
    | _ => .bad)
  | _ => .bad
theorem de_dpop {apos cpos : Pos} (ho : DE cl X o mo) (he : DE cl X e me) (base : attributeBase o "pop" X.env (eval o X.env) = eval o X.env := by rfl)
    (few : ((backTo cpos (starEach [e] X.env)).all (fun x => !x.1) && (backToKw cpos (keywordEach [] X.env)).all (fun x => x.1.isSome)
      && decide (([e] : List Expr).length + ([] : List Keyword).length + (if ([] : List Keyword).isEmpty then 0 else 1) < 30)) = true := by rfl) (line : (apos.endLine == cpos.line) = true := by rfl)
    (trees : backTo cpos (starEach [e] X.env) = [(false, eval e X.env)] := by rfl) : DE cl X (.Call (.Attribute o "pop" apos) [e] [] cpos) (eDPop mo me) := fun W tk =>
  pe_imp (pe_dpop1 (ho W tk) (he W tk) ⟨base, few, line, trees⟩) fun σ H Q ⟨gh, F, φ, ρ, S, rp, p⟩ => by
    refine (tG_bind (R := rV X.K) rp p).imp fun v H1 ⟨x, S1, F1, φ1, x1, r1, q1, p1⟩ => ?_
    cases q1 with
    | dat _ => exact p1.elim
    | @ptr i a ha =>
      simp only at p1
      split at p1
      · rename_i ks0 hc0
        obtain ⟨kvs0, e0, _⟩ := r1.b.cell i _ a hc0 ha
        refine ⟨a, rfl, .inl ⟨kvs0, .inl e0⟩, (tG_bind (R := rV X.K) r1 p1).imp fun u H2 ⟨y, S2, F2, φ2, x2, r2, q2, p2⟩ => ?_⟩
        split at p2
        · rename_i ks kd hc
          cases q2 with
          | dat q2 =>
            split at p2
            · rename_i q hq
              split at p2
              · rename_i d hd
                have hp := pre_get x2.p ha
                obtain ⟨kvs, e1, rs⟩ := r2.b.cell i _ a hc hp
                obtain ⟨w, l1, l2⟩ := (rks_look q rs).1 d hd
                exact ⟨kvs, q, w, e1, rv_key q2 hq, l1, p2 w F2 φ2 _ (.refl F2 φ2) (r2.setCell hp hc (fun z => nomatch z) ⟨_, upd_same, rs.drop⟩) (.dat l2)⟩
              · exact p2.elim
            · exact p2.elim
        · exact p2.elim
      · exact p1.elim

def eDisp1 (mk mv : EM) : EM := fun ρ S => (mk ρ (S ++ [.dct []])).bind fun k S1 => (mv ρ S1).bind fun v S2 => match S2[S.length]? with
  | some (.dct []) => (match k, v with
    | .dat kd, .dat d => if (keyOf kd).isSome = true then .ok (.ptr S.length) (S2.set S.length (.dct [(kd, d)])) else .bad
    | _, _ => .bad)
  | _ => .bad
theorem de_disp1 (hk : DE cl X o mo) (hv : DE cl X e me) : DE cl X (.Dict [some o] [e] pos) (eDisp1 mo me) := fun W tk =>
  pe_imp (pe_disp (pps_cons (hk W tk) (hv W tk) pps_nil) rfl rfl (by simp) (by simp)) fun σ H Q ⟨gh, F, φ, ρ, S, rp, p⟩ q hq => by
    have r0 : Rep X.K ⟨cl, gh⟩ F (φ ++ [q]) ρ (S ++ [.dct []]) σ (upd H q (.dK [])) := ⟨rp.b.push (c := .dct []) hq ⟨[], upd_same, .nil⟩, rp.e.mono (.refl F) ⟨[q], rfl⟩⟩
    have x0 : Ext F φ F (φ ++ [q]) := ⟨Same.refl F, ⟨[q], rfl⟩⟩
    refine (tG_bind (R := rV X.K) r0 (p.ext x0)).imp fun v H1 ⟨x, S1, F1, φ1, x1, r1, q1, p1⟩ => ?_
    refine (tG_bind (R := rV X.K) r1 p1).imp fun u H2 ⟨y, S2, F2, φ2, x2, r2, q2, p2⟩ => ?_
    split at p2
    · rename_i hc
      split at p2
      · rename_i kd d
        split at p2
        · rename_i hs
          obtain ⟨g, hg⟩ := Option.isSome_iff_exists.mp hs
          have hp : φ2[S.length]? = some q := pre_get (x1.trans x2).p (by rw [← rp.b.len]; simp)
          obtain ⟨kvs, e1, rs⟩ := r2.b.cell _ _ q hc hp
          cases rs
          have k2 := x2.rv q1
          cases k2 with
          | dat k2 =>
            cases q2 with
            | dat q2 =>
              have ek := rv_key k2 hg
              subst ek
              refine ⟨e1, [(g, u)], rfl, by simp, ?_⟩
              have em : mergeK [] [(g, u)] = [(g, u)] := rfl
              rw [em]
              exact p2 (.ref q) F2 φ2 _ (.refl F2 φ2) (r2.setCell hp hc (fun z => nomatch z) ⟨_, upd_same, .cons hg k2 q2 .nil⟩) (.ptr hp)
        · exact p2.elim
      · exact p2.elim
    · exact p2.elim

def pRev : D → Option D
  | .lst ds => some (.lst ds.reverse)
  | _ => none
theorem de_revL {k : Nat} {p1 p2 p3 : Pos} (he : DE cl X e me) : DE cl X (.Subscript e (.Slice none none (some (.UnaryOp .USub (.Constant (.int 1) k p1) p2)) p3) pos) (eOp1 pRev me) := fun W tk =>
  pe_imp (pe_revL (he W tk)) fun σ H Q ⟨gh, F, φ, ρ, S, rp, p⟩ => by
    refine (tG_bind (R := rV X.K) rp p).imp fun v H1 ⟨x, S1, F1, φ1, x1, r1, q1, p1⟩ => ?_
    refine op1_ok (X := X) (g := pRev) (r := fun v H Q => ∃ a xs, v = .ref a ∧ SqL X.K H a xs ∧ ∀ p, H p = none → Q (.ref p) (upd H p (.lst xs.reverse))) ?_ r1 q1 p1
    intro F H d c x Q le rx h q
    cases rx with
    | @lst a ds vs hs rs =>
      cases h
      refine ⟨a, vs, rfl, .of hs, fun p hp => ?_⟩
      have g := Grow.new le (.lst vs.reverse) hp
      exact q _ _ _ g (.lst upd_same (rs.reverse.mono (.of g.s)))
    | _ => cases h

def pairOf : D → Option (D × D)
  | .tup [k, d] => if (keyOf k).isSome = true then some (k, d) else none
  | .ktp [k, d] => if (keyOf k).isSome = true then some (k, d) else none
  | _ => none
def pairsOf : List D → Option (List (D × D))
  | [] => some []
  | d :: ds => match pairOf d, pairsOf ds with
    | some p, some ps => some (p :: ps)
    | _, _ => none
def mergeD (ks more : List (D × D)) : List (D × D) := more.foldl (fun acc p => putD acc p.1 p.2) ks
def cDict (m : EM) : CM := fun ρ S => (m ρ S).bind fun x S1 => match deref S1 x with
  | some (.lst ds) => (match pairsOf ds with
    | some ps => .ok (.dct (mergeD [] ps)) S1
    | none => .bad)
  | some (.tup ds) => (match pairsOf ds with
    | some ps => .ok (.dct (mergeD [] ps)) S1
    | none => .bad)
  | some (.dct ks) => .ok (.dct ks) S1
  | _ => .bad
theorem Rks.merge {K : PySem.W.Frag} {F : Hp} : ∀ {more : List (D × D)} {mvs : List (Key × V)} {ks : List (D × D)} {kvs : List (Key × V)}, Rks K F more mvs → Rks K F ks kvs → Rks K F (mergeD ks more) (mergeK kvs mvs)
  | _, _, _, _, .nil, r => r
  | _, _, _, _, .cons e rk rd t, r => by
    have h := Rks.merge t (r.put e rk rd)
    exact h
theorem pairOf_ok {K : PySem.W.Frag} {F : Hp} {d : D} {p : D × D} {v : V} (r : Rv K F d v) (h : pairOf d = some p) : ∃ (a : Addr) (q : Key) (u : V), v = .ref a ∧ SqT K F a [kV q, u] ∧ keyOf p.1 = some q ∧ Rv K F p.1 (kV q) ∧ Rv K F p.2 u := by
  unfold pairOf at h
  split at h
  · rename_i k d
    split at h
    · rename_i hk
      cases h
      obtain ⟨q, hq⟩ := Option.isSome_iff_exists.mp hk
      cases r with
      | @tup a _ vs ha rs =>
        cases rs with
        | cons r1 rs =>
          cases rs with
          | cons r2 rs =>
            cases rs
            have e := rv_key r1 hq
            subst e
            exact ⟨a, q, _, rfl, ha.sq, hq, r1, r2⟩
    · cases h
  · rename_i k d
    split at h
    · rename_i hk
      cases h
      obtain ⟨q, hq⟩ := Option.isSome_iff_exists.mp hk
      cases r with
      | @ktp a _ vs ha rs =>
        cases rs with
        | cons r1 rs =>
          cases rs with
          | cons r2 rs =>
            cases rs
            have e := rv_key r1 hq
            subst e
            exact ⟨a, q, _, rfl, .of ha, hq, r1, r2⟩
    · cases h
  · cases h
theorem pairsOf_ok {K : PySem.W.Frag} {F : Hp} : ∀ {ds : List D} {ps : List (D × D)} {vs : List V}, Rvs K F ds vs → pairsOf ds = some ps → ∃ (as : List Addr) (kvs : List (Key × V)), vs = as.map V.ref ∧ Paired (fun p kv => SqT K F p [kV kv.1, kv.2]) as kvs ∧ Rks K F ps kvs
  | [], _, _, .nil, h => by
    cases h
    exact ⟨[], [], rfl, .nil, .nil⟩
  | d :: ds, _, _, .cons r t, h => by
    unfold pairsOf at h
    split at h
    · rename_i p ps h1 h2
      cases h
      obtain ⟨as, kvs, e1, e2, e3⟩ := pairsOf_ok t h2
      obtain ⟨a, q, u, f1, f2, f3, f4, f5⟩ := pairOf_ok r h1
      subst e1 f1
      exact ⟨a :: as, (q, u) :: kvs, rfl, .cons f2 e2, .cons f3 f4 f5 e3⟩
    · cases h
theorem Paired.imp {α β : Type} {R R' : α → β → Prop} (h : ∀ a b, R a b → R' a b) : ∀ {as : List α} {bs : List β}, Paired R as bs → Paired R' as bs
  | _, _, .nil => .nil
  | _, _, .cons a t => .cons (h _ _ a) (Paired.imp h t)
theorem df_dict {p : Pos} (hc : X.calm = true) (hm : X.mg "dict" = none) (ha : DE cl X e me) (hg : Gl X "dict" := by rfl) (hv : bootBuiltins "dict" = some (.type "dict") := by decide +kernel)
    (he : starEach (e :: []) X.env = (false, eval e X.env) :: starEach [] X.env := by rfl) (hpl : (backTo pos (starEach [] X.env)).any (·.1) = false := by rfl) : DF cl X (.Call (.Name "dict" p) [e] [] pos) (cDict me) := fun W tk =>
  pe_imp (pe_callTy (callr_or (call_dictP hc) (callr_or (call_dictX hc) call_dictD)) hg hm hv (pa_cons (ha W tk) pa_nil he) (by decide) (by decide) he hpl) fun σ H Q ⟨gh, F, φ, ρ, S, rp, p⟩ => by
    have key : tG X.K cl W (rV X.K) me σ H fun v H1 => ∃ x S1 F1 φ1 d ks, Ext F φ F1 φ1 ∧ Rep X.K ⟨cl, gh⟩ F1 φ1 ρ S1 σ H1 ∧ RV X.K F1 φ1 x v ∧ deref S1 x = some d ∧ (d = .dct ks ∨ ∃ ds ps, (d = .lst ds ∨ d = .tup ds) ∧ pairsOf ds = some ps ∧ ks = mergeD [] ps) ∧ FPost X.K ⟨cl, gh⟩ W F φ ρ σ Q (.ok (.dct ks) S1) := by
      refine ⟨gh, F, φ, ρ, S, rp, ?_⟩
      cases hm : me ρ S with
      | bad =>
        rw [cDict, hm] at p
        exact p
      | exc c S' =>
        rw [cDict, hm] at p
        exact p
      | ok x S' =>
        rw [cDict, hm] at p
        simp only [Out.bind] at p
        intro v F1 φ1 H1 x1 r1 q1
        split at p
        · rename_i ds hd
          split at p
          · rename_i ps hps
            exact ⟨x, S', F1, φ1, _, _, x1, r1, q1, hd, .inr ⟨ds, ps, .inl rfl, hps, rfl⟩, p⟩
          · exact p.elim
        · rename_i ds hd
          split at p
          · rename_i ps hps
            exact ⟨x, S', F1, φ1, _, _, x1, r1, q1, hd, .inr ⟨ds, ps, .inr rfl, hps, rfl⟩, p⟩
          · exact p.elim
        · rename_i ks hd
          exact ⟨x, S', F1, φ1, _, _, x1, r1, q1, hd, .inl rfl, p⟩
        · exact p.elim
    refine key.imp fun v H1 ⟨x, S1, F1, φ1, d, ks, x1, r1, q1, hd, hk, p1⟩ => ?_
    have rt := deref_ok r1.b q1 hd
    rcases hk with e | ⟨ds, ps, e, hps, eks⟩
    · subst e
      cases rt with
      | @dct a _ kvs hr rk => exact .inr (.inr ⟨a, kvs, rfl, hr, fun l hl => p1 l (.dK kvs) F1 φ1 H1 x1 r1 hl ⟨kvs, rfl, rk⟩⟩)
    · rcases e with e | e
      · subst e
        cases rt with
        | @lst a _ vs hs rs =>
          obtain ⟨as, kvs, e1, e2, e3⟩ := pairsOf_ok rs hps
          subst e1 eks
          exact .inl ⟨a, as, kvs, rfl, .of hs, Paired.imp (fun _ _ z => r1.b.m.st z) e2, fun l hl => p1 l _ F1 φ1 H1 x1 r1 hl ⟨_, rfl, e3.merge .nil⟩⟩
      · subst e
        cases rt with
        | @tup a _ vs hs rs =>
          obtain ⟨as, kvs, e1, e2, e3⟩ := pairsOf_ok rs hps
          subst e1 eks
          obtain ⟨ob, h1, h2⟩ := hs.same r1.b.le
          exact .inr (.inl ⟨a, ob, as, kvs, rfl, h1, h2, Paired.imp (fun _ _ z => r1.b.m.st z) e2, fun l hl => p1 l _ F1 φ1 H1 x1 r1 hl ⟨_, rfl, e3.merge .nil⟩⟩)
end
end DL

namespace DL
open PySem PySem.Spec PyProof.Rows L2 L2H
section
variable {X : Cx} {cl : Nat → Addr} {e a b : Expr} {me ma mb : EM} {p p2 pos pos2 : Pos}
theorem rgV_rvs {K : PySem.W.Frag} {F : Hp} (i j : Int) : Rvs K F (rangeD i (j - i).toNat) (rgV i j) := by
  unfold rangeD rgV
  generalize List.range (j - i).toNat = l
  induction l with
  | nil => exact .nil
  | cons x r ih => exact .cons (.int _) ih
def rngL (x y : D) : Option (List D) := match x, y with
  | .int i, .int j => if -1000000 ≤ i ∧ i ≤ 1000000 ∧ -1000000 ≤ j ∧ j ≤ 1000000 then some (rangeD i (j - i).toNat) else none
  | _, _ => none
def pRgL1 (y : D) : Option D := (rngL (.int 0) y).map .lst
def pRgT1 (y : D) : Option D := (rngL (.int 0) y).map .tup
def pRgL2 (x y : D) : Option D := (rngL x y).map .lst
theorem rngL_ok {K : PySem.W.Frag} {F H : Hp} {x y : D} {u v : V} {ds : List D} (rx : RT K F H x u) (ry : RT K F H y v) (h : rngL x y = some ds) : ∃ i j, u = .int i ∧ v = .int j ∧ RgOk i j ∧ ds = rangeD i (j - i).toNat := by
  unfold rngL at h
  split at h
  · rename_i i j
    split at h
    · rename_i hb
      cases h
      cases rx
      cases ry
      exact ⟨i, j, rfl, rfl, ⟨by omega, by omega, by omega, by omega, by omega⟩, rfl⟩
    · cases h
  · cases h
theorem de_listRg1 (hc : X.calm = true) (hm : X.mg "list" = none) (hm2 : X.mg "range" = none) (ha : DE cl X a ma) (hg : Gl X "list" := by rfl) (hg2 : Gl X "range" := by rfl) (na : starEach [a] X.env = (false, eval a X.env) :: starEach [] X.env := by rfl)
    (nb : starEach [.Call (.Name "range" p2) [a] [] pos2] X.env = (false, eval (.Call (.Name "range" p2) [a] [] pos2) X.env) :: starEach [] X.env := by rfl) :
    DE cl X (.Call (.Name "list" p) [.Call (.Name "range" p2) [a] [] pos2] [] pos) (eOp1 pRgL1 ma) := fun W tk =>
  pe_imp (pe_listRg hc hg hm (prg_1 hg2 hm2 (ha W tk) na) nb) fun σ H Q ⟨gh, F, φ, ρ, S, rp, q⟩ => by
    refine (tG_bind (R := rV X.K) rp q).imp fun v H1 ⟨x, S1, F1, φ1, x1, r1, q1, p1⟩ => ?_
    refine op1_ok (X := X) (g := pRgL1) (r := fun v H Q => ∃ n, v = .int n ∧ (RgOk 0 n ∧ ∀ q, H q = none → Q (.ref q) (upd H q (.lst (rgV 0 n))))) ?_ r1 q1 p1
    intro F H d c x Q le rx h q
    unfold pRgL1 at h
    cases hr : rngL (.int 0) d with
    | none =>
      rw [hr] at h
      cases h
    | some ds =>
      rw [hr] at h
      cases h
      obtain ⟨i, j, e1, e2, e3, e4⟩ := rngL_ok (.int 0) rx hr
      cases e1
      subst e2 e4
      refine ⟨j, rfl, e3, fun p hp => ?_⟩
      have g := Grow.new le (.lst (rgV 0 j)) hp
      exact q _ _ _ g (.lst upd_same (rgV_rvs 0 j))
theorem de_tupRg1 (hc : X.calm = true) (hm : X.mg "tuple" = none) (hm2 : X.mg "range" = none) (ha : DE cl X a ma) (hg : Gl X "tuple" := by rfl) (hg2 : Gl X "range" := by rfl) (na : starEach [a] X.env = (false, eval a X.env) :: starEach [] X.env := by rfl)
    (nb : starEach [.Call (.Name "range" p2) [a] [] pos2] X.env = (false, eval (.Call (.Name "range" p2) [a] [] pos2) X.env) :: starEach [] X.env := by rfl) :
    DE cl X (.Call (.Name "tuple" p) [.Call (.Name "range" p2) [a] [] pos2] [] pos) (eOp1 pRgT1 ma) := fun W tk =>
  pe_imp (pe_tupRgX hc hg hm (prg_1 hg2 hm2 (ha W tk) na) nb) fun σ H Q ⟨gh, F, φ, ρ, S, rp, q⟩ => by
    refine (tG_bind (R := rV X.K) rp q).imp fun v H1 ⟨x, S1, F1, φ1, x1, r1, q1, p1⟩ => ?_
    refine op1_ok (X := X) (g := pRgT1) (r := fun v H Q => ∃ n, v = .int n ∧ (RgOk 0 n ∧ FreshT (rgV 0 n) H Q)) ?_ r1 q1 p1
    intro F H d c x Q le rx h q
    unfold pRgT1 at h
    cases hr : rngL (.int 0) d with
    | none =>
      rw [hr] at h
      cases h
    | some ds =>
      rw [hr] at h
      cases h
      obtain ⟨i, j, e1, e2, e3, e4⟩ := rngL_ok (.int 0) rx hr
      cases e1
      subst e2 e4
      refine ⟨j, rfl, e3, fun p ob hp hd => ?_⟩
      have g := Grow.new le (.frz ob (.tup (rgV 0 j))) hp
      exact q _ _ _ g (.tup (.new hd) (rgV_rvs 0 j))

def eCall0 (f : Fn) : EM := fun _ S => f [] S
theorem de_call0 {k j : Nat} {f : Fn} {x : Str} (G : Dfn X.prog X.w X.K X.mg X.base cl k x [] f) (hr : Room j X.A) (hk : k ≤ j := by decide) (hg : Gl X x := by rfl) (hdb : (x == ("__debug__" : Str)) = false := by decide) :
    DE cl X (.Call (.Name x p) [] [] pos) (eCall0 f) := fun W tk => by
  obtain ⟨a, fd, g1, g2, g3, g4⟩ := G
  constructor
  intro pins s σ H Q I ⟨gh, F, φ, ρ, S, rp, q⟩
  refine wpAny_Call_Name_kw (ld_glob I hg g1 ?_ hdb)
  exact PySem.W.callWith_K0 (first := []) I.kIn g2 (run_fnS (us := []) (vs := []) (E := WE W) g4 (hr.mono hk) g3 (L2N.passAt tk σ) I .nil (call_ok (n := 0) (xs := []) rp .nil q))
def Gives2F (K : PySem.W.Frag) (r : R2) (g : D → D → Option D) : Prop := ∀ (F H : Hp) (d e : D) (xs : List D) (x y : V) (Q : VK), Same F H → RT K F H d x → RT K F H e y → g d e = some (.lst xs) →
  (∀ p vs, H p = none → Rvs K F xs vs → Q (.ref p) (upd H p (.lst vs))) → r x y H Q
def lst2 (g : D → D → Option D) (x y : Val) (S : Store) : Out Cell := match deref S x, deref S y with
  | some d, some e => (match g d e with
    | some (.lst xs) => .ok (.lst xs) S
    | _ => .bad)
  | _, _ => .bad
def cOp2 (g : D → D → Option D) (a b : EM) : CM := fun ρ S => (a ρ S).bind fun x S1 => (b ρ S1).bind fun y S2 => lst2 g x y S2
theorem tF_bind {α β : Type} {K : PySem.W.Frag} {cs : CS} {W : WX} {R : Hp → List Addr → α → β → Prop} {F H : Hp} {φ : List Addr} {ρ : Ev} {S : Store} {σ : St} {m : Ev → Store → Out α} {k : α → Store → Out Cell} {Q : VK} (r : Rep K cs F φ ρ S σ H) (h : FPost K cs W F φ ρ σ Q ((m ρ S).bind k)) :
    tG K cs.cls W R m σ H fun v H1 => ∃ x S1 F1 φ1, Ext F φ F1 φ1 ∧ Rep K cs F1 φ1 ρ S1 σ H1 ∧ R F1 φ1 x v ∧ FPost K cs W F1 φ1 ρ σ Q (k x S1) := by
  refine ⟨cs.gh, F, φ, ρ, S, r, ?_⟩
  cases e : m ρ S with
  | bad =>
    rw [e] at h
    exact h
  | exc c S' =>
    rw [e] at h
    exact h
  | ok x S' =>
    rw [e] at h
    intro v F1 φ1 H1 x1 r1 q1
    refine ⟨x, S', F1, φ1, x1, r1, q1, ?_⟩
    simp only [Out.bind] at h
    cases ek : k x S' with
    | bad =>
      rw [ek] at h
      exact h
    | exc c S2 =>
      rw [ek] at h
      exact fun F' φ' H' x r => h F' φ' H' (x1.trans x) r
    | ok c S2 =>
      rw [ek] at h
      exact fun p o F' φ' H' x r => h p o F' φ' H' (x1.trans x) r
theorem df_op {op : Operator} {r : R2} {g : D → D → Option D} (ho : OpR X (binaryOp op) r) (hg : Gives2F X.K r g) (ha : DE cl X a ma) (hb : DE cl X b mb) : DF cl X (.BinOp a op b pos) (cOp2 g ma mb) := fun W tk =>
  pe_imp (pe_op ho (ha W tk) (hb W tk)) fun σ H Q ⟨gh, F, φ, ρ, S, rp, p⟩ => by
    refine (tF_bind (R := rV X.K) rp p).imp fun v H1 ⟨x, S1, F1, φ1, x1, r1, q1, p1⟩ => ?_
    refine (tF_bind (R := rV X.K) r1 p1).imp fun u H2 ⟨y, S2, F2, φ2, x2, r2, q2, p2⟩ => ?_
    unfold lst2 at p2
    split at p2
    · rename_i d e hd he
      split at p2
      · rename_i xs hx
        exact hg F2 H2 d e xs v u Q r2.b.le (deref_ok r2.b (x2.rv q1) hd) (deref_ok r2.b q2 he) hx fun p vs hp rs => p2 p (.lst vs) F2 φ2 H2 (.refl F2 φ2) r2 hp ⟨vs, rfl, rs⟩
      · exact p2.elim
    · exact p2.elim
theorem gRepF : Gives2F X.K rRep pMul := by
  intro F H d e xs x y Q le rx ry h q
  cases rx with
  | @lst a ds vs hs rs =>
    cases ry with
    | int j =>
      simp only [pMul] at h
      split at h
      · rename_i hc
        obtain ⟨h1, h2, h3⟩ := hc
        cases h
        refine ⟨a, j, vs, rfl, rfl, hs, by omega, by omega, ?_, fun p hp => ?_⟩
        · rw [← rs.len]
          exact Nat.le_trans (Nat.mul_le_mul h3 (show j.toNat ≤ 1000 by omega)) (by decide)
        · exact q p _ hp (rs.rep j.toNat)
      · cases h
    | _ => cases h
  | int i =>
    cases ry with
    | int j =>
      simp only [pMul] at h
      split at h <;> cases h
    | _ => cases h
  | _ => cases h
end
end DL

namespace DL
open PySem PySem.Spec PyProof.Rows L2 L2H
section
variable {K : PySem.W.Frag} {h : Heap} {mg : Str → Option Value}
theorem clsAt_of (X : K.In h) (G : h.Ns mainGlobals mg) (c : Nat) {x : Str} (e : x = exNm c) (g : (He.Fa.glo x).ok K = true) (q : (He.Fa.cls x).ok K = true) (r : (He.Fa.mkr x).ok K = true) : ClsAt K mg (exCl K) c x := by
  subst e
  have m := He.mkr_ok r
  exact ⟨He.glo_ok X G g, He.cls_ok q, m.1, m.4⟩
theorem noat_of (c : Nat) {x f : Str} (e : x = exNm c) (g : (He.Fa.noat x f).ok K = true) : NoAttr K (exCl K c) f := by
  subst e
  exact He.noat_ok g
theorem meth_of (c : Nat) {x m : Str} (e : x = exNm c) (g : (He.Fa.meth x m).ok K = true) : Meth K (exCl K c) m (He.ma K (He.ga K x) m) := by
  subst e
  exact He.meth_ok g
end
end DL

namespace DL
open PySem PySem.Spec PyProof.Rows L2
open Classical in
noncomputable def compP (ix : Nat) (all : List D) (B : TB) (mt : BM) (me : EM) (ρ : Ev) : List D → Store → Out (List D)
  | [], S => if S[ix]? = some (.lst all) then .ok [] S else .bad
  | d :: ds, S => if S[ix]? = some (.lst all) then (match B d with
    | none => .bad
    | some a => match mt (setE ρ a) S with
      | .ok c S1 => if c = true then (match me (setE ρ a) S1 with
          | .ok (.dat x) S2 => (compP ix all B mt me ρ ds S2).bind fun xs S3 => .ok (x :: xs) S3
          | _ => .bad) else compP ix all B mt me ρ ds S1
      | _ => .bad) else .bad
noncomputable def eCompP (ws : List Nat) (m : EM) (B : TB) (mt : BM) (me : EM) : EM := fun ρ S => (m ρ S).bind fun x S1 => match x with
  | .ptr ix => (match S1[ix]? with
    | some (.lst ds) => if ds.length ≤ 1000000 then (compP ix ds B mt me (wipeE ρ ws) ds S1).bind fun xs S2 => .ok (.dat (.lst xs)) S2 else .bad
    | _ => .bad)
  | _ => .bad
theorem yields_listH {K : PySem.W.Frag} {F H : Hp} {a : Addr} {ds : List D} {vs : List V} (hH : SqL K H a vs) (r : Rvs K F ds vs) (le : Same F H) (i : Nat) : (ds.length ≤ i → (Itl K a).stop i H) ∧ ∀ d, ds[i]? = some d → (Itl K a).go i H ∧ ∀ x H', (Itl K a).yld i H x H' → ∃ F'', Grow F H F'' H' ∧ Rv K F'' d x := by
  refine ⟨fun hl => ⟨vs, hH, by rw [← r.len]; exact hl⟩, fun d hd => ?_⟩
  obtain ⟨v, hv, rv⟩ := r.get hd
  refine ⟨⟨vs, v, hH, hv⟩, fun x H' ⟨e, hx⟩ => ?_⟩
  subst e
  have e1 := hx vs hH
  rw [hv] at e1
  cases e1
  exact ⟨F, .refl le, rv⟩
section
variable {K : PySem.W.Frag} {cl : Nat → Addr} {W : WX} {m : EM} {B : TB} {mt : BM} {me : EM} {ws : List Nat}
theorem lcP_ok {σ : St} {H : Hp} {Q : VK} (hB : BIn B ws) (h : tG K cl W (rV K) (eCompP ws m B mt me) σ H Q) :
    tLc (iList K (tG K cl W (rV K) m)) (gD K B) (tG K cl (fun _ _ _ _ => False) rB mt) (tG K cl (fun _ _ _ _ => False) (rV K) me) ws σ H Q := by
  obtain ⟨gh, F, φ, ρ, S, r, p⟩ := h
  refine (tG_bind (R := rV K) r p).imp fun v0 H1 ⟨x0, S', F1, φ1, x1, r1, q1, p1⟩ => ?_
  cases q1 with
  | dat _ => exact p1.elim
  | @ptr ix a0 hix =>
    simp only at p1
    split at p1
    rotate_left
    · exact p1.elim
    rename_i ds hds
    by_cases hlen : ds.length ≤ 1000000
    rotate_left
    · rw [if_neg hlen] at p1
      exact p1.elim
    rw [if_pos hlen] at p1
    have p0 := p1
    obtain ⟨vs0, e0, rs0⟩ := r1.b.cell ix _ a0 hds hix
    refine ⟨a0, rfl, ⟨vs0, .of e0⟩, ?_⟩
    intro Dd hDd
    have hg : ∀ q ∈ gh, q.1 ≠ Dd := fun q hq z => by
      have := (r1.b.gho q hq).1
      rw [z, hDd] at this
      cases this
    refine ⟨fun i m H => m = ds.length - i ∧ i ≤ ds.length ∧ ∃ F2 φ2 S2 acc vs, Ext F1 φ1 F2 φ2 ∧ Rep K ⟨cl, (Dd, .lst vs) :: gh⟩ F2 φ2 (wipeE ρ ws) S2 (wipe σ ws) H ∧ Rvs K F2 acc vs ∧ acc.length ≤ i ∧
      Post K ⟨cl, gh⟩ W (rV K) F2 φ2 ρ σ Q ((compP ix ds B mt me (wipeE ρ ws) (ds.drop i) S2).bind fun xs S' => .ok (.dat (.lst (acc ++ xs))) S'), ?_, ?_⟩
    · refine ⟨ds.length, rfl, Nat.zero_le _, F1, φ1, S', [], [], .refl F1 φ1, ⟨r1.b.ghost _ hDd, r1.e.wipe ws⟩, .nil, Nat.zero_le _, ?_⟩
      rw [List.drop_zero]
      simp only [List.nil_append]
      exact p0
    · rintro i mm H2 ⟨rfl, hi, F2, φ2, S2, acc, vs, x2, r2, ra, hacc, p2⟩
      have hstay : S2[ix]? = some (.lst ds) := by
        by_cases z : S2[ix]? = some (.lst ds)
        · exact z
        · exfalso
          have e : ∀ l, compP ix ds B mt me (wipeE ρ ws) l S2 = .bad := fun l => by
            cases l <;> simp [compP, z]
          rw [e] at p2
          exact p2
      obtain ⟨vs1, e1, rs1⟩ := r2.b.cell ix _ a0 hstay (pre_get x2.p hix)
      obtain ⟨ys, yg⟩ := yields_listH (K := K) (F := F2) (SqL.of e1) rs1 r2.b.le i
      by_cases hl : i < ds.length
      · have hd : ds[i]? = some ds[i] := List.getElem?_eq_getElem hl
        obtain ⟨go, yl⟩ := yg _ hd
        have hdr : ds.drop i = ds[i] :: ds.drop (i + 1) := List.drop_eq_getElem_cons hl
        rw [hdr] at p2
        simp only [compP, hstay, if_true] at p2
        refine .inr ⟨go, fun H' => ∃ F2 φ2 S2 acc vs, Ext F1 φ1 F2 φ2 ∧ Rep K ⟨cl, (Dd, .lst vs) :: gh⟩ F2 φ2 (wipeE ρ ws) S2 (wipe σ ws) H' ∧ Rvs K F2 acc vs ∧ acc.length ≤ i + 1 ∧
          Post K ⟨cl, gh⟩ W (rV K) F2 φ2 ρ σ Q ((compP ix ds B mt me (wipeE ρ ws) (ds.drop (i + 1)) S2).bind fun xs S' => .ok (.dat (.lst (acc ++ xs))) S'), fun H' h => ⟨ds.length - (i + 1), by omega, rfl, hl, h⟩, fun x H' hy => ?_⟩
        obtain ⟨F3, g3, rv⟩ := yl x H' hy
        have r3 := r2.grow g3
        have p3 := p2.ext (g3.ext φ2)
        cases ha : B ds[i] with
        | none =>
          rw [ha] at p3
          exact p3.elim
        | some a =>
          rw [ha] at p3
          simp only at p3
          refine ⟨F3, ds[i], a, r3.b.le, rv, ha, fun b hb => ⟨?_, ?_⟩⟩
          · rw [wipe_setV (hb.slots (hB _ _ ha)), wipe_wipe]
          · refine ⟨(Dd, .lst vs) :: gh, F3, φ2, setE (wipeE ρ ws) a, S2, ⟨r3.b, r3.e.setE hb⟩, ?_⟩
            cases hm : mt (setE (wipeE ρ ws) a) S2 with
            | bad =>
              rw [hm] at p3
              exact p3.elim
            | exc c S3 =>
              rw [hm] at p3
              exact p3.elim
            | ok c S3 =>
              rw [hm] at p3
              simp only at p3
              intro v F4 φ4 H4 x4 r4 ev
              subst ev
              have r4' : Rep K ⟨cl, (Dd, .lst vs) :: gh⟩ F4 φ4 (wipeE ρ ws) S3 (wipe σ ws) H4 := ⟨r4.b, (r3.e.mono (.of x4.s) x4.p)⟩
              have p4 := p3.ext x4
              cases c with
              | false =>
                rw [if_neg Bool.false_ne_true] at p4
                rw [if_neg Bool.false_ne_true]
                exact ⟨F4, φ4, S3, acc, vs, (x2.trans (g3.ext φ2)).trans x4, r4', (ra.mono (.of g3.s)).mono (.of x4.s), Nat.le_succ_of_le hacc, p4⟩
              | true =>
                rw [if_pos rfl] at p4
                rw [if_pos rfl]
                refine ⟨(Dd, .lst vs) :: gh, F4, φ4, setE (wipeE ρ ws) a, S3, r4, ?_⟩
                cases hme : me (setE (wipeE ρ ws) a) S3 with
                | bad =>
                  rw [hme] at p4
                  exact p4.elim
                | exc c S4 =>
                  rw [hme] at p4
                  exact p4.elim
                | ok z S4 =>
                  rw [hme] at p4
                  cases z with
                  | ptr _ => exact p4.elim
                  | dat z =>
                    simp only at p4
                    intro v F5 φ5 H5 x5 r5 q5
                    cases q5 with
                    | dat q5 =>
                      have ra5 : Rvs K F5 acc vs := ((ra.mono (.of g3.s)).mono (.of x4.s)).mono (.of x5.s)
                      refine ⟨vs, (r5.b.gho _ List.mem_cons_self).1, ?_, F5, φ5, S4, acc ++ [z], vs ++ [v], ((x2.trans (g3.ext φ2)).trans x4).trans x5, ⟨r5.b.reghost hg _, (r4'.e.mono (.of x5.s) x5.p)⟩, ra5.append (.cons q5 .nil), ?_, ?_⟩
                      · rw [← ra5.len]
                        exact Nat.lt_of_le_of_lt (Nat.le_trans hacc (Nat.le_trans hi hlen)) (by decide)
                      · rw [List.length_append]
                        exact Nat.succ_le_succ hacc
                      · have p5 := p4.ext x5
                        cases hr : compP ix ds B mt me (wipeE ρ ws) (ds.drop (i + 1)) S4 with
                        | bad =>
                          rw [hr] at p5
                          exact p5
                        | exc c S5 =>
                          rw [hr] at p5
                          exact p5
                        | ok xs S5 =>
                          rw [hr] at p5
                          simp only [Out.bind, List.append_assoc, List.singleton_append] at p5 ⊢
                          exact p5
      · have e : i = ds.length := by omega
        subst e
        rw [List.drop_length] at p2
        simp only [compP, hstay, if_true, Out.bind, List.append_nil] at p2
        obtain ⟨b3, s3⟩ := r2.b.settle hg
        refine .inl ⟨ys (Nat.le_refl _), p2 _ _ φ2 _ ⟨s3, List.prefix_refl _⟩ ⟨b3, r1.e.mono (.of (x2.s.trans s3)) x2.p⟩ (.dat (.lst upd_same (ra.mono (.of s3))))⟩
end
section
variable {X : Cx} {cl : Nat → Addr} {elt tg iter c : Expr} {ifs : List Expr} {scope : Scope} {own : List (Str × Nat)} {pos : Pos} {m : EM} {B : TB} {mt : BM} {me : EM}
theorem de_lcP (own : List (Str × Nat)) (hc : X.calm = true) (hN : X.N.Nodup) (hi : DE cl X iter m) (ok : BlkOk X.N X.env.scope scope own)
    (hg : ∀ (s : Shared) (H : Hp) (C : Addr) (ce : List (Str × Addr)) (fp : List Addr), DG (X.blk s H scope (compEnvC scope ce C X.env) fp) tg B)
    (ht : ∀ (s : Shared) (H : Hp) (C : Addr) (ce : List (Str × Addr)) (fp : List Addr), DPs cl (X.blk s H scope (compEnvC scope ce C X.env) fp) ifs mt)
    (he : ∀ (s : Shared) (H : Hp) (C : Addr) (ce : List (Str × Addr)) (fp : List Addr), DE cl (X.blk s H scope (compEnvC scope ce C X.env) fp) elt me)
    (hB : BIn B (own.map (·.2))) (hs : ∀ x, foldedSetIterable iter X.env x = pure x := by intro _; rfl) : DE cl X (.ListComp elt [⟨tg, iter, ifs, 0⟩] scope pos) (eCompP (own.map (·.2)) m B mt me) := fun W tk =>
  pe_imp (pe_lc (g := gD X.K B) hc hN (pi_list (hi W tk)) ok (fun s H C ce fp => hg s H C ce fp) (fun s H C ce fp => ht s H C ce fp _ takesNo) (fun s H C ce fp => he s H C ce fp _ takesNo) hs) fun σ H Q h => lcP_ok hB h
theorem ds_setLcP {i : Nat} {y : Str} {py spos : Pos} (own : List (Str × Nat)) (hc : X.calm = true) (hN : X.N.Nodup) (hi : DE cl X iter m) (ok : BlkOk X.N X.env.scope scope own)
    (hg : ∀ (s : Shared) (H : Hp) (C : Addr) (ce : List (Str × Addr)) (fp : List Addr), DG (X.blk s H scope (compEnvC scope ce C X.env) fp) tg B)
    (ht : ∀ (s : Shared) (H : Hp) (C : Addr) (ce : List (Str × Addr)) (fp : List Addr), DPs cl (X.blk s H scope (compEnvC scope ce C X.env) fp) ifs mt)
    (he : ∀ (s : Shared) (H : Hp) (C : Addr) (ce : List (Str × Addr)) (fp : List Addr), DE cl (X.blk s H scope (compEnvC scope ce C X.env) fp) elt me)
    (hB : BIn B (own.map (·.2))) (hsw : swapsWith (.ListComp elt [⟨tg, iter, ifs, 0⟩] scope pos) (some (.Name y py)) spos.line X.env = pure true) (hy : X.N[i]? = some y := by rfl) (hyl : X.env.scope.names.lookup y = some .local := by rfl)
    (hs : ∀ x, foldedSetIterable iter X.env x = pure x := by intro _; rfl) : DS cl X (.Assign [.Name y py] (.ListComp elt [⟨tg, iter, ifs, 0⟩] scope pos) spos) (sSet i (eCompP (own.map (·.2)) m B mt me)) := fun W tk _ =>
  ps_imp (ps_setLc (g := gD X.K B) hc hN hy hyl hsw (pi_list (hi W tk)) ok (fun s H C ce fp => hg s H C ce fp) (fun s H C ce fp => ht s H C ce fp _ takesNo) (fun s H C ce fp => he s H C ce fp _ takesNo) hs) fun E σ H ⟨gh, F, φ, ρ, S, r, p⟩ =>
    lcP_ok hB ((tS_of (R := rV X.K) r p).imp fun v H1 ⟨x, S1, F1, φ1, x1, r1, q1, p1⟩ => p1 F1 φ1 _ H1 (.refl F1 φ1) ⟨r1.b, r1.e.set q1 i⟩)
end
end DL

namespace DL
open PySem PySem.Spec PyProof.Rows L2
namespace RevX
section
variable {prog : Program} {w : World} {A : Around} {E : Value → Shared → Prop} {s : Shared}
theorem adjust (n : Nat) : Builtin.Slice.sliceAdjust none none (-1) (n : Int) = ((n : Int) - 1, -1) := by
  unfold Builtin.Slice.sliceAdjust
  simp
theorem places (n : Nat) : Builtin.Slice.slicePlaces ((n : Int) - 1) (-1) (-1) = n := by
  unfold Builtin.Slice.slicePlaces
  have h1 : ¬ ((-1 : Int) > 0) := by decide
  simp only [h1, if_false]
  by_cases h : (n : Int) - 1 > -1
  · rw [if_pos h, show (- -1 : Int) = 1 by decide, Int.ediv_one]
    omega
  · rw [if_neg h]
    omega
theorem applied {sl : Addr} {vl vu vs : Value} {n : Nat} {Q : Int × Int × Nat → Shared → Prop} (hs : s.heap.IsSliceOf sl vl vu vs) (pl : IsPart vl none) (pu : IsPart vu none) (ps : IsPart vs (some (-1)))
    (h : Q ((n : Int) - 1, -1, n) s) : wpAny (model prog w) A (Builtin.Slice.sliceApplied (.ref sl) (pure (n : Int))) Q E s := by
  obtain ⟨os, hos, hcs, hds⟩ := id hs
  unfold Builtin.Slice.sliceApplied Builtin.Slice.sliceFields
  refine wpAny_bind (wpAny_bind (wpAny_field hos hds (x := vl) rfl (wpAny_bind (wpAny_field hos hds (x := vu) rfl (wpAny_bind (wpAny_field hos hds (x := vs) rfl (wpAny_pure ?_)))))))
  refine wpAny_bind (HT.slicePart_ ps ?_)
  show wpAny _ _ (if ((-1 : Int) == 0) = true then _ else _) _ _ s
  rw [if_neg (by decide)]
  refine wpAny_bind (HT.slicePart_ pl (wpAny_bind (HT.slicePart_ pu (wpAny_bind (wpAny_pure ?_)))))
  show wpAny _ _ (match Builtin.Slice.sliceAdjust none none (-1) (n : Int) with | (lo, hi) => pure (lo, (-1 : Int), Builtin.Slice.slicePlaces lo hi (-1))) _ _ s
  rw [adjust n]
  show wpAny _ _ (pure ((n : Int) - 1, (-1 : Int), Builtin.Slice.slicePlaces ((n : Int) - 1) (-1) (-1))) _ _ s
  rw [places]
  exact wpAny_pure h
theorem fm_congr {α β : Type} {f g : α → Option β} : ∀ {l : List α}, (∀ m ∈ l, f m = g m) → l.filterMap f = l.filterMap g
  | [], _ => rfl
  | a :: l, h => by
    rw [List.filterMap_cons, List.filterMap_cons, h a List.mem_cons_self, fm_congr fun m hm => h m (List.mem_cons_of_mem _ hm)]
theorem pick (xs : Array Value) : ((List.range xs.size).filterMap fun (m : Nat) => xs[((xs.size : Int) - 1 + (m : Int) * (-1)).toNat]?).toArray = xs.toList.reverse.toArray := by
  have e : (List.range xs.size).filterMap (fun (m : Nat) => xs[((xs.size : Int) - 1 + (m : Int) * (-1)).toNat]?) = ((List.range xs.size).map fun k => xs.size - 1 - k).filterMap (xs[·]?) := by
    rw [List.filterMap_map]
    refine fm_congr fun m hm => ?_
    have := List.mem_range.mp hm
    show xs[((xs.size : Int) - 1 + (m : Int) * (-1)).toNat]? = xs[xs.size - 1 - m]?
    have e2 : ((xs.size : Int) - 1 + (m : Int) * (-1)).toNat = xs.size - 1 - m := by omega
    rw [e2]
  rw [e, PySem.W.krv_range, List.filterMap_reverse, PySem.W.krv_all]
theorem getItem_rev {t sl : Addr} {items : Array Value} {vl vu vs : Value} {Q : Value → Shared → Prop} (ht : IsTup s.heap t items) (hs : s.heap.IsSliceOf sl vl vu vs) (pl : IsPart vl none) (pu : IsPart vu none) (ps : IsPart vs (some (-1)))
    (h : Q (.ref s.heap.objs.size) { s with heap := s.heap.push { cls := .type "tuple", data := .seq items.toList.reverse.toArray } }) (hsz : items.size ≤ sizeLine) : wpAny (model prog w) A (getItem (.ref t) (.ref sl)) Q E s := by
  have htake : PySem.sizeOk (.seq items.toList.reverse.toArray) := by
    show items.toList.reverse.toArray.size ≤ sizeLine
    rw [List.size_toArray, List.length_reverse, Array.length_toList]
    exact hsz
  obtain ⟨os, hos, hcs, hds⟩ := id hs
  have hTs : s.TypeIs (.ref sl) "slice" := ⟨os, hos, hcs⟩
  unfold getItem
  try with_reducible refine wpAny_holding ?_
  first | refine wpAny_bind (wpAny_pure ?_) | skip
  refine wpAny_bind (wpAny_sequenceKey ht.typeIs (by decide) ?_)
  refine wpAny_bind (wpAny_callSpecial?_slot (name := Str.ofString "__getitem__") ht.typeIs PyProof.Rows.slot_tuple_getitem
    (wpAny_call_entry PyProof.Rows.slot_tuple_getitem ht.typeIs entry_tuple_getitem ?_ (args_tuple_getitem _ _)))
  show wpAny _ _ (Builtin.Tuple.tupleItemsOf (.ref t) >>= _) _ _ s
  refine wpAny_bind (tupleItemsOf_ ht ?_)
  refine wpAny_bind (wpAny_typeOf hTs ?_)
  rw [if_pos (by decide)]
  refine wpAny_bind (applied hs pl pu ps ?_)
  have hno : ¬ (((items.size : Int) - 1 == 0 && (-1 : Int) == 1 && items.size == items.size) = true) := by simp
  show wpAny _ _ (if ((items.size : Int) - 1 == 0 && (-1 : Int) == 1 && items.size == items.size) = true then _ else _) _ _ s
  rw [if_neg hno, pick]
  first
    | exact wpAny_bind (m := Builtin.Tuple.tupleExact _) (wpAny_newObj_type (wpAny_pure ⟨_, rfl, wpAny_pure h⟩) htake)
    | exact wpAny_bind (m := Builtin.Tuple.tupleExact _) (wpAny_newObj_type (wpAny_bind (wpAny_pure (wpAny_pure ⟨_, rfl, wpAny_pure h⟩))) htake)
    | exact wpAny_bind (wpAny_bind (m := Builtin.Tuple.tupleExact _) (wpAny_newObj_type (wpAny_pure (wpAny_pure ⟨_, rfl, wpAny_pure h⟩)) htake))
    | exact wpAny_bind (wpAny_bind (m := Builtin.Tuple.tupleExact _) (wpAny_newObj_type (wpAny_pure ⟨_, rfl, wpAny_pure h⟩) htake))
end
end RevX
section
variable {X : Cx} {cl : Nat → Addr} {e : Expr} {me : EM} {pos p1 p2 p3 : Pos} {k : Nat}
/-- a text, a tuple, a list, backward -/
def tRevA (K : PySem.W.Frag) (te : TE) : TE := fun σ H Q => te σ H fun x H1 => (∃ z : Str, x = .str z ∧ z.length ≤ sizeLine ∧ Q (.str ⟨z.cps.toList.reverse.toArray⟩) H1) ∨ (∃ a xs, x = .ref a ∧ SqT K H1 a xs ∧ FreshT xs.reverse H1 Q)
theorem pe_revA {te : TE} (he : PE X e te) : PE X (.Subscript e (.Slice none none (some (.UnaryOp .USub (.Constant (.int 1) k p1) p2)) p3) pos) (tRevA X.K te) := by
  refine ⟨fun pins s σ H Q I h => ?_⟩
  refine Subscript_ (thn (he.run pins s σ H _ I h) fun v s1 ⟨x, H1, I1, r1, q1⟩ => ?_)
  have hst : PO X (some (.UnaryOp .USub (.Constant (.int 1) k p1) p2)) (tPart (tUn (rU fun i => .int (-i)) (tC (.int 1)))) := po_some (pe_un un_neg pe_int)
  refine wpAny_Slice (thn (po_none.run pins s1 σ H1 (fun o H2 => o = none ∧ H2 = H1) I1 ⟨rfl, rfl⟩) fun vl s2 ⟨l, H2, I2, pl, el, e2⟩ => ?_)
  subst el e2
  refine thn (po_none.run pins s2 σ H2 (fun o H3 => o = none ∧ H3 = H2) I2 ⟨rfl, rfl⟩) fun vu s3 ⟨u, H3, I3, pu, eu, e3⟩ => ?_
  subst eu e3
  refine thn (hst.run pins s3 σ H3 (fun o H4 => o = some (-1) ∧ H4 = H3) I3 ⟨1, rfl, -1, rfl, rfl, rfl⟩) fun vs s4 ⟨o, H4, I4, ps, eo, e4⟩ => ?_
  subst eo e4
  have I5 : Inv X pins σ H4 { s4 with heap := s4.heap.push { cls := .type "slice", data := .fields #[vl, vu, vs] } } := I4.kept (t' := s4.toks) fun b ob q => Heap.get?_push_of_some _ q
  rcases q1 with ⟨z, ex, hz, q⟩ | ⟨a, xs, ex, hx, q⟩
  · subst ex
    obtain ⟨t, rfl⟩ := r1
    cases pl
    cases pu
    cases ps with
    | int _ tk =>
      show wpAny (model X.prog X.w) X.A (subscriptTail e (.Slice none none (some (.UnaryOp .USub (.Constant (.int 1) k p1) p2)) p3) (.str z t) (.ref s4.heap.objs.size)) (EP X pins σ Q) X.xe { s4 with heap := s4.heap.push { cls := .type "slice", data := .fields #[.none, .none, .int (-1) tk] } }
      refine tail_any (ops := [.str z t, .ref s4.heap.objs.size]) (typeIs_str _ _ _) (PySem.F.slot_str_getitem.lookup) ?_ (by with_unfolding_all rfl)
      refine wpAny_getItem_str_slice (l := none) (u := none) (st := some (-1, tk)) ⟨_, Heap.get?_push_size _ rfl, rfl, rfl⟩ rfl ?_
      have hp : (slicePicked z none none (some (-1, tk))).filterMap (z.cps[·]?) = z.cps.toList.reverse := by
        unfold slicePicked Builtin.Str.strSliceIndices
        show (sliceRange ((z.length : Int) - 1) (-1) (-1)).filterMap (z.cps[·]?) = _
        rw [PySem.W.krv_sliceRange, PySem.W.krv_range, List.filterMap_reverse]
        show ((List.range z.cps.size).filterMap (z.cps[·]?)).reverse = _
        rw [PySem.W.krv_all]
      show Made.post (if ((-1 : Int) == 1 && (slicePicked z none none (some (-1, tk))).length == z.length) = true then Made.val (.str z t) else Made.str ⟨((slicePicked z none none (some (-1, tk))).filterMap (z.cps[·]?)).toArray⟩) (EP X pins σ Q) _
      rw [if_neg (by simp), hp]
      refine ⟨?_, .str _, H4, I5.tok _, ⟨_, rfl⟩, q⟩
      show z.cps.toList.reverse.toArray.size ≤ sizeLine
      rw [List.size_toArray, List.length_reverse, Array.length_toList]
      exact hz
  · subst ex
    cases r1
    obtain ⟨its, r, ht, hz⟩ := I5.tuple hx
    have hlen := r.length
    show wpAny (model X.prog X.w) X.A (subscriptTail e (.Slice none none (some (.UnaryOp .USub (.Constant (.int 1) k p1) p2)) p3) (.ref a) (.ref s4.heap.objs.size)) (EP X pins σ Q) X.xe { s4 with heap := s4.heap.push { cls := .type "slice", data := .fields #[vl, vu, vs] } }
    refine tail_any (ops := [.ref a, .ref s4.heap.objs.size]) ht.typeIs (PyProof.Rows.slot_tuple_getitem.lookup) ?_ (by with_unfolding_all rfl)
    refine RevX.getItem_rev ht (Heap.IsSliceOf.new _ vl vu vs) pl pu ps ?_ (by rw [List.size_toArray]; omega)
    exact laidX I5 (by rw [List.length_reverse]; exact hz) r.reverse q s4.toks
def pRevA : D → Option D
  | .str s => if s.length ≤ 1000000 then some (.str s.reverse) else none
  | .tup ds => some (.tup ds.reverse)
  | _ => none
theorem de_revA (he : DE cl X e me) : DE cl X (.Subscript e (.Slice none none (some (.UnaryOp .USub (.Constant (.int 1) k p1) p2)) p3) pos) (eOp1 pRevA me) := fun W tk =>
  pe_imp (pe_revA (he W tk)) fun σ H Q ⟨gh, F, φ, ρ, S, rp, p⟩ => by
    refine (tG_bind (R := rV X.K) rp p).imp fun v H1 ⟨x, S1, F1, φ1, x1, r1, q1, p1⟩ => ?_
    refine op1_ok (X := X) (g := pRevA) (r := fun v H Q => (∃ z : Str, v = .str z ∧ z.length ≤ sizeLine ∧ Q (.str ⟨z.cps.toList.reverse.toArray⟩) H) ∨ (∃ a xs, v = .ref a ∧ SqT X.K H a xs ∧ FreshT xs.reverse H Q)) ?_ r1 q1 p1
    intro F H d c x Q le rx h q
    cases rx with
    | @str s hs =>
      simp only [pRevA] at h
      split at h
      · rename_i hl
        cases h
        refine .inl ⟨toStr s, rfl, by rw [toStr_len]; exact line_of hl, ?_⟩
        have e : (⟨(toStr s).cps.toList.reverse.toArray⟩ : Str) = toStr s.reverse := by simp [toStr]
        rw [e]
        exact q F H _ (.refl le) (.str fun c hc => hs c (List.mem_reverse.mp hc))
      · cases h
    | @tup a ds vs hs rs =>
      cases h
      refine .inr ⟨a, vs, rfl, (hs.same le).sq, fun p ob hp hd => ?_⟩
      have g := Grow.new le (.frz ob (.tup vs.reverse)) hp
      exact q _ _ _ g (.tup (.new hd) (rs.reverse.mono (.of g.s)))
    | _ => cases h
/-- sum of a tuple -/
theorem cr_sumT (hc : X.calm = true) : CallR X (.builtin "sum") (fun vs H Q => ∃ (a : Addr) (ns : List Int), vs = [V.ref a] ∧ SqT X.K H a (ns.map V.int) ∧ Q (.int ns.sum) H) := by
  intro pins s σ H vs us Q I r h
  obtain ⟨a, ns, rfl, hs, q⟩ := h
  obtain ⟨its, rv, ht, _⟩ := I.tuple hs
  rw [Vals.ref1 r]
  obtain ⟨o, ho, hcl, n, hd⟩ := id ht
  have hl : s.heap.IsTuple a its.toArray := ⟨o, ho, hcl, n, hd⟩
  obtain ⟨xs, hx⟩ := rv.ints.allInts.items
  have hn : numsOf its.toArray.toList = ns := rv.ints.numsOf
  rw [hx] at hl hn
  rw [nums_intItems] at hn
  refine PySem.W.ktm_sumG (I.ok.hd hc) hl fun h' tk t' hk => ?_
  rw [preSum_eq, List.take_of_length_le (by simp), hn]
  exact ⟨.int _, H, I.kept hk, ⟨_, rfl⟩, q⟩
def pSumT : D → Option D
  | .tup ds => (intsOf ds).map fun bs => .int bs.sum
  | _ => none
theorem gSumT : GivesN X.K (fun vs H Q => ∃ (a : Addr) (ns : List Int), vs = [V.ref a] ∧ SqT X.K H a (ns.map V.int) ∧ Q (.int ns.sum) H) (pOne pSumT) := gives_one fun F H d c x Q le r h q => by
    cases r with
    | @tup a es vs hs rs =>
      simp only [pSumT] at h
      cases hb : intsOf es with
      | none =>
        rw [hb] at h
        cases h
      | some bs =>
        rw [hb] at h
        cases h
        have ev := rvs_ints rs hb
        subst ev
        exact ⟨a, bs, rfl, (hs.same le).sq, q F H _ (.refl le) (.int _)⟩
    | _ => cases h
end
end DL

namespace DL
open PySem PySem.Spec PyProof.Rows L2
section
variable {X : Cx}
/-- a method of an exact tuple -/
def tXM (K : PySem.W.Frag) (r : V → List V → Hp → VK → Prop) (to : TE) (t : TA) : TE := fun σ H Q => to σ H fun x H1 => (∃ a vs, x = .ref a ∧ XTup H1 a vs) ∧ t σ H1 fun xs H2 => r x xs H2 Q
theorem pe_xm {o e : Expr} {es : List Expr} {to : TE} {t : TA} {name : Str} {apos cpos : Pos} {id : String} {r : V → List V → Hp → VK → Prop} (slot : Slot "tuple" name id) (hty : typeOf (.builtin id) = pure (.type "method_descriptor")) (hm : MtR X id r) (ho : PE X o to) (ha : PA X (e :: es) t)
    (hbase : attributeBase o name X.env (eval o X.env) = eval o X.env := by rfl)
    (hfew : ((backTo cpos (starEach (e :: es) X.env)).all (fun x => !x.1) && (backToKw cpos (keywordEach [] X.env)).all (fun x => x.1.isSome)
      && decide ((e :: es).length + ([] : List Keyword).length + (if ([] : List Keyword).isEmpty then 0 else 1) < 30)) = true := by rfl)
    (hline : (apos.endLine == cpos.line) = true := by rfl) (hs : starEach (e :: es) X.env = (false, eval e X.env) :: starEach es X.env := by rfl) (hplain : (backTo cpos (starEach es X.env)).any (·.1) = false := by rfl) :
    PE X (.Call (.Attribute o name apos) (e :: es) [] cpos) (tXM X.K r to t) := by
  refine ⟨fun pins s σ H Q I h => ?_⟩
  refine wpAny_Call_method_late hbase hfew hline rfl (thn (ho.run pins s σ H _ I h) fun v s1 ⟨x, H1, I1, r1, ⟨a, vs0, hx, ob, he, hd⟩, q1⟩ => ?_)
  subst hx
  cases r1
  obtain ⟨hget, ho2⟩ := (show s1.heap.get? a = some ob ∧ ObjOk X.prog X.w H1 s1.heap a (.tup vs0) from I1.hok a _ he)
  refine ⟨"tuple", id, PySem.F.plainAttrs_tuple, slot, hty, ?_, fun b e => by cases e; exact ⟨ob, hget, hd⟩, ?_⟩
  · obtain ⟨_, its, _, o2, hg2, hc2, _⟩ := ho2
    rw [hget] at hg2
    cases hg2
    exact ⟨ob, hget, hc2⟩
  have hA := ha.run cpos pins s1 σ H1 _ I1 q1
  rw [hs] at hA ⊢
  refine Calls.callWith_builtin (by show (false || (backTo cpos (starEach es X.env)).any (·.1)) = false; rw [hplain] <;> rfl) (Calls.evalArgs_plain ?_)
  exact thn hA fun us s2 ⟨vs, H2, I2, r2, q2⟩ => hm pins s2 σ H2 (.ref a) vs (.ref a) us Q I2 rfl r2 q2
def rIndexT (K : PySem.W.Frag) : V → List V → Hp → VK → Prop := fun x xs H Q => ∃ (a : Addr) (y : V) (d : PyData) (ds : List PyData) (j : Nat) (z : PyData), x = V.ref a ∧ xs = [y] ∧ Dp K H (V.ref a) (.tuple ds) ∧ Dp K H y d ∧
  SeqAt.shaped (.tuple ds) = true ∧ SeqAt.shaped d = true ∧ ds[j]? = some z ∧ PyData.eqv z d = true ∧ (∀ (m : Nat) (z' : PyData), m < j → ds[m]? = some z' → PyData.eqv z' d = false) ∧ Q (.int (j : Nat)) H
theorem mt_indexT (hu : X.A.units + 65 < cLine) : MtR X "tuple.index" (rIndexT X.K) := by
  intro pins s σ H x xs v us Q I rx rxs h
  obtain ⟨a, y, d, ds, j, z, rfl, rfl, hl, hy, sl, sd, hz, hzj, hno, q⟩ := h
  cases rx
  obtain ⟨uy, rfl, ry⟩ := rxs.one
  obtain ⟨bs, r1⟩ := Dp.reads I d y uy hy ry
  have hxs : PyData.canLayAll0 ds = true := SeqAt.canLay_of_shaped sl
  have hroom : X.A.units + 1 + min (PyData.depthAll ds) d.depth < cLine := room_in_shaped sd hu
  cases hl with
  | tup hs ha =>
    obtain ⟨its, rv, ⟨⟨cls, dd, data, sls⟩, ho, hc, n, hdt⟩, hlen⟩ := I.tuple hs
    simp only at hc hdt
    subst hc hdt
    obtain ⟨as, h4⟩ := Dp.readsAll I ds _ its ha rv
    have hn : its.length = ds.length := SeqAt.ReadsAll.length ds its as h4
    have hmap : its.map (SeqAt.readOf s.heap) = ds := SeqAt.readsAll_map ds its as hxs h4
    obtain ⟨hjd, _⟩ := List.getElem?_eq_some_iff.mp hz
    have hjl : j < its.length := by omega
    have hj : j < its.toArray.size := by simpa using hjl
    have at_ : ∀ (m : Nat) (hm : m < its.toArray.size) (z' : PyData), ds[m]? = some z' → SeqAt.readOf s.heap its.toArray[m] = z' := by
      intro m hm z' hz'
      have hml : m < its.length := by simpa using hm
      rw [← hmap, List.getElem?_map, List.getElem?_eq_getElem hml] at hz'
      have e1 : SeqAt.readOf s.heap its[m] = z' := Option.some.inj (show some (SeqAt.readOf s.heap its[m]) = some z' from hz')
      simpa using e1
    refine call_meets PySem.F.slot_tuple_index ⟨_, ho, rfl⟩ PySem.F.entry_tuple_index (PySem.F.args_tuple_index_2 _ _)
      (TI.tuple_indexAt a its.toArray n dd sls uy (fun u => PyData.eqv (SeqAt.readOf s.heap u) d) j hj ?_ ?_) ⟨ho, SeqAt.items_eqAt (vs := its.toArray) (show ReadsAll s.heap its.toArray.toList ds as from h4) r1 hxs (SeqAt.canLay_of_shaped sd) hroom, ?_⟩
    · show PyData.eqv (SeqAt.readOf s.heap its.toArray[j]) d = true
      rw [at_ j hj z hz]
      exact hzj
    · intro m hm hmj
      have hmd : m < ds.length := by omega
      have hz' : ds[m]? = some ds[m] := List.getElem?_eq_getElem hmd
      show PyData.eqv (SeqAt.readOf s.heap its.toArray[m]) d = false
      rw [at_ m hm _ hz']
      exact hno m _ hmj hz'
    · exact ⟨.int (j : Nat), H, I.tok _, ⟨_, rfl⟩, q⟩
def pIndexT : D → List D → Option D
  | .tup ds, [d] => if sh 9 (.tup ds) = true ∧ sh 9 d = true then (ds.findIdx? (eqD · d)).map fun k => .int (k : Nat) else none
  | _, _ => none
theorem gIndexT {K : PySem.W.Frag} : GivesM K "tuple" (rIndexT K) pIndexT := by
  intro F H d c ds x xs Q le rx rs h q
  unfold pIndexT at h
  split at h
  · rename_i es e
    split at h
    · rename_i hs
      cases hf : es.findIdx? (eqD · e) with
      | none =>
        rw [hf] at h
        cases h
      | some j =>
        rw [hf] at h
        cases h
        obtain ⟨y, rfl, r1⟩ := rs.one
        obtain ⟨a1, a2⟩ := (rx.rv (.of le) (sh_ndct hs.1)).shaped hs.1
        obtain ⟨b1, b2⟩ := (r1.rv (.of le) (sh_ndct hs.2)).shaped hs.2
        obtain ⟨hj, e1, e2⟩ := List.findIdx?_eq_some_iff_getElem.mp hf
        cases rx with
        | @tup a _ vs ha re =>
          refine ⟨a, y, toPy e, toPys es, j, toPy es[j], rfl, rfl, a1, b1, a2, b2, ?_, e1, fun m z' hm hz => ?_, q F H _ (.refl le) (.int _)⟩
          · rw [toPys_map, List.getElem?_map, List.getElem?_eq_getElem hj]
            rfl
          · rw [toPys_map, List.getElem?_map, List.getElem?_eq_getElem (Nat.lt_trans hm hj)] at hz
            cases hz
            have := e2 m hm
            simpa [eqD] using this
    · cases h
  · cases h
def isTupD : D → Bool
  | .tup _ => true
  | _ => false
theorem isTupD_ok {K : PySem.W.Frag} {F H : Hp} {d : D} {x : V} (rx : RT K F H d x) (le : Same F H) (h : isTupD d = true) : ∃ a vs, x = .ref a ∧ XTup H a vs := by
  cases rx with
  | tup hs rs => exact ⟨_, _, rfl, hs.same le⟩
  | _ => cases h
end
section
variable {cl : Nat → Addr} {X : Cx} {o e : Expr} {es : List Expr} {mo : EM} {ms : AM} {apos cpos : Pos}
def eMethT (g : D → List D → Option D) (mo : EM) (ms : AM) : EM := fun ρ S => (mo ρ S).bind fun x S1 => match deref S1 x with
  | some d0 => if isTupD d0 = true then (ms ρ S1).bind fun xs S2 => (match deref S2 x, derefs S2 xs with
      | some d, some ds => (match g d ds with
        | some c => .ok (.dat c) S2
        | none => .bad)
      | _, _ => .bad) else .bad
  | none => .bad
theorem de_methT {id : String} {name : Str} {r : V → List V → Hp → VK → Prop} {g : D → List D → Option D} (slot : Slot "tuple" name id) (hty : typeOf (.builtin id) = pure (.type "method_descriptor")) (hm : MtR X id r) (gv : GivesM X.K "tuple" r g)
    (ho : DE cl X o mo) (ha : DAs cl X (e :: es) ms) (hbase : attributeBase o name X.env (eval o X.env) = eval o X.env := by rfl)
    (hfew : ((backTo cpos (starEach (e :: es) X.env)).all (fun x => !x.1) && (backToKw cpos (keywordEach [] X.env)).all (fun x => x.1.isSome)
      && decide ((e :: es).length + ([] : List Keyword).length + (if ([] : List Keyword).isEmpty then 0 else 1) < 30)) = true := by rfl)
    (hline : (apos.endLine == cpos.line) = true := by rfl) (hs : starEach (e :: es) X.env = (false, eval e X.env) :: starEach es X.env := by rfl) (hplain : (backTo cpos (starEach es X.env)).any (·.1) = false := by rfl) :
    DE cl X (.Call (.Attribute o name apos) (e :: es) [] cpos) (eMethT g mo ms) := fun W tk =>
  pe_imp (pe_xm slot hty hm (ho W tk) (ha W tk) hbase hfew hline hs hplain) fun σ H Q ⟨gh, F, φ, ρ, S, rp, p⟩ => by
    refine (tG_bind (R := rV X.K) rp p).imp fun v H1 ⟨x, S1, F1, φ1, x1, r1, q1, p1⟩ => ?_
    split at p1
    · rename_i d0 hd0
      split at p1
      · rename_i ht
        refine ⟨isTupD_ok (deref_ok r1.b q1 hd0) r1.b.le ht, (tG_bind (R := rVs X.K) r1 p1).imp fun vs H2 ⟨xs, S2, F2, φ2, x2, r2, q2, p2⟩ => ?_⟩
        split at p2
        · rename_i d ds hd hds
          split at p2
          · rename_i c hc
            exact gv F2 H2 d c ds v vs Q r2.b.le (deref_ok r2.b (x2.rv q1) hd) (derefs_ok r2.b q2 hds) hc fun F' H' w gr rw' => p2 w F' φ2 H' (gr.ext φ2) (r2.grow gr) (.dat rw')
          · exact p2.elim
        · exact p2.elim
      · exact p1.elim
    · exact p1.elim
end
end DL

namespace DL
open PySem PySem.Spec PyProof.Rows L2
section
variable {X : Cx}
def rLens (b : Bool) (K : PySem.W.Frag) : R2 := fun x y H Q => ∃ a c xs ys, x = .ref a ∧ y = .ref c ∧ SqL K H a xs ∧ SqL K H c ys ∧ xs.length ≠ ys.length ∧ Q (.bl b) H
theorem op_neLen (hu : X.A.units < cLine) : OpR X (compareOp .NotEq) (rLens true X.K) := by
  intro pins s σ H x y v u Q I rx ry h
  obtain ⟨a, c, xs, ys, rfl, rfl, h1, h2, hne, q⟩ := h
  cases (show v = Value.ref a from rx)
  cases (show u = Value.ref c from ry)
  obtain ⟨its, r1, p1, _⟩ := I.list h1
  obtain ⟨jts, r2, p2, _⟩ := I.list h2
  have e1 := r1.length
  have e2 := r2.length
  refine SeqAt.RcNeAt.lists_lengths (items := its.toArray) (items2 := jts.toArray) ?_ ?_ ?_ hu _ _ _ _ ⟨.bl true, H, I, rfl, q⟩
  · obtain ⟨o, n, g1, g2, _, g3⟩ := p1
    exact ⟨o, g1, g2, n, g3⟩
  · obtain ⟨o, n, g1, g2, _, g3⟩ := p2
    exact ⟨o, g1, g2, n, g3⟩
  · simp
    omega
theorem op_eqLen (hu : X.A.units < cLine) : OpR X (compareOp .Eq) (rLens false X.K) := by
  intro pins s σ H x y v u Q I rx ry h
  obtain ⟨a, c, xs, ys, rfl, rfl, h1, h2, hne, q⟩ := h
  cases (show v = Value.ref a from rx)
  cases (show u = Value.ref c from ry)
  obtain ⟨its, r1, p1, _⟩ := I.list h1
  obtain ⟨jts, r2, p2, _⟩ := I.list h2
  have e1 := r1.length
  have e2 := r2.length
  refine SeqAt.eq_list_lengthsAt (items := its.toArray) (items2 := jts.toArray) ?_ ?_ ?_ hu ⟨.bl false, H, I, rfl, q⟩
  · obtain ⟨o, n, g1, g2, _, g3⟩ := p1
    exact ⟨o, g1, g2, n, g3⟩
  · obtain ⟨o, n, g1, g2, _, g3⟩ := p2
    exact ⟨o, g1, g2, n, g3⟩
  · simp
    omega
theorem op_neL (hu : X.A.units + 64 < cLine) : OpR X (compareOp .NotEq) (fun x y H Q => rNeD X.K x y H Q ∨ rLens true X.K x y H Q) := (op_neD hu).or (op_neLen (by omega))
def pNeL : D → D → Option D
  | .lst xs, .lst ys => if xs.length = ys.length then pNe (.lst xs) (.lst ys) else some (.bl true)
  | _, _ => none
theorem gNeL : Gives2 X.K (fun x y H Q => rNeD X.K x y H Q ∨ rLens true X.K x y H Q) pNeL := by
  intro F H d e c x y Q le rx ry h q
  cases rx with
  | @lst a ds vs hs rs =>
    cases ry with
    | @lst a2 ds2 vs2 hs2 rs2 =>
      have h' : (if ds.length = ds2.length then pNe (.lst ds) (.lst ds2) else some (.bl true)) = some c := h
      by_cases hl : ds.length = ds2.length
      · rw [if_pos hl] at h'
        exact .inl (gNe F H _ _ c _ _ Q le (.lst hs rs) (.lst hs2 rs2) h' q)
      · rw [if_neg hl] at h'
        cases h'
        refine .inr ⟨a, a2, vs, vs2, rfl, rfl, .inl (.inl hs), .inl (.inl hs2), ?_, q F H _ (.refl le) (.bl true)⟩
        have e1 := rs.len
        have e2 := rs2.len
        omega
    | _ => cases h
  | _ => cases h
end
end DL

namespace SI
open PySem PySem.W PySem.Calls PyProof.Rows PyProof.V PySem.Spec
section
variable {prog : Program} {w : World} {A : Around} {E : Value → Shared → Prop} {s : Shared}
/-- v is a pair: the text y, the int i -/
def PairIn (h : Heap) (v : Value) (y : Str) (i : Int) : Prop := ∃ (a : Addr) (t u : Tok), v = .ref a ∧ IsTup h a #[.str y t, .int i u]
def keyTx (h : Heap) (v : Value) : Str := DT.txOf (DT.seqAt0 h (DT.refOf (some v)))
theorem PairIn.tx {h : Heap} {v : Value} {y : Str} {i : Int} (x : PairIn h v y i) : keyTx h v = y := by
  obtain ⟨a, t, u, rfl, h1⟩ := x
  show DT.txOf (DT.seqAt0 h a) = y
  rw [DT.seqAt0_of h1]
  rfl
theorem firsts_of {h : Heap} : ∀ vs : List Value, (∀ v ∈ vs, ∃ y i, PairIn h v y i) → ∃ fs : List Value, KatTups h vs fs ∧ fs.length = vs.length ∧ ∀ f ∈ fs, ∃ (y : Str) (t : Tok), f = Value.str y t
  | [], _ => ⟨[], KatTups.nil, rfl, fun f hf => by simp at hf⟩
  | v :: vs, x => by
    obtain ⟨fs, k, hl, hi⟩ := firsts_of vs fun u hu => x u (List.mem_cons_of_mem _ hu)
    obtain ⟨y, i, a, t, u, rfl, ⟨o, ho, hc, n, hd⟩⟩ := x v (List.mem_cons_self ..)
    refine ⟨.str y t :: fs, KatTups.cons ho hc hd rfl k, by rw [List.length_cons, List.length_cons, hl], fun f hf => ?_⟩
    rcases List.mem_cons.mp hf with rfl | hf
    · exact ⟨y, t, rfl⟩
    · exact hi f hf
theorem kind_si {vs : List Value} {ρ : Str → Int} (h2 : 2 ≤ vs.length) (x : ∀ v ∈ vs, ∃ y i, PairIn s.heap v y i)
    (hρ : ∀ v ∈ vs, ∀ u ∈ vs, decide ((keyTx s.heap v).cps.toList < (keyTx s.heap u).cps.toList) = decide (ρ (keyTx s.heap v) < ρ (keyTx s.heap u)))
    (hd : ∀ v ∈ vs, ∀ u ∈ vs, keyTx s.heap v = keyTx s.heap u → v = u) (Q : SortKind → Shared → Prop)
    (h : ∀ κ, TS.Cmp prog w A s κ (pairsOf vs) (fun v => ρ (keyTx s.heap v)) → Q κ s) : wpAny (model prog w) A (keyKind' vs.toArray) Q E s := by
  obtain ⟨fs, k, hl, hi⟩ := firsts_of vs x
  refine kat_kind (T := Value.type "str") k (by omega) (fun f hf => ?_) rfl (h _ ?_)
  · obtain ⟨y, t, rfl⟩ := hi f hf
    exact PySem.W.Looks.of_pure rfl
  · intro p q hp hq Q' E' hQ
    rw [pairsOf_toList] at hp hq
    have mp := (mem_zip_self hp).2
    have mq := (mem_zip_self hq).2
    obtain ⟨y, i, py⟩ := x _ mp
    obtain ⟨z, j, pz⟩ := x _ mq
    have hr := hρ _ mp _ mq
    have hdd := hd _ mp _ mq
    have hQ' : Q' (decide (y.cps.toList < z.cps.toList)) s := by
      rw [py.tx, pz.tx] at hr
      rw [hr]
      have hQ2 : Q' (decide (ρ (keyTx s.heap p.1) < ρ (keyTx s.heap q.1))) s := hQ
      rw [py.tx, pz.tx] at hQ2
      exact hQ2
    rw [py.tx, pz.tx] at hdd
    obtain ⟨a, t, u, e1, ⟨o, ho, hc, n, hdt⟩⟩ := py
    obtain ⟨a', t', u', e2, ⟨o', ho', hc', n', hdt'⟩⟩ := pz
    have hb : (Value.type "str" != Value.type "tuple") = true := by decide
    rw [e1, e2, hb]
    refine kat_lt ho hdt ho' hdt' ?_
    show KatLex prog w A true false Q' [(Value.str y t, Value.str z t'), (Value.int i u, Value.int j u')] 0 s
    by_cases e : y = z
    · have irr : decide (y.cps.toList < z.cps.toList) = false := by
        rw [e]
        first | exact decide_eq_false (List.lt_irrefl _) | simp
      rw [irr] at hQ'
      have ev := hdd e
      rw [e1, e2] at ev
      have ea : a = a' := by injection ev
      subst ea
      have eo : o = o' := Option.some.inj (ho.symm.trans ho')
      subst eo
      rw [hdt] at hdt'
      injection hdt' with h3 _
      have h4 : [Value.str y t, Value.int i u] = [Value.str z t', Value.int j u'] := congrArg Array.toList h3
      injection h4 with _ h5
      injection h5 with h6 _
      refine kat_cons (SeqAt.EqAt.str_str (A := A) (s := s) y t z t' prog w _ _ ?_)
      refine kat_go (fun _ => ?_) (fun e0 => absurd e0 (by rw [e]; simp))
      rw [h6]
      refine kat_yes (kat_cons (SeqAt.EqAt.same (Value.int j u') prog w _ _ ?_))
      refine kat_go (fun _ => ?_) (fun e0 => by cases e0)
      exact kat_yes (kat_nil hQ')
    · refine kat_cons (SeqAt.EqAt.str_str (A := A) (s := s) y t z t' prog w _ _ ?_)
      refine kat_go (fun e0 => ?_) (fun _ => ?_)
      · exact absurd (by simpa using e0) e
      · refine kat_no ?_
        show wpAny _ _ (oneLt' true _ _) _ _ _
        exact oneLt_str hQ'
end
end SI
namespace DL
open PySem PySem.Spec PyProof.Rows L2
section
variable {X : Cx}
theorem pairs_at {P : Program} {w : World} {K : Type} [DecidableEq K] {knd : KeyKind P w K} : ∀ {es : List DictEntry} {kvs : List (K × Value)} {j : Nat} {e : DictEntry}, Pairs knd es kvs → es[j]? = some e → ∃ k, kvs[j]? = some (k, e.val) ∧ knd.is k e.key = true
  | _, _, j, e, .nil, h => by simp at h
  | _, _, 0, e, .cons (kv := kv) hk hv t, h => by
    simp only [List.getElem?_cons_zero] at h
    cases h
    exact ⟨kv.1, by rw [hv]; rfl, hk⟩
  | _, _, j + 1, e, .cons hk hv t, h => by
    simp only [List.getElem?_cons_succ] at h
    obtain ⟨k, h1, h2⟩ := pairs_at (j := j) t h
    exact ⟨k, by rw [List.getElem?_cons_succ]; exact h1, h2⟩
theorem pairs_len {P : Program} {w : World} {K : Type} [DecidableEq K] {knd : KeyKind P w K} : ∀ {es : List DictEntry} {kvs : List (K × Value)}, Pairs knd es kvs → es.length = kvs.length
  | _, _, .nil => rfl
  | _, _, .cons _ _ t => by rw [List.length_cons, List.length_cons, pairs_len t]
def tItems (K : PySem.W.Frag) (te : TE) : TE := fun σ H Q => te σ H fun x H1 => ∃ a kvs, x = .ref a ∧ Rd H1 a (.dK kvs) ∧ ∀ p, H1 p = none → Q (.ref p) (upd H1 p (DX.itemsO p a))
theorem pe_items {o : Expr} {to : TE} {apos cpos : Pos} (ho : PE X o to) (hbase : attributeBase o "items" X.env (eval o X.env) = eval o X.env := by rfl) (hline : (apos.endLine == cpos.line) = true := by rfl) : PE X (.Call (.Attribute o "items" apos) [] [] cpos) (tItems X.K to) := by
  refine ⟨fun pins s σ H Q I h => ?_⟩
  refine wpAny_Call_method0_late hbase hline (thn (ho.run pins s σ H _ I h) fun v s1 ⟨x, H1, I1, r1, a, kvs, e, hd, q1⟩ => ?_)
  subst e
  cases r1
  obtain ⟨z, lo, vs, rel, ob, es, ep, hob, hex, hdat, hko, hpr, hnd⟩ := dk_rd I1.hok hd
  refine ⟨"dict", "dict.items", PySem.F.plainAttrs_dict, PySem.F.slot_dict_items, PySem.F.type_dict_items, ⟨ob, hob, hex.1⟩, fun b hb => ?_, Calls.callWith_builtin rfl (PySem.evalArgs_none ?_)⟩
  · cases hb
    exact ⟨ob, hob, hex.2.1⟩
  · refine DT.callItems (es := es) (ep := ep) lo ⟨ob, hob, hex, hdat⟩ ?_
    have hf : H1 s1.heap.objs.size = none := I1.hok.fresh (Nat.le_refl _)
    exact ⟨.ref s1.heap.objs.size, upd H1 s1.heap.objs.size (DX.itemsO s1.heap.objs.size a), I1.laid (t' := s1.toks) (fun b u e => Heap.get?_push_of_some _ e) (Nat.le_refl _) (DX.itemsO_ok (Heap.get?_push_size _ rfl)), rfl, q1 _ hf⟩
abbrev entI (e : Str × Int) : Key × V := (Sum.inr e.1, V.int e.2)
/-- keys are texts, values ints (ρ: the texts' rank) -/
def rSortI : List V → Hp → VK → Prop := fun vs H Q => ∃ (p a : Addr) (ks : List (Str × Int)) (ρ : Str → Int), vs = [.ref p] ∧ H p = some (DX.itemsO p a) ∧ Rd H a (.dK (ks.map entI)) ∧ ks.length < 64 ∧
  (∀ e ∈ ks, ∀ f ∈ ks, decide (e.1.cps.toList < f.1.cps.toList) = decide (ρ e.1 < ρ f.1)) ∧
  ∀ (H' : Hp) (l : Addr) (ps : List (Addr × Str × Int)), (∀ b o, H b = some o → H' b = some o) → (ps.map (·.2)).Perm ks → (ps.map (·.2)).Pairwise (fun e f => ρ e.1 ≤ ρ f.1) → H l = none → H' l = some (.lst (ps.map fun z => V.ref z.1)) →
    (∀ z ∈ ps, H z.1 = none ∧ H' z.1 = some (.tup [.str z.2.1, .int z.2.2])) → Q (.ref l) H'
theorem cr_sortedI (hc : X.calm = true) : CallR X (.builtin "sorted") rSortI := by
  intro pins s σ H xs us Q I r h
  obtain ⟨p, a, ks, ρ, rfl, hp, ha, h64, hρ, q⟩ := h
  obtain rfl := Vals.ref1 r
  have view : s.heap.IsItemsView p a := (show ObjOk X.prog X.w H s.heap p (DX.itemsO p a) from I.hok p _ hp).1
  obtain ⟨z, hd, xs', rel, o, es, ep, ho, hx, hdat, hko, hes, hnd⟩ := dk_rd I.hok ha
  have l1 : (ks.map entI).length = xs'.length := Paired.length rel
  rw [List.length_map] at l1
  have l2 : es.size = xs'.length := by rw [← Array.length_toList]; exact pairs_len hes
  have hh : X.A.handled = none := I.ok.hd hc
  refine DT.sortedI (es := es) (ep := ep) hh view ⟨o, ho, hx, hdat⟩ (by rw [sizeLine_eq]; omega) fun h' tk as hk hlt hl hG => ?_
  have lak : as.length = ks.length := by omega
  have nd : as.Nodup := List.Pairwise.imp (fun h => Nat.ne_of_lt h) hG.rise
  have kn : (ks.map (·.1)).Nodup := by
    have e1 : xs'.map (·.1) = (ks.map (·.1)).map Sum.inr := by
      have := KV.keys rel
      rw [← this, List.map_map, List.map_map]
      rfl
    rw [e1] at hnd
    exact List.Pairwise.of_map Sum.inr (fun x y h e => h (by rw [e])) hnd
  have pr : ∀ (j : Nat) (b : Addr), as[j]? = some b → ∃ (e : Str × Int) (t u : Tok), ks[j]? = some e ∧ h'.get? b = some { cls := .type "tuple", data := .seq #[Value.str e.1 t, Value.int e.2 u] } := by
    intro j b hj
    obtain ⟨en, he, hg⟩ := hG.pairs j b hj
    obtain ⟨k, hxj, hkey⟩ := pairs_at hes (by rw [Array.getElem?_toList]; exact he)
    obtain ⟨e0, he0, r1, r2⟩ := DX.pget rel hxj
    rw [List.getElem?_map] at he0
    cases hkj : ks[j]? with
    | none =>
      rw [hkj] at he0
      cases he0
    | some e =>
      rw [hkj] at he0
      have ee : entI e = e0 := Option.some.inj he0
      rw [← ee] at r1 r2
      have r1' : Sum.inr e.1 = k := r1
      have r2' : RelV (V.int e.2) en.val := r2
      obtain ⟨u, eu⟩ := r2'
      subst r1'
      obtain ⟨t, et⟩ := Value.isStrOf_shape (x := e.1) (v := en.key) hkey
      refine ⟨e, t, u, rfl, ?_⟩
      rw [hg, et, eu]
  have hob : (h'.push { cls := .type "list", data := .seq (as.map Value.ref).toArray }).get? h'.objs.size = some (seqObj "list" (as.map Value.ref).toArray 0) := Heap.get?_push_size _ rfl
  have kb : ∀ b o, s.heap.get? b = some o → (h'.push { cls := .type "list", data := .seq (as.map Value.ref).toArray }).get? b = some o := fun b o e => Heap.get?_push_of_some _ (hk b o e)
  have ne0 : ∀ b o, h'.get? b = some o → b ≠ h'.objs.size := fun b o e => Nat.ne_of_lt (Heap.lt_size e)
  generalize hh2 : h'.push { cls := .type "list", data := .seq (as.map Value.ref).toArray } = h2 at hob kb ⊢
  have ka : ∀ b o, h'.get? b = some o → h2.get? b = some o := fun b o e => by rw [← hh2]; exact Heap.get?_push_of_some _ e
  have pin : ∀ (j : Nat) (b : Addr), as[j]? = some b → ∃ e : Str × Int, ks[j]? = some e ∧ SI.PairIn (TS.midHeap h2 h'.objs.size (as.map Value.ref)) (.ref b) e.1 e.2 := by
    intro j b hj
    obtain ⟨e, t, u, he, hg⟩ := pr j b hj
    exact ⟨e, he, b, t, u, rfl, ⟨_, TS.midHeap_old (ne0 _ _ hg) (ka _ _ hg), rfl, 0, rfl⟩⟩
  have tx : ∀ (j : Nat) (b : Addr) (e : Str × Int), as[j]? = some b → ks[j]? = some e → SI.keyTx (TS.midHeap h2 h'.objs.size (as.map Value.ref)) (.ref b) = e.1 := by
    intro j b e hj he
    obtain ⟨e', he', hp'⟩ := pin j b hj
    have ee : e' = e := Option.some.inj (he'.symm.trans he)
    rw [← ee]
    exact hp'.tx
  have at_ : ∀ v ∈ as.map Value.ref, ∃ (j : Nat) (b : Addr) (e : Str × Int), v = .ref b ∧ as[j]? = some b ∧ ks[j]? = some e := by
    intro v hv'
    obtain ⟨b, hb, rfl⟩ := List.mem_map.mp hv'
    obtain ⟨j, hj⟩ := List.mem_iff_getElem?.mp hb
    obtain ⟨e, _, _, he, _⟩ := pr j b hj
    exact ⟨j, b, e, rfl, hj, he⟩
  refine wpAny_call_entry PyProof.Rows.slot_list_sort ⟨_, hob, rfl⟩ PyProof.Rows.entry_list_sort
    (SK.plain_sort (s := { s with heap := h2, toks := tk }) (r := fun v => ρ (SI.keyTx (TS.midHeap h2 h'.objs.size (as.map Value.ref)) v)) hob (by rw [List.length_map]; omega) (fun h2' Qk hQk => ?_) fun ps out o1 o2 o3 => ⟨.none, rfl, ?_⟩) (PyProof.Rows.args_list_sort _)
  · refine SI.kind_si (s := { s with heap := TS.midHeap h2 h'.objs.size (as.map Value.ref), toks := tk }) (ρ := ρ) h2' (fun v hv' => ?_) (fun v hv' u hu' => ?_) (fun v hv' u hu' hvu => ?_) Qk hQk
    · obtain ⟨j, b, e, rfl, hj, he⟩ := at_ v hv'
      obtain ⟨e', _, hp'⟩ := pin j b hj
      exact ⟨e'.1, e'.2, hp'⟩
    · obtain ⟨j, b, e, rfl, hj, he⟩ := at_ v hv'
      obtain ⟨j2, b2, e2, rfl, hj2, he2⟩ := at_ u hu'
      show decide ((SI.keyTx (TS.midHeap h2 h'.objs.size (as.map Value.ref)) (.ref b)).cps.toList < (SI.keyTx (TS.midHeap h2 h'.objs.size (as.map Value.ref)) (.ref b2)).cps.toList) = decide (ρ (SI.keyTx (TS.midHeap h2 h'.objs.size (as.map Value.ref)) (.ref b)) < ρ (SI.keyTx (TS.midHeap h2 h'.objs.size (as.map Value.ref)) (.ref b2)))
      rw [tx j b e hj he, tx j2 b2 e2 hj2 he2]
      exact hρ e (List.mem_of_getElem? he) e2 (List.mem_of_getElem? he2)
    · obtain ⟨j, b, e, rfl, hj, he⟩ := at_ v hv'
      obtain ⟨j2, b2, e2, rfl, hj2, he2⟩ := at_ u hu'
      have hvu' : SI.keyTx (TS.midHeap h2 h'.objs.size (as.map Value.ref)) (.ref b) = SI.keyTx (TS.midHeap h2 h'.objs.size (as.map Value.ref)) (.ref b2) := hvu
      rw [tx j b e hj he, tx j2 b2 e2 hj2 he2] at hvu'
      have m1 : (ks.map (·.1))[j]? = some e.1 := by rw [List.getElem?_map, he]; rfl
      have m2 : (ks.map (·.1))[j2]? = some e2.1 := by rw [List.getElem?_map, he2]; rfl
      rw [← hvu'] at m2
      have jj : j = j2 := (List.getElem?_inj (List.getElem?_eq_some_iff.mp m1).1 kn).mp (m1.trans m2.symm)
      subst jj
      rw [Option.some.inj (hj.symm.trans hj2)]
  · show EP X pins σ Q (.ref h'.objs.size) { s with heap := sortedHeap h2 h'.objs.size (as.map Value.ref) out, toks := tk }
    obtain ⟨zs, pz, ez⟩ := perm_lift (fun z : Addr × Str × Int => (Value.ref z.1, Value.ref z.1)) o2 (as.zip ks) (DX.zip_self Value.ref as ks lak)
    have idx : ∀ z ∈ zs, ∃ j : Nat, as[j]? = some z.1 ∧ ks[j]? = some z.2 := by
      intro z' hz'
      obtain ⟨j, hj⟩ := List.mem_iff_getElem?.mp (pz.mem_iff.mp hz')
      exact ⟨j, List.getElem?_zip_eq_some.mp hj⟩
    have hout : out.toList = zs.map fun z => Value.ref z.1 := by
      rw [o1, ← ez, List.map_map]
      all_goals rfl
    have hperm : (zs.map (·.2)).Perm ks := by
      have e := pz.map (·.2)
      have m2 : (as.zip ks).map (·.2) = ks := List.map_snd_zip (by rw [lak]; exact Nat.le_refl _)
      rw [m2] at e
      exact e
    have hsort : (zs.map (·.2)).Pairwise (fun e f => ρ e.1 ≤ ρ f.1) := by
      rw [← ez, List.pairwise_map] at o3
      rw [List.pairwise_map]
      refine List.Pairwise.imp_of_mem (fun {x y} hx hy h => ?_) o3
      obtain ⟨j, j1, j2⟩ := idx x hx
      obtain ⟨i, i1, i2⟩ := idx y hy
      have h' : ρ (SI.keyTx (TS.midHeap h2 h'.objs.size (as.map Value.ref)) (.ref x.1)) ≤ ρ (SI.keyTx (TS.midHeap h2 h'.objs.size (as.map Value.ref)) (.ref y.1)) := h
      rw [tx j _ _ j1 j2, tx i _ _ i1 i2] at h'
      exact h'
    have kF : ∀ b o, b ≠ h'.objs.size → h2.get? b = some o → (sortedHeap h2 h'.objs.size (as.map Value.ref) out).get? b = some o := fun b o hb e => (PyProof.Rows.sortedHeap_old hb (Heap.lt_size e)).trans e
    have kS : ∀ b o, s.heap.get? b = some o → (sortedHeap h2 h'.objs.size (as.map Value.ref) out).get? b = some o := fun b o e => kF b o (ne0 _ _ (hk b o e)) (kb b o e)
    obtain ⟨eF, heF⟩ := PyProof.Rows.sortedHeap_at (vs := as.map Value.ref) (out := out) hob
    have I1 : Inv X pins σ H { s with heap := sortedHeap h2 h'.objs.size (as.map Value.ref) out, toks := tk } := I.kept (t' := tk) kS
    have hn0 : H h'.objs.size = none := I.hok.fresh (Nat.le_of_lt hlt)
    have hlen : (zs.map fun z => V.ref z.1).length ≤ sizeLine := by
      have e := hperm.length_eq
      rw [List.length_map] at e
      rw [List.length_map, sizeLine_eq]
      omega
    have rv : Vals (zs.map fun z => V.ref z.1) out.toList := by
      rw [hout]
      exact vals_maps (fun z : Addr × Str × Int => V.ref z.1) (fun z => Value.ref z.1) zs fun _ _ => rfl
    have I2 : Inv X pins σ (upd H h'.objs.size (.lst (zs.map fun z => V.ref z.1))) { s with heap := sortedHeap h2 h'.objs.size (as.map Value.ref) out, toks := tk } :=
      I1.take (h' := sortedHeap h2 h'.objs.size (as.map Value.ref) out) (t' := tk) (fun b ob _ e => e) (I.fpOk (Nat.le_of_lt hlt) hn0) ⟨hlen, out.toList, eF, rv, heF⟩
    obtain ⟨H2, I3, g, qt⟩ := DX.takeT (P := fun b vs => H b = none ∧ ∃ (j : Nat) (e : Str × Int), as[j]? = some b ∧ ks[j]? = some e ∧ vs = [.str e.1, .int e.2]) I as _ I2 nd fun b hb => by
      obtain ⟨j, hj⟩ := List.mem_iff_getElem?.mp hb
      obtain ⟨e, t, u, he, hg⟩ := pr j b hj
      have hbl : s.heap.objs.size ≤ b := Nat.le_of_lt (hG.above b hb)
      have hbn : H b = none := I.hok.fresh hbl
      refine ⟨hbl, ?_, [.str e.1, .int e.2], ⟨hbn, j, e, hj, he, rfl⟩, fun H3 => ⟨(by rw [sizeLine_eq]; show 2 ≤ 16777216; omega), [Value.str e.1 t, Value.int e.2 u], .cons ⟨t, rfl⟩ (.cons ⟨u, rfl⟩ .nil), ⟨_, kF _ _ (ne0 _ _ hg) (ka _ _ hg), rfl, 0, rfl⟩⟩⟩
      rw [upd_ne (ne0 _ _ hg)]
      exact hbn
    have gr : ∀ b o, H b = some o → H2 b = some o := fun b o e => g b o (by rw [upd_ne (ne_of_none e hn0)]; exact e)
    refine ⟨.ref h'.objs.size, H2, I3, rfl, q H2 h'.objs.size zs gr hperm hsort hn0 (g _ _ upd_same) fun z' hz' => ?_⟩
    obtain ⟨i, i1, i2⟩ := idx z' hz'
    obtain ⟨vs, ⟨hbn, j, e, j1, j2, ev⟩, hH⟩ := qt z'.1 (List.mem_of_getElem? i1)
    have eij : i = j := (List.getElem?_inj (List.getElem?_eq_some_iff.mp i1).1 nd).mp (i1.trans j1.symm)
    subst eij
    have ee : e = z'.2 := Option.some.inj (j2.symm.trans i2)
    rw [ev, ee] at hH
    exact ⟨hbn, hH⟩
end
end DL

namespace DL
open PySem PySem.Spec PyProof.Rows L2
def cntL (x : List Nat) (L : List (List Nat)) : Nat := (L.filter fun z => decide (z < x)).length
theorem lt_tr {a b c : List Nat} (h : a < b) (g : b < c) : a < c := List.lt_trans h g
theorem cnt_mono {x y : List Nat} (h : x < y) : ∀ L : List (List Nat), cntL x L ≤ cntL y L
  | [] => Nat.le_refl _
  | z :: L => by
    have ih := cnt_mono h L
    unfold cntL at ih ⊢
    rw [List.filter_cons, List.filter_cons]
    by_cases c : z < x
    · rw [if_pos (decide_eq_true c), if_pos (decide_eq_true (lt_tr c h)), List.length_cons, List.length_cons]
      omega
    · rw [if_neg (by simpa using c)]
      split
      · rw [List.length_cons]
        omega
      · exact ih
theorem cnt_lt {x y : List Nat} (h : x < y) : ∀ {L : List (List Nat)}, x ∈ L → cntL x L < cntL y L
  | [], hx => nomatch hx
  | z :: L, hx => by
    have mo := cnt_mono h L
    by_cases e : x = z
    · subst e
      unfold cntL at mo ⊢
      rw [List.filter_cons, List.filter_cons, if_neg (by simpa using List.lt_irrefl x), if_pos (decide_eq_true h), List.length_cons]
      omega
    · have hm : x ∈ L := (List.mem_cons.mp hx).resolve_left e
      have ih := cnt_lt h hm
      unfold cntL at ih ⊢
      rw [List.filter_cons, List.filter_cons]
      by_cases c : z < x
      · rw [if_pos (decide_eq_true c), if_pos (decide_eq_true (lt_tr c h)), List.length_cons, List.length_cons]
        omega
      · rw [if_neg (by simpa using c)]
        split
        · rw [List.length_cons]
          omega
        · exact ih
theorem cnt_iff {x y : List Nat} {L : List (List Nat)} (hx : x ∈ L) (hy : y ∈ L) : x < y ↔ cntL x L < cntL y L := by
  refine ⟨fun h => cnt_lt h hx, fun h => ?_⟩
  rcases leT_tot x y with c | c
  · rw [leT_iff] at c
    by_cases e : x = y
    · subst e
      omega
    · by_cases z : x < y
      · exact z
      · exact absurd (List.le_antisymm c (List.not_lt.mp z)) e
  · by_cases z : y < x
    · have := cnt_lt z hy
      omega
    · have hxy : x ≤ y := List.not_lt.mp z
      have := List.le_antisymm hxy (leT_iff.mp c)
      subst this
      omega
def itemsOf : List (D × D) → Option (List (List Nat × Int))
  | [] => some []
  | (.str s, .int i) :: r => match itemsOf r with
    | some ps => some ((s, i) :: ps)
    | none => none
  | _ => none
def leP (p q : List Nat × Int) : Bool := leT p.1 q.1
def pSortItems : D → Option D
  | .dct ks => match itemsOf ks with
    | some ps => if ps.length < 64 ∧ (ps.map (·.1)).Nodup then some (.lst ((isort leP ps).map fun p => .ktp [.str p.1, .int p.2])) else none
    | none => none
  | _ => none
abbrev cvI (p : List Nat × Int) : Str × Int := (toStr p.1, p.2)
theorem rks_items {K : PySem.W.Frag} {F : Hp} : ∀ {ks : List (D × D)} {kvs : List (Key × V)} {ps : List (List Nat × Int)}, Rks K F ks kvs → itemsOf ks = some ps → kvs = (ps.map cvI).map entI ∧ ∀ p ∈ ps, strGood p.1
  | _, _, ps, .nil, h => by
    cases h
    exact ⟨rfl, fun p h => nomatch h⟩
  | (k, d) :: ks, _, ps, .cons (q := q) (v := v) e rk rd r, h => by
    cases k with
    | str s =>
      cases d with
      | int i =>
        have h' : (match itemsOf ks with | some ps => some ((s, i) :: ps) | none => none) = some ps := h
        cases hi : itemsOf ks with
        | none =>
          rw [hi] at h'
          cases h'
        | some ps' =>
          rw [hi] at h'
          cases h'
          obtain ⟨i1, i2⟩ := rks_items r hi
          have eq1 : q = Sum.inr (toStr s) := (Option.some.inj e).symm
          subst eq1
          cases rd
          refine ⟨by rw [i1]; rfl, fun p hp => ?_⟩
          rcases List.mem_cons.mp hp with rfl | hp
          · cases rk with
            | str hs => exact hs
          · exact i2 p hp
      | _ => cases h
    | _ => cases h
theorem rvs_kp {K : PySem.W.Frag} {F : Hp} : ∀ (zs : List (Addr × Str × Int)) (qs : List (List Nat × Int)), zs.map (·.2) = qs.map cvI → (∀ q ∈ qs, strGood q.1) → (∀ z ∈ zs, F z.1 = some (.tup [.str z.2.1, .int z.2.2])) → Rvs K F (qs.map fun p => .ktp [.str p.1, .int p.2]) (zs.map fun z => V.ref z.1)
  | [], [], _, _, _ => .nil
  | [], _ :: _, h, _, _ => by cases h
  | _ :: _, [], h, _, _ => by cases h
  | z :: zs, q :: qs, h, hg, hf => by
    rw [List.map_cons, List.map_cons] at h
    injection h with h1 h2
    have hz := hf z List.mem_cons_self
    rw [h1] at hz
    exact .cons (.ktp hz (.cons (.str (hg q List.mem_cons_self)) (.cons (.int q.2) .nil))) (rvs_kp zs qs h2 (fun y hy => hg y (List.mem_cons_of_mem _ hy)) fun y hy => hf y (List.mem_cons_of_mem _ hy))
section
variable {X : Cx} {cl : Nat → Addr} {o : Expr} {mo : EM} {p pos apos cpos : Pos}
theorem de_sortItems (hc : X.calm = true) (m1 : X.mg "sorted" = none) (ho : DE cl X o mo) (g1 : Gl X "sorted" := by rfl) (hv : bootBuiltins "sorted" = some (.builtin "sorted") := by decide +kernel)
    (hbase : attributeBase o "items" X.env (eval o X.env) = eval o X.env := by rfl) (hline : (apos.endLine == cpos.line) = true := by rfl)
    (he : starEach [(.Call (.Attribute o "items" apos) [] [] cpos)] X.env = (false, eval (.Call (.Attribute o "items" apos) [] [] cpos) X.env) :: starEach [] X.env := by rfl) (hpl : (backTo pos (starEach [] X.env)).any (·.1) = false := by rfl) :
    DE cl X (.Call (.Name "sorted" p) [.Call (.Attribute o "items" apos) [] [] cpos] [] pos) (eOp1 pSortItems mo) := fun W tk =>
  pe_imp (pe_callB (cr_sortedI hc) g1 m1 hv (pa_cons (pe_items (ho W tk) hbase hline) pa_nil he) (by decide) (by decide) he hpl) fun σ H Q ⟨gh, F, φ, ρ, S, rp, p⟩ => by
    refine (tG_bind (R := rV X.K) rp p).imp fun v H1 ⟨x, S1, F1, φ1, x1, r1, q1, p1⟩ => ?_
    simp only [op1] at p1
    split at p1
    · rename_i d hd
      split at p1
      · rename_i c hcc
        have rt := deref_ok r1.b q1 hd
        cases rt with
        | @dct a ks kvs ha rk =>
          simp only [pSortItems] at hcc
          split at hcc
          · rename_i ps hps
            split at hcc
            · rename_i hl
              cases hcc
              obtain ⟨e, gd⟩ := rks_items rk hps
              subst e
              refine ⟨a, _, rfl, ha, fun pa hpa => ?_⟩
              have hap : ∀ b o, H1 b = some o → b ≠ pa := fun b o hb => ne_of_none hb hpa
              have ha' : Rd (upd H1 pa (DX.itemsO pa a)) a (.dK ((ps.map cvI).map entI)) := by
                rcases ha with ha | ⟨ob, ha⟩
                · exact .inl (by rw [upd_ne (hap _ _ ha)]; exact ha)
                · exact .inr ⟨ob, by rw [upd_ne (hap _ _ ha)]; exact ha⟩
              have hmem : ∀ e ∈ ps.map cvI, ∃ q ∈ ps, e = cvI q := fun e he => by
                obtain ⟨q, hq, rfl⟩ := List.mem_map.mp he
                exact ⟨q, hq, rfl⟩
              have rnk : ∀ q : List Nat × Int, cntL (ofStr (cvI q).1) (ps.map (·.1)) = cntL q.1 (ps.map (·.1)) := fun q => by
                show cntL (ofStr (toStr q.1)) _ = _
                rw [ofStr_to]
              refine ⟨pa, a, ps.map cvI, fun y => (cntL (ofStr y) (ps.map (·.1)) : Nat), rfl, upd_same, ha', by rw [List.length_map]; exact hl.1, fun e he f hf => ?_, fun H' l zs gr pm pw hl0 hl1 hz => ?_⟩
              · obtain ⟨q1, m1, rfl⟩ := hmem e he
                obtain ⟨q2, m2, rfl⟩ := hmem f hf
                have c := cnt_iff (List.mem_map.mpr ⟨q1, m1, rfl⟩ : q1.1 ∈ ps.map (·.1)) (List.mem_map.mpr ⟨q2, m2, rfl⟩ : q2.1 ∈ ps.map (·.1))
                show decide (ofStr (cvI q1).1 < ofStr (cvI q2).1) = decide (((cntL (ofStr (cvI q1).1) (ps.map (·.1)) : Nat) : Int) < ((cntL (ofStr (cvI q2).1) (ps.map (·.1)) : Nat) : Int))
                rw [rnk, rnk]
                show decide (ofStr (toStr q1.1) < ofStr (toStr q2.1)) = _
                rw [ofStr_to, ofStr_to]
                refine decide_eq_decide.mpr (c.trans ?_)
                omega
              · have hord : zs.map (·.2) = (isort leP ps).map cvI := by
                  refine List.Perm.eq_of_pairwise (le := fun e f : Str × Int => ((cntL (ofStr e.1) (ps.map (·.1)) : Nat) : Int) ≤ ((cntL (ofStr f.1) (ps.map (·.1)) : Nat) : Int)) (fun e f he hf h1 h2 => ?_) pw ?_ (pm.trans ((isort_perm leP ps).map cvI).symm)
                  · obtain ⟨q1, m1, rfl⟩ := hmem e (pm.mem_iff.mp he)
                    obtain ⟨q2, m2, rfl⟩ := hmem f ((((isort_perm leP ps).map cvI).mem_iff).mp hf)
                    have h1' : ((cntL q1.1 (ps.map (·.1)) : Nat) : Int) ≤ ((cntL q2.1 (ps.map (·.1)) : Nat) : Int) := by rw [← rnk q1, ← rnk q2]; exact h1
                    have h2' : ((cntL q2.1 (ps.map (·.1)) : Nat) : Int) ≤ ((cntL q1.1 (ps.map (·.1)) : Nat) : Int) := by rw [← rnk q1, ← rnk q2]; exact h2
                    have n1 : q1.1 ∈ ps.map (·.1) := List.mem_map.mpr ⟨q1, m1, rfl⟩
                    have n2 : q2.1 ∈ ps.map (·.1) := List.mem_map.mpr ⟨q2, m2, rfl⟩
                    have c1 := cnt_iff n1 n2
                    have c2 := cnt_iff n2 n1
                    have k : q1.1 = q2.1 := List.le_antisymm (List.not_lt.mp fun z => by have := c2.mp z; omega) (List.not_lt.mp fun z => by have := c1.mp z; omega)
                    have : q1 = q2 := by
                      obtain ⟨i1, g1⟩ := List.mem_iff_getElem?.mp m1
                      obtain ⟨i2, g2⟩ := List.mem_iff_getElem?.mp m2
                      have w1 : (ps.map (·.1))[i1]? = some q1.1 := by rw [List.getElem?_map, g1]; rfl
                      have w2 : (ps.map (·.1))[i2]? = some q1.1 := by rw [List.getElem?_map, g2, k]; rfl
                      have ii : i1 = i2 := (List.getElem?_inj (List.getElem?_eq_some_iff.mp w1).1 hl.2).mp (w1.trans w2.symm)
                      subst ii
                      exact Option.some.inj (g1.symm.trans g2)
                    rw [this]
                  · rw [List.pairwise_map]
                    refine List.Pairwise.imp_of_mem ?_ (isort_pw (le := leP) (fun a b => leT_tot a.1 b.1) (fun a b c h g => leT_tr a.1 b.1 c.1 h g) ps)
                    intro q1 q2 m1 m2 h
                    show ((cntL (ofStr (cvI q1).1) (ps.map (·.1)) : Nat) : Int) ≤ ((cntL (ofStr (cvI q2).1) (ps.map (·.1)) : Nat) : Int)
                    rw [rnk, rnk]
                    have n1 : q1.1 ∈ ps.map (·.1) := List.mem_map.mpr ⟨q1, (isort_perm leP ps).mem_iff.mp m1, rfl⟩
                    have n2 : q2.1 ∈ ps.map (·.1) := List.mem_map.mpr ⟨q2, (isort_perm leP ps).mem_iff.mp m2, rfl⟩
                    have c2 := cnt_iff n2 n1
                    have hle : q1.1 ≤ q2.1 := leT_iff.mp h
                    by_cases z : cntL q2.1 (ps.map (·.1)) < cntL q1.1 (ps.map (·.1))
                    · exact absurd (c2.mpr z) (List.not_lt.mpr hle)
                    · omega
                have fr : ∀ b, upd H1 pa (DX.itemsO pa a) b = none → H1 b = none := fun b hb => by
                  by_cases z : b = pa
                  · rw [z]
                    exact hpa
                  · rw [upd_ne z] at hb
                    exact hb
                have g : Grow F1 H1 (fun b => match H1 b with
                    | none => H' b
                    | some _ => F1 b) H' := by
                  refine ⟨fun b ob hb => ?_, fun b ob hb => ?_, fun b ob hb => ?_, fun b ob hb => ?_⟩
                  · show (match H1 b with
                      | none => H' b
                      | some _ => F1 b) = some ob
                    rw [r1.b.le _ _ hb]
                    exact hb
                  · exact gr b ob (by rw [upd_ne (hap _ _ hb)]; exact hb)
                  · cases z : H1 b with
                    | none => exact .inr rfl
                    | some o' =>
                      have hb' : (match H1 b with
                        | none => H' b
                        | some _ => F1 b) = some ob := hb
                      rw [z] at hb'
                      exact .inl hb'
                  · have hb' : (match H1 b with
                      | none => H' b
                      | some _ => F1 b) = some ob := hb
                    cases z : H1 b with
                    | none =>
                      rw [z] at hb'
                      exact hb'
                    | some o' =>
                      rw [z] at hb'
                      have := r1.b.le _ _ hb'
                      exact gr b ob (by rw [upd_ne (hap _ _ this)]; exact this)
                have at_ : ∀ b ob, H1 b = none → H' b = some ob → (fun b => match H1 b with
                    | none => H' b
                    | some _ => F1 b) b = some ob := fun b ob hn hb => by
                  show (match H1 b with
                    | none => H' b
                    | some _ => F1 b) = some ob
                  rw [hn]
                  exact hb
                refine p1 _ _ φ1 _ (g.ext φ1) (r1.grow g) (.dat (.lst (at_ _ _ (fr l hl0) hl1) (rvs_kp zs (isort leP ps) hord (fun q hq => gd q ((isort_perm leP ps).mem_iff.mp hq)) fun z hz' => ?_)))
                obtain ⟨w1, w2⟩ := hz z hz'
                exact at_ _ _ (fr _ w1) w2
            · cases hcc
          · cases hcc
        | _ => cases hcc
      · exact p1.elim
    · exact p1.elim
end
end DL

namespace DL
open PySem PySem.Spec PyProof.Rows L2
section
variable {X : Cx}
def pListK : D → Option D
  | .dct ks => some (.lst (ks.map (·.1)))
  | _ => none
theorem rks_keys {K : PySem.W.Frag} {F : Hp} : ∀ {ks : List (D × D)} {kvs : List (Key × V)}, Rks K F ks kvs → Rvs K F (ks.map (·.1)) (kvs.map fun kv => kV kv.1)
  | _, _, .nil => .nil
  | _, _, .cons _ rk _ r => .cons rk (rks_keys r)
theorem gListK : GivesN X.K (fun xs H Q => ∃ (a : Addr) (kvs : List (Key × V)), xs = [.ref a] ∧ Rd H a (.dK kvs) ∧ ∀ p, H p = none → Q (.ref p) (upd H p (.lst (kvs.map fun kv => kV kv.1)))) (pOne pListK) := gives_one fun F H d c x Q le r h q => by
  cases r with
  | @dct a ks kvs ha rk =>
    cases h
    exact ⟨a, kvs, rfl, ha, fun p hp => by
      have g := Grow.new le (.lst (kvs.map fun kv => kV kv.1)) hp
      exact q _ _ _ g (.lst upd_same ((rks_keys rk).mono (.of g.s)))⟩
  | _ => cases h
def rLtD (K : PySem.W.Frag) : R2 := fun x y H Q => ∃ d e, Dp K H x d ∧ Dp K H y e ∧ SeqAt.shaped d = true ∧ PySem.W.alike d e = true ∧ d ≠ .none ∧ Q (.bl (PySem.W.dataLt d e)) H
theorem op_ltD (hu : X.A.units + 64 < cLine) : OpR X (compareOp .Lt) (rLtD X.K) := by
  intro pins s σ H x y v u Q I rx ry h
  obtain ⟨d, e, hd, he, sd, al, nn, q⟩ := h
  obtain ⟨as, r1⟩ := Dp.reads I d x v hd rx
  obtain ⟨bs, r2⟩ := Dp.reads I e y u he ry
  exact PySem.W.lt_data r1 r2 al nn (SeqAt.room_of_shaped sd hu) ⟨.bl _, H, I, rfl, q⟩
def pLtD : D → D → Option D
  | .tup ds, .tup es => if sh 9 (.tup ds) = true ∧ sh 9 (.tup es) = true ∧ PySem.W.alike (toPy (.tup ds)) (toPy (.tup es)) = true then some (.bl (PySem.W.dataLt (toPy (.tup ds)) (toPy (.tup es)))) else none
  | _, _ => none
theorem gLtD : Gives2 X.K (rLtD X.K) pLtD := by
  intro F H d e c x y Q le rx ry h q
  cases d with
  | tup ds =>
    cases e with
    | tup es =>
      have h' : (if sh 9 (.tup ds) = true ∧ sh 9 (.tup es) = true ∧ PySem.W.alike (toPy (.tup ds)) (toPy (.tup es)) = true then some (D.bl (PySem.W.dataLt (toPy (.tup ds)) (toPy (.tup es)))) else none) = some c := h
      by_cases hc : sh 9 (.tup ds) = true ∧ sh 9 (.tup es) = true ∧ PySem.W.alike (toPy (.tup ds)) (toPy (.tup es)) = true
      · rw [if_pos hc] at h'
        cases h'
        obtain ⟨a1, a2⟩ := (rx.rv (.of le) (sh_ndct hc.1)).shaped hc.1
        obtain ⟨b1, b2⟩ := (ry.rv (.of le) (sh_ndct hc.2.1)).shaped hc.2.1
        exact ⟨_, _, a1, b1, a2, hc.2.2, (fun z => by simp [toPy] at z), q F H _ (.refl le) (.bl _)⟩
      · rw [if_neg hc] at h'
        cases h'
    | _ => cases h
  | _ => cases h
def nssOf : List D → Option (List (List Int))
  | [] => some []
  | .tup ds :: r => match intsOf ds, nssOf r with
    | some ns, some nss => some (ns :: nss)
    | _, _ => none
  | _ => none
def minLs (x : List Int) (xs : List (List Int)) : List Int := xs.foldl (fun a y => if y < a then y else a) x
def pMinT : D → Option D
  | .lst ds => match nssOf ds with
    | some (k :: ks) => some (.tup ((minLs k ks).map .int))
    | _ => none
  | _ => none
theorem intsOf_map : ∀ {ds : List D} {ns : List Int}, intsOf ds = some ns → ds = ns.map .int
  | [], _, h => by
    cases h
    rfl
  | d :: ds, ns, h => by
    cases d with
    | int i =>
      have h' : (match intsOf ds with | some bs => some (i :: bs) | none => none) = some ns := h
      cases e : intsOf ds with
      | none =>
        rw [e] at h'
        cases h'
      | some bs =>
        rw [e] at h'
        cases h'
        rw [intsOf_map e]
        rfl
    | _ => cases h
theorem nssOf_map : ∀ {ds : List D} {nss : List (List Int)}, nssOf ds = some nss → ds = nss.map fun ns => .tup (ns.map .int)
  | [], _, h => by
    cases h
    rfl
  | d :: ds, nss, h => by
    cases d with
    | tup es =>
      have h' : (match intsOf es, nssOf ds with | some ns, some nss => some (ns :: nss) | _, _ => none) = some nss := h
      cases e1 : intsOf es with
      | none =>
        rw [e1] at h'
        cases h'
      | some ns =>
        rw [e1] at h'
        cases e2 : nssOf ds with
        | none =>
          rw [e2] at h'
          cases h'
        | some ns2 =>
          rw [e2] at h'
          cases h'
          rw [nssOf_map e2, intsOf_map e1]
          rfl
    | _ => cases h
def pyNs (ns : List Int) : PyData := .tuple (ns.map .int)
theorem py_ints : ∀ ns : List Int, toPys (ns.map D.int) = ns.map PyData.int
  | [] => rfl
  | n :: ns => by rw [List.map_cons, toPys, py_ints ns]; rfl
theorem py_nss : ∀ nss : List (List Int), toPys (nss.map fun ns => D.tup (ns.map .int)) = nss.map pyNs
  | [] => rfl
  | n :: nss => by
    rw [List.map_cons, toPys, py_nss nss]
    simp only [toPy, py_ints]
    rfl
theorem alike_ints : ∀ a b : List Int, PySem.W.alikeAll (a.map .int) (b.map .int) = true
  | [], b => by simp [PySem.W.alikeAll]
  | x :: a, [] => by simp [PySem.W.alikeAll]
  | x :: a, y :: b => by
    rw [List.map_cons, List.map_cons]
    simp only [PySem.W.alikeAll, PySem.W.alike, Bool.true_and]
    exact alike_ints a b
theorem lt_pyNs (a b : List Int) : PySem.W.dataLt (pyNs a) (pyNs b) = decide (a < b) := by
  have := PySem.W.dataLt_ints a b
  rw [← this]
  rfl
theorem min_pyNs (x : List Int) : ∀ xs : List (List Int), PySem.W.minD (pyNs x) (xs.map pyNs) = pyNs (minLs x xs) := by
  intro xs
  unfold PySem.W.minD minLs
  induction xs generalizing x with
  | nil => rfl
  | cons y xs ih =>
    rw [List.map_cons, List.foldl_cons, List.foldl_cons, lt_pyNs]
    by_cases c : y < x
    · rw [decide_eq_true c, if_pos rfl, if_pos c]
      exact ih y
    · rw [decide_eq_false c, if_neg (by decide), if_neg c]
      exact ih x
theorem pyNs_inj {a b : List Int} (h : pyNs a = pyNs b) : a = b := by
  unfold pyNs at h
  injection h with h
  exact (List.map_inj_right (f := PyData.int) (fun x y e => by injection e)).mp h
end
end DL

namespace DL
open PySem PySem.Spec PyProof.Rows L2
section
variable {X : Cx}
def rMinT (K : PySem.W.Frag) : List V → Hp → VK → Prop := fun vs H Q => ∃ (a : Addr) (xs : List V) (k : List Int) (ks : List (List Int)), vs = [V.ref a] ∧ SqL K H a xs ∧ DpAll K H xs ((k :: ks).map pyNs) ∧ ∀ (i : Nat) (v : V), xs[i]? = some v → (k :: ks)[i]? = some (minLs k ks) → Q v H
theorem vals_back2 : ∀ {xs : List V} {us : List Value} {i : Nat} {u : Value}, Vals xs us → us[i]? = some u → ∃ x, xs[i]? = some x ∧ RelV x u
  | _, _, i, u, .nil, h => by simp at h
  | _, _, 0, u, .cons r t, h => by
    simp at h
    subst h
    exact ⟨_, rfl, r⟩
  | _, _, i + 1, u, .cons r t, h => by
    obtain ⟨x, h1, h2⟩ := vals_back2 (i := i) t (by simpa using h)
    exact ⟨x, by simpa using h1, h2⟩
theorem depth_pyNs : ∀ nss : List (List Int), PyData.depthAll (nss.map pyNs) ≤ 2 := fun nss => depthAll_le fun x hx => by
  obtain ⟨ns, _, rfl⟩ := List.mem_map.mp hx
  have : PyData.depthAll (ns.map PyData.int) ≤ 1 := depthAll_le fun y hy => by
    obtain ⟨i, _, rfl⟩ := List.mem_map.mp hy
    simp [PyData.depth]
  simp only [pyNs, PyData.depth]
  omega
theorem lay_pyNs (ns : List Int) : (pyNs ns).canLay0 = true := by
  simp only [pyNs, PyData.canLay0]
  exact ints_lay ns
theorem cr_minT (hc : X.calm = true) (hu : X.A.units + 64 < cLine) : CallR X (.builtin "min") (rMinT X.K) := by
  intro pins s σ H vs us Q I r h
  obtain ⟨a, xs, k, ks, rfl, hs, hd, q⟩ := h
  obtain ⟨its, rv, hl, _⟩ := I.list hs
  rw [Vals.ref1 r]
  obtain ⟨as, hr⟩ := Dp.readsAll I _ _ _ hd rv
  have hr' : ReadsAll s.heap its.toArray.toList (pyNs k :: ks.map pyNs) as := hr
  refine PySem.W.min_list_data (I.ok.hd hc) hl.isList hr' ⟨fun x hx y hy => ?_, fun x hx => ?_⟩ (by have := depth_pyNs (k :: ks); rw [List.map_cons] at this; omega) fun i v h' tk bs hv hrd hk => ?_
  · rw [← List.map_cons] at hx hy
    obtain ⟨n1, _, rfl⟩ := List.mem_map.mp hx
    obtain ⟨n2, _, rfl⟩ := List.mem_map.mp hy
    simp only [pyNs, PySem.W.alike]
    exact alike_ints n1 n2
  · rw [← List.map_cons] at hx
    obtain ⟨n1, _, rfl⟩ := List.mem_map.mp hx
    exact fun z => by simp [pyNs] at z
  · rw [min_pyNs] at hrd
    obtain ⟨bs2, r2, hi, _⟩ := PySem.W.readsAll_atA hr' i v hv
    have hv' : its[i]? = some v := by simpa using hv
    obtain ⟨x, hx, rx⟩ := vals_back2 rv hv'
    have hi2 : i < (k :: ks).length := by simpa using hi
    have e0 : (pyNs k :: ks.map pyNs).getD i .none = pyNs ((k :: ks)[i]) := by
      rw [← List.map_cons, List.getD, List.getElem?_map, List.getElem?_eq_getElem hi2]
      rfl
    rw [e0] at r2
    have e1 : pyNs (minLs k ks) = pyNs ((k :: ks)[i]) := (Reads.unique hrd _ _ (PySem.W.reads_keeps hk r2)).1
    refine ⟨x, H, I.kept hk, rx, q i x hx ?_⟩
    rw [List.getElem?_eq_getElem hi2, pyNs_inj e1]
theorem gMinT : GivesN X.K (rMinT X.K) (pOne pMinT) := gives_one fun F H d c x Q le r h q => by
  cases r with
  | @lst a ds vs ha rs =>
    simp only [pMinT] at h
    split at h
    · rename_i k ks hn
      cases h
      have e := nssOf_map hn
      subst e
      have hsh : ∀ d ∈ ((k :: ks).map fun ns => D.tup (ns.map .int)), sh 8 d = true := fun d hd => by
        obtain ⟨n, _, rfl⟩ := List.mem_map.mp hd
        simp [sh]
      obtain ⟨dp, _, _⟩ := Rvs.dp 8 (rs.mono (.of le)) hsh
      rw [py_nss] at dp
      refine ⟨a, vs, k, ks, rfl, .of ha, dp, fun i v hv hk => ?_⟩
      obtain ⟨v', g1, g2⟩ := rs.get (i := i) (d := .tup ((minLs k ks).map .int)) (by rw [List.getElem?_map, hk]; rfl)
      have := Option.some.inj (g1.symm.trans hv)
      subst this
      exact q F H _ (.refl le) g2
    · cases h
  | _ => cases h
end
end DL

namespace DL
open PySem PySem.Spec PyProof.Rows L2
section
variable {X : Cx}
def rSortTS (K : PySem.W.Frag) : List V → Hp → VK → Prop := fun xs H Q => ∃ (a : Addr) (ss : List (List Nat)), xs = [.ref a] ∧ SqT K H a ((ss.map toStr).map V.str) ∧ ss.length < 64 ∧ ∀ l, H l = none → Q (.ref l) (upd H l (.lst (((isort leT ss).map toStr).map V.str)))
theorem call_sortTS : CallR X (.builtin "sorted") (rSortTS X.K) := by
  intro pins s σ H xs us Q I rv h
  obtain ⟨a, ss, rfl, hs, h64, q⟩ := h
  obtain ⟨its, r, ⟨o, ho, hc, n, hd⟩, hz⟩ := I.tuple hs
  rw [Vals.ref1 rv]
  have hS : StrsAre its (ss.map toStr) := L2.strsAre_of r
  have hl : its.length < 64 := by
    have := r.length
    rw [List.length_map, List.length_map] at this
    omega
  refine Calls.call_function_entry PyProof.Rows.kind_sorted PyProof.Rows.plain_sorted PyProof.Rows.entry_sorted (PyProof.Rows.args_sorted1 _) ?_
  unfold Builtin.«sorted»
  refine wpAny_bind (m := checkCount "sorted" 1 1 _) (wpAny_pure ?_)
  refine wpAny_bind (wpAny_collect_seq a (.inr rfl) ho hc hd (fun h' hk => ?_) (by rw [List.size_toArray, sizeLine_eq]; omega))
  rw [List.toList_toArray]
  refine wpAny_bind (wpAny_newList ?_ (by rw [sizeLine_eq]; omega))
  have hoL : (h'.push (seqObj "list" its.toArray 0)).get? h'.objs.size = some (seqObj "list" its.toArray 0) := Heap.get?_push_size _ rfl
  change wpAny _ _ _ _ _ { s with heap := h'.push (seqObj "list" its.toArray 0) }
  refine wpAny_bind (wpAny_holding (wpAny_call_entry PyProof.Rows.slot_list_sort ⟨_, hoL, rfl⟩ PyProof.Rows.entry_list_sort
    (list_sort_treeK strKind_oneLt (s := { s with heap := h'.push (seqObj "list" its.toArray 0) }) hoL hS.keysOf (fun v₁ v₂ rest e => keyKind_strs (by rw [← e]; exact hS)) hl fun st' hp hs => ⟨_, rfl, ?_⟩)
    (PyProof.Rows.args_list_sort _)))
  obtain ⟨ys, g1, g2, g3⟩ := sorted_out_str hS hp hs
  obtain ⟨e', he'⟩ := PyProof.Rows.sortedHeap_at (vs := its) (out := (arrOf st').map (·.2)) hoL
  have e := sortedS_only g2 g3
  subst e
  have I1 : Inv X pins σ H { s with heap := h', toks := s.toks } := I.kept hk
  have len : (((isort leT ss).map toStr).map V.str).length ≤ sizeLine := by
    rw [List.length_map, List.length_map, (isort_perm leT _).length_eq, sizeLine_eq]
    omega
  refine wpAny_pure ⟨_, rfl, .ref h'.objs.size, upd H h'.objs.size (.lst (((isort leT ss).map toStr).map V.str)), I1.laid (t' := s.toks) (fun b u e => ?_) (Nat.le_refl _) ⟨len, ((arrOf st').map (·.2)).toList, e', vals_of_strs g1, by rw [Array.toArray_toList]; exact he'⟩, rfl, q _ (I1.hok.fresh (Nat.le_refl _))⟩
  have hb := Heap.lt_size e
  change (sortedHeap _ _ _ _).get? b = some u
  rw [PyProof.Rows.sortedHeap_old (Nat.ne_of_lt hb) (by rw [size_push']; exact Nat.lt_succ_of_lt hb)]
  exact Heap.get?_push_of_some _ e
def pSortTS : D → Option D
  | .tup ds => match strsOf ds with
    | some ss => if ss.length < 64 then some (.lst ((isort leT ss).map .str)) else none
    | none => none
  | _ => none
theorem gSortTS : GivesN X.K (rSortTS X.K) (pOne pSortTS) := gives_one fun F H d c x Q le r h q => by
  cases r with
  | @tup a ds vs hs rs =>
    simp only [pSortTS] at h
    split at h
    · rename_i ss hn
      split at h
      · rename_i hl
        cases h
        obtain ⟨e, good⟩ := rvs_strs rs hn
        subst e
        refine ⟨a, ss, rfl, (hs.same le).sq, hl, fun l hf => ?_⟩
        have g := Grow.new le (.lst (((isort leT ss).map toStr).map V.str)) hf
        exact q _ _ _ g (.lst upd_same (rvs_of_strs fun b hb => good b ((isort_perm leT ss).mem_iff.mp hb)))
      · cases h
    · cases h
  | _ => cases h
end
end DL

namespace MP
open PySem PySem.Spec PyProof.Rows L2 L2H DL
noncomputable def m_is_whole : SM := sRet (eAnd (eOp1 (pIsI "int") (eVar 0)) (eAnd (eNot (eOp1 (pIsI "bool") (eVar 0))) (eChain pLe pLe (eVar 1) (eVar 0) (eVar 2))))
noncomputable def d_is_whole : Fn := fnOf 3 m_is_whole
noncomputable def m_is_word : SM := sRet (eAnd (eOp1 (pIsI "str") (eVar 0)) (eAnd (eChain pLe pLe (eC (.int 1)) (eOpN (pOne pLen) (aCons (eVar 0) (aNil))) (eC (.int 6))) (eOp2 pEq (eMeth "str" pStrip (eVar 0) (aCons (eC (.str [97, 98, 99, 100, 101, 102, 103, 104, 105, 106, 107, 108, 109, 110, 111, 112, 113, 114, 115, 116, 117, 118, 119, 120, 121, 122])) (aNil))) (eC (.str [])))))
noncomputable def d_is_word : Fn := fnOf 1 m_is_word
noncomputable def m_are_words : SM := sSeq (sIf (bOr (bNot (toB (eOp1 (pIsI "tuple") (eVar 0)))) (bOr (bNot (toB (eChain pLe pLe (eC (.int 1)) (eOpN (pOne pLen) (aCons (eVar 0) (aNil))) (eC (.int 6))))) (bNot (toB (eOpN (pOne pAll) (aCons (eComp [1] (iOf (eVar 0)) (bN 1) (bYes) (eCall 1 d_is_word (aCons (eVar 1) (aNil)))) (aNil))))))) (sRet (eC (.bl false))) (sNil)) (sRet (eOp2 pEq (eOp1 pLenSet (eVar 0)) (eOpN (pOne pLen) (aCons (eVar 0) (aNil)))))
noncomputable def d_are_words : Fn := fnOf 2 m_are_words
noncomputable def m_is_look : SM := sSeq (sIf (bOr (bNot (toB (eOp1 (pIsI "tuple") (eVar 0)))) (toB (eOp2 pNe (eOpN (pOne pLen) (aCons (eVar 0) (aNil))) (eC (.int 2))))) (sRet (eC (.bl false))) (sNil)) (sRet (eOpN (pOne pAll) (aCons (eComp [1] (iOf (eVar 0)) (bN 1) (bYes) (eCall 3 d_is_whole (aCons (eVar 1) (aCons (eOp2 pSub (eOp2 pSub (eC (.int 0)) (eC (.int 2))) (eC (.int 1))) (aCons (eC (.int 2)) (aNil)))))) (aNil))))
noncomputable def d_is_look : Fn := fnOf 2 m_is_look
noncomputable def m_need_both : SM := sSeq (sIf (bNot (toB (eCall 1 d_are_words (aCons (eVar 0) (aNil))))) (sRaise 0) (sNil)) (sIf (bNot (toB (eCall 1 d_is_look (aCons (eVar 1) (aNil))))) (sRaise 1) (sNil))
noncomputable def d_need_both : Fn := fnOf 2 m_need_both
noncomputable def m_need_room : SM := sIf (bNot (toB (eCall 3 d_is_whole (aCons (eVar 0) (aCons (eC (.int 1)) (aCons (eC (.int 99)) (aNil))))))) (sRaise 3) (sNil)
noncomputable def d_need_room : Fn := fnOf 1 m_need_room
noncomputable def m_letter_at : SM := sSeq (sIf (toB (eOp2 pGe (eVar 1) (eC (.int 0)))) (sRet (eOp2 pIx (eVar 0) (eOpN (pTwo pMin2) (aCons (eVar 1) (aCons (eOp2 pSub (eOpN (pOne pLen) (aCons (eVar 0) (aNil))) (eC (.int 1))) (aNil)))))) (sNil)) (sRet (eOp2 pIx (eVar 0) (eOpN (pTwo pMax2) (aCons (eVar 1) (aCons (eOp2 pSub (eC (.int 0)) (eOpN (pOne pLen) (aCons (eVar 0) (aNil)))) (aNil))))))
noncomputable def d_letter_at : Fn := fnOf 2 m_letter_at
noncomputable def m_pair_of : SM := sRet (eTup (aCons (eCall 2 d_letter_at (aCons (eVar 0) (aCons (eOp2 pIx (eVar 1) (eC (.int 0))) (aNil)))) (aCons (eCall 2 d_letter_at (aCons (eVar 0) (aCons (eOp2 pIx (eVar 1) (eC (.int 1))) (aNil)))) (aNil))))
noncomputable def d_pair_of : Fn := fnOf 2 m_pair_of
noncomputable def m_pairs_of : SM := sRet (eComp [2] (iOf (eVar 0)) (bN 2) (bYes) (eCall 2 d_pair_of (aCons (eVar 2) (aCons (eVar 1) (aNil)))))
noncomputable def d_pairs_of : Fn := fnOf 3 m_pairs_of
noncomputable def m_pairs : SM := sSeq (sExpr (eCall 2 d_need_both (aCons (eVar 0) (aCons (eVar 1) (aNil))))) (sRet (eCall 2 d_pairs_of (aCons (eVar 0) (aCons (eVar 1) (aNil)))))
noncomputable def d_pairs : Fn := fnOf 2 m_pairs
noncomputable def m_letters_of : SM := sSeq (sSet 2 (eNew (cLst (aNil)))) (sSeq (sFor (iOf (eCall 2 d_pairs_of (aCons (eVar 0) (aCons (eVar 1) (aNil))))) (bN 3) (sExpr (eMutL false mExtend (eVar 2) (aCons (eOpN (pOne pListA) (aCons (eVar 3) (aNil))) (aNil))))) (sRet (eOp1 pSortSet (eVar 2))))
noncomputable def d_letters_of : Fn := fnOf 4 m_letters_of
noncomputable def m_are_numbers : SM := sSeq (sIf (bOr (bNot (toB (eOp1 (pIsI "tuple") (eVar 2)))) (toB (eOp2 pNe (eOpN (pOne pLen) (aCons (eVar 2) (aNil))) (eOpN (pOne pLen) (aCons (eVar 0) (aNil)))))) (sRet (eC (.bl false))) (sNil)) (sRet (eOpN (pOne pAll) (aCons (eComp [3] (iOf (eVar 2)) (bN 3) (bYes) (eCall 3 d_is_whole (aCons (eVar 3) (aCons (eC (.int 0)) (aCons (eOp2 pSub (eVar 1) (eC (.int 1))) (aNil)))))) (aNil))))
noncomputable def d_are_numbers : Fn := fnOf 4 m_are_numbers
noncomputable def m_need_numbers : SM := sIf (bNot (toB (eCall 3 d_are_numbers (aCons (eVar 0) (aCons (eVar 1) (aCons (eVar 2) (aNil))))))) (sRaise 2) (sNil)
noncomputable def d_need_numbers : Fn := fnOf 3 m_need_numbers
noncomputable def m_are_worths : SM := sSeq (sIf (bNot (toB (eOp1 (pIsI "tuple") (eVar 0)))) (sRet (eC (.bl false))) (sNil)) (sSeq (sFor (iOf (eVar 0)) (bN 2) (sSeq (sIf (bOr (bNot (toB (eOp1 (pIsI "tuple") (eVar 2)))) (bOr (toB (eOp2 pNe (eOpN (pOne pLen) (aCons (eVar 2) (aNil))) (eC (.int 2)))) (bNot (toB (eCall 3 d_is_whole (aCons (eOp2 pIx (eVar 2) (eC (.int 1))) (aCons (eC (.int 0)) (aCons (eOp2 pSub (eVar 1) (eC (.int 1))) (aNil))))))))) (sRet (eC (.bl false))) (sNil)) (sIf (bOr (bNot (toB (eOp1 (pIsI "str") (eOp2 pIx (eVar 2) (eC (.int 0)))))) (bOr (toB (eOp2 pNe (eOpN (pOne pLen) (aCons (eOp2 pIx (eVar 2) (eC (.int 0))) (aNil))) (eC (.int 1)))) (toB (eOp2 pNotIn (eOp2 pIx (eVar 2) (eC (.int 0))) (eC (.str [97, 98, 99, 100, 101, 102, 103, 104, 105, 106, 107, 108, 109, 110, 111, 112, 113, 114, 115, 116, 117, 118, 119, 120, 121, 122])))))) (sRet (eC (.bl false))) (sNil)))) (sRet (eOpN (pOne pAll) (aCons (eComp [3, 4] (iZipD (eVar 0) (eSl (eVar 0) (oSome (eC (.int 1))) (oNone))) (bTup (bCons (bN 3) (bCons (bN 4) (bNil)))) (bYes) (eOp2 pLt (eOp2 pIx (eVar 3) (eC (.int 0))) (eOp2 pIx (eVar 4) (eC (.int 0))))) (aNil)))))
noncomputable def d_are_worths : Fn := fnOf 5 m_are_worths
noncomputable def m_numbers_by : SM := sRet (eOpN (pOne pTupleA) (aCons (eComp [4, 5] (iOf (eCall 2 d_pairs_of (aCons (eVar 0) (aCons (eVar 1) (aNil))))) (bTup (bCons (bN 4) (bCons (bN 5) (bNil)))) (bYes) (eOp2 pMod (eOp2 pAdd (eOp2 pIx (eVar 3) (eVar 4)) (eOp2 pIx (eVar 3) (eVar 5))) (eVar 2))) (aNil)))
noncomputable def d_numbers_by : Fn := fnOf 6 m_numbers_by
noncomputable def m_numbered : SM := sSeq (sExpr (eCall 2 d_need_both (aCons (eVar 0) (aCons (eVar 1) (aNil))))) (sSeq (sExpr (eCall 1 d_need_room (aCons (eVar 2) (aNil)))) (sSeq (sIf (bOr (bNot (toB (eCall 2 d_are_worths (aCons (eVar 3) (aCons (eVar 2) (aNil)))))) (toB (eOpN (pOne pAny) (aCons (eComp [4] (iOf (eCall 2 d_letters_of (aCons (eVar 0) (aCons (eVar 1) (aNil))))) (bN 4) (bYes) (eOp2 pNotIn (eVar 4) (eFrz (cDict (eVar 3))))) (aNil))))) (sRaise 5) (sNil)) (sRet (eCall 4 d_numbers_by (aCons (eVar 0) (aCons (eVar 1) (aCons (eVar 2) (aCons (eFrz (cDict (eVar 3))) (aNil)))))))))
noncomputable def d_numbered : Fn := fnOf 5 m_numbered
noncomputable def m_walk_from : SM := sSeq (sSet 3 (eCall 2 d_pairs_of (aCons (eVar 0) (aCons (eVar 1) (aNil))))) (sSeq (sSet 4 (eDisp1 (eVar 2) (eLst (aNil)))) (sSeq (sSet 5 (eNew (cLst (aCons (eVar 2) (aNil))))) (sSeq (sWhile (toB (eOp2 pNe (eVar 5) (eLst (aNil)))) (sSeq (sSet 6 (eMutL false mPop0 (eVar 5) (aCons (eC (.int 0)) (aNil)))) (sFor (iEnumD (eVar 3)) (bTup (bCons (bN 7) (bCons (bTup (bCons (bN 8) (bCons (bN 9) (bNil)))) (bNil)))) (sFor (iOf (eTup (aCons (eTup (aCons (eVar 8) (aCons (eVar 9) (aNil)))) (aCons (eTup (aCons (eVar 9) (aCons (eVar 8) (aNil)))) (aNil))))) (bTup (bCons (bN 10) (bCons (bN 11) (bNil)))) (sIf (bAnd (toB (eOp2 pEq (eVar 10) (eVar 6))) (toB (eOp2 pNotIn (eVar 11) (eVar 4)))) (sSeq (sPut (eVar 4) (eVar 11) (eOp2 pAdd (eOp2 pIx (eVar 4) (eVar 6)) (eLst (aCons (eVar 7) (aNil))))) (sExpr (eMutL true mAppend (eVar 5) (aCons (eVar 11) (aNil))))) (sNil)))))) (sRet (eFin (eVar 4))))))
noncomputable def d_walk_from : Fn := fnOf 12 m_walk_from
noncomputable def m_led : SM := sSeq (sSet 4 (eVar 3)) (sSeq (sFor (iOf (eVar 2)) (bN 5) (sSet 4 (eOp2 pMod (eOp2 pSub (eOp2 pIx (eVar 0) (eVar 5)) (eVar 4)) (eVar 1)))) (sRet (eVar 4)))
noncomputable def d_led : Fn := fnOf 6 m_led
noncomputable def m_groups : SM := sSeq (sSet 2 (eCall 2 d_letters_of (aCons (eVar 0) (aCons (eVar 1) (aNil))))) (sSeq (sSet 3 (eNew (cLst (aNil)))) (sSeq (sWhile (toB (eOp2 pNe (eVar 2) (eLst (aNil)))) (sSeq (sSet 4 (eCall 3 d_walk_from (aCons (eVar 0) (aCons (eVar 1) (aCons (eOp2 pIx (eVar 2) (eC (.int 0))) (aNil)))))) (sSeq (sExpr (eMutL true mAppend (eVar 3) (aCons (eTup (aCons (eOp2 pIx (eVar 2) (eC (.int 0))) (aCons (eVar 4) (aNil)))) (aNil)))) (sSet 2 (eComp [5] (iOf (eVar 2)) (bN 5) (toB (eOp2 pNotIn (eVar 5) (eVar 4))) (eVar 5)))))) (sRet (eFin (eVar 3)))))
noncomputable def d_groups : Fn := fnOf 6 m_groups
noncomputable def m_closed : SM := sSeq (sSet 4 (eNew (cLst (aNil)))) (sSeq (sFor (iEnumD (eCall 2 d_pairs_of (aCons (eVar 0) (aCons (eVar 1) (aNil))))) (bTup (bCons (bN 5) (bCons (bTup (bCons (bN 6) (bCons (bN 7) (bNil)))) (bNil)))) (sIf (toB (eOp2 pIn (eVar 6) (eVar 3))) (sExpr (eMutL true mAppend (eVar 4) (aCons (eOp2 pAdd (eOp2 pAdd (eOp2 pIx (eVar 3) (eVar 6)) (eLst (aCons (eVar 5) (aNil)))) (eOp1 pRev (eOp2 pIx (eVar 3) (eVar 7)))) (aNil)))) (sNil))) (sRet (eFin (eVar 4))))
noncomputable def d_closed : Fn := fnOf 8 m_closed
noncomputable def m_alternate : SM := sSeq (sSet 2 (eC (.int 0))) (sSeq (sFor (iOf (eVar 1)) (bN 3) (sSet 2 (eOp2 pSub (eOp2 pIx (eVar 0) (eVar 3)) (eVar 2)))) (sRet (eVar 2)))
noncomputable def d_alternate : Fn := fnOf 4 m_alternate
noncomputable def m_bar_in : SM := sSeq (sFor (iOf (eCall 2 d_groups (aCons (eVar 0) (aCons (eVar 1) (aNil))))) (bTup (bCons (bN 4) (bCons (bN 5) (bNil)))) (sSeq (sSet 6 (eC .non)) (sFor (iOf (eCall 4 d_closed (aCons (eVar 0) (aCons (eVar 1) (aCons (eVar 4) (aCons (eVar 5) (aNil))))))) (bN 7) (sSeq (sSet 8 (eOp2 pMod (eCall 2 d_alternate (aCons (eVar 3) (aCons (eVar 7) (aNil)))) (eVar 2))) (sSeq (sIf (bAnd (toB (eOp2 pEq (eOp2 pMod (eOpN (pOne pLen) (aCons (eVar 7) (aNil))) (eC (.int 2))) (eC (.int 0)))) (toB (eOp2 pNe (eVar 8) (eC (.int 0))))) (sRet (eTup (aCons (eVar 4) (aCons (eVar 7) (aNil))))) (sNil)) (sIf (toB (eOp2 pEq (eOp2 pMod (eOpN (pOne pLen) (aCons (eVar 7) (aNil))) (eC (.int 2))) (eC (.int 1)))) (sSeq (sIf (bAnd (toB (eOp2 pEq (eOp2 pMod (eVar 2) (eC (.int 2))) (eC (.int 0)))) (toB (eOp2 pEq (eOp2 pMod (eVar 8) (eC (.int 2))) (eC (.int 1))))) (sRet (eTup (aCons (eVar 4) (aCons (eVar 7) (aNil))))) (sNil)) (sSeq (sIf (bAnd (toB (eOp2 pIsNot (eVar 6) (eC .non))) (toB (eOp2 pNe (eOp2 pMod (eOp2 pSub (eCall 2 d_alternate (aCons (eVar 3) (aCons (eVar 6) (aNil)))) (eVar 8)) (eVar 2)) (eC (.int 0))))) (sRet (eTup (aCons (eVar 4) (aCons (eOp2 pAdd (eVar 6) (eVar 7)) (aNil))))) (sNil)) (sSet 6 (eVar 7)))) (sNil))))))) (sRet (eC .non))
noncomputable def d_bar_in : Fn := fnOf 9 m_bar_in
noncomputable def m_bar : SM := sSeq (sExpr (eCall 2 d_need_both (aCons (eVar 0) (aCons (eVar 1) (aNil))))) (sSeq (sExpr (eCall 1 d_need_room (aCons (eVar 2) (aNil)))) (sSeq (sExpr (eCall 3 d_need_numbers (aCons (eVar 0) (aCons (eVar 2) (aCons (eVar 3) (aNil)))))) (sRet (eCall 4 d_bar_in (aCons (eVar 0) (aCons (eVar 1) (aCons (eVar 2) (aCons (eVar 3) (aNil)))))))))
noncomputable def d_bar : Fn := fnOf 4 m_bar
noncomputable def m_half : SM := sSeq (sSet 0 (eOp2 pMod (eVar 0) (eVar 1))) (sSeq (sIf (toB (eOp2 pEq (eOp2 pMod (eVar 0) (eC (.int 2))) (eC (.int 0)))) (sRet (eOp2 pDiv (eVar 0) (eC (.int 2)))) (sNil)) (sRet (eOp2 pDiv (eOp2 pAdd (eVar 0) (eVar 1)) (eC (.int 2)))))
noncomputable def d_half : Fn := fnOf 2 m_half
noncomputable def m_is_telling : SM := sSeq (sExpr (eCall 2 d_need_both (aCons (eVar 0) (aCons (eVar 1) (aNil))))) (sSeq (sExpr (eCall 1 d_need_room (aCons (eVar 2) (aNil)))) (sSeq (sExpr (eCall 3 d_need_numbers (aCons (eVar 0) (aCons (eVar 2) (aCons (eVar 3) (aNil)))))) (sSeq (sIf (bOr (bNot (toB (eCall 2 d_are_worths (aCons (eVar 4) (aCons (eVar 2) (aNil)))))) (toB (eOpN (pOne pAny) (aCons (eComp [5] (iOf (eCall 2 d_letters_of (aCons (eVar 0) (aCons (eVar 1) (aNil))))) (bN 5) (bYes) (eOp2 pNotIn (eVar 5) (eFrz (cDict (eVar 4))))) (aNil))))) (sRet (eC (.bl false))) (sNil)) (sRet (eOp2 pEq (eCall 4 d_numbers_by (aCons (eVar 0) (aCons (eVar 1) (aCons (eVar 2) (aCons (eFrz (cDict (eVar 4))) (aNil)))))) (eVar 3))))))
noncomputable def d_is_telling : Fn := fnOf 6 m_is_telling
noncomputable def m_goes : SM := sSeq (sSet 4 (eVar 2)) (sSeq (sSet 5 (eCall 2 d_pairs_of (aCons (eVar 0) (aCons (eVar 1) (aNil))))) (sSeq (sFor (iOf (eVar 3)) (bN 6) (sSeq (sAsg (bTup (bCons (bN 7) (bCons (bN 8) (bNil)))) (eOp2 pIx (eVar 5) (eVar 6))) (sIf (toB (eOp2 pEq (eVar 4) (eVar 7))) (sSet 4 (eVar 8)) (sIf (toB (eOp2 pEq (eVar 4) (eVar 8))) (sSet 4 (eVar 7)) (sRet (eC .non)))))) (sRet (eVar 4))))
noncomputable def d_goes : Fn := fnOf 9 m_goes
noncomputable def m_is_bar : SM := sSeq (sExpr (eCall 2 d_need_both (aCons (eVar 0) (aCons (eVar 1) (aNil))))) (sSeq (sExpr (eCall 1 d_need_room (aCons (eVar 2) (aNil)))) (sSeq (sExpr (eCall 3 d_need_numbers (aCons (eVar 0) (aCons (eVar 2) (aCons (eVar 3) (aNil)))))) (sSeq (sIf (bOr (bNot (toB (eOp1 (pIsI "tuple") (eVar 4)))) (bOr (toB (eOp2 pNe (eOpN (pOne pLen) (aCons (eVar 4) (aNil))) (eC (.int 2)))) (bNot (toB (eOp1 (pIsI "str") (eOp2 pIx (eVar 4) (eC (.int 0)))))))) (sRet (eC (.bl false))) (sNil)) (sSeq (sIf (bNot (toB (eOp1 (pIsI "list") (eOp2 pIx (eVar 4) (eC (.int 1)))))) (sRet (eC (.bl false))) (sNil)) (sSeq (sIf (bOr (bNot (toB (eChain pLe pLe (eC (.int 1)) (eOpN (pOne pLen) (aCons (eOp2 pIx (eVar 4) (eC (.int 1))) (aNil))) (eOp2 pMul (eC (.int 2)) (eC (.int 20)))))) (bNot (toB (eOpN (pOne pAll) (aCons (eComp [6] (iOf (eOp2 pIx (eVar 4) (eC (.int 1)))) (bN 6) (bYes) (eCall 3 d_is_whole (aCons (eVar 6) (aCons (eC (.int 0)) (aCons (eOp2 pSub (eOpN (pOne pLen) (aCons (eVar 0) (aNil))) (eC (.int 1))) (aNil)))))) (aNil)))))) (sRet (eC (.bl false))) (sNil)) (sSeq (sIf (toB (eOp2 pNe (eCall 4 d_goes (aCons (eVar 0) (aCons (eVar 1) (aCons (eOp2 pIx (eVar 4) (eC (.int 0))) (aCons (eOp2 pIx (eVar 4) (eC (.int 1))) (aNil)))))) (eOp2 pIx (eVar 4) (eC (.int 0))))) (sRet (eC (.bl false))) (sNil)) (sSeq (sSet 5 (eOp2 pMod (eCall 2 d_alternate (aCons (eVar 3) (aCons (eOp2 pIx (eVar 4) (eC (.int 1))) (aNil)))) (eVar 2))) (sSeq (sIf (toB (eOp2 pEq (eOp2 pMod (eOpN (pOne pLen) (aCons (eOp2 pIx (eVar 4) (eC (.int 1))) (aNil))) (eC (.int 2))) (eC (.int 0)))) (sRet (eOp2 pNe (eVar 5) (eC (.int 0)))) (sNil)) (sRet (eAnd (eOp2 pEq (eOp2 pMod (eVar 2) (eC (.int 2))) (eC (.int 0))) (eOp2 pEq (eOp2 pMod (eVar 5) (eC (.int 2))) (eC (.int 1)))))))))))))
noncomputable def d_is_bar : Fn := fnOf 7 m_is_bar
noncomputable def m_tied : SM := sSeq (sSet 2 (eComp [4] (iOf (eCall 2 d_pairs_of (aCons (eVar 0) (aCons (eVar 1) (aNil))))) (bN 4) (bYes) (eOpN (pOne pTupleA) (aCons (eOpN (pOne pSortTS) (aCons (eVar 4) (aNil))) (aNil))))) (sSeq (sFor (iEnumD (eVar 2)) (bTup (bCons (bN 3) (bCons (bN 4) (bNil)))) (sIf (toB (eOp2 pIn (eVar 4) (eSl (eVar 2) (oNone) (oSome (eVar 3))))) (sRet (eTup (aCons (eMeth "list" pIndexL (eVar 2) (aCons (eVar 4) (aNil))) (aCons (eVar 3) (aNil))))) (sNil))) (sRet (eC .non)))
noncomputable def d_tied : Fn := fnOf 5 m_tied
noncomputable def m_clash : SM := sSeq (sExpr (eCall 2 d_need_both (aCons (eVar 0) (aCons (eVar 1) (aNil))))) (sRet (eCall 2 d_tied (aCons (eVar 0) (aCons (eVar 1) (aNil)))))
noncomputable def d_clash : Fn := fnOf 2 m_clash
noncomputable def m_ready : SM := sSeq (sSet 3 (eSl (eVar 1) (oNone) (oSome (eOp2 pAdd (eVar 2) (eC (.int 1)))))) (sSeq (sSet 4 (eNew (cLst (aNil)))) (sSeq (sFor (iEnumD (eVar 0)) (bTup (bCons (bN 5) (bCons (bTup (bCons (bN 6) (bCons (bN 7) (bNil)))) (bNil)))) (sIf (bAnd (toB (eOp2 pIn (eVar 6) (eVar 3))) (bAnd (toB (eOp2 pIn (eVar 7) (eVar 3))) (toB (eOp2 pIn (eOp2 pIx (eVar 1) (eVar 2)) (eTup (aCons (eVar 6) (aCons (eVar 7) (aNil)))))))) (sExpr (eMutL true mAppend (eVar 4) (aCons (eVar 5) (aNil)))) (sNil))) (sRet (eFin (eVar 4)))))
noncomputable def d_ready : Fn := fnOf 8 m_ready
noncomputable def m_fill (r : Fn) : SM := sSeq (sIf (toB (eOp2 pEq (eVar 5) (eOpN (pOne pLen) (aCons (eVar 1) (aNil))))) (sRet (eFrz (cDict (eVar 3)))) (sNil)) (sSeq (sFor (iRange1 (eVar 2)) (bN 6) (sSeq (sPut (eVar 3) (eOp2 pIx (eVar 1) (eVar 5)) (eVar 6)) (sSeq (sSet 7 (eComp [9] (iOf (eCall 3 d_ready (aCons (eVar 0) (aCons (eVar 1) (aCons (eVar 5) (aNil)))))) (bN 9) (bYes) (eOp2 pMod (eOp2 pAdd (eOp2 pIx (eVar 3) (eOp2 pIx (eOp2 pIx (eVar 0) (eVar 9)) (eC (.int 0)))) (eOp2 pIx (eVar 3) (eOp2 pIx (eOp2 pIx (eVar 0) (eVar 9)) (eC (.int 1))))) (eVar 2)))) (sIf (bAnd (toB (eOp2 pEq (eOp1 pLenSet (eVar 7)) (eOpN (pOne pLen) (aCons (eVar 7) (aNil))))) (bNot (toB (eOpN (pOne pAny) (aCons (eComp [10] (iOf (eVar 7)) (bN 10) (bYes) (eOp2 pIn (eVar 10) (eVar 4))) (aNil)))))) (sSeq (sSet 8 (eCall 6 r (aCons (eVar 0) (aCons (eVar 1) (aCons (eVar 2) (aCons (eVar 3) (aCons (eOp2 pAdd (eVar 4) (eVar 7)) (aCons (eOp2 pAdd (eVar 5) (eC (.int 1))) (aNil))))))))) (sIf (toB (eOp2 pIsNot (eVar 8) (eC .non))) (sRet (eVar 8)) (sNil))) (sNil))))) (sSeq (sExpr (eDPop (eVar 3) (eOp2 pIx (eVar 1) (eVar 5)))) (sRet (eC .non))))
noncomputable def dr_fill : Nat → Fn
  | 0 => fnOf 11 sBad
  | n + 1 => fnOf 11 (m_fill (dr_fill n))
noncomputable def d_fill : Fn := dr_fill 14
noncomputable def m_least_in : SM := sSeq (sIf (bOr (toB (eOp2 pGt (eOpN (pOne pLen) (aCons (eVar 0) (aNil))) (eVar 2))) (toB (eOp2 pIsNot (eCall 2 d_tied (aCons (eVar 0) (aCons (eVar 1) (aNil)))) (eC .non)))) (sRet (eC .non)) (sNil)) (sRet (eCall 6 d_fill (aCons (eCall 2 d_pairs_of (aCons (eVar 0) (aCons (eVar 1) (aNil)))) (aCons (eCall 2 d_letters_of (aCons (eVar 0) (aCons (eVar 1) (aNil)))) (aCons (eVar 2) (aCons (eNew cEmpty) (aCons (eLst (aNil)) (aCons (eC (.int 0)) (aNil)))))))))
noncomputable def d_least_in : Fn := fnOf 3 m_least_in
noncomputable def m_least_room : SM := sSeq (sExpr (eCall 2 d_need_both (aCons (eVar 0) (aCons (eVar 1) (aNil))))) (sSeq (sIf (toB (eOp2 pIsNot (eCall 2 d_tied (aCons (eVar 0) (aCons (eVar 1) (aNil)))) (eC .non))) (sRaise 6) (sNil)) (sSeq (sSet 2 (eOpN (pOne pLen) (aCons (eVar 0) (aNil)))) (sSeq (sWhile (toB (eOp2 pIs (eCall 3 d_least_in (aCons (eVar 0) (aCons (eVar 1) (aCons (eVar 2) (aNil))))) (eC .non))) (sSet 2 (eOp2 pAdd (eVar 2) (eC (.int 1))))) (sRet (eVar 2)))))
noncomputable def d_least_room : Fn := fnOf 3 m_least_room
noncomputable def m_all_looks : SM := sSeq (sSet 0 (eNew (cLst (aNil)))) (sSeq (sFor (iRange2 (eOp2 pSub (eOp2 pSub (eC (.int 0)) (eC (.int 2))) (eC (.int 1))) (eOp2 pAdd (eC (.int 2)) (eC (.int 1)))) (bN 1) (sExpr (eMutL false mExtend (eVar 0) (aCons (eComp [2] (iRange2 (eOp2 pSub (eOp2 pSub (eC (.int 0)) (eC (.int 2))) (eC (.int 1))) (eOp2 pAdd (eC (.int 2)) (eC (.int 1)))) (bN 2) (bYes) (eTup (aCons (eVar 1) (aCons (eVar 2) (aNil))))) (aNil))))) (sRet (eFin (eVar 0))))
noncomputable def d_all_looks : Fn := fnOf 3 m_all_looks
noncomputable def m_looks : SM := sSeq (sExpr (eCall 2 d_need_both (aCons (eVar 0) (aCons (eTup (aCons (eC (.int 0)) (aCons (eC (.int 0)) (aNil)))) (aNil))))) (sSeq (sSet 1 (eNew (cEmpty))) (sSeq (sSet 2 (eNew (cLst (aNil)))) (sSeq (sFor (iOf (eCall0 d_all_looks)) (bN 3) (sSeq (sSet 4 (eOpN (pOne pTupleA) (aCons (eCall 2 d_pairs_of (aCons (eVar 0) (aCons (eVar 3) (aNil)))) (aNil)))) (sSeq (sIf (toB (eOp2 pNotIn (eVar 4) (eVar 1))) (sPut (eVar 1) (eVar 4) (eOp2 pIsNot (eCall 3 d_least_in (aCons (eVar 0) (aCons (eVar 3) (aCons (eOpN (pOne pLen) (aCons (eVar 0) (aNil))) (aNil))))) (eC .non))) (sNil)) (sIf (toB (eOp2 pIx (eVar 1) (eVar 4))) (sExpr (eMutL true mAppend (eVar 2) (aCons (eVar 3) (aNil)))) (sNil))))) (sRet (eFin (eVar 2))))))
noncomputable def d_looks : Fn := fnOf 5 m_looks
noncomputable def m_in_order : SM := sSeq (sExpr (eCall 2 d_need_both (aCons (eVar 0) (aCons (eVar 1) (aNil))))) (sRet (eOp2 pIs (eCall 4 d_bar_in (aCons (eVar 0) (aCons (eVar 1) (aCons (eOpN (pOne pLen) (aCons (eVar 0) (aNil))) (aCons (eOp1 pRgT1 (eOpN (pOne pLen) (aCons (eVar 0) (aNil)))) (aNil)))))) (eC .non)))
noncomputable def d_in_order : Fn := fnOf 2 m_in_order
noncomputable def m_Words_init : SM := sSeq (sIf (bNot (toB (eCall 1 d_is_look (aCons (eVar 1) (aNil))))) (sRaise 1) (sNil)) (sSeq (sFldS 14 "look" (eVar 0) (eVar 1)) (sSeq (sFldS 14 "row" (eVar 0) (eTup (aNil))) (sSeq (sFldS 14 "size" (eVar 0) (eC (.int 0))) (sFldS 14 "book" (eVar 0) (eFrz cEmpty)))))
noncomputable def d_Words_init : Fn := fnOf 2 m_Words_init true
noncomputable def m_Words_words : SM := sRet (eFld 14 "row" (eVar 0))
noncomputable def d_Words_words : Fn := fnOf 1 m_Words_words
noncomputable def m_Words_room : SM := sRet (eFld 14 "size" (eVar 0))
noncomputable def d_Words_room : Fn := fnOf 1 m_Words_room
noncomputable def m_Words_number : SM := sSeq (sIf (bOr (bNot (toB (eCall 1 d_is_word (aCons (eVar 1) (aNil))))) (toB (eOp2 pNotIn (eVar 1) (eFld 14 "row" (eVar 0))))) (sRaise 4) (sNil)) (sRet (eOp2 pIx (eCall 4 d_numbers_by (aCons (eTup (aCons (eVar 1) (aNil))) (aCons (eFld 14 "look" (eVar 0)) (aCons (eFld 14 "size" (eVar 0)) (aCons (eFld 14 "book" (eVar 0)) (aNil)))))) (eC (.int 0))))
noncomputable def d_Words_number : Fn := fnOf 2 m_Words_number
noncomputable def m_Words_numbers : SM := sRet (eComp [1] (iOf (eFld 14 "row" (eVar 0))) (bN 1) (bYes) (eTup (aCons (eVar 1) (aCons (eMth 14 2 "number" d_Words_number (eVar 0) (aCons (eVar 1) (aNil))) (aNil)))))
noncomputable def d_Words_numbers : Fn := fnOf 2 m_Words_numbers
noncomputable def m_Words_come : SM := sSeq (sIf (bNot (toB (eCall 1 d_is_word (aCons (eVar 1) (aNil))))) (sRaise 4) (sNil)) (sSeq (sIf (toB (eOp2 pIn (eVar 1) (eFld 14 "row" (eVar 0)))) (sRaise 8) (sNil)) (sSeq (sIf (toB (eOp2 pEq (eOpN (pOne pLen) (aCons (eFld 14 "row" (eVar 0)) (aNil))) (eC (.int 6)))) (sRaise 7) (sNil)) (sSeq (sSet 2 (eOp2 pAdd (eFld 14 "row" (eVar 0)) (eTup (aCons (eVar 1) (aNil))))) (sSeq (sIf (toB (eOp2 pIsNot (eCall 2 d_tied (aCons (eVar 2) (aCons (eFld 14 "look" (eVar 0)) (aNil)))) (eC .non))) (sRaise 6) (sNil)) (sSeq (sSet 3 (eOpN (pTwo pMax2) (aCons (eFld 14 "size" (eVar 0)) (aCons (eOpN (pOne pLen) (aCons (eVar 2) (aNil))) (aNil))))) (sSeq (sWhile (toB (eOp2 pIs (eCall 3 d_least_in (aCons (eVar 2) (aCons (eFld 14 "look" (eVar 0)) (aCons (eVar 3) (aNil))))) (eC .non))) (sSet 3 (eOp2 pAdd (eVar 3) (eC (.int 1))))) (sSeq (sFldS 14 "row" (eVar 0) (eVar 2)) (sSeq (sFldS 14 "size" (eVar 0) (eVar 3)) (sSeq (sFldS 14 "book" (eVar 0) (eCall 3 d_least_in (aCons (eVar 2) (aCons (eFld 14 "look" (eVar 0)) (aCons (eVar 3) (aNil)))))) (sRet (eVar 3)))))))))))
noncomputable def d_Words_come : Fn := fnOf 4 m_Words_come
noncomputable def m_begins : SM := sSeq (sSet 6 (eComp [8] (iOf (eCall 4 d_closed (aCons (eVar 0) (aCons (eVar 1) (aCons (eVar 4) (aCons (eVar 5) (aNil))))))) (bN 8) (toB (eOp2 pEq (eOp2 pMod (eOpN (pOne pLen) (aCons (eVar 8) (aNil))) (eC (.int 2))) (eC (.int 1)))) (eVar 8))) (sSeq (sIf (toB (eOp2 pEq (eVar 6) (eLst (aNil)))) (sRet (eOp1 pRgL1 (eVar 2))) (sNil)) (sSeq (sSet 7 (eCall 2 d_half (aCons (eCall 2 d_alternate (aCons (eVar 3) (aCons (eOp2 pIx (eVar 6) (eC (.int 0))) (aNil)))) (aCons (eVar 2) (aNil))))) (sSeq (sIf (toB (eOp2 pEq (eOp2 pMod (eVar 2) (eC (.int 2))) (eC (.int 1)))) (sRet (eLst (aCons (eVar 7) (aNil)))) (sNil)) (sRet (eOpN (pOne pSorted) (aCons (eLst (aCons (eVar 7) (aCons (eOp2 pMod (eOp2 pAdd (eVar 7) (eOp2 pDiv (eVar 2) (eC (.int 2)))) (eVar 2)) (aNil)))) (aNil)))))))
noncomputable def d_begins : Fn := fnOf 9 m_begins
noncomputable def m_pieces : SM := sSeq (sIf (toB (eOp2 pIsNot (eCall 4 d_bar (aCons (eVar 0) (aCons (eVar 1) (aCons (eVar 2) (aCons (eVar 3) (aNil)))))) (eC .non))) (sRet (eLst (aNil))) (sNil)) (sRet (eComp [4, 5] (iOf (eCall 2 d_groups (aCons (eVar 0) (aCons (eVar 1) (aNil))))) (bTup (bCons (bN 4) (bCons (bN 5) (bNil)))) (bYes) (eTup (aCons (eVar 5) (aCons (eCall 6 d_begins (aCons (eVar 0) (aCons (eVar 1) (aCons (eVar 2) (aCons (eVar 3) (aCons (eVar 4) (aCons (eVar 5) (aNil)))))))) (aNil))))))
noncomputable def d_pieces : Fn := fnOf 6 m_pieces
noncomputable def m_how_many : SM := sSeq (sSet 4 (eCall 4 d_pieces (aCons (eVar 0) (aCons (eVar 1) (aCons (eVar 2) (aCons (eVar 3) (aNil))))))) (sSeq (sSet 5 (eOpN (pOne pInt) (aCons (eOp2 pNeL (eVar 4) (eLst (aNil))) (aNil)))) (sSeq (sFor (iOf (eVar 4)) (bTup (bCons (bN 6) (bCons (bN 7) (bNil)))) (sSet 5 (eOp2 pMul (eVar 5) (eOpN (pOne pLen) (aCons (eVar 7) (aNil)))))) (sRet (eVar 5))))
noncomputable def d_how_many : Fn := fnOf 8 m_how_many
noncomputable def m_parts_of : SM := sSeq (sSet 2 (eLst (aCons (eTup (aNil)) (aNil)))) (sSeq (sFor (iRange1 (eVar 1)) (bN 3) (sSeq (sSet 4 (eNew (cLst (aNil)))) (sSeq (sFor (iOf (eVar 2)) (bN 5) (sExpr (eMutL false mExtend (eVar 4) (aCons (eComp [6] (iOf (eVar 0)) (bN 6) (bOr (toB (eOp2 pEq (eVar 5) (eTup (aNil)))) (toB (eOp2 pGt (eVar 6) (eOp2 pIx (eVar 5) (eOp1 pNeg (eC (.int 1))))))) (eOp2 pAdd (eVar 5) (eTup (aCons (eVar 6) (aNil))))) (aNil))))) (sSet 2 (eFin (eVar 4)))))) (sRet (eVar 2)))
noncomputable def d_parts_of : Fn := fnOf 7 m_parts_of
noncomputable def m_is_free : SM := sSeq (sSet 5 (eOpN (pOne pTupleA) (aCons (eComp [6] (iOf (eVar 4)) (bN 6) (bYes) (eOp2 pIx (eVar 0) (eVar 6))) (aNil)))) (sSeq (sIf (toB (eOp2 pEq (eVar 5) (eTup (aNil)))) (sRet (eC (.bl true))) (sNil)) (sRet (eOp2 pIs (eCall 4 d_bar_in (aCons (eVar 5) (aCons (eVar 1) (aCons (eVar 2) (aCons (eOpN (pOne pTupleA) (aCons (eComp [6] (iOf (eVar 4)) (bN 6) (bYes) (eOp2 pIx (eVar 3) (eVar 6))) (aNil))) (aNil)))))) (eC .non))))
noncomputable def d_is_free : Fn := fnOf 7 m_is_free
noncomputable def m_rests : SM := sSeq (sSet 4 (eOp1 pRgL1 (eOpN (pOne pLen) (aCons (eVar 0) (aNil))))) (sSeq (sFor (iRange1 (eOp2 pAdd (eOpN (pOne pLen) (aCons (eVar 0) (aNil))) (eC (.int 1)))) (bN 5) (sSeq (sSet 6 (eCall 2 d_parts_of (aCons (eVar 4) (aCons (eVar 5) (aNil))))) (sSeq (sSet 7 (eComp [8] (iOf (eVar 6)) (bN 8) (toB (eCall 5 d_is_free (aCons (eVar 0) (aCons (eVar 1) (aCons (eVar 2) (aCons (eVar 3) (aCons (eComp [9] (iOf (eVar 4)) (bN 9) (toB (eOp2 pNotIn (eVar 9) (eVar 8))) (eVar 9)) (aNil)))))))) (eVar 8))) (sIf (toB (eOp2 pNe (eVar 7) (eLst (aNil)))) (sRet (eVar 7)) (sNil))))) (sRet (eLst (aNil))))
noncomputable def d_rests : Fn := fnOf 10 m_rests
noncomputable def m_left_out : SM := sSeq (sExpr (eCall 2 d_need_both (aCons (eVar 0) (aCons (eVar 1) (aNil))))) (sSeq (sExpr (eCall 1 d_need_room (aCons (eVar 2) (aNil)))) (sSeq (sExpr (eCall 3 d_need_numbers (aCons (eVar 0) (aCons (eVar 2) (aCons (eVar 3) (aNil)))))) (sRet (eOp2 pIx (eCall 4 d_rests (aCons (eVar 0) (aCons (eVar 1) (aCons (eVar 2) (aCons (eVar 3) (aNil)))))) (eC (.int 0))))))
noncomputable def d_left_out : Fn := fnOf 4 m_left_out
noncomputable def m_filled : SM := sSeq (sSet 5 (eNew (cOf (eVar 3)))) (sSeq (sSet 6 (eComp [7] (iRange1 (eOpN (pOne pLen) (aCons (eVar 0) (aNil)))) (bN 7) (toB (eOp2 pNotIn (eVar 7) (eVar 4))) (eVar 7))) (sSeq (sFor (iOf (eVar 4)) (bN 7) (sSeq (sSet 6 (eOpN (pOne pSorted) (aCons (eOp2 pAdd (eVar 6) (eLst (aCons (eVar 7) (aNil)))) (aNil)))) (sSeq (sPut (eVar 5) (eVar 7) (eC (.int 0))) (sWhile (bNot (toB (eCall 5 d_is_free (aCons (eVar 0) (aCons (eVar 1) (aCons (eVar 2) (aCons (eVar 5) (aCons (eVar 6) (aNil))))))))) (sPut (eVar 5) (eVar 7) (eOp2 pAdd (eOp2 pIx (eVar 5) (eVar 7)) (eC (.int 1)))))))) (sRet (eOpN (pOne pTupleA) (aCons (eVar 5) (aNil))))))
noncomputable def d_filled : Fn := fnOf 8 m_filled
noncomputable def m_need_words : SM := sIf (bNot (toB (eCall 1 d_are_words (aCons (eVar 0) (aNil))))) (sRaise 0) (sNil)
noncomputable def d_need_words : Fn := fnOf 1 m_need_words
noncomputable def m_mirrored : SM := sSeq (sExpr (eCall 1 d_need_words (aCons (eVar 0) (aNil)))) (sRet (eOpN (pOne pTupleA) (aCons (eComp [1] (iOf (eVar 0)) (bN 1) (bYes) (eOp1 pRevA (eVar 1))) (aNil))))
noncomputable def d_mirrored : Fn := fnOf 2 m_mirrored
noncomputable def m_turned : SM := sSeq (sIf (bNot (toB (eCall 1 d_is_look (aCons (eVar 0) (aNil))))) (sRaise 1) (sNil)) (sRet (eTup (aCons (eOp2 pSub (eOp2 pSub (eC (.int 0)) (eC (.int 1))) (eOp2 pIx (eVar 0) (eC (.int 0)))) (aCons (eOp2 pSub (eOp2 pSub (eC (.int 0)) (eC (.int 1))) (eOp2 pIx (eVar 0) (eC (.int 1)))) (aNil)))))
noncomputable def d_turned : Fn := fnOf 1 m_turned
noncomputable def m_renamed : SM := sSeq (sExpr (eCall 1 d_need_words (aCons (eVar 0) (aNil)))) (sSeq (sIf (bOr (bNot (toB (eOp1 (pIsI "str") (eVar 1)))) (toB (eOp2 pNe (eOpN (pOne pSorted) (aCons (eVar 1) (aNil))) (eOpN (pOne pListA) (aCons (eC (.str [97, 98, 99, 100, 101, 102, 103, 104, 105, 106, 107, 108, 109, 110, 111, 112, 113, 114, 115, 116, 117, 118, 119, 120, 121, 122])) (aNil)))))) (sRaise 10) (sNil)) (sRet (eOpN (pOne pTupleA) (aCons (eComp [2] (iOf (eVar 0)) (bN 2) (bYes) (eMeth "str" pJoin (eC (.str [])) (aCons (eComp [3] (iOf (eVar 2)) (bN 3) (bYes) (eOp2 pIx (eVar 1) (eMeth "str" pIndexS (eC (.str [97, 98, 99, 100, 101, 102, 103, 104, 105, 106, 107, 108, 109, 110, 111, 112, 113, 114, 115, 116, 117, 118, 119, 120, 121, 122])) (aCons (eVar 3) (aNil))))) (aNil)))) (aNil)))))
noncomputable def d_renamed : Fn := fnOf 4 m_renamed
noncomputable def m_Book_init : SM := sSeq (sSet 5 (eCall 4 d_numbered (aCons (eVar 1) (aCons (eVar 2) (aCons (eVar 3) (aCons (eVar 4) (aNil))))))) (sSeq (sIf (toB (eOp2 pNe (eOp1 pLenSet (eVar 5)) (eOpN (pOne pLen) (aCons (eVar 5) (aNil))))) (sRaise 6) (sNil)) (sSeq (sFldS 15 "look" (eVar 0) (eVar 2)) (sSeq (sFldS 15 "size" (eVar 0) (eVar 3)) (sSeq (sFldS 15 "book" (eVar 0) (eFrz (cDict (eVar 4)))) (sSeq (sFldS 15 "row" (eVar 0) (eNew (cOp2 pMul (eLst (aCons (eC .non) (aNil))) (eVar 3)))) (sSeq (sFor (iZipD (eVar 1) (eVar 5)) (bTup (bCons (bN 6) (bCons (bN 7) (bNil)))) (sPut (eFld 15 "row" (eVar 0)) (eVar 7) (eVar 6))) (sFldS 15 "past" (eVar 0) (eNew (cLst (aNil))))))))))
noncomputable def d_Book_init : Fn := fnOf 8 m_Book_init true
noncomputable def m_Book_places : SM := sRet (eOpN (pOne pListA) (aCons (eFld 15 "row" (eVar 0)) (aNil)))
noncomputable def d_Book_places : Fn := fnOf 1 m_Book_places
noncomputable def m_Book_number_of : SM := sSeq (sAsg (bTup (bCons (bN 2) (bCons (bN 3) (bNil)))) (eCall 2 d_pair_of (aCons (eVar 1) (aCons (eFld 15 "look" (eVar 0)) (aNil))))) (sSeq (sIf (bOr (toB (eOp2 pNotIn (eVar 2) (eFld 15 "book" (eVar 0)))) (toB (eOp2 pNotIn (eVar 3) (eFld 15 "book" (eVar 0))))) (sRet (eC .non)) (sNil)) (sRet (eOp2 pMod (eOp2 pAdd (eOp2 pIx (eFld 15 "book" (eVar 0)) (eVar 2)) (eOp2 pIx (eFld 15 "book" (eVar 0)) (eVar 3))) (eFld 15 "size" (eVar 0)))))
noncomputable def d_Book_number_of : Fn := fnOf 4 m_Book_number_of
noncomputable def m_Book_ask : SM := sSeq (sIf (bNot (toB (eCall 1 d_is_word (aCons (eVar 1) (aNil))))) (sRaise 4) (sNil)) (sSeq (sSet 2 (eMth 15 2 "number_of" d_Book_number_of (eVar 0) (aCons (eVar 1) (aNil)))) (sSeq (sIf (bOr (toB (eOp2 pIs (eVar 2) (eC .non))) (toB (eOp2 pIs (eOp2 pIx (eFld 15 "row" (eVar 0)) (eVar 2)) (eC .non)))) (sSeq (sExpr (eMutL true mAppend (eFld 15 "past" (eVar 0)) (aCons (eTup (aCons (eVar 1) (aCons (eC (.int 2)) (aNil)))) (aNil)))) (sRet (eC .non))) (sNil)) (sSeq (sExpr (eMutL true mAppend (eFld 15 "past" (eVar 0)) (aCons (eTup (aCons (eVar 1) (aCons (eOpN (pOne pInt) (aCons (eOp2 pNe (eOp2 pIx (eFld 15 "row" (eVar 0)) (eVar 2)) (eVar 1)) (aNil))) (aNil)))) (aNil)))) (sRet (eIf (toB (eOp2 pEq (eOp2 pIx (eFld 15 "row" (eVar 0)) (eVar 2)) (eVar 1))) (eVar 2) (eC .non))))))
noncomputable def d_Book_ask : Fn := fnOf 3 m_Book_ask
noncomputable def m_Book_counts : SM := sSeq (sSet 1 (eCompP [2, 3] (eFld 15 "past" (eVar 0)) (bTup (bCons (bN 2) (bCons (bN 3) (bNil)))) (bYes) (eVar 3))) (sRet (eTup (aCons (eMeth "list" pCount (eVar 1) (aCons (eC (.int 0)) (aNil))) (aCons (eMeth "list" pCount (eVar 1) (aCons (eC (.int 1)) (aNil))) (aCons (eMeth "list" pCount (eVar 1) (aCons (eC (.int 2)) (aNil))) (aNil))))))
noncomputable def d_Book_counts : Fn := fnOf 4 m_Book_counts
noncomputable def m_Book_undo : SM := sSeq (sIf (toB (eOp2 pEq (eFld 15 "past" (eVar 0)) (eLst (aNil)))) (sRaise 12) (sNil)) (sRet (eOp2 pIx (eMutL false mPop (eFld 15 "past" (eVar 0)) aNil) (eC (.int 0))))
noncomputable def d_Book_undo : Fn := fnOf 1 m_Book_undo
noncomputable def m_text_of : SM := sRet (eMeth "str" pJoin (eC (.str [32])) (aCons (eComp [1, 2] (iOf (eVar 0)) (bTup (bCons (bN 1) (bCons (bN 2) (bNil)))) (bYes) (eOp2 pAdd (eVar 1) (eOpN (pOne pStr) (aCons (eVar 2) (aNil))))) (aNil)))
noncomputable def d_text_of : Fn := fnOf 3 m_text_of
noncomputable def m_worths_text : SM := sSeq (sExpr (eCall 1 d_need_room (aCons (eVar 1) (aNil)))) (sSeq (sIf (bNot (toB (eCall 2 d_are_worths (aCons (eVar 0) (aCons (eVar 1) (aNil)))))) (sRaise 5) (sNil)) (sRet (eCall 1 d_text_of (aCons (eVar 0) (aNil)))))
noncomputable def d_worths_text : Fn := fnOf 2 m_worths_text
noncomputable def m_whole_of : SM := sSeq (sSet 1 (eIf (toB (eOp2 pEq (eSl (eVar 0) (oNone) (oSome (eC (.int 1)))) (eC (.str [45])))) (eSl (eVar 0) (oSome (eC (.int 1))) (oNone)) (eVar 0))) (sSeq (sIf (bOr (toB (eOp2 pEq (eVar 1) (eC (.str [])))) (bOr (toB (eOp2 pGt (eOpN (pOne pLen) (aCons (eVar 1) (aNil))) (eC (.int 2)))) (toB (eOp2 pNe (eMeth "str" pStrip (eVar 1) (aCons (eC (.str [48, 49, 50, 51, 52, 53, 54, 55, 56, 57])) (aNil))) (eC (.str [])))))) (sRaise 11) (sNil)) (sRet (eOpN (pOne pInt) (aCons (eVar 0) (aNil)))))
noncomputable def d_whole_of : Fn := fnOf 2 m_whole_of
noncomputable def m_read_worths : SM := sSeq (sExpr (eCall 1 d_need_room (aCons (eVar 1) (aNil)))) (sSeq (sIf (bNot (toB (eOp1 (pIsI "str") (eVar 0)))) (sRaise 11) (sNil)) (sSeq (sSet 2 (eIf (toB (eOp2 pNe (eVar 0) (eC (.str [])))) (eMeth "str" pSplit (eVar 0) (aCons (eC (.str [32])) (aNil))) (eLst (aNil)))) (sSeq (sSet 3 (eOpN (pOne pTupleA) (aCons (eComp [4] (iOf (eVar 2)) (bN 4) (bYes) (eTup (aCons (eSl (eVar 4) (oNone) (oSome (eC (.int 1)))) (aCons (eCall 1 d_whole_of (aCons (eSl (eVar 4) (oSome (eC (.int 1))) (oNone)) (aNil))) (aNil))))) (aNil)))) (sSeq (sIf (bOr (bNot (toB (eCall 2 d_are_worths (aCons (eVar 3) (aCons (eVar 1) (aNil)))))) (toB (eOp2 pNe (eCall 1 d_text_of (aCons (eVar 3) (aNil))) (eVar 0)))) (sRaise 11) (sNil)) (sRet (eVar 3))))))
noncomputable def d_read_worths : Fn := fnOf 5 m_read_worths
noncomputable def m_list_text : SM := sRet (eMeth "str" pJoin (eC (.str [32])) (aCons (eOp2 pAdd (eLst (aCons (eOpN (pOne pStr) (aCons (eOp2 pIx (eFld 14 "look" (eVar 0)) (eC (.int 0))) (aNil))) (aCons (eOp2 pAdd (eOpN (pOne pStr) (aCons (eOp2 pIx (eFld 14 "look" (eVar 0)) (eC (.int 1))) (aNil))) (eC (.str [58]))) (aNil)))) (eOpN (pOne pListA) (aCons (eMth 14 1 "words" d_Words_words (eVar 0) aNil) (aNil)))) (aNil)))
noncomputable def d_list_text : Fn := fnOf 1 m_list_text
end MP

namespace MB
open PySem PySem.Spec PyProof.Rows L2 L2H DL MP
noncomputable def m__law_cell_at : SM := sSeq (sIf (toB (eOp2 pLt (eVar 1) (eOpN (pOne pLen) (aCons (eVar 0) (aNil))))) (sRet (eOp2 pIx (eVar 0) (eVar 1))) (sNil)) (sSeq (sIf (toB (eOp2 pEq (eVar 0) (eLst (aNil)))) (sRet (eC (.int 0))) (sNil)) (sRet (eOp2 pAdd (eOp2 pMul (eOp2 pIx (eVar 0) (eOp2 pMod (eVar 1) (eOpN (pOne pLen) (aCons (eVar 0) (aNil))))) (eC (.int 31))) (eVar 1))))
noncomputable def d__law_cell_at : Fn := fnOf 2 m__law_cell_at
noncomputable def m__law_mixed : SM := sSeq (sSet 3 (eOp2 pMod (eOp2 pAdd (eOp2 pAdd (eOp2 pMul (eCall 2 d__law_cell_at (aCons (eVar 0) (aCons (eVar 1) (aNil)))) (eC (.int 1103515245))) (eOp2 pMul (eC (.int 7919)) (eVar 1))) (eC (.int 12345))) (eC (.int 2147483647)))) (sRet (eOp2 pMod (eOp2 pMod (eOp2 pMod (eOp2 pPow (eVar 3) (eC (.int 5))) (eC (.int 2147483647))) (eC (.int 999983))) (eVar 2)))
noncomputable def d__law_mixed : Fn := fnOf 4 m__law_mixed
noncomputable def m__law_draw : SM := sSeq (sExpr (eMutL true mAppend (eVar 1) (aCons (eC (.int 0)) (aNil)))) (sRet (eCall 3 d__law_mixed (aCons (eVar 0) (aCons (eOpN (pOne pLen) (aCons (eVar 1) (aNil))) (aCons (eVar 2) (aNil))))))
noncomputable def d__law_draw : Fn := fnOf 3 m__law_draw
noncomputable def m__law_pick : SM := sRet (eOp2 pIx (eVar 2) (eCall 3 d__law_draw (aCons (eVar 0) (aCons (eVar 1) (aCons (eOpN (pOne pLen) (aCons (eVar 2) (aNil))) (aNil))))))
noncomputable def d__law_pick : Fn := fnOf 3 m__law_pick
noncomputable def m__law_word : SM := sRet (eMeth "str" pJoin (eC (.str [])) (aCons (eComp [4] (iRange1 (eOp2 pAdd (eC (.int 1)) (eCall 3 d__law_draw (aCons (eVar 0) (aCons (eVar 1) (aCons (eVar 3) (aNil))))))) (bN 4) (bYes) (eCall 3 d__law_pick (aCons (eVar 0) (aCons (eVar 1) (aCons (eVar 2) (aNil)))))) (aNil)))
noncomputable def d__law_word : Fn := fnOf 5 m__law_word
noncomputable def m__law_words : SM := sSeq (sSet 3 (eCall 3 d__law_pick (aCons (eVar 0) (aCons (eVar 1) (aCons (eLst (aCons (eLst (aCons (eC (.str [97])) (aCons (eC (.str [98])) (aNil)))) (aCons (eLst (aCons (eC (.str [97])) (aCons (eC (.str [98])) (aCons (eC (.str [99])) (aNil))))) (aCons (eLst (aCons (eC (.str [97])) (aCons (eC (.str [98])) (aCons (eC (.str [99])) (aCons (eC (.str [100])) (aNil)))))) (aCons (eLst (aCons (eC (.str [107])) (aCons (eC (.str [109])) (aCons (eC (.str [122])) (aCons (eC (.str [97])) (aCons (eC (.str [101])) (aNil))))))) (aNil)))))) (aNil)))))) (sSeq (sSet 4 (eNew (cLst (aNil)))) (sSeq (sFor (iRange1 (eOp2 pAdd (eC (.int 1)) (eCall 3 d__law_draw (aCons (eVar 0) (aCons (eVar 1) (aCons (eVar 2) (aNil))))))) (bN 5) (sSeq (sSet 6 (eCall 4 d__law_word (aCons (eVar 0) (aCons (eVar 1) (aCons (eVar 3) (aCons (eC (.int 6)) (aNil))))))) (sIf (toB (eOp2 pNotIn (eVar 6) (eVar 4))) (sExpr (eMutL true mAppend (eVar 4) (aCons (eVar 6) (aNil)))) (sNil)))) (sRet (eOpN (pOne pTupleA) (aCons (eVar 4) (aNil))))))
noncomputable def d__law_words : Fn := fnOf 7 m__law_words
noncomputable def m__law_look : SM := sRet (eTup (aCons (eOp2 pSub (eCall 3 d__law_draw (aCons (eVar 0) (aCons (eVar 1) (aCons (eC (.int 6)) (aNil))))) (eC (.int 3))) (aCons (eOp2 pSub (eCall 3 d__law_draw (aCons (eVar 0) (aCons (eVar 1) (aCons (eC (.int 6)) (aNil))))) (eC (.int 3))) (aNil))))
noncomputable def d__law_look : Fn := fnOf 2 m__law_look
noncomputable def m__law_at : SM := sSeq (sSet 2 (eComp [3] (iRange1 (eOpN (pOne pLen) (aCons (eVar 0) (aNil)))) (bN 3) (bOr (toB (eOp2 pEq (eVar 3) (eVar 1))) (toB (eOp2 pEq (eVar 3) (eOp2 pAdd (eVar 1) (eOpN (pOne pLen) (aCons (eVar 0) (aNil))))))) (eVar 3))) (sSeq (sIf (toB (eOp2 pNe (eVar 2) (eLst (aNil)))) (sRet (eOp2 pIx (eVar 0) (eOp2 pIx (eVar 2) (eC (.int 0))))) (sNil)) (sRet (eIf (toB (eOp2 pGe (eVar 1) (eC (.int 0)))) (eOp2 pIx (eVar 0) (eOp1 pNeg (eC (.int 1)))) (eOp2 pIx (eVar 0) (eC (.int 0))))))
noncomputable def d__law_at : Fn := fnOf 4 m__law_at
noncomputable def m__law_seen : SM := sRet (eComp [2] (iOf (eVar 0)) (bN 2) (bYes) (eTup (aCons (eCall 2 d__law_at (aCons (eVar 2) (aCons (eOp2 pIx (eVar 1) (eC (.int 0))) (aNil)))) (aCons (eCall 2 d__law_at (aCons (eVar 2) (aCons (eOp2 pIx (eVar 1) (eC (.int 1))) (aNil)))) (aNil)))))
noncomputable def d__law_seen : Fn := fnOf 3 m__law_seen
noncomputable def m__law_letters : SM := sSeq (sSet 2 (eNew (cLst (aNil)))) (sSeq (sFor (iOf (eCall 2 d__law_seen (aCons (eVar 0) (aCons (eVar 1) (aNil))))) (bN 3) (sExpr (eMutL false mExtend (eVar 2) (aCons (eOpN (pOne pListA) (aCons (eVar 3) (aNil))) (aNil))))) (sRet (eOp1 pSortSet (eVar 2))))
noncomputable def d__law_letters : Fn := fnOf 4 m__law_letters
noncomputable def m__law_by : SM := sRet (eOpN (pOne pTupleA) (aCons (eComp [4, 5] (iOf (eCall 2 d__law_seen (aCons (eVar 0) (aCons (eVar 1) (aNil))))) (bTup (bCons (bN 4) (bCons (bN 5) (bNil)))) (bYes) (eOp2 pMod (eOp2 pAdd (eOp2 pIx (eVar 3) (eVar 4)) (eOp2 pIx (eVar 3) (eVar 5))) (eVar 2))) (aNil)))
noncomputable def d__law_by : Fn := fnOf 6 m__law_by
noncomputable def m__law_told : SM := sSeq (sSet 4 (eCall 3 d__law_draw (aCons (eVar 0) (aCons (eVar 1) (aCons (eC (.int 4)) (aNil)))))) (sSeq (sSet 5 (eOp2 pAdd (eC (.int 1)) (eCall 3 d__law_draw (aCons (eVar 0) (aCons (eVar 1) (aCons (eVar 3) (aNil))))))) (sSeq (sSet 6 (eCall 2 d__law_look (aCons (eVar 0) (aCons (eVar 1) (aNil))))) (sSeq (sSet 7 (eCall 3 d__law_words (aCons (eVar 0) (aCons (eVar 1) (aCons (eVar 2) (aNil)))))) (sSeq (sSet 8 (eFrz (cDict (eComp [11] (iOf (eCall 2 d__law_letters (aCons (eVar 7) (aCons (eVar 6) (aNil))))) (bN 11) (bYes) (eTup (aCons (eVar 11) (aCons (eCall 3 d__law_draw (aCons (eVar 0) (aCons (eVar 1) (aCons (eVar 5) (aNil))))) (aNil)))))))) (sSeq (sSet 9 (eNew (cOf (eCall 4 d__law_by (aCons (eVar 7) (aCons (eVar 6) (aCons (eVar 5) (aCons (eVar 8) (aNil))))))))) (sSeq (sFor (iRange1 (eOp2 pMul (eOp2 pDiv (eVar 4) (eC (.int 2))) (eOp2 pAdd (eC (.int 1)) (eOp2 pMod (eVar 4) (eC (.int 2)))))) (bN 10) (sPut (eVar 9) (eCall 3 d__law_draw (aCons (eVar 0) (aCons (eVar 1) (aCons (eOpN (pOne pLen) (aCons (eVar 9) (aNil))) (aNil))))) (eCall 3 d__law_draw (aCons (eVar 0) (aCons (eVar 1) (aCons (eVar 5) (aNil))))))) (sRet (eTup (aCons (eVar 7) (aCons (eVar 6) (aCons (eVar 5) (aCons (eOpN (pOne pTupleA) (aCons (eVar 9) (aNil))) (aNil)))))))))))))
noncomputable def d__law_told : Fn := fnOf 12 m__law_told
noncomputable def m__law_every : SM := sSeq (sSet 3 (eLst (aCons (eTup (aNil)) (aNil)))) (sSeq (sFor (iOf (eCall 2 d__law_letters (aCons (eVar 0) (aCons (eVar 1) (aNil))))) (bN 4) (sSeq (sSet 5 (eNew (cLst (aNil)))) (sSeq (sFor (iOf (eVar 3)) (bN 6) (sExpr (eMutL false mExtend (eVar 5) (aCons (eComp [7] (iRange1 (eVar 2)) (bN 7) (bYes) (eOp2 pAdd (eVar 6) (eTup (aCons (eTup (aCons (eVar 4) (aCons (eVar 7) (aNil)))) (aNil))))) (aNil))))) (sSet 3 (eFin (eVar 5)))))) (sRet (eVar 3)))
noncomputable def d__law_every : Fn := fnOf 8 m__law_every
noncomputable def m__law_odd_words : SM := sSeq (sSet 2 (eLst (aCons (eC .non) (aCons (eC (.int 5)) (aCons (eTup (aNil)) (aCons (eLst (aCons (eC (.str [97, 98])) (aNil))) (aCons (eTup (aCons (eC (.str [97, 98])) (aCons (eC (.str [97, 98])) (aNil)))) (aCons (eTup (aCons (eC (.str [])) (aNil))) (aCons (eTup (aCons (eC (.str [97, 98, 99, 100, 101, 102, 103])) (aNil))) (aCons (eTup (aCons (eC (.str [65, 98])) (aNil))) (aCons (eTup (aCons (eC (.str [97, 32, 98])) (aNil))) (aCons (eC (.str [97, 98])) (aCons (eTup (aCons (eC (.int 1)) (aNil))) (aCons (eTup (aCons (eC (.str [97, 98])) (aCons (eC .non) (aNil)))) (aNil))))))))))))))) (sRet (eCall 3 d__law_pick (aCons (eVar 0) (aCons (eVar 1) (aCons (eOp2 pAdd (eVar 2) (eLst (aCons (eOpN (pOne pTupleA) (aCons (eC (.str [97, 98, 99, 100, 101, 102, 103])) (aNil))) (aCons (eTup (aCons (eC (.str [97, 98])) (aCons (eC (.str [97, 49])) (aNil)))) (aCons (eTup (aCons (eTup (aCons (eC (.str [97])) (aNil))) (aNil))) (aNil)))))) (aNil))))))
noncomputable def d__law_odd_words : Fn := fnOf 3 m__law_odd_words
noncomputable def m__law_odd_look : SM := sSeq (sSet 2 (eLst (aCons (eC .non) (aCons (eC (.int 5)) (aCons (eTup (aNil)) (aCons (eTup (aCons (eC (.int 0)) (aNil))) (aCons (eTup (aCons (eC (.int 0)) (aCons (eC (.int 1)) (aCons (eC (.int 2)) (aNil))))) (aCons (eLst (aCons (eC (.int 0)) (aCons (eC (.int 1)) (aNil)))) (aCons (eTup (aCons (eC (.int 0)) (aCons (eC (.int 3)) (aNil)))) (aCons (eTup (aCons (eOp1 pNeg (eC (.int 4))) (aCons (eC (.int 0)) (aNil)))) (aCons (eTup (aCons (eC (.bl true)) (aCons (eC (.int 0)) (aNil)))) (aCons (eTup (aCons (eC (.int 0)) (aCons (eC (.bl false)) (aNil)))) (aCons (eTup (aCons (eC (.int 0)) (aCons (eC .non) (aNil)))) (aCons (eC (.str [48, 49])) (aCons (eTup (aCons (eC (.str [48])) (aCons (eC (.int 1)) (aNil)))) (aNil)))))))))))))))) (sRet (eCall 3 d__law_pick (aCons (eVar 0) (aCons (eVar 1) (aCons (eVar 2) (aNil))))))
noncomputable def d__law_odd_look : Fn := fnOf 3 m__law_odd_look
noncomputable def m__law_made : SM := sSeq (sSet 4 (eOp2 pAdd (eC (.int 1)) (eCall 3 d__law_draw (aCons (eVar 0) (aCons (eVar 1) (aCons (eVar 3) (aNil))))))) (sSeq (sSet 5 (eCall 2 d__law_look (aCons (eVar 0) (aCons (eVar 1) (aNil))))) (sSeq (sSet 6 (eCall 3 d__law_words (aCons (eVar 0) (aCons (eVar 1) (aCons (eVar 2) (aNil)))))) (sSeq (sSet 7 (eCall 3 d__law_pick (aCons (eVar 0) (aCons (eVar 1) (aCons (eLst (aCons (eLst (aNil)) (aCons (eLst (aCons (eC (.str [113])) (aNil))) (aCons (eLst (aCons (eC (.str [121])) (aCons (eC (.str [120])) (aNil)))) (aNil))))) (aNil)))))) (sSeq (sSet 8 (eOp1 pSortSet (eOp2 pAdd (eCall 2 d__law_letters (aCons (eVar 6) (aCons (eVar 5) (aNil)))) (eVar 7)))) (sRet (eTup (aCons (eVar 6) (aCons (eVar 5) (aCons (eVar 4) (aCons (eOpN (pOne pTupleA) (aCons (eComp [9] (iOf (eVar 8)) (bN 9) (bYes) (eTup (aCons (eVar 9) (aCons (eCall 3 d__law_draw (aCons (eVar 0) (aCons (eVar 1) (aCons (eVar 4) (aNil))))) (aNil))))) (aNil))) (aNil)))))))))))
noncomputable def d__law_made : Fn := fnOf 10 m__law_made
noncomputable def m__law_good : SM := sSeq (sAsg (bTup (bCons (bN 2) (bCons (bN 3) (bCons (bN 4) (bCons (bN 5) (bNil)))))) (eCall 4 d__law_made (aCons (eVar 0) (aCons (eVar 1) (aCons (eC (.int 6)) (aCons (eC (.int 20)) (aNil))))))) (sSeq (sSet 6 (eTup (aNil))) (sSeq (sFor (iOf (eVar 2)) (bN 7) (sSeq (sSet 8 (eCall 4 d__law_by (aCons (eOp2 pAdd (eVar 6) (eTup (aCons (eVar 7) (aNil)))) (aCons (eVar 3) (aCons (eVar 4) (aCons (eFrz (cDict (eVar 5))) (aNil))))))) (sIf (toB (eOp2 pEq (eOp1 pLenSet (eVar 8)) (eOpN (pOne pLen) (aCons (eVar 8) (aNil))))) (sSet 6 (eOp2 pAdd (eVar 6) (eTup (aCons (eVar 7) (aNil))))) (sNil)))) (sRet (eTup (aCons (eVar 6) (aCons (eVar 3) (aCons (eVar 4) (aCons (eVar 5) (aNil)))))))))
noncomputable def d__law_good : Fn := fnOf 9 m__law_good
end MB

namespace PN
open DL
def letAt (w : List Nat) (p : Int) : Nat := (w[if 0 ≤ p then min p.toNat (w.length - 1) else ((w.length : Int) + max p (-(w.length : Int))).toNat]?).getD 0
def prs (ws : List (List Nat)) (i j : Int) : List (Nat × Nat) := ws.map fun w => (letAt w i, letAt w j)
def flat2 : List (Nat × Nat) → List Nat
  | [] => []
  | p :: ps => p.1 :: p.2 :: flat2 ps
def leN (a b : Nat) : Bool := decide (a ≤ b)
def srt (l : List Nat) : List Nat := isort leN (seenIn l)
def ltrs (ps : List (Nat × Nat)) : List Nat := srt (flat2 ps)
theorem letAt_ix {w : List Nat} (h : 1 ≤ w.length) (p : Int) : (if 0 ≤ p then min p.toNat (w.length - 1) else ((w.length : Int) + max p (-(w.length : Int))).toNat) < w.length := by
  split <;> omega
theorem letAt_mem {w : List Nat} (h : 1 ≤ w.length) (p : Int) : letAt w p ∈ w := by
  unfold letAt
  have hx := letAt_ix h p
  rw [List.getElem?_eq_getElem hx]
  exact List.getElem_mem hx
theorem mem_flat2 {c : Nat} : ∀ {ps : List (Nat × Nat)}, c ∈ flat2 ps ↔ ∃ p ∈ ps, c = p.1 ∨ c = p.2
  | [] => by simp [flat2]
  | p :: ps => by
    simp only [flat2, List.mem_cons, mem_flat2 (ps := ps)]
    constructor
    · rintro (h | h | ⟨q, hq, h⟩)
      · exact ⟨p, .inl rfl, .inl h⟩
      · exact ⟨p, .inl rfl, .inr h⟩
      · exact ⟨q, .inr hq, h⟩
    · rintro ⟨q, rfl | hq, h⟩
      · rcases h with h | h
        · exact .inl h
        · exact .inr (.inl h)
      · exact .inr (.inr ⟨q, hq, h⟩)
theorem flat2_len : ∀ ps : List (Nat × Nat), (flat2 ps).length = 2 * ps.length
  | [] => rfl
  | p :: ps => by
    simp only [flat2, List.length_cons, flat2_len ps]
    omega
section
variable {α : Type} [DecidableEq α]
theorem inL_iff {x : α} {l : List α} : inL x l = true ↔ x ∈ l := by
  unfold inL
  rw [List.any_eq_true]
  constructor
  · rintro ⟨y, hy, e⟩
    rw [← of_decide_eq_true e]
    exact hy
  · exact fun h => ⟨x, h, decide_eq_true rfl⟩
theorem seenGo_mem {x : α} : ∀ (ks acc : List α), x ∈ seenGo acc ks ↔ x ∈ acc ∨ x ∈ ks
  | [], acc => by simp [seenGo]
  | k :: ks, acc => by
    show x ∈ seenGo (if inL k acc = true then acc else acc ++ [k]) ks ↔ _
    rw [seenGo_mem ks]
    split
    · rename_i h
      have hk := inL_iff.mp h
      simp only [List.mem_cons]
      constructor
      · rintro (h | h)
        · exact .inl h
        · exact .inr (.inr h)
      · rintro (h | h | h)
        · exact .inl h
        · exact .inl (h ▸ hk)
        · exact .inr h
    · rw [List.mem_append, List.mem_singleton, List.mem_cons, or_assoc]
theorem seenIn_mem {x : α} {ks : List α} : x ∈ seenIn ks ↔ x ∈ ks := by
  unfold seenIn
  rw [seenGo_mem]
  simp
theorem seenGo_nodup : ∀ (ks acc : List α), acc.Nodup → (seenGo acc ks).Nodup
  | [], acc, h => h
  | k :: ks, acc, h => by
    show (seenGo (if inL k acc = true then acc else acc ++ [k]) ks).Nodup
    split
    · exact seenGo_nodup ks acc h
    · rename_i hk
      refine seenGo_nodup ks _ ?_
      rw [List.nodup_append]
      refine ⟨h, by simp, fun a ha b hb e => ?_⟩
      rw [List.mem_singleton.mp hb] at e
      subst e
      exact hk (inL_iff.mpr ha)
theorem seenIn_nodup (ks : List α) : (seenIn ks).Nodup := seenGo_nodup ks [] List.nodup_nil
/-- no more than there are, and just as many if all are unlike -/
theorem nodup_sub_len : ∀ {l m : List α}, l.Nodup → (∀ x ∈ l, x ∈ m) → l.length ≤ m.length
  | [], m, _, _ => Nat.zero_le _
  | x :: l, m, nd, h => by
    obtain ⟨hx, nd⟩ := List.nodup_cons.mp nd
    have hm := h x List.mem_cons_self
    have ih := nodup_sub_len (m := m.erase x) nd fun y hy => by
      have hne : y ≠ x := fun e => hx (e ▸ hy)
      exact (List.mem_erase_of_ne hne).mpr (h y (List.mem_cons_of_mem _ hy))
    rw [List.length_erase_of_mem hm] at ih
    have := List.length_pos_of_mem hm
    rw [List.length_cons]
    omega
theorem seenIn_eq_iff {ks : List α} : (seenIn ks).length = ks.length ↔ ks.Nodup := by
  constructor
  · intro h
    by_cases nd : ks.Nodup
    · exact nd
    · exfalso
      have key : ∀ (ks acc : List α), (seenGo acc ks).length = acc.length + ks.length → (acc ++ ks).Nodup ∨ ¬ acc.Nodup := by
        intro ks
        induction ks with
        | nil =>
          intro acc _
          rw [List.append_nil]
          by_cases h : acc.Nodup
          · exact .inl h
          · exact .inr h
        | cons k ks ih =>
          intro acc h
          have h' : (seenGo (if inL k acc = true then acc else acc ++ [k]) ks).length = acc.length + (ks.length + 1) := h
          by_cases hk : inL k acc = true
          · rw [if_pos hk] at h'
            have := seenGo_len ks acc
            omega
          · rw [if_neg hk] at h'
            have q := ih (acc ++ [k]) (by rw [h', List.length_append, List.length_singleton]; omega)
            have e : acc ++ [k] ++ ks = acc ++ k :: ks := by simp
            rw [e] at q
            rcases q with q | q
            · exact .inl q
            · refine .inr fun nd => q ?_
              rw [List.nodup_append]
              refine ⟨nd, by simp, fun a ha b hb e => ?_⟩
              rw [List.mem_singleton.mp hb] at e
              subst e
              exact hk (inL_iff.mpr ha)
      rcases key ks [] (by rw [List.length_nil, Nat.zero_add]; exact h) with q | q
      · exact nd (by simpa using q)
      · exact q List.nodup_nil
  · intro nd
    have h1 := seenIn_len ks
    have h2 := nodup_sub_len nd (fun x hx => seenIn_mem.mpr hx)
    omega
end
theorem leN_tot (a b : Nat) : leN a b = true ∨ leN b a = true := by
  unfold leN
  simp only [decide_eq_true_eq]
  omega
theorem leN_tr (a b c : Nat) (h : leN a b = true) (h' : leN b c = true) : leN a c = true := by
  unfold leN at *
  simp only [decide_eq_true_eq] at *
  omega
theorem mem_srt {c : Nat} {l : List Nat} : c ∈ srt l ↔ c ∈ l := by
  unfold srt
  rw [(isort_perm leN _).mem_iff, seenIn_mem]
theorem srt_lt (l : List Nat) : (srt l).Pairwise (· < ·) := by
  have h1 := isort_pw leN_tot leN_tr (seenIn l)
  have h2 : (srt l).Nodup := (isort_perm leN _).nodup_iff.mpr (seenIn_nodup l)
  have h3 := List.nodup_iff_pairwise_ne.mp h2
  refine List.Pairwise.imp ?_ (List.Pairwise.and h1 h3)
  rintro a b ⟨h, h'⟩
  have : a ≤ b := of_decide_eq_true h
  omega
theorem srt_len (l : List Nat) : (srt l).length ≤ l.length := by
  unfold srt
  rw [(isort_perm leN _).length_eq]
  exact seenIn_len l
theorem pw_ext : ∀ {l m : List Nat}, l.Pairwise (· < ·) → m.Pairwise (· < ·) → (∀ x, x ∈ l ↔ x ∈ m) → l = m
  | [], [], _, _, _ => rfl
  | [], b :: m, _, _, h => absurd ((h b).mpr List.mem_cons_self) (by simp)
  | a :: l, [], _, _, h => absurd ((h a).mp List.mem_cons_self) (by simp)
  | a :: l, b :: m, hl, hm, h => by
    obtain ⟨l1, l2⟩ := List.pairwise_cons.mp hl
    obtain ⟨m1, m2⟩ := List.pairwise_cons.mp hm
    have e : a = b := by
      rcases List.mem_cons.mp ((h a).mp List.mem_cons_self) with q | q
      · exact q
      · rcases List.mem_cons.mp ((h b).mpr List.mem_cons_self) with r | r
        · exact r.symm
        · have := l1 b r
          have := m1 a q
          omega
    subst e
    congr 1
    refine pw_ext l2 m2 fun x => ?_
    constructor
    · intro hx
      rcases List.mem_cons.mp ((h x).mp (List.mem_cons_of_mem _ hx)) with q | q
      · subst q
        exact absurd (l1 x hx) (Nat.lt_irrefl _)
      · exact q
    · intro hx
      rcases List.mem_cons.mp ((h x).mpr (List.mem_cons_of_mem _ hx)) with q | q
      · subst q
        exact absurd (m1 x hx) (Nat.lt_irrefl _)
      · exact q
theorem isort_map {α β : Type} {f : α → β} {le : α → α → Bool} {le' : β → β → Bool} (h : ∀ a b, le' (f a) (f b) = le a b) : ∀ l : List α, isort le' (l.map f) = (isort le l).map f
  | [] => rfl
  | x :: l => by
    have ins : ∀ m : List α, insS le' (f x) (m.map f) = (insS le x m).map f := by
      intro m
      induction m with
      | nil => rfl
      | cons y m ih =>
        simp only [List.map_cons, insS, h, ih]
        split <;> rfl
    show insS le' (f x) (isort le' (l.map f)) = _
    rw [isort_map h l, ins]
    rfl
theorem leT_one (a b : Nat) : leT [a] [b] = leN a b := by
  unfold leT leN
  by_cases h : a ≤ b
  · have : ¬ ([b] : List Nat) < [a] := by
      simp [List.cons_lt_cons_iff]
      omega
    rw [decide_eq_false this, decide_eq_true h]
    rfl
  · have : ([b] : List Nat) < [a] := by
      simp [List.cons_lt_cons_iff]
      omega
    rw [decide_eq_true this, decide_eq_false h]
    rfl
theorem sort_sgs (l : List Nat) : isort leT (seenIn (sgs l)) = sgs (srt l) := by
  unfold sgs srt
  rw [seenIn_map (f := fun c => [c]) (fun a b h => by simpa using h), isort_map (f := fun c => [c]) (le := leN) leT_one]
/-- worths: what a letter has -/
def lk {β : Type} (ps : List (Nat × β)) (c : Nat) : Option β := (ps.find? fun p => decide (p.1 = c)).map (·.2)
def wo (ps : List (Nat × Nat)) (c : Nat) : Nat := (lk ps c).getD 0
theorem lk_some {β : Type} {ps : List (Nat × β)} {c : Nat} : c ∈ ps.map (·.1) ↔ ∃ v, lk ps c = some v := by
  unfold lk
  constructor
  · intro h
    obtain ⟨p, hp, e⟩ := List.mem_map.mp h
    cases hf : ps.find? fun p => decide (p.1 = c) with
    | none =>
      have := List.find?_eq_none.mp hf p hp
      simp [e] at this
    | some q => exact ⟨q.2, rfl⟩
  · rintro ⟨v, h⟩
    cases hf : ps.find? fun p => decide (p.1 = c) with
    | none =>
      rw [hf] at h
      cases h
    | some q =>
      have h1 := List.find?_some hf
      have h2 := List.mem_of_find?_eq_some hf
      exact List.mem_map.mpr ⟨q, h2, of_decide_eq_true h1⟩
theorem lk_mem {β : Type} {ps : List (Nat × β)} {c : Nat} {v : β} (h : lk ps c = some v) : (c, v) ∈ ps := by
  unfold lk at h
  cases hf : ps.find? fun p => decide (p.1 = c) with
  | none =>
    rw [hf] at h
    cases h
  | some q =>
    rw [hf] at h
    cases h
    have h1 := List.find?_some hf
    have h2 := List.mem_of_find?_eq_some hf
    have : q.1 = c := of_decide_eq_true h1
    rw [← this]
    exact h2
def wI (ps : List (Nat × Int)) (c : Nat) : Int := (lk ps c).getD 0
/-- the numbers of pairs by worths f -/
def nums (pp : List (Nat × Nat)) (room : Int) (f : Nat → Int) : List Int := pp.map fun p => (f p.1 + f p.2) % room
end PN

namespace PB
open PySem PySem.Spec PyProof.Rows L2 DL MP MB
theorem sh_strs (a : List (List Nat)) : sh 9 (.lst (a.map .str)) = true := by
  simp [sh]
theorem eqL_strs (a b : List (List Nat)) : eqD (.lst (a.map .str)) (.lst (b.map .str)) = decide (a = b) := by
  have h := eqD_strs a b
  simpa [eqD, toPy, PyData.eqv] using h
theorem ne_strs (a b : List (List Nat)) : pNe (.lst (a.map .str)) (.lst (b.map .str)) = some (.bl (!decide (a = b))) := by
  unfold pNe
  rw [if_pos ⟨sh_strs a, sh_strs b⟩, eqL_strs]

def wholeB (d : D) (lo hi : Int) : Bool := match d with
  | .int i => decide (lo ≤ i) && decide (i ≤ hi)
  | _ => false
theorem p_is_whole (d : D) (lo hi : Int) (S : Store) (h : plainD d = true) : d_is_whole [.dat d, .dat (.int lo), .dat (.int hi)] S = .ok (.dat (.bl (wholeB d lo hi))) S := by
  cases d with
  | int i => by_cases hl : lo ≤ i <;> simp [d_is_whole, m_is_whole, fnOf, env0, sSeq, SOut.bind, sRet, sRetN, sOf, sIf, sNil, sExpr, sSet, sRaise, eAnd, eOr, eNot, bAnd, bOr, bNot, eOp1, op1, eOp2, op2, eOpN, opN, eVar, eC, deref, derefs, Out.bind, asB, toB, ofB, cut_dat, cutS_self, cutS_head0, cutS_one, cutS_none, eChain, eTup, eLst, dats, aNil, aCons, eCall, eIf, pOne, pTwo, isI_int h, isI_bool h, isT, wholeB, pLe, hl]
  | scr ns => cases h
  | dcu ns => cases h
  | bl b => simp [d_is_whole, m_is_whole, fnOf, env0, sSeq, SOut.bind, sRet, sRetN, sOf, sIf, sNil, sExpr, sSet, sRaise, eAnd, eOr, eNot, bAnd, bOr, bNot, eOp1, op1, eOp2, op2, eOpN, opN, eVar, eC, deref, derefs, Out.bind, asB, toB, ofB, cut_dat, cutS_self, cutS_head0, cutS_one, cutS_none, eChain, eTup, eLst, dats, aNil, aCons, eCall, eIf, pOne, pTwo, isI_int h, isI_bool h, isT, wholeB]
  | _ => simp [d_is_whole, m_is_whole, fnOf, env0, sSeq, SOut.bind, sRet, sRetN, sOf, sIf, sNil, sExpr, sSet, sRaise, eAnd, eOr, eNot, bAnd, bOr, bNot, eOp1, op1, eOp2, op2, eOpN, opN, eVar, eC, deref, derefs, Out.bind, asB, toB, ofB, cut_dat, cutS_self, cutS_head0, cutS_one, cutS_none, eChain, eTup, eLst, dats, aNil, aCons, eCall, eIf, pOne, pTwo, isI_int h, isI_bool h, isT, wholeB]

def lookB : D → Bool
  | .tup [a, b] => wholeB a (-3) 2 && wholeB b (-3) 2
  | _ => false
def okL : D → Bool
  | .scr _ => false
  | .ktp _ => false
  | .dcu _ => false
  | .tup ds => ds.all plainD && decide (ds.length ≤ 1000)
  | _ => true
theorem okL_plain {d : D} (h : okL d = true) : plainD d = true := by
  cases d <;> first
    | rfl
    | cases h
theorem comp_look (x : Option Val) (ds : List D) (S : Store) (h : ds.all plainD = true) : compL (bN 1) bYes (eCall 3 d_is_whole (aCons (eVar 1) (aCons (eOp2 pSub (eOp2 pSub (eC (.int 0)) (eC (.int 2))) (eC (.int 1))) (aCons (eC (.int 2)) aNil)))) [x, none] ds S = .ok (ds.map fun d => .bl (wholeB d (-3) 2)) S :=
  compL_map fun d hd => by
    have := p_is_whole d (-3) 2 S (List.all_eq_true.mp h d hd)
    cases x <;> simp [fnOf, env0, sSeq, SOut.bind, sRet, sRetN, sOf, sIf, sNil, sExpr, sSet, sRaise, eAnd, eOr, eNot, bAnd, bOr, bNot, eOp1, op1, eOp2, op2, eOpN, opN, eVar, eC, deref, derefs, Out.bind, asB, toB, ofB, cut_dat, cutS_self, cutS_head0, cutS_one, cutS_none, eChain, eTup, eLst, dats, aNil, aCons, eCall, eIf, pOne, pTwo, pSub, this]
theorem p_is_look (d : D) (S : Store) (h : okL d = true) : d_is_look [.dat d] S = .ok (.dat (.bl (lookB d))) S := by
  have hq := okL_plain h
  cases d with
  | tup ds =>
    simp only [okL, Bool.and_eq_true, decide_eq_true_eq] at h
    have e1 := comp_look (some (.dat (.tup ds))) ds S h.1
    by_cases a : ds.length = 2
    · have a2 : ds.length ≤ 1000000 := by omega
      have a' : (ds.length : Int) = 2 := by omega
      simp [d_is_look, m_is_look, fnOf, env0, sSeq, SOut.bind, sRet, sRetN, sOf, sIf, sNil, sExpr, sSet, sRaise, eAnd, eOr, eNot, bAnd, bOr, bNot, eOp1, op1, eOp2, op2, eOpN, opN, eVar, eC, deref, derefs, Out.bind, asB, toB, ofB, cut_dat, cutS_self, cutS_head0, cutS_one, cutS_none, eChain, eTup, eLst, dats, aNil, aCons, eCall, eIf, pOne, pTwo, isI_tuple hq, isT, pLen, pNe, sh, eqD_int, a', eComp, iOf, itemsD, a2, wipeE, e1, pAll, boolsOf_map]
      match ds, a with
      | [x, y], _ => simp [lookB]
    · have a' : ¬ (ds.length : Int) = 2 := by omega
      simp [d_is_look, m_is_look, fnOf, env0, sSeq, SOut.bind, sRet, sRetN, sOf, sIf, sNil, sExpr, sSet, sRaise, eAnd, eOr, eNot, bAnd, bOr, bNot, eOp1, op1, eOp2, op2, eOpN, opN, eVar, eC, deref, derefs, Out.bind, asB, toB, ofB, cut_dat, cutS_self, cutS_head0, cutS_one, cutS_none, eChain, eTup, eLst, dats, aNil, aCons, eCall, eIf, pOne, pTwo, isI_tuple hq, isT, pLen, pNe, sh, eqD_int, a']
      match ds, a with
      | [], _ => rfl
      | [x], _ => rfl
      | [x, y], a => exact absurd rfl a
      | x :: y :: z :: r, _ => rfl
  | scr ns => cases h
  | dcu ns => cases h
  | ktp ns => cases h
  | _ => simp [d_is_look, m_is_look, fnOf, env0, sSeq, SOut.bind, sRet, sRetN, sOf, sIf, sNil, sExpr, sSet, sRaise, eAnd, eOr, eNot, bAnd, bOr, bNot, eOp1, op1, eOp2, op2, eOpN, opN, eVar, eC, deref, derefs, Out.bind, asB, toB, ofB, cut_dat, cutS_self, cutS_head0, cutS_one, cutS_none, eChain, eTup, eLst, dats, aNil, aCons, eCall, eIf, pOne, pTwo, isI_tuple hq, isT, lookB]

abbrev letL : List Nat := [97, 98, 99, 100, 101, 102, 103, 104, 105, 106, 107, 108, 109, 110, 111, 112, 113, 114, 115, 116, 117, 118, 119, 120, 121, 122]
def wordB : D → Bool
  | .str s => decide (1 ≤ s.length) && (decide (s.length ≤ 6) && decide (stripL s letL = []))
  | _ => false
def okD : D → Bool
  | .scr _ => false
  | .dcu _ => false
  | .str s => decide (s.length ≤ 1000000) && goodL s
  | _ => true
theorem okD_plain {d : D} (h : okD d = true) : plainD d = true := by
  cases d <;> first
    | rfl
    | cases h
theorem p_is_word (d : D) (S : Store) (h : okD d = true) : d_is_word [.dat d] S = .ok (.dat (.bl (wordB d))) S := by
  have hp := okD_plain h
  cases d with
  | str s =>
    simp only [okD, Bool.and_eq_true, decide_eq_true_eq] at h
    obtain ⟨h1, h2⟩ := h
    have h3 : (s.length : Int) ≤ 6 ↔ s.length ≤ 6 := by omega
    have h4 : (1 : Int) ≤ (s.length : Int) ↔ 1 ≤ s.length := by omega
    by_cases a : 1 ≤ s.length <;> by_cases b : s.length ≤ 6 <;> simp [d_is_word, m_is_word, fnOf, env0, sSeq, SOut.bind, sRet, sRetN, sOf, sIf, sNil, sExpr, sSet, sRaise, eAnd, eOr, eNot, bAnd, bOr, bNot, eOp1, op1, eOp2, op2, eOpN, opN, eVar, eC, deref, derefs, Out.bind, asB, toB, ofB, cut_dat, cutS_self, cutS_head0, cutS_one, cutS_none, eChain, eTup, eLst, dats, aNil, aCons, eCall, eIf, pOne, pTwo, isI_str hp, isT, wordB, pLen, h1, pLe, h3, h4, a, b, eMeth, tyD, pStrip_eq h1 h2, pEq, sh, eqD_str]
  | scr ns => cases h
  | dcu ns => cases h
  | _ => simp [d_is_word, m_is_word, fnOf, env0, sSeq, SOut.bind, sRet, sRetN, sOf, sIf, sNil, sExpr, sSet, sRaise, eAnd, eOr, eNot, bAnd, bOr, bNot, eOp1, op1, eOp2, op2, eOpN, opN, eVar, eC, deref, derefs, Out.bind, asB, toB, ofB, cut_dat, cutS_self, cutS_head0, cutS_one, cutS_none, eChain, eTup, eLst, dats, aNil, aCons, eCall, eIf, pOne, pTwo, isI_str hp, isT, wordB]

/-- all texts: what are the texts -/
theorem word_strs : ∀ {ds : List D}, ds.all wordB = true → ∃ ss : List (List Nat), ds = ss.map .str
  | [], _ => ⟨[], rfl⟩
  | d :: ds, h => by
    rw [List.all_cons, Bool.and_eq_true] at h
    obtain ⟨ss, rfl⟩ := word_strs h.2
    cases d with
    | str s => exact ⟨s :: ss, rfl⟩
    | _ => cases h.1
def wordsB : D → Bool
  | .tup ds => decide (1 ≤ ds.length) && (decide (ds.length ≤ 6) && (ds.all wordB && (match keysOf ds with
    | some ks => decide ((seenIn ks).length = ds.length)
    | none => false)))
  | _ => false
def okW : D → Bool
  | .scr _ => false
  | .ktp _ => false
  | .dcu _ => false
  | .tup ds => ds.all okD
  | _ => true
theorem okW_plain {d : D} (h : okW d = true) : plainD d = true := by
  cases d <;> first
    | rfl
    | cases h
theorem comp_words (ds : List D) (S : Store) (h : ds.all okD = true) (ρ : Ev) : compL (bN 1) bYes (eCall 1 d_is_word (aCons (eVar 1) aNil)) [some (.dat (.tup ds)), none] ds S = .ok (ds.map fun d => .bl (wordB d)) S :=
  compL_map fun d hd => by
    have := p_is_word d S (List.all_eq_true.mp h d hd)
    simp [fnOf, env0, sSeq, SOut.bind, sRet, sRetN, sOf, sIf, sNil, sExpr, sSet, sRaise, eAnd, eOr, eNot, bAnd, bOr, bNot, eOp1, op1, eOp2, op2, eOpN, opN, eVar, eC, deref, derefs, Out.bind, asB, toB, ofB, cut_dat, cutS_self, cutS_head0, cutS_one, cutS_none, eChain, eTup, eLst, dats, aNil, aCons, eCall, eIf, pOne, pTwo, this]
theorem p_are_words (d : D) (S : Store) (h : okW d = true) : d_are_words [.dat d] S = .ok (.dat (.bl (wordsB d))) S := by
  have hq := okW_plain h
  cases d with
  | tup ds =>
    have hp : plainD (.tup ds) = true := rfl
    have e1 := comp_words ds S h []
    have h3 : (ds.length : Int) ≤ 6 ↔ ds.length ≤ 6 := by omega
    have h4 : (1 : Int) ≤ (ds.length : Int) ↔ 1 ≤ ds.length := by omega
    by_cases a : 1 ≤ ds.length
    · by_cases b : ds.length ≤ 6
      · have b' : ds.length ≤ 1000000 := by omega
        by_cases c : ds.all wordB = true
        · obtain ⟨ss, hs⟩ := word_strs c
          have k : keysOf ds = some (ss.map fun s => Sum.inr (toStr s)) := by
            rw [hs]
            exact keysOf_strs ss
          have b2 : (ss.map fun s => (Sum.inr (toStr s) : Key)).length ≤ 4000 := by
            have := congrArg List.length hs
            rw [List.length_map] at this ⊢
            omega
          generalize (ss.map fun s => (Sum.inr (toStr s) : Key)) = ks at k b2
          simp [d_are_words, m_are_words, fnOf, env0, sSeq, SOut.bind, sRet, sRetN, sOf, sIf, sNil, sExpr, sSet, sRaise, eAnd, eOr, eNot, bAnd, bOr, bNot, eOp1, op1, eOp2, op2, eOpN, opN, eVar, eC, deref, derefs, Out.bind, asB, toB, ofB, cut_dat, cutS_self, cutS_head0, cutS_one, cutS_none, eChain, eTup, eLst, dats, aNil, aCons, eCall, eIf, pOne, pTwo, isI_tuple hp, isT, pLen, pLe, h3, h4, a, b, eComp, iOf, itemsD, b', wipeE, e1, pAll, boolsOf_map, c, pLenSet, k, b2, pEq, sh, eqD_int, wordsB]
          omega

        · have c' : ds.all wordB = false := by simpa using c
          simp [d_are_words, m_are_words, fnOf, env0, sSeq, SOut.bind, sRet, sRetN, sOf, sIf, sNil, sExpr, sSet, sRaise, eAnd, eOr, eNot, bAnd, bOr, bNot, eOp1, op1, eOp2, op2, eOpN, opN, eVar, eC, deref, derefs, Out.bind, asB, toB, ofB, cut_dat, cutS_self, cutS_head0, cutS_one, cutS_none, eChain, eTup, eLst, dats, aNil, aCons, eCall, eIf, pOne, pTwo, isI_tuple hp, isT, pLen, pLe, h3, h4, a, b, eComp, iOf, itemsD, b', wipeE, e1, pAll, boolsOf_map, c', wordsB]

      · simp [d_are_words, m_are_words, fnOf, env0, sSeq, SOut.bind, sRet, sRetN, sOf, sIf, sNil, sExpr, sSet, sRaise, eAnd, eOr, eNot, bAnd, bOr, bNot, eOp1, op1, eOp2, op2, eOpN, opN, eVar, eC, deref, derefs, Out.bind, asB, toB, ofB, cut_dat, cutS_self, cutS_head0, cutS_one, cutS_none, eChain, eTup, eLst, dats, aNil, aCons, eCall, eIf, pOne, pTwo, isI_tuple hp, isT, pLen, pLe, h3, h4, a, b, wordsB]
    · simp [d_are_words, m_are_words, fnOf, env0, sSeq, SOut.bind, sRet, sRetN, sOf, sIf, sNil, sExpr, sSet, sRaise, eAnd, eOr, eNot, bAnd, bOr, bNot, eOp1, op1, eOp2, op2, eOpN, opN, eVar, eC, deref, derefs, Out.bind, asB, toB, ofB, cut_dat, cutS_self, cutS_head0, cutS_one, cutS_none, eChain, eTup, eLst, dats, aNil, aCons, eCall, eIf, pOne, pTwo, isI_tuple hp, isT, pLen, pLe, h3, h4, a, wordsB]
  | scr ns => cases h
  | dcu ns => cases h
  | ktp ns => cases h
  | _ => simp [d_are_words, m_are_words, fnOf, env0, sSeq, SOut.bind, sRet, sRetN, sOf, sIf, sNil, sExpr, sSet, sRaise, eAnd, eOr, eNot, bAnd, bOr, bNot, eOp1, op1, eOp2, op2, eOpN, opN, eVar, eC, deref, derefs, Out.bind, asB, toB, ofB, cut_dat, cutS_self, cutS_head0, cutS_one, cutS_none, eChain, eTup, eLst, dats, aNil, aCons, eCall, eIf, pOne, pTwo, isI_tuple hq, isT, wordsB]


theorem inL_no {α : Type} [DecidableEq α] {x : α} {l : List α} (h : x ∉ l) : inL x l = false := by
  unfold inL
  rw [List.any_eq_false]
  intro y hy
  simp
  exact fun e => h (e ▸ hy)
theorem seenGo_nd {α : Type} [DecidableEq α] : ∀ (ks acc : List α), (acc ++ ks).Nodup → seenGo acc ks = acc ++ ks
  | [], acc, _ => by simp [seenGo]
  | k :: ks, acc, h => by
    have hk : k ∉ acc := fun z => (List.nodup_append.mp h).2.2 k z k List.mem_cons_self rfl
    have e : acc ++ k :: ks = (acc ++ [k]) ++ ks := by simp
    rw [e] at h
    show seenGo (if inL k acc = true then acc else acc ++ [k]) ks = _
    rw [inL_no hk, if_neg (by decide), seenGo_nd ks _ h, e]
theorem seenIn_nd {α : Type} [DecidableEq α] {ks : List α} (h : ks.Nodup) : (seenIn ks).length = ks.length := by
  unfold seenIn
  rw [seenGo_nd ks [] (by simpa using h)]
  rfl

theorem joinL_sgs : ∀ s : List Nat, TL.joinL [] (sgs s) = s
  | [] => rfl
  | [c] => rfl
  | c :: d :: r => by
    have ih := joinL_sgs (d :: r)
    show [c] ++ ([] ++ TL.joinL [] (sgs (d :: r))) = _
    rw [ih]
    rfl
theorem sgs_len (s : List Nat) : ((sgs s).map (·.length)).sum + (sgs s).length * ([] : List Nat).length = s.length := by
  induction s with
  | nil => rfl
  | cons c r ih =>
    simp [sgs] at ih ⊢
    omega
theorem join_word {s : List Nat} (h : s.length ≤ 1000000) : pJoin (.str []) [.lst ((sgs s).map .str)] = some (.str s) := by
  simp only [pJoin, strs_of_map]
  rw [if_pos (by rw [sgs_len]; exact h), joinL_sgs]

theorem eqD_scr (ns : List Int) : eqD (.scr ns) (.lst []) = decide (ns = []) := by
  cases ns with
  | nil => decide +kernel
  | cons n r => simp [eqD, toPy, toPys, PyData.eqv, PyData.eqvAll]
theorem p_cell (ns : List Int) (k : Nat) (S : Store) : ∃ c : Int, d__law_cell_at [.dat (.scr ns), .dat (.int (k : Nat))] S = .ok (.dat (.int c)) S := by
  by_cases a : k < ns.length
  · have h : atI ns (k : Nat) = some ns[k] := atI_nat (List.getElem?_eq_getElem a)
    have a' : (k : Int) < (ns.length : Int) := by omega
    exact ⟨ns[k], by simp [d__law_cell_at, m__law_cell_at, fnOf, env0, sSeq, SOut.bind, sRet, sRetN, sOf, sIf, sNil, sExpr, sSet, sRaise, eAnd, eOr, eNot, bAnd, bOr, bNot, eOp1, op1, eOp2, op2, eOpN, opN, eVar, eC, deref, derefs, Out.bind, asB, toB, ofB, cut_dat, cutS_self, cutS_head0, cutS_one, cutS_none, eChain, eTup, eLst, dats, aNil, aCons, eCall, eIf, pOne, pTwo, pLen, pLt, a', pIx, h]⟩
  · have a' : ¬ (k : Int) < (ns.length : Int) := by omega
    by_cases b : ns = []
    · have e : eqD (.scr ns) (.lst []) = true := by rw [eqD_scr, decide_eq_true b]
      exact ⟨0, by simp [d__law_cell_at, m__law_cell_at, fnOf, env0, sSeq, SOut.bind, sRet, sRetN, sOf, sIf, sNil, sExpr, sSet, sRaise, eAnd, eOr, eNot, bAnd, bOr, bNot, eOp1, op1, eOp2, op2, eOpN, opN, eVar, eC, deref, derefs, Out.bind, asB, toB, ofB, cut_dat, cutS_self, cutS_head0, cutS_one, cutS_none, eChain, eTup, eLst, dats, aNil, aCons, eCall, eIf, pOne, pTwo, pLen, pLt, a', pEq, sh, e]⟩
    · have hp : 0 < ns.length := List.length_pos_iff.mpr b
      have hp' : (0 : Int) < (ns.length : Int) := by omega
      have hm : k % ns.length < ns.length := Nat.mod_lt _ hp
      have h : atI ns ((k % ns.length : Nat) : Int) = some ns[k % ns.length] := atI_nat (List.getElem?_eq_getElem hm)
      have e : (k : Int) % (ns.length : Int) = ((k % ns.length : Nat) : Int) := by simp
      rw [← e] at h
      exact ⟨ns[k % ns.length] * 31 + k, by simp [d__law_cell_at, m__law_cell_at, fnOf, env0, sSeq, SOut.bind, sRet, sRetN, sOf, sIf, sNil, sExpr, sSet, sRaise, eAnd, eOr, eNot, bAnd, bOr, bNot, eOp1, op1, eOp2, op2, eOpN, opN, eVar, eC, deref, derefs, Out.bind, asB, toB, ofB, cut_dat, cutS_self, cutS_head0, cutS_one, cutS_none, eChain, eTup, eLst, dats, aNil, aCons, eCall, eIf, pOne, pTwo, pLen, pLt, a', pEq, sh, eqD_scr, b, pMod, hp, pIx, h, pMul, pAdd]⟩
theorem p_mixed (ns : List Int) (k : Nat) (many : Int) (S : Store) (hm : 0 < many) : ∃ v : Int, 0 ≤ v ∧ v < many ∧ d__law_mixed [.dat (.scr ns), .dat (.int (k : Nat)), .dat (.int many)] S = .ok (.dat (.int v)) S := by
  obtain ⟨c, hc⟩ := p_cell ns k S
  have q1 := Int.emod_nonneg (c * 1103515245 + 7919 * (k : Int) + 12345) (show (2147483647 : Int) ≠ 0 by decide)
  have q2 := Int.emod_lt_of_pos (c * 1103515245 + 7919 * (k : Int) + 12345) (show (0 : Int) < 2147483647 by decide)
  have q3 : ((c * 1103515245 + 7919 * (k : Int) + 12345) % 2147483647).natAbs < 18446744073709551616 := by omega
  refine ⟨((c * 1103515245 + 7919 * (k : Int) + 12345) % 2147483647) ^ 5 % 2147483647 % 999983 % many, Int.emod_nonneg _ (by omega), Int.emod_lt_of_pos _ hm, ?_⟩
  simp [d__law_mixed, m__law_mixed, fnOf, env0, sSeq, SOut.bind, sRet, sRetN, sOf, sIf, sNil, sExpr, sSet, sRaise, eAnd, eOr, eNot, bAnd, bOr, bNot, eOp1, op1, eOp2, op2, eOpN, opN, eVar, eC, deref, derefs, Out.bind, asB, toB, ofB, cut_dat, cutS_self, cutS_head0, cutS_one, cutS_none, eChain, eTup, eLst, dats, aNil, aCons, eCall, eIf, pOne, pTwo, hc, pMul, pAdd, pMod, pPow, q3, hm]
def zs (n : Nat) : List D := List.replicate n (.int 0)
theorem zs_len (n : Nat) : (zs n).length = n := List.length_replicate
theorem zs_next (n : Nat) : zs n ++ [.int 0] = zs (n + 1) := by
  unfold zs
  rw [List.replicate_succ']
theorem p_draw (ns : List Int) (n : Nat) (many : Int) (R : Store) (hm : 0 < many) (hn : n < 100000) : ∃ v : Int, 0 ≤ v ∧ v < many ∧ d__law_draw [.dat (.scr ns), .ptr 0, .dat (.int many)] (.lst (zs n) :: R) = .ok (.dat (.int v)) (.lst (zs (n + 1)) :: R) := by
  obtain ⟨v, v1, v2, hv⟩ := p_mixed ns (n + 1) many (.lst (zs (n + 1)) :: R) hm
  refine ⟨v, v1, v2, ?_⟩
  have hn2 : n < 1000000 := by omega
  have hv' := hv
  push_cast at hv'
  simp [d__law_draw, m__law_draw, fnOf, env0, sSeq, SOut.bind, sRet, sRetN, sOf, sIf, sNil, sExpr, sSet, sRaise, eAnd, eOr, eNot, bAnd, bOr, bNot, eOp1, op1, eOp2, op2, eOpN, opN, eVar, eC, deref, derefs, Out.bind, asB, toB, ofB, cut_dat, cutS_self, cutS_head0, cutS_one, cutS_none, eChain, eTup, eLst, dats, aNil, aCons, eCall, eIf, pOne, pTwo, eMutL, mutL, argD, mAppend, zs_len, hn2, zs_next, pLen, hv']
theorem p_pick (ns : List Int) (n : Nat) (xs : List D) (R : Store) (hx : xs ≠ []) (hn : n < 100000) : ∃ x, x ∈ xs ∧ d__law_pick [.dat (.scr ns), .ptr 0, .dat (.lst xs)] (.lst (zs n) :: R) = .ok (.dat x) (.lst (zs (n + 1)) :: R) := by
  have hp : 0 < xs.length := List.length_pos_iff.mpr hx
  obtain ⟨v, v1, v2, hv⟩ := p_draw ns n (xs.length : Int) R (by omega) hn
  obtain ⟨j, rfl⟩ : ∃ j : Nat, v = (j : Int) := ⟨v.toNat, by omega⟩
  have hj : j < xs.length := by omega
  have h : atI xs (j : Int) = some xs[j] := atI_nat (List.getElem?_eq_getElem hj)
  exact ⟨xs[j], List.getElem_mem hj, by simp [d__law_pick, m__law_pick, fnOf, env0, sSeq, SOut.bind, sRet, sRetN, sOf, sIf, sNil, sExpr, sSet, sRaise, eAnd, eOr, eNot, bAnd, bOr, bNot, eOp1, op1, eOp2, op2, eOpN, opN, eVar, eC, deref, derefs, Out.bind, asB, toB, ofB, cut_dat, cutS_self, cutS_head0, cutS_one, cutS_none, eChain, eTup, eLst, dats, aNil, aCons, eCall, eIf, pOne, pTwo, pLen, hv, pIx, h]⟩

/-- draws in a comprehension -/
theorem comp_draws {me : EM} {i : Nat} {ρ : Ev} {R : Store} (P : D → Prop) (lim : Nat) (h : ∀ d n, n < lim → ∃ x, P x ∧ me (ρ.set i (some (.dat d))) (.lst (zs n) :: R) = .ok (.dat x) (.lst (zs (n + 1)) :: R)) :
    ∀ (ds : List D) (n : Nat), n + ds.length ≤ lim → ∃ xs : List D, xs.length = ds.length ∧ (∀ x ∈ xs, P x) ∧ compL (bN i) bYes me ρ ds (.lst (zs n) :: R) = .ok xs (.lst (zs (n + ds.length)) :: R)
  | [], n, _ => ⟨[], rfl, (fun x hx => nomatch hx), rfl⟩
  | d :: ds, n, hl => by
    rw [List.length_cons] at hl
    obtain ⟨x, px, hx⟩ := h d n (by omega)
    obtain ⟨xs, e1, e2, e3⟩ := comp_draws P lim h ds (n + 1) (by omega)
    refine ⟨x :: xs, by rw [List.length_cons, e1, List.length_cons], fun y hy => ?_, ?_⟩
    · rcases List.mem_cons.mp hy with e | e
      · subst e
        exact px
      · exact e2 y e
    · have e4 : n + 1 + ds.length = n + (ds.length + 1) := by omega
      rw [e4] at e3
      simp only [compL, bN, setE, bYes, if_true, hx, e3, Out.bind, List.length_cons]
theorem rangeD_len (lo : Int) (n : Nat) : (rangeD lo n).length = n := by
  unfold rangeD
  rw [List.length_map, List.length_range]

theorem strs_sgs {L : List Nat} : ∀ {xs : List D}, (∀ x ∈ xs, ∃ c, c ∈ L ∧ x = .str [c]) → ∃ w : List Nat, xs = (sgs w).map .str ∧ ∀ c ∈ w, c ∈ L
  | [], _ => ⟨[], rfl, fun c hc => nomatch hc⟩
  | x :: xs, h => by
    obtain ⟨w, e, hw⟩ := strs_sgs fun y hy => h y (List.mem_cons_of_mem _ hy)
    obtain ⟨c, hc, rfl⟩ := h x List.mem_cons_self
    subst e
    exact ⟨c :: w, rfl, fun d hd => by
      rcases List.mem_cons.mp hd with e | e
      · subst e
        exact hc
      · exact hw d e⟩
theorem p_word (ns : List Int) (n : Nat) (L : List Nat) (R : Store) (hL : L ≠ []) (hn : n < 90000) : ∃ (w : List Nat) (n' : Nat), 1 ≤ w.length ∧ w.length ≤ 6 ∧ (∀ c ∈ w, c ∈ L) ∧ n' ≤ n + 10 ∧
    d__law_word [.dat (.scr ns), .ptr 0, .dat (.lst ((sgs L).map .str)), .dat (.int 6)] (.lst (zs n) :: R) = .ok (.dat (.str w)) (.lst (zs n') :: R) := by
  obtain ⟨v, v1, v2, hv⟩ := p_draw ns n 6 R (by decide) (by omega)
  have hne : ((sgs L).map D.str) ≠ [] := by
    cases L with
    | nil => exact absurd rfl hL
    | cons a b => exact fun z => nomatch z
  obtain ⟨xs, e1, e2, e3⟩ := comp_draws (me := eCall 3 d__law_pick (aCons (eVar 0) (aCons (eVar 1) (aCons (eVar 2) aNil)))) (i := 4) (ρ := [some (.dat (.scr ns)), some (.ptr 0), some (.dat (.lst ((sgs L).map .str))), some (.dat (.int 6)), none]) (R := R) (fun x => ∃ c, c ∈ L ∧ x = .str [c]) 100000 (fun d n hn => by
    obtain ⟨x, hx, e⟩ := p_pick ns n ((sgs L).map .str) R hne hn
    obtain ⟨z, hz, rfl⟩ := List.mem_map.mp hx
    obtain ⟨c, hc, rfl⟩ := List.mem_map.mp hz
    exact ⟨_, ⟨c, hc, rfl⟩, by simp only [fnOf, env0, sSeq, SOut.bind, sRet, sRetN, sOf, sIf, sNil, sExpr, sSet, sRaise, eAnd, eOr, eNot, bAnd, bOr, bNot, eOp1, op1, eOp2, op2, eOpN, opN, eVar, eC, deref, derefs, Out.bind, asB, toB, ofB, cut_dat, cutS_self, cutS_head0, cutS_one, cutS_none, eChain, eTup, eLst, dats, aNil, aCons, eCall, eIf, pOne, pTwo, List.set, List.getElem?_cons_succ, List.getElem?_cons_zero, List.length_cons, List.length_nil, if_true, Nat.zero_add, Nat.reduceAdd, e]⟩) (rangeD 0 (1 + v).toNat) (n + 1) (by rw [rangeD_len]; omega)
  obtain ⟨w, rfl, hw⟩ := strs_sgs e2
  have hlen : w.length = (1 + v).toNat := by
    rw [List.length_map, rangeD_len, sgs, List.length_map] at e1
    exact e1
  have hj := join_word (s := w) (by omega)
  have hr : (rangeD 0 (1 + v).toNat).length ≤ 1000000 := by
    rw [rangeD_len]
    omega
  have hb : -1000000 ≤ 1 + v ∧ 1 + v ≤ 1000000 := by omega
  refine ⟨w, n + 1 + (rangeD 0 (1 + v).toNat).length, by omega, by omega, hw, ?_, ?_⟩
  rotate_left
  · simp [d__law_word, m__law_word, fnOf, env0, sSeq, SOut.bind, sRet, sRetN, sOf, sIf, sNil, sExpr, sSet, sRaise, eAnd, eOr, eNot, bAnd, bOr, bNot, eOp1, op1, eOp2, op2, eOpN, opN, eVar, eC, deref, derefs, Out.bind, asB, toB, ofB, cut_dat, cutS_self, cutS_head0, cutS_one, cutS_none, eChain, eTup, eLst, dats, aNil, aCons, eCall, eIf, pOne, pTwo, eMeth, tyD, eComp, iRange1, hv, pAdd, hb, hr, wipeE, e3, hj]
  · rw [rangeD_len]
    omega

theorem any_strs (w : List Nat) : ∀ ss : List (List Nat), ((ss.map D.str).any fun z => eqD z (.str w)) = decide (w ∈ ss)
  | [] => by simp
  | s :: ss => by
    rw [List.map_cons, List.any_cons, any_strs w ss, eqD_str]
    by_cases h : s = w
    · subst h
      simp
    · have h' : ¬ w = s := fun e => h e.symm
      simp [h, h']
theorem notIn_strs (w : List Nat) (ss : List (List Nat)) : pNotIn (.str w) (.lst (ss.map .str)) = some (.bl (!decide (w ∈ ss))) := by
  have h1 : sh 8 (.str w) = true := rfl
  simp only [pNotIn, pIn]
  rw [if_pos ⟨h1, sh_strs ss⟩, any_strs]
def goodW (s : List Nat) : Prop := 1 ≤ s.length ∧ s.length ≤ 6 ∧ ∀ c ∈ s, c ∈ letL
theorem words_loop (ns : List Int) (L : List Nat) (hL : L ≠ []) (hsub : ∀ c ∈ L, c ∈ letL) (k : D) :
    ∀ (ds : List D) (a b : Option Val) (n : Nat) (ss : List (List Nat)), n + 10 * ds.length ≤ 80000 → ss.length + ds.length ≤ 1000 → ss.Nodup → (∀ s ∈ ss, goodW s) →
      ∃ (a' b' : Option Val) (n' : Nat) (ss' : List (List Nat)), n' ≤ n + 10 * ds.length ∧ ss.length ≤ ss'.length ∧ ss'.length ≤ ss.length + ds.length ∧ (ds ≠ [] → ss' ≠ []) ∧ ss'.Nodup ∧ (∀ s ∈ ss', goodW s) ∧
      sForL (bN 5) (sSeq (sSet 6 (eCall 4 d__law_word (aCons (eVar 0) (aCons (eVar 1) (aCons (eVar 3) (aCons (eC (.int 6)) aNil)))))) (sIf (toB (eOp2 pNotIn (eVar 6) (eVar 4))) (sExpr (eMutL true mAppend (eVar 4) (aCons (eVar 6) aNil))) sNil)) ds
        [some (.dat (.scr ns)), some (.ptr 0), some (.dat k), some (.dat (.lst ((sgs L).map .str))), some (.ptr 1), a, b] [.lst (zs n), .lst (ss.map .str)] =
        .nx [some (.dat (.scr ns)), some (.ptr 0), some (.dat k), some (.dat (.lst ((sgs L).map .str))), some (.ptr 1), a', b'] [.lst (zs n'), .lst (ss'.map .str)]
  | [], a, b, n, ss, _, _, nd, gd => ⟨a, b, n, ss, by simp, by simp, by simp, fun h => absurd rfl h, nd, gd, rfl⟩
  | d :: ds, a, b, n, ss, h1, h2, nd, gd => by
    rw [List.length_cons] at h1 h2
    obtain ⟨w, n1, w1, w2, w3, w4, hw⟩ := p_word ns n L [.lst (ss.map .str)] hL (by omega)
    have hni := notIn_strs w ss
    have gw : goodW w := ⟨w1, w2, fun c hc => hsub c (w3 c hc)⟩
    by_cases hm : w ∈ ss
    · rw [decide_eq_true hm] at hni
      obtain ⟨a', b', n', ss', r1, r2, r3, r4, r5, r6, r7⟩ := words_loop ns L hL hsub k ds (some (.dat d)) (some (.dat (.str w))) n1 ss (by omega) (by omega) nd gd
      refine ⟨a', b', n', ss', by rw [List.length_cons]; omega, r2, by rw [List.length_cons]; omega, fun _ z => ?_, r5, r6, ?_⟩
      · subst z
        have : ss.length = 0 := by simpa using r2
        rw [List.length_eq_zero_iff] at this
        subst this
        cases hm
      · simp [sForL, bN, setE, fnOf, env0, sSeq, SOut.bind, sRet, sRetN, sOf, sIf, sNil, sExpr, sSet, sRaise, eAnd, eOr, eNot, bAnd, bOr, bNot, eOp1, op1, eOp2, op2, eOpN, opN, eVar, eC, deref, derefs, Out.bind, asB, toB, ofB, cut_dat, cutS_self, cutS_head0, cutS_one, cutS_none, eChain, eTup, eLst, dats, aNil, aCons, eCall, eIf, pOne, pTwo, hw, hni, r7]
    · rw [decide_eq_false hm] at hni
      have nd2 : (ss ++ [w]).Nodup := by
        rw [List.nodup_append]
        exact ⟨nd, by simp, fun x hx y hy e => by
          rw [List.mem_singleton.mp hy] at e
          exact hm (e ▸ hx)⟩
      have gd2 : ∀ s ∈ ss ++ [w], goodW s := fun s hs => by
        rcases List.mem_append.mp hs with z | z
        · exact gd s z
        · rw [List.mem_singleton.mp z]
          exact gw
      have hl : (ss ++ [w]).length = ss.length + 1 := by simp
      obtain ⟨a', b', n', ss', r1, r2, r3, r4, r5, r6, r7⟩ := words_loop ns L hL hsub k ds (some (.dat d)) (some (.dat (.str w))) n1 (ss ++ [w]) (by omega) (by omega) nd2 gd2
      have hlt : ss.length < 1000000 := by omega
      rw [List.map_append] at r7
      refine ⟨a', b', n', ss', by rw [List.length_cons]; omega, by omega, by rw [List.length_cons]; omega, fun _ z => ?_, r5, r6, ?_⟩
      · subst z
        simp at r2
      · simp [sForL, bN, setE, fnOf, env0, sSeq, SOut.bind, sRet, sRetN, sOf, sIf, sNil, sExpr, sSet, sRaise, eAnd, eOr, eNot, bAnd, bOr, bNot, eOp1, op1, eOp2, op2, eOpN, opN, eVar, eC, deref, derefs, Out.bind, asB, toB, ofB, cut_dat, cutS_self, cutS_head0, cutS_one, cutS_none, eChain, eTup, eLst, dats, aNil, aCons, eCall, eIf, pOne, pTwo, hw, hni, eMutL, mutL, argD, mAppend, hlt]
        simpa using r7
theorem p_words (ns : List Int) (n : Nat) (hn : n < 1000) : ∃ (ss : List (List Nat)) (n' : Nat), n' ≤ n + 100 ∧ 1 ≤ ss.length ∧ ss.length ≤ 6 ∧ ss.Nodup ∧ (∀ s ∈ ss, goodW s) ∧
    d__law_words [.dat (.scr ns), .ptr 0, .dat (.int 6)] [.lst (zs n)] = .ok (.dat (.tup (ss.map .str))) [.lst (zs n')] := by
  obtain ⟨x, hx, hp⟩ := p_pick ns n [.lst [.str [97], .str [98]], .lst [.str [97], .str [98], .str [99]], .lst [.str [97], .str [98], .str [99], .str [100]], .lst [.str [107], .str [109], .str [122], .str [97], .str [101]]] [] (fun z => nomatch z) (by omega)
  obtain ⟨L, rfl, hL, hsub⟩ : ∃ L : List Nat, x = .lst ((sgs L).map .str) ∧ L ≠ [] ∧ ∀ c ∈ L, c ∈ letL := by
    simp only [List.mem_cons, List.not_mem_nil, or_false] at hx
    rcases hx with e | e | e | e <;> subst e
    · exact ⟨[97, 98], rfl, by decide, by decide⟩
    · exact ⟨[97, 98, 99], rfl, by decide, by decide⟩
    · exact ⟨[97, 98, 99, 100], rfl, by decide, by decide⟩
    · exact ⟨[107, 109, 122, 97, 101], rfl, by decide, by decide⟩
  obtain ⟨v, v1, v2, hv⟩ := p_draw ns (n + 1) 6 [.lst []] (by decide) (by omega)
  have hb : -1000000 ≤ 1 + v ∧ 1 + v ≤ 1000000 := by omega
  have hlen := rangeD_len 0 (1 + v).toNat
  obtain ⟨a', b', n', ss', r1, r2, r3, r4, r5, r6, r7⟩ := words_loop ns L hL hsub (.int 6) (rangeD 0 (1 + v).toNat) none none (n + 1 + 1) [] (by omega) (by simp; omega) List.nodup_nil (fun s hs => nomatch hs)
  refine ⟨ss', n', by omega, ?_, ?_, r5, r6, ?_⟩
  · have : ss' ≠ [] := r4 fun z => by
      rw [z] at hlen
      simp at hlen
      omega
    have := List.length_pos_iff.mpr this
    omega
  · simp at r3
    omega
  · have hl2 : (ss'.map D.str).length ≤ 1000000 := by
      rw [List.length_map]
      simp at r3
      omega
    simp only [List.map_nil] at r7
    simp [d__law_words, m__law_words, fnOf, env0, sSeq, SOut.bind, sRet, sRetN, sOf, sIf, sNil, sExpr, sSet, sRaise, eAnd, eOr, eNot, bAnd, bOr, bNot, eOp1, op1, eOp2, op2, eOpN, opN, eVar, eC, deref, derefs, Out.bind, asB, toB, ofB, cut_dat, cutS_self, cutS_head0, cutS_one, cutS_none, eChain, eTup, eLst, dats, aNil, aCons, eCall, eIf, pOne, pTwo, hp, eNew, cLst, sFor, iRange1, hv, pAdd, hb, r7, pTupleA, pTuple, pList]

theorem words_ok {ss : List (List Nat)} (h1 : 1 ≤ ss.length) (h2 : ss.length ≤ 6) (nd : ss.Nodup) (gd : ∀ s ∈ ss, goodW s) : okW (.tup (ss.map .str)) = true ∧ wordsB (.tup (ss.map .str)) = true := by
  have g1 : ∀ s ∈ ss, wordB (.str s) = true := fun s hs => by
    obtain ⟨a, b, c⟩ := gd s hs
    simp [wordB, a, b, strip_all c]
  have g2 : ∀ s ∈ ss, okD (.str s) = true := fun s hs => by
    obtain ⟨a, b, c⟩ := gd s hs
    have hg : goodL s = true := List.all_eq_true.mpr fun x hx => by
      have := c x hx
      have h26 : ∀ y ∈ letL, y < 1114112 := by decide
      exact decide_eq_true (h26 x this)
    simp only [okD, hg, Bool.and_true, decide_eq_true_eq]
    omega
  refine ⟨by simpa [okW] using g2, ?_⟩
  have g3 : (ss.map D.str).all wordB = true := by simpa using g1
  simp only [wordsB, List.length_map, decide_eq_true h1, decide_eq_true h2, g3, keysOf_strs, Bool.true_and]
  have nd2 : (ss.map fun s => (Sum.inr (toStr s) : Key)).Nodup := by
    rw [List.nodup_iff_pairwise_ne, List.pairwise_map]
    exact (List.nodup_iff_pairwise_ne.mp nd).imp fun h e => h (toStr_inj (Sum.inr.inj e))
  rw [seenIn_nd nd2, List.length_map]
  simp


end PB

namespace PB
open PySem PySem.Spec PyProof.Rows L2 DL MP MB PN
theorem p_need_both (a b : D) (S : Store) (ha : okW a = true) (hb : okL b = true ∨ wordsB a = false) : d_need_both [.dat a, .dat b] S = if wordsB a = true then (if lookB b = true then .ok (.dat .non) S else .exc 1 S) else .exc 0 S := by
  have e1 := p_are_words a S ha
  by_cases h : wordsB a = true
  · have e2 := p_is_look b S (hb.resolve_right (by rw [h]; decide))
    by_cases h2 : lookB b = true <;> simp [d_need_both, m_need_both, fnOf, env0, sSeq, SOut.bind, sRet, sRetN, sOf, sIf, sNil, sExpr, sSet, sRaise, eAnd, eOr, eNot, bAnd, bOr, bNot, eOp1, op1, eOp2, op2, eOpN, opN, eVar, eC, deref, derefs, Out.bind, asB, toB, ofB, cut_dat, cutS_self, cutS_head0, cutS_one, cutS_none, eChain, eTup, eLst, dats, aNil, aCons, eCall, eIf, pOne, pTwo, e1, e2, h, h2]
  · simp [d_need_both, m_need_both, fnOf, env0, sSeq, SOut.bind, sRet, sRetN, sOf, sIf, sNil, sExpr, sSet, sRaise, eAnd, eOr, eNot, bAnd, bOr, bNot, eOp1, op1, eOp2, op2, eOpN, opN, eVar, eC, deref, derefs, Out.bind, asB, toB, ofB, cut_dat, cutS_self, cutS_head0, cutS_one, cutS_none, eChain, eTup, eLst, dats, aNil, aCons, eCall, eIf, pOne, pTwo, e1, h]
theorem p_need_room (d : D) (S : Store) (h : plainD d = true) : d_need_room [.dat d] S = if wholeB d 1 99 = true then .ok (.dat .non) S else .exc 3 S := by
  have e := p_is_whole d 1 99 S h
  by_cases a : wholeB d 1 99 = true <;> simp [d_need_room, m_need_room, fnOf, env0, sSeq, SOut.bind, sRet, sRetN, sOf, sIf, sNil, sExpr, sSet, sRaise, eAnd, eOr, eNot, bAnd, bOr, bNot, eOp1, op1, eOp2, op2, eOpN, opN, eVar, eC, deref, derefs, Out.bind, asB, toB, ofB, cut_dat, cutS_self, cutS_head0, cutS_one, cutS_none, eChain, eTup, eLst, dats, aNil, aCons, eCall, eIf, pOne, pTwo, e, a]
theorem atI_of {α : Type} {xs : List α} {i : Int} {j : Nat} {v : α} (h : xs[j]? = some v) (e : (0 ≤ i ∧ i = j) ∨ (i < 0 ∧ i + xs.length = j)) : atI xs i = some v := by
  have hj : j < xs.length := (List.getElem?_eq_some_iff.mp h).1
  unfold atI ixN
  rcases e with ⟨h0, e⟩ | ⟨h0, e⟩
  · rw [if_pos h0, if_pos (by omega)]
    have : i.toNat = j := by omega
    simpa [this] using h
  · rw [if_neg (by omega), if_pos (by omega)]
    have : (i + (xs.length : Int)).toNat = j := by omega
    simpa [this] using h
theorem ix_letAt {w : List Nat} (h : 1 ≤ w.length) (hl : w.length ≤ 1000) (p : Int) (i : Int) (hi : i = if 0 ≤ p then min p ((w.length : Int) - 1) else max p (-(w.length : Int))) : pIx (.str w) (.int i) = some (.str [letAt w p]) := by
  have hx := letAt_ix h p
  have hg : w[if 0 ≤ p then min p.toNat (w.length - 1) else ((w.length : Int) + max p (-(w.length : Int))).toNat]? = some (letAt w p) := by
    unfold letAt
    rw [List.getElem?_eq_getElem hx]
    rfl
  have ha : atI w i = some (letAt w p) := by
    refine atI_of hg ?_
    split at hi
    · rename_i h0
      left
      rw [if_pos h0]
      omega
    · rename_i h0
      right
      rw [if_neg h0]
      omega
  have hb : -1000000 ≤ i ∧ i ≤ 1000000 := by
    split at hi <;> omega
  simp [pIx, hb, ha]
theorem p_letter_at (w : List Nat) (p : Int) (S : Store) (h : 1 ≤ w.length) (hl : w.length ≤ 1000) : d_letter_at [.dat (.str w), .dat (.int p)] S = .ok (.dat (.str [letAt w p])) S := by
  have hl2 : w.length ≤ 1000000 := by omega
  by_cases h0 : 0 ≤ p
  · have e := ix_letAt h hl p (if (w.length : Int) - 1 < p then (w.length : Int) - 1 else p) (by rw [if_pos h0]; split <;> omega)
    simp [d_letter_at, m_letter_at, fnOf, env0, sSeq, SOut.bind, sRet, sRetN, sOf, sIf, sNil, sExpr, sSet, sRaise, eAnd, eOr, eNot, bAnd, bOr, bNot, eOp1, op1, eOp2, op2, eOpN, opN, eVar, eC, deref, derefs, Out.bind, asB, toB, ofB, cut_dat, cutS_self, cutS_head0, cutS_one, cutS_none, eChain, eTup, eLst, dats, aNil, aCons, eCall, eIf, pOne, pTwo, pGe, h0, pLen, hl2, pSub, pMin2, e]
  · have e := ix_letAt h hl p (if p < -(w.length : Int) then -(w.length : Int) else p) (by rw [if_neg h0]; split <;> omega)
    have h1 : ¬ 0 ≤ p := h0
    simp [d_letter_at, m_letter_at, fnOf, env0, sSeq, SOut.bind, sRet, sRetN, sOf, sIf, sNil, sExpr, sSet, sRaise, eAnd, eOr, eNot, bAnd, bOr, bNot, eOp1, op1, eOp2, op2, eOpN, opN, eVar, eC, deref, derefs, Out.bind, asB, toB, ofB, cut_dat, cutS_self, cutS_head0, cutS_one, cutS_none, eChain, eTup, eLst, dats, aNil, aCons, eCall, eIf, pOne, pTwo, pGe, h1, pLen, hl2, pSub, pMax2, e]
abbrev lkD (i j : Int) : D := .tup [.int i, .int j]
theorem ix_look0 (i j : Int) : pIx (lkD i j) (.int 0) = some (.int i) := rfl
theorem ix_look1 (i j : Int) : pIx (lkD i j) (.int 1) = some (.int j) := rfl
def prD (p : Nat × Nat) : D := .tup [.str [p.1], .str [p.2]]
theorem p_pair_of (w : List Nat) (i j : Int) (S : Store) (h : 1 ≤ w.length) (hl : w.length ≤ 1000) : d_pair_of [.dat (.str w), .dat (lkD i j)] S = .ok (.dat (prD (letAt w i, letAt w j))) S := by
  simp [d_pair_of, m_pair_of, fnOf, env0, sSeq, SOut.bind, sRet, sRetN, sOf, sIf, sNil, sExpr, sSet, sRaise, eAnd, eOr, eNot, bAnd, bOr, bNot, eOp1, op1, eOp2, op2, eOpN, opN, eVar, eC, deref, derefs, Out.bind, asB, toB, ofB, cut_dat, cutS_self, cutS_head0, cutS_one, cutS_none, eChain, eTup, eLst, dats, aNil, aCons, eCall, eIf, pOne, pTwo, ix_look0, ix_look1, p_letter_at, h, hl, prD]
/-- words as the laws build them -/
structure Ws (ws : List (List Nat)) : Prop where
  n1 : 1 ≤ ws.length
  n6 : ws.length ≤ 6
  nd : ws.Nodup
  gd : ∀ w ∈ ws, goodW w
abbrev wsD (ws : List (List Nat)) : D := .tup (ws.map .str)
theorem p_pairs_of (ws : List (List Nat)) (i j : Int) (S : Store) (h : ∀ w ∈ ws, 1 ≤ w.length ∧ w.length ≤ 1000) (hn : ws.length ≤ 1000) : d_pairs_of [.dat (wsD ws), .dat (lkD i j)] S = .ok (.dat (.lst ((prs ws i j).map prD))) S := by
  have e := compL_map (i := 2) (me := eCall 2 d_pair_of (aCons (eVar 2) (aCons (eVar 1) (aNil)))) (ρ := [some (.dat (wsD ws)), some (.dat (lkD i j)), none]) (f := fun d => match d with
    | .str w => prD (letAt w i, letAt w j)
    | _ => .non) (ds := ws.map .str) (S := S) fun d hd => by
      obtain ⟨w, hw, rfl⟩ := List.mem_map.mp hd
      obtain ⟨h1, h2⟩ := h w hw
      simp [fnOf, env0, sSeq, SOut.bind, sRet, sRetN, sOf, sIf, sNil, sExpr, sSet, sRaise, eAnd, eOr, eNot, bAnd, bOr, bNot, eOp1, op1, eOp2, op2, eOpN, opN, eVar, eC, deref, derefs, Out.bind, asB, toB, ofB, cut_dat, cutS_self, cutS_head0, cutS_one, cutS_none, eChain, eTup, eLst, dats, aNil, aCons, eCall, eIf, pOne, pTwo, p_pair_of, h1, h2]
  have e2 : (ws.map D.str).length ≤ 1000000 := by
    rw [List.length_map]
    omega
  have e3 : (ws.map D.str).map (fun d => match d with
    | .str w => prD (letAt w i, letAt w j)
    | _ => .non) = (prs ws i j).map prD := by
    unfold prs
    rw [List.map_map, List.map_map]
    rfl
  rw [e3] at e
  have hn2 : ws.length ≤ 1000000 := by omega
  simp [d_pairs_of, m_pairs_of, fnOf, env0, sSeq, SOut.bind, sRet, sRetN, sOf, sIf, sNil, sExpr, sSet, sRaise, eAnd, eOr, eNot, bAnd, bOr, bNot, eOp1, op1, eOp2, op2, eOpN, opN, eVar, eC, deref, derefs, Out.bind, asB, toB, ofB, cut_dat, cutS_self, cutS_head0, cutS_one, cutS_none, eChain, eTup, eLst, dats, aNil, aCons, eCall, eIf, pOne, pTwo, eComp, iOf, itemsD, hn2, wipeE, e]
theorem list_pair (p : Nat × Nat) : pListA (prD p) = some (.lst [.str [p.1], .str [p.2]]) := rfl
theorem sgs_map (l : List Nat) : (sgs l).map D.str = l.map fun c => D.str [c] := by
  unfold sgs
  rw [List.map_map]
  rfl
abbrev lsD (l : List Nat) : D := .lst (l.map fun c => .str [c])
theorem letters_loop (x0 x1 : Val) (R : Store) : ∀ (ps : List (Nat × Nat)) (acc : List Nat) (y : Option Val), acc.length + 2 * ps.length ≤ 1000 → ∃ y', sForL (bN 3) (sExpr (eMutL false mExtend (eVar 2) (aCons (eOpN (pOne pListA) (aCons (eVar 3) (aNil))) (aNil)))) (ps.map prD)
    [some x0, some x1, some (.ptr R.length), y] (R ++ [.lst (acc.map fun c => .str [c])]) = .nx [some x0, some x1, some (.ptr R.length), y'] (R ++ [.lst ((acc ++ flat2 ps).map fun c => .str [c])])
  | [], acc, y, _ => ⟨y, by simp [sForL, flat2]⟩
  | p :: ps, acc, y, h => by
    rw [List.length_cons] at h
    obtain ⟨y', e⟩ := letters_loop x0 x1 R ps (acc ++ [p.1, p.2]) (some (.dat (prD p))) (by simp; omega)
    have e' := e
    simp only [List.map_append, List.map_cons, List.map_nil, List.append_assoc, List.cons_append, List.nil_append] at e'
    have hl : acc.length + 2 ≤ 1000000 := by omega
    refine ⟨y', ?_⟩
    simp [sForL, bN, setE, fnOf, env0, sSeq, SOut.bind, sRet, sRetN, sOf, sIf, sNil, sExpr, sSet, sRaise, eAnd, eOr, eNot, bAnd, bOr, bNot, eOp1, op1, eOp2, op2, eOpN, opN, eVar, eC, deref, derefs, Out.bind, asB, toB, ofB, cut_dat, cutS_self, cutS_head0, cutS_one, cutS_none, eChain, eTup, eLst, dats, aNil, aCons, eCall, eIf, pOne, pTwo, eMutL, mutL, argD, list_pair, mExtend, hl, flat2, e']
theorem strs_sg (l : List Nat) : strsOf (l.map fun c => D.str [c]) = some (sgs l) := by
  rw [← sgs_map, strs_of_map]
theorem p_letters_of (ws : List (List Nat)) (i j : Int) (S : Store) (h : ∀ w ∈ ws, 1 ≤ w.length ∧ w.length ≤ 1000) (hn : ws.length ≤ 20) : d_letters_of [.dat (wsD ws), .dat (lkD i j)] S = .ok (.dat (lsD (ltrs (prs ws i j)))) S := by
  have e1 := p_pairs_of ws i j (S ++ [.lst []]) h (by omega)
  have hp : (prs ws i j).length = ws.length := by
    unfold prs
    rw [List.length_map]
  obtain ⟨y', e2⟩ := letters_loop (.dat (wsD ws)) (.dat (lkD i j)) S (prs ws i j) [] none (by simp; omega)
  have e3 : pSortSet (.lst ((flat2 (prs ws i j)).map fun c => D.str [c])) = some (lsD (ltrs (prs ws i j))) := by
    simp only [pSortSet, strs_sg]
    rw [if_pos (by unfold sgs; rw [List.length_map, flat2_len]; omega), sort_sgs, sgs_map]
    rfl
  simp only [List.map_nil, List.nil_append] at e2
  simp [d_letters_of, m_letters_of, fnOf, env0, sSeq, SOut.bind, sRet, sRetN, sOf, sIf, sNil, sExpr, sSet, sRaise, eAnd, eOr, eNot, bAnd, bOr, bNot, eOp1, op1, eOp2, op2, eOpN, opN, eVar, eC, deref, derefs, Out.bind, asB, toB, ofB, cut_dat, cutS_self, cutS_head0, cutS_one, cutS_none, eChain, eTup, eLst, dats, aNil, aCons, eCall, eIf, pOne, pTwo, eNew, cLst, sFor, iOf, e1, itemsD, e2, e3, cutS_more]

def rowOf : D → Option (Nat × Int)
  | .tup [.str [c], .int k] => some (c, k)
  | .ktp [.str [c], .int k] => some (c, k)
  | _ => none
def rowB (room : Int) (d : D) : Bool := match rowOf d with
  | some (c, k) => decide (c ∈ letL) && (decide (0 ≤ k) && decide (k ≤ room - 1))
  | none => false
def okRow : D → Bool
  | .tup [a, b] => okD a && plainD b
  | .ktp [a, b] => okD a && plainD b
  | .scr _ => false
  | .dcu _ => false
  | _ => true
theorem okRow_plain {d : D} (h : okRow d = true) : plainD d = true := by
  cases d <;> first
    | rfl
    | cases h
theorem notIn_let (c : Nat) : pNotIn (.str [c]) (.str letL) = some (.bl (!decide (c ∈ letL))) := by
  simp only [pNotIn, pIn, List.length_singleton, if_true]
  congr 3
  exact decide_eq_decide.mpr ⟨fun ⟨x, h1, h2⟩ => by
    cases h2
    exact h1, fun h => ⟨c, h, rfl⟩⟩
theorem ix_0 (a b : D) : pIx (.tup [a, b]) (.int 0) = some a := rfl
theorem ix_1 (a b : D) : pIx (.tup [a, b]) (.int 1) = some b := rfl
theorem kix_0 (a b : D) : pIx (.ktp [a, b]) (.int 0) = some a := rfl
theorem kix_1 (a b : D) : pIx (.ktp [a, b]) (.int 1) = some b := rfl
noncomputable def rowsBody : SM := (sSeq (sIf (bOr (bNot (toB (eOp1 (pIsI "tuple") (eVar 2)))) (bOr (toB (eOp2 pNe (eOpN (pOne pLen) (aCons (eVar 2) (aNil))) (eC (.int 2)))) (bNot (toB (eCall 3 d_is_whole (aCons (eOp2 pIx (eVar 2) (eC (.int 1))) (aCons (eC (.int 0)) (aCons (eOp2 pSub (eVar 1) (eC (.int 1))) (aNil))))))))) (sRet (eC (.bl false))) (sNil)) (sIf (bOr (bNot (toB (eOp1 (pIsI "str") (eOp2 pIx (eVar 2) (eC (.int 0)))))) (bOr (toB (eOp2 pNe (eOpN (pOne pLen) (aCons (eOp2 pIx (eVar 2) (eC (.int 0))) (aNil))) (eC (.int 1)))) (toB (eOp2 pNotIn (eOp2 pIx (eVar 2) (eC (.int 0))) (eC (.str [97, 98, 99, 100, 101, 102, 103, 104, 105, 106, 107, 108, 109, 110, 111, 112, 113, 114, 115, 116, 117, 118, 119, 120, 121, 122])))))) (sRet (eC (.bl false))) (sNil)))
def rb2 (room : Int) (a b : D) : Bool := match a, b with
  | .str [c], .int k => decide (c ∈ letL) && (decide (0 ≤ k) && decide (k ≤ room - 1))
  | _, _ => false
theorem rb2_no {room : Int} {a b : D} (h : wholeB b 0 (room - 1) = false) : rb2 room a b = false := by
  unfold rb2
  split
  · rename_i c k
    have hk : (decide (0 ≤ k) && decide (k ≤ room - 1)) = false := h
    rw [hk, Bool.and_false]
  · rfl
/-- a row whose parts are known -/
theorem row2 (x : Option Val) (d a b : D) (room : Int) (c e : Option Val) (S : Store) (h0 : pIx d (.int 0) = some a) (h1 : pIx d (.int 1) = some b) (hl : pLen d = some (.int 2)) (ht : pIsI "tuple" d = some (.bl true)) (ha : okD a = true) (hb : plainD b = true) :
    rowsBody [x, some (.dat (.int room)), some (.dat d), c, e] S = if rb2 room a b = true then .nx [x, some (.dat (.int room)), some (.dat d), c, e] S else .rt (.dat (.bl false)) S := by
  have w := p_is_whole b 0 (room - 1) S hb
  have hp := okD_plain ha
  by_cases hw : wholeB b 0 (room - 1) = true
  · cases b with
    | int k =>
      have hk : (decide (0 ≤ k) && decide (k ≤ room - 1)) = true := hw
      cases a with
      | str s =>
        have hs : s.length ≤ 1000000 := by
          simp only [okD, Bool.and_eq_true, decide_eq_true_eq] at ha
          exact ha.1
        have hls : pLen (.str s) = some (.int (s.length : Nat)) := by simp only [pLen, if_pos hs]
        match s, hs, hls with
        | [], hs, hls => simp [rowsBody, fnOf, env0, sSeq, SOut.bind, sRet, sRetN, sOf, sIf, sNil, sExpr, sSet, sRaise, eAnd, eOr, eNot, bAnd, bOr, bNot, eOp1, op1, eOp2, op2, eOpN, opN, eVar, eC, deref, derefs, Out.bind, asB, toB, ofB, cut_dat, cutS_self, cutS_head0, cutS_one, cutS_none, eChain, eTup, eLst, dats, aNil, aCons, eCall, eIf, pOne, pTwo, h0, h1, hl, ht, pNe, sh, eqD_int, pSub, w, hw, isI_str hp, isT, hls, rb2]
        | [z], hs, hls =>
          have hn := notIn_let z
          by_cases hz : z ∈ letL
          · have er : rb2 room (.str [z]) (.int k) = true := by simp only [rb2, hz, decide_true, Bool.true_and, hk]
            rw [decide_eq_true hz] at hn
            simp [rowsBody, fnOf, env0, sSeq, SOut.bind, sRet, sRetN, sOf, sIf, sNil, sExpr, sSet, sRaise, eAnd, eOr, eNot, bAnd, bOr, bNot, eOp1, op1, eOp2, op2, eOpN, opN, eVar, eC, deref, derefs, Out.bind, asB, toB, ofB, cut_dat, cutS_self, cutS_head0, cutS_one, cutS_none, eChain, eTup, eLst, dats, aNil, aCons, eCall, eIf, pOne, pTwo, h0, h1, hl, ht, pNe, sh, eqD_int, pSub, w, hw, isI_str hp, isT, hls, hn, er]
          · have er : rb2 room (.str [z]) (.int k) = false := by simp only [rb2, hz, decide_false, Bool.false_and]
            rw [decide_eq_false hz] at hn
            simp [rowsBody, fnOf, env0, sSeq, SOut.bind, sRet, sRetN, sOf, sIf, sNil, sExpr, sSet, sRaise, eAnd, eOr, eNot, bAnd, bOr, bNot, eOp1, op1, eOp2, op2, eOpN, opN, eVar, eC, deref, derefs, Out.bind, asB, toB, ofB, cut_dat, cutS_self, cutS_head0, cutS_one, cutS_none, eChain, eTup, eLst, dats, aNil, aCons, eCall, eIf, pOne, pTwo, h0, h1, hl, ht, pNe, sh, eqD_int, pSub, w, hw, isI_str hp, isT, hls, hn, er]
        | z :: y :: r, hs, hls =>
          have hne : ¬ ((r.length : Int) + 1 + 1 = 1) := by omega
          simp [rowsBody, fnOf, env0, sSeq, SOut.bind, sRet, sRetN, sOf, sIf, sNil, sExpr, sSet, sRaise, eAnd, eOr, eNot, bAnd, bOr, bNot, eOp1, op1, eOp2, op2, eOpN, opN, eVar, eC, deref, derefs, Out.bind, asB, toB, ofB, cut_dat, cutS_self, cutS_head0, cutS_one, cutS_none, eChain, eTup, eLst, dats, aNil, aCons, eCall, eIf, pOne, pTwo, h0, h1, hl, ht, pNe, sh, eqD_int, pSub, w, hw, isI_str hp, isT, hls, hne, rb2]
      | _ => simp [rowsBody, fnOf, env0, sSeq, SOut.bind, sRet, sRetN, sOf, sIf, sNil, sExpr, sSet, sRaise, eAnd, eOr, eNot, bAnd, bOr, bNot, eOp1, op1, eOp2, op2, eOpN, opN, eVar, eC, deref, derefs, Out.bind, asB, toB, ofB, cut_dat, cutS_self, cutS_head0, cutS_one, cutS_none, eChain, eTup, eLst, dats, aNil, aCons, eCall, eIf, pOne, pTwo, h0, h1, hl, ht, pNe, sh, eqD_int, pSub, w, hw, isI_str hp, isT, rb2]
    | _ => cases hw
  · rw [rb2_no (by simpa using hw)]
    simp [rowsBody, fnOf, env0, sSeq, SOut.bind, sRet, sRetN, sOf, sIf, sNil, sExpr, sSet, sRaise, eAnd, eOr, eNot, bAnd, bOr, bNot, eOp1, op1, eOp2, op2, eOpN, opN, eVar, eC, deref, derefs, Out.bind, asB, toB, ofB, cut_dat, cutS_self, cutS_head0, cutS_one, cutS_none, eChain, eTup, eLst, dats, aNil, aCons, eCall, eIf, pOne, pTwo, h0, h1, hl, ht, pNe, sh, eqD_int, pSub, w, hw]

theorem rowB_two (room : Int) (a b : D) : rowB room (.tup [a, b]) = rb2 room a b ∧ rowB room (.ktp [a, b]) = rb2 room a b := by
  unfold rowB rb2
  refine ⟨?_, ?_⟩ <;> (cases a <;> try rfl) <;> (rename_i s; cases s <;> try rfl) <;> (rename_i r; cases r <;> try rfl) <;> (cases b <;> rfl)
theorem len_ne2 {n : Nat} (h : n ≠ 2) : ¬ ((n : Int) = 2) := by omega
theorem row_run (x : Option Val) (d : D) (room : Int) (c e : Option Val) (S : Store) (h : okRow d = true) :
    rowsBody [x, some (.dat (.int room)), some (.dat d), c, e] S = if rowB room d = true then .nx [x, some (.dat (.int room)), some (.dat d), c, e] S else .rt (.dat (.bl false)) S := by
  have hp := okRow_plain h
  cases d with
  | tup ds =>
    match ds, h, hp with
    | [a, b], h, hp =>
      simp only [okRow, Bool.and_eq_true] at h
      rw [(rowB_two room a b).1]
      exact row2 x _ a b room c e S rfl rfl rfl (isI_tuple hp) h.1 h.2
    | [], _, hp => simp [rowsBody, fnOf, env0, sSeq, SOut.bind, sRet, sRetN, sOf, sIf, sNil, sExpr, sSet, sRaise, eAnd, eOr, eNot, bAnd, bOr, bNot, eOp1, op1, eOp2, op2, eOpN, opN, eVar, eC, deref, derefs, Out.bind, asB, toB, ofB, cut_dat, cutS_self, cutS_head0, cutS_one, cutS_none, eChain, eTup, eLst, dats, aNil, aCons, eCall, eIf, pOne, pTwo, isI_tuple hp, isT, pLen, pNe, sh, eqD_int, rowB, rowOf]
    | [a], _, hp => simp [rowsBody, fnOf, env0, sSeq, SOut.bind, sRet, sRetN, sOf, sIf, sNil, sExpr, sSet, sRaise, eAnd, eOr, eNot, bAnd, bOr, bNot, eOp1, op1, eOp2, op2, eOpN, opN, eVar, eC, deref, derefs, Out.bind, asB, toB, ofB, cut_dat, cutS_self, cutS_head0, cutS_one, cutS_none, eChain, eTup, eLst, dats, aNil, aCons, eCall, eIf, pOne, pTwo, isI_tuple hp, isT, pLen, pNe, sh, eqD_int, rowB, rowOf]
    | a :: b :: z :: r, _, hp =>
      have hne : ¬ ((r.length : Int) + 1 + 1 + 1 = 2) := by omega
      simp [rowsBody, fnOf, env0, sSeq, SOut.bind, sRet, sRetN, sOf, sIf, sNil, sExpr, sSet, sRaise, eAnd, eOr, eNot, bAnd, bOr, bNot, eOp1, op1, eOp2, op2, eOpN, opN, eVar, eC, deref, derefs, Out.bind, asB, toB, ofB, cut_dat, cutS_self, cutS_head0, cutS_one, cutS_none, eChain, eTup, eLst, dats, aNil, aCons, eCall, eIf, pOne, pTwo, isI_tuple hp, isT, pLen, pNe, sh, eqD_int, rowB, rowOf, hne]
  | ktp ds =>
    match ds, h, hp with
    | [a, b], h, hp =>
      simp only [okRow, Bool.and_eq_true] at h
      rw [(rowB_two room a b).2]
      exact row2 x _ a b room c e S rfl rfl rfl (isI_tuple hp) h.1 h.2
    | [], _, hp => simp [rowsBody, fnOf, env0, sSeq, SOut.bind, sRet, sRetN, sOf, sIf, sNil, sExpr, sSet, sRaise, eAnd, eOr, eNot, bAnd, bOr, bNot, eOp1, op1, eOp2, op2, eOpN, opN, eVar, eC, deref, derefs, Out.bind, asB, toB, ofB, cut_dat, cutS_self, cutS_head0, cutS_one, cutS_none, eChain, eTup, eLst, dats, aNil, aCons, eCall, eIf, pOne, pTwo, isI_tuple hp, isT, pLen, pNe, sh, eqD_int, rowB, rowOf]
    | [a], _, hp => simp [rowsBody, fnOf, env0, sSeq, SOut.bind, sRet, sRetN, sOf, sIf, sNil, sExpr, sSet, sRaise, eAnd, eOr, eNot, bAnd, bOr, bNot, eOp1, op1, eOp2, op2, eOpN, opN, eVar, eC, deref, derefs, Out.bind, asB, toB, ofB, cut_dat, cutS_self, cutS_head0, cutS_one, cutS_none, eChain, eTup, eLst, dats, aNil, aCons, eCall, eIf, pOne, pTwo, isI_tuple hp, isT, pLen, pNe, sh, eqD_int, rowB, rowOf]
    | a :: b :: z :: r, _, hp =>
      have hne : ¬ ((r.length : Int) + 1 + 1 + 1 = 2) := by omega
      simp [rowsBody, fnOf, env0, sSeq, SOut.bind, sRet, sRetN, sOf, sIf, sNil, sExpr, sSet, sRaise, eAnd, eOr, eNot, bAnd, bOr, bNot, eOp1, op1, eOp2, op2, eOpN, opN, eVar, eC, deref, derefs, Out.bind, asB, toB, ofB, cut_dat, cutS_self, cutS_head0, cutS_one, cutS_none, eChain, eTup, eLst, dats, aNil, aCons, eCall, eIf, pOne, pTwo, isI_tuple hp, isT, pLen, pNe, sh, eqD_int, rowB, rowOf, hne]
  | scr ns => cases h
  | dcu ns => cases h
  | _ => simp [rowsBody, fnOf, env0, sSeq, SOut.bind, sRet, sRetN, sOf, sIf, sNil, sExpr, sSet, sRaise, eAnd, eOr, eNot, bAnd, bOr, bNot, eOp1, op1, eOp2, op2, eOpN, opN, eVar, eC, deref, derefs, Out.bind, asB, toB, ofB, cut_dat, cutS_self, cutS_head0, cutS_one, cutS_none, eChain, eTup, eLst, dats, aNil, aCons, eCall, eIf, pOne, pTwo, isI_tuple hp, isT, rowB, rowOf]
end PB

namespace PB
open PySem PySem.Spec PyProof.Rows L2 DL MP MB PN
theorem rows_run (x : Option Val) (room : Int) (c e : Option Val) (S : Store) : ∀ (rows : List D) (a : Option Val), rows.all okRow = true →
    (rows.all (rowB room) = true → ∃ a', sForL (bN 2) rowsBody rows [x, some (.dat (.int room)), a, c, e] S = .nx [x, some (.dat (.int room)), a', c, e] S) ∧
    (rows.all (rowB room) = false → sForL (bN 2) rowsBody rows [x, some (.dat (.int room)), a, c, e] S = .rt (.dat (.bl false)) S)
  | [], a, _ => ⟨fun _ => ⟨a, rfl⟩, fun h => nomatch h⟩
  | d :: ds, a, h => by
    rw [List.all_cons, Bool.and_eq_true] at h
    have e1 := row_run x d room c e S h.1
    obtain ⟨i1, i2⟩ := rows_run x room c e S ds (some (.dat d)) h.2
    rw [List.all_cons]
    by_cases hb : rowB room d = true
    · rw [hb, Bool.true_and]
      rw [if_pos hb] at e1
      refine ⟨fun q => ?_, fun q => ?_⟩
      · obtain ⟨a', e2⟩ := i1 q
        exact ⟨a', by simp [sForL, bN, setE, e1, e2]⟩
      · simp [sForL, bN, setE, e1, i2 q]
    · have hb' : rowB room d = false := by simpa using hb
      rw [hb', Bool.false_and]
      rw [if_neg hb] at e1
      exact ⟨fun q => (nomatch q), fun _ => by simp [sForL, bN, setE, e1]⟩
def letOf (d : D) : Nat := match rowOf d with
  | some (c, _) => c
  | none => 0
def asc : List Nat → Bool
  | a :: b :: r => decide (a < b) && asc (b :: r)
  | _ => true
theorem asc_pw : ∀ l : List Nat, asc l = true ↔ l.Pairwise (· < ·)
  | [] => by simp [asc]
  | [a] => by simp [asc]
  | a :: b :: r => by
    have ih := asc_pw (b :: r)
    simp only [asc, Bool.and_eq_true, decide_eq_true_eq, ih]
    constructor
    · rintro ⟨h1, h2⟩
      refine List.pairwise_cons.mpr ⟨fun x hx => ?_, h2⟩
      rcases List.mem_cons.mp hx with e | e
      · subst e
        exact h1
      · exact Nat.lt_trans h1 ((List.pairwise_cons.mp h2).1 x e)
    · intro h
      obtain ⟨h1, h2⟩ := List.pairwise_cons.mp h
      exact ⟨h1 b List.mem_cons_self, h2⟩
theorem asc_zip : ∀ rows : List D, ((rows.zip (rows.drop 1)).all fun p => decide (letOf p.1 < letOf p.2)) = asc (rows.map letOf)
  | [] => rfl
  | [a] => rfl
  | a :: b :: r => by
    have ih := asc_zip (b :: r)
    simp only [List.drop_succ_cons, List.drop_zero] at ih
    simp only [List.drop_succ_cons, List.drop_zero, List.zip_cons_cons, List.all_cons, List.map_cons, asc, ih]
theorem row_ix0 {d : D} {room : Int} (h : rowB room d = true) : pIx d (.int 0) = some (.str [letOf d]) := by
  unfold rowB at h
  unfold letOf
  cases hr : rowOf d with
  | none =>
    rw [hr] at h
    cases h
  | some p =>
    obtain ⟨c, k⟩ := p
    unfold rowOf at hr
    split at hr
    · cases hr
      rfl
    · cases hr
      rfl
    · cases hr
theorem lt_one (a b : Nat) : pLt (.str [a]) (.str [b]) = some (.bl (decide (a < b))) := by
  have e : (([a] : List Nat) < [b]) ↔ a < b := by
    simp [List.cons_lt_cons_iff]
  simp only [pLt]
  congr 2
  exact decide_eq_decide.mpr e
theorem zipD_mem {rows : List D} {d : D} (h : d ∈ zipD rows (rows.drop 1)) : ∃ a b, a ∈ rows ∧ b ∈ rows ∧ d = .ktp [a, b] := by
  unfold zipD at h
  obtain ⟨p, hp, rfl⟩ := List.mem_map.mp h
  exact ⟨p.1, p.2, (List.of_mem_zip hp).1, List.mem_of_mem_drop (List.of_mem_zip hp).2, rfl⟩
theorem comp_asc (x y z : Option Val) (rows : List D) (room : Int) (S : Store) (h : rows.all (rowB room) = true) :
    compL (bTup (bCons (bN 3) (bCons (bN 4) (bNil)))) (bYes) (eOp2 pLt (eOp2 pIx (eVar 3) (eC (.int 0))) (eOp2 pIx (eVar 4) (eC (.int 0)))) [x, y, z, none, none] (zipD rows (rows.drop 1)) S = .ok ((rows.zip (rows.drop 1)).map fun p => .bl (decide (letOf p.1 < letOf p.2))) S := by
  have q := compL_mapB (B := bTup (bCons (bN 3) (bCons (bN 4) (bNil)))) (me := eOp2 pLt (eOp2 pIx (eVar 3) (eC (.int 0))) (eOp2 pIx (eVar 4) (eC (.int 0)))) (ρ := [x, y, z, none, none]) (f := fun d => match d with
    | .ktp [a, b] => .bl (decide (letOf a < letOf b))
    | _ => .non) (ds := zipD rows (rows.drop 1)) (S := S) fun d hd => by
      obtain ⟨a, b, ha, hb, rfl⟩ := zipD_mem hd
      have h1 := row_ix0 (List.all_eq_true.mp h a ha)
      have h2 := row_ix0 (List.all_eq_true.mp h b hb)
      exact ⟨[(3, a), (4, b)], rfl, by simp [setE, fnOf, env0, sSeq, SOut.bind, sRet, sRetN, sOf, sIf, sNil, sExpr, sSet, sRaise, eAnd, eOr, eNot, bAnd, bOr, bNot, eOp1, op1, eOp2, op2, eOpN, opN, eVar, eC, deref, derefs, Out.bind, asB, toB, ofB, cut_dat, cutS_self, cutS_head0, cutS_one, cutS_none, eChain, eTup, eLst, dats, aNil, aCons, eCall, eIf, pOne, pTwo, h1, h2, lt_one]⟩
  rw [q]
  congr 1
  unfold zipD
  rw [List.map_map]
  rfl
def worthsB (room : Int) : D → Bool
  | .tup rows => rows.all (rowB room) && asc (rows.map letOf)
  | _ => false
def okWs : D → Bool
  | .tup rows => rows.all okRow && decide (rows.length ≤ 1000)
  | .scr _ => false
  | .dcu _ => false
  | .ktp _ => false
  | _ => true
theorem okWs_plain {d : D} (h : okWs d = true) : plainD d = true := by
  cases d <;> first
    | rfl
    | cases h
theorem slice_1 (rows : List D) : pSl (.tup rows) (some 1) none = some (.tup (rows.drop 1)) := by
  show some (D.tup (cutL rows (some 1) none)) = _
  rw [cutL_1]
theorem p_are_worths (d : D) (room : Int) (S : Store) (h : okWs d = true) : d_are_worths [.dat d, .dat (.int room)] S = .ok (.dat (.bl (worthsB room d))) S := by
  have hq := okWs_plain h
  cases d with
  | tup rows =>
    simp only [okWs, Bool.and_eq_true, decide_eq_true_eq] at h
    obtain ⟨h1, h2⟩ := h
    obtain ⟨i1, i2⟩ := rows_run (some (.dat (.tup rows))) room none none S rows none h1
    have hl : (zipD rows (rows.drop 1)).length ≤ 1000000 := by
      unfold zipD
      rw [List.length_map, List.length_zip]
      omega
    by_cases a : rows.all (rowB room) = true
    · obtain ⟨a', e1⟩ := i1 a
      have e2 := comp_asc (some (.dat (.tup rows))) (some (.dat (.int room))) a' rows room S a
      have e3 : pAll (.lst ((rows.zip (rows.drop 1)).map fun p => .bl (decide (letOf p.1 < letOf p.2)))) = some (.bl (asc (rows.map letOf))) := by
        have := boolsOf_map (fun p : D × D => decide (letOf p.1 < letOf p.2)) (rows.zip (rows.drop 1))
        simp only [pAll, this, Option.map_some, List.all_map]
        rw [← asc_zip]
        rfl
      have e4 : worthsB room (.tup rows) = asc (rows.map letOf) := by
        simp only [worthsB, a, Bool.true_and]
      rw [e4]
      unfold rowsBody at e1
      simp [d_are_worths, m_are_worths, fnOf, env0, sSeq, SOut.bind, sRet, sRetN, sOf, sIf, sNil, sExpr, sSet, sRaise, eAnd, eOr, eNot, bAnd, bOr, bNot, eOp1, op1, eOp2, op2, eOpN, opN, eVar, eC, deref, derefs, Out.bind, asB, toB, ofB, cut_dat, cutS_self, cutS_head0, cutS_one, cutS_none, eChain, eTup, eLst, dats, aNil, aCons, eCall, eIf, pOne, pTwo, isI_tuple hq, isT, sFor, iOf, itemsD, e1, eComp, iZipD, eSl, oSome, oNone, slice_1, zip2, hl, wipeE, e2, e3, -List.drop_one]
    · have a' : rows.all (rowB room) = false := by simpa using a
      have e1 := i2 a'
      have e4 : worthsB room (.tup rows) = false := by
        simp only [worthsB, a', Bool.false_and]
      rw [e4]
      unfold rowsBody at e1
      simp [d_are_worths, m_are_worths, fnOf, env0, sSeq, SOut.bind, sRet, sRetN, sOf, sIf, sNil, sExpr, sSet, sRaise, eAnd, eOr, eNot, bAnd, bOr, bNot, eOp1, op1, eOp2, op2, eOpN, opN, eVar, eC, deref, derefs, Out.bind, asB, toB, ofB, cut_dat, cutS_self, cutS_head0, cutS_one, cutS_none, eChain, eTup, eLst, dats, aNil, aCons, eCall, eIf, pOne, pTwo, isI_tuple hq, isT, sFor, iOf, itemsD, e1]
  | scr ns => cases h
  | dcu ns => cases h
  | ktp ns => cases h
  | _ => simp [d_are_worths, m_are_worths, fnOf, env0, sSeq, SOut.bind, sRet, sRetN, sOf, sIf, sNil, sExpr, sSet, sRaise, eAnd, eOr, eNot, bAnd, bOr, bNot, eOp1, op1, eOp2, op2, eOpN, opN, eVar, eC, deref, derefs, Out.bind, asB, toB, ofB, cut_dat, cutS_self, cutS_head0, cutS_one, cutS_none, eChain, eTup, eLst, dats, aNil, aCons, eCall, eIf, pOne, pTwo, isI_tuple hq, isT, worthsB]

def bkD (ps : List (Nat × Int)) : List (D × D) := ps.map fun p => (.str [p.1], .int p.2)
def rowsN (rows : List D) : List (Nat × Int) := rows.filterMap rowOf
theorem key_one (c : Nat) : keyOf (.str [c]) = some (keyS [c]) := rfl
theorem keyS_one {a b : Nat} : keyS [a] = keyS [b] ↔ a = b := ⟨fun h => by simpa using keyS_inj _ _ h, fun h => by rw [h]⟩
theorem putD_new {ks : List (D × D)} {k d : D} (h : ∀ p ∈ ks, keyOf p.1 ≠ keyOf k) : putD ks k d = ks ++ [(k, d)] := by
  unfold putD
  rw [if_neg]
  rw [List.any_eq_true]
  rintro ⟨p, hp, e⟩
  exact h p hp (of_decide_eq_true e)
theorem merge_bk : ∀ (ps acc : List (Nat × Int)), ((acc ++ ps).map (·.1)).Nodup → mergeD (bkD acc) (bkD ps) = bkD (acc ++ ps)
  | [], acc, _ => by simp [mergeD, bkD]
  | p :: ps, acc, nd => by
    have e : acc ++ p :: ps = (acc ++ [p]) ++ ps := by simp
    have hn : putD (bkD acc) (.str [p.1]) (.int p.2) = bkD (acc ++ [p]) := by
      rw [putD_new]
      · simp [bkD]
      · intro q hq he
        obtain ⟨z, hz, rfl⟩ := List.mem_map.mp hq
        rw [key_one, key_one] at he
        have ec : z.1 = p.1 := keyS_one.mp (Option.some.inj he)
        rw [List.map_append, List.nodup_append] at nd
        exact nd.2.2 z.1 (List.mem_map.mpr ⟨z, hz, rfl⟩) p.1 (by simp) ec
    show mergeD (putD (bkD acc) (.str [p.1]) (.int p.2)) (bkD ps) = _
    rw [hn, merge_bk ps (acc ++ [p]) (by rw [← e]; exact nd), e]
theorem rowB_of {room : Int} {d : D} (h : rowB room d = true) : ∃ c k, rowOf d = some (c, k) ∧ c ∈ letL ∧ 0 ≤ k ∧ k ≤ room - 1 ∧ letOf d = c ∧ pairOf d = some (.str [c], .int k) := by
  unfold rowB at h
  cases hr : rowOf d with
  | none =>
    rw [hr] at h
    cases h
  | some p =>
    obtain ⟨c, k⟩ := p
    rw [hr] at h
    simp only [Bool.and_eq_true, decide_eq_true_eq] at h
    refine ⟨c, k, rfl, h.1, h.2.1, h.2.2, by unfold letOf; rw [hr], ?_⟩
    unfold rowOf at hr
    split at hr
    · cases hr
      rfl
    · cases hr
      rfl
    · cases hr
theorem rows_facts {room : Int} : ∀ {rows : List D}, rows.all (rowB room) = true → pairsOf rows = some (bkD (rowsN rows)) ∧ (rowsN rows).map (·.1) = rows.map letOf ∧ ∀ p ∈ rowsN rows, p.1 ∈ letL ∧ 0 ≤ p.2 ∧ p.2 ≤ room - 1
  | [], _ => ⟨rfl, rfl, fun p hp => nomatch hp⟩
  | d :: ds, h => by
    rw [List.all_cons, Bool.and_eq_true] at h
    obtain ⟨c, k, h1, h2, h3, h4, h5, h6⟩ := rowB_of h.1
    obtain ⟨i1, i2, i3⟩ := rows_facts h.2
    have e : rowsN (d :: ds) = (c, k) :: rowsN ds := by
      unfold rowsN
      rw [List.filterMap_cons, h1]
    rw [e]
    refine ⟨?_, ?_, ?_⟩
    · simp only [DL.pairsOf, h6, i1, bkD, List.map_cons]
    · rw [List.map_cons, List.map_cons, i2, h5]
    · intro p hp
      rcases List.mem_cons.mp hp with q | q
      · subst q
        exact ⟨h2, h3, h4⟩
      · exact i3 p q
/-- dict(worths) of what are worths -/
theorem dict_worths {rows : List D} {room : Int} (h : worthsB room (.tup rows) = true) {m : EM} {ρ : Ev} {S : Store} (hm : m ρ S = .ok (.dat (.tup rows)) S) : eFrz (cDict m) ρ S = .ok (.dat (.dct (bkD (rowsN rows)))) S := by
  simp only [worthsB, Bool.and_eq_true] at h
  obtain ⟨h1, h2⟩ := h
  obtain ⟨i1, i2, i3⟩ := rows_facts h1
  have nd : ((([] : List (Nat × Int)) ++ rowsN rows).map (fun p : Nat × Int => p.1)).Nodup := by
    rw [List.nil_append, i2]
    exact List.nodup_iff_pairwise_ne.mpr (((asc_pw _).mp h2).imp fun h => Nat.ne_of_lt h)
  have e := merge_bk (rowsN rows) [] nd
  rw [List.nil_append] at e
  have e' : mergeD [] (bkD (rowsN rows)) = bkD (rowsN rows) := e
  simp [eFrz, cDict, fnOf, env0, sSeq, SOut.bind, sRet, sRetN, sOf, sIf, sNil, sExpr, sSet, sRaise, eAnd, eOr, eNot, bAnd, bOr, bNot, eOp1, op1, eOp2, op2, eOpN, opN, eVar, eC, deref, derefs, Out.bind, asB, toB, ofB, cut_dat, cutS_self, cutS_head0, cutS_one, cutS_none, eChain, eTup, eLst, dats, aNil, aCons, eCall, eIf, pOne, pTwo, hm, i1, e', cellD]
theorem look_bk (ps : List (Nat × Int)) (c : Nat) : lookD (bkD ps) (keyS [c]) = (lk ps c).map .int := by
  unfold lookD lk bkD
  rw [List.find?_map]
  simp only [Option.map_map]
  congr 1
  refine congrArg (fun f => List.find? f ps) (funext fun p => ?_)
  show decide (keyOf (.str [p.1]) = some (keyS [c])) = decide (p.1 = c)
  rw [key_one]
  refine decide_eq_decide.mpr ⟨fun h => keyS_one.mp (Option.some.inj h), fun h => by rw [h]⟩
theorem notIn_bk (ps : List (Nat × Int)) (c : Nat) : pNotIn (.str [c]) (.dct (bkD ps)) = some (.bl (!decide (c ∈ ps.map (·.1)))) := by
  have e : pGet (.dct (bkD ps)) (.str [c]) = some ((lk ps c).map .int) := by
    simp only [pGet, key_one, Option.map_some, look_bk]
  have q : pIn (.str [c]) (.dct (bkD ps)) = some (.bl (decide (c ∈ ps.map (·.1)))) := by
    simp only [pIn, e, Option.map_some]
    congr 2
    cases hl : lk ps c with
    | none =>
      rw [decide_eq_false]
      · rfl
      · intro h
        obtain ⟨v, hv⟩ := lk_some.mp h
        rw [hl] at hv
        cases hv
    | some v =>
      rw [decide_eq_true (lk_some.mpr ⟨v, hl⟩)]
      rfl
  simp only [pNotIn, q]
theorem ix_bk {ps : List (Nat × Int)} {c : Nat} {k : Int} (h : lk ps c = some k) : pIx (.dct (bkD ps)) (.str [c]) = some (.int k) := by
  simp only [pIx, pGet, key_one, Option.map_some, look_bk, h, Option.bind_some, id]
end PB

namespace PB
open PySem PySem.Spec PyProof.Rows L2 DL MP MB PN
theorem Ws.len {ws : List (List Nat)} (h : Ws ws) : ∀ w ∈ ws, 1 ≤ w.length ∧ w.length ≤ 1000 := fun w hw => by
  obtain ⟨a, b, _⟩ := h.gd w hw
  omega
theorem Ws.ok {ws : List (List Nat)} (h : Ws ws) : okW (wsD ws) = true ∧ wordsB (wsD ws) = true := words_ok h.n1 h.n6 h.nd h.gd
structure Lk (i j : Int) : Prop where
  i1 : -3 ≤ i
  i2 : i ≤ 2
  j1 : -3 ≤ j
  j2 : j ≤ 2
theorem Lk.ok {i j : Int} (h : Lk i j) : okL (lkD i j) = true ∧ lookB (lkD i j) = true := by
  obtain ⟨a, b, c, d⟩ := h
  exact ⟨rfl, by simp [lookB, wholeB, a, b, c, d]⟩
theorem need_ok {ws : List (List Nat)} {i j : Int} (h : Ws ws) (l : Lk i j) (S : Store) : d_need_both [.dat (wsD ws), .dat (lkD i j)] S = .ok (.dat .non) S := by
  rw [p_need_both _ _ S h.ok.1 (.inl l.ok.1), if_pos h.ok.2, if_pos l.ok.2]
theorem room_ok {room : Int} (h1 : 1 ≤ room) (h2 : room ≤ 99) (S : Store) : d_need_room [.dat (.int room)] S = .ok (.dat .non) S := by
  rw [p_need_room _ S rfl, if_pos (by simp [wholeB, h1, h2])]
theorem prs_len (ws : List (List Nat)) (i j : Int) : (prs ws i j).length = ws.length := by
  unfold prs
  rw [List.length_map]
theorem ix_bkI {ps : List (Nat × Int)} {c : Nat} (h : c ∈ ps.map (·.1)) : pIx (.dct (bkD ps)) (.str [c]) = some (.int (wI ps c)) := by
  obtain ⟨v, hv⟩ := lk_some.mp h
  have e : wI ps c = v := by
    unfold wI
    rw [hv]
    rfl
  rw [e]
  exact ix_bk hv
theorem tupleA_ints (l : List D) : pTupleA (.lst l) = some (.tup l) := rfl
theorem p_numbers_by (ws : List (List Nat)) (i j room : Int) (ps : List (Nat × Int)) (S : Store) (h : ∀ w ∈ ws, 1 ≤ w.length ∧ w.length ≤ 1000) (hn : ws.length ≤ 20) (hr : 0 < room) (hall : ∀ c ∈ flat2 (prs ws i j), c ∈ ps.map (·.1)) :
    d_numbers_by [.dat (wsD ws), .dat (lkD i j), .dat (.int room), .dat (.dct (bkD ps))] S = .ok (.dat (.tup ((nums (prs ws i j) room (wI ps)).map .int))) S := by
  have e1 := p_pairs_of ws i j S h (by omega)
  have hl : ((prs ws i j).map prD).length ≤ 1000000 := by
    rw [List.length_map, prs_len]
    omega
  have q := compL_mapB (B := bTup (bCons (bN 4) (bCons (bN 5) (bNil)))) (me := eOp2 pMod (eOp2 pAdd (eOp2 pIx (eVar 3) (eVar 4)) (eOp2 pIx (eVar 3) (eVar 5))) (eVar 2)) (ρ := [some (.dat (wsD ws)), some (.dat (lkD i j)), some (.dat (.int room)), some (.dat (.dct (bkD ps))), none, none]) (f := fun d => match d with
    | .tup [.str [a], .str [b]] => .int ((wI ps a + wI ps b) % room)
    | _ => .non) (ds := (prs ws i j).map prD) (S := S) fun d hd => by
      obtain ⟨p, hp, rfl⟩ := List.mem_map.mp hd
      have h1 := ix_bkI (hall p.1 (mem_flat2.mpr ⟨p, hp, .inl rfl⟩))
      have h2 := ix_bkI (hall p.2 (mem_flat2.mpr ⟨p, hp, .inr rfl⟩))
      exact ⟨[(4, .str [p.1]), (5, .str [p.2])], rfl, by simp [setE, fnOf, env0, sSeq, SOut.bind, sRet, sRetN, sOf, sIf, sNil, sExpr, sSet, sRaise, eAnd, eOr, eNot, bAnd, bOr, bNot, eOp1, op1, eOp2, op2, eOpN, opN, eVar, eC, deref, derefs, Out.bind, asB, toB, ofB, cut_dat, cutS_self, cutS_head0, cutS_one, cutS_none, eChain, eTup, eLst, dats, aNil, aCons, eCall, eIf, pOne, pTwo, h1, h2, pAdd, pMod, hr, prD]⟩
  have e2 : ((prs ws i j).map prD).map (fun d => match d with
    | .tup [.str [a], .str [b]] => D.int ((wI ps a + wI ps b) % room)
    | _ => .non) = (nums (prs ws i j) room (wI ps)).map .int := by
    unfold nums
    rw [List.map_map, List.map_map]
    rfl
  rw [e2] at q
  have hl2 : (prs ws i j).length ≤ 1000000 := by
    rw [prs_len]
    omega
  simp [d_numbers_by, m_numbers_by, fnOf, env0, sSeq, SOut.bind, sRet, sRetN, sOf, sIf, sNil, sExpr, sSet, sRaise, eAnd, eOr, eNot, bAnd, bOr, bNot, eOp1, op1, eOp2, op2, eOpN, opN, eVar, eC, deref, derefs, Out.bind, asB, toB, ofB, cut_dat, cutS_self, cutS_head0, cutS_one, cutS_none, eChain, eTup, eLst, dats, aNil, aCons, eCall, eIf, pOne, pTwo, eComp, iOf, e1, itemsD, hl2, wipeE, q, tupleA_ints]
def rowsT : D → List (Nat × Int)
  | .tup rows => rowsN rows
  | _ => []
def numOk (pp : List (Nat × Nat)) (room : Int) (t : D) : Bool := worthsB room t && (ltrs pp).all fun c => decide (c ∈ (rowsT t).map (·.1))
theorem any_not (l : List Nat) (f : Nat → Bool) : (l.any fun c => !f c) = !l.all f := by
  induction l with
  | nil => rfl
  | cons a l ih => simp [ih]
theorem p_numbered {ws : List (List Nat)} {i j room : Int} {t : D} (S : Store) (h : Ws ws) (l : Lk i j) (h1 : 1 ≤ room) (h2 : room ≤ 99) (ht : okWs t = true) :
    d_numbered [.dat (wsD ws), .dat (lkD i j), .dat (.int room), .dat t] S = if numOk (prs ws i j) room t = true then .ok (.dat (.tup ((nums (prs ws i j) room (wI (rowsT t))).map .int))) S else .exc 5 S := by
  have n1 := need_ok h l S
  have n2 := room_ok h1 h2 S
  have e1 := p_are_worths t room S ht
  by_cases a : worthsB room t = true
  · cases t with
    | tup rows =>
      have e2 := p_letters_of ws i j S h.len (by have := h.n6; omega)
      have ed : eFrz (cDict (eVar 3)) [some (.dat (wsD ws)), some (.dat (lkD i j)), some (.dat (.int room)), some (.dat (.tup rows)), none] S = .ok (.dat (.dct (bkD (rowsN rows)))) S := dict_worths a rfl
      have q := compL_map (i := 4) (me := eOp2 pNotIn (eVar 4) (eFrz (cDict (eVar 3)))) (ρ := [some (.dat (wsD ws)), some (.dat (lkD i j)), some (.dat (.int room)), some (.dat (.tup rows)), none]) (f := fun d => match d with
        | .str [c] => .bl (!decide (c ∈ (rowsN rows).map (·.1)))
        | _ => .non) (ds := (ltrs (prs ws i j)).map fun c => .str [c]) (S := S) fun d hd => by
          obtain ⟨c, hc, rfl⟩ := List.mem_map.mp hd
          have ed2 : eFrz (cDict (eVar 3)) [some (.dat (wsD ws)), some (.dat (lkD i j)), some (.dat (.int room)), some (.dat (.tup rows)), some (.dat (.str [c]))] S = .ok (.dat (.dct (bkD (rowsN rows)))) S := dict_worths a rfl
          have hn := notIn_bk (rowsN rows) c
          simp [fnOf, env0, sSeq, SOut.bind, sRet, sRetN, sOf, sIf, sNil, sExpr, sSet, sRaise, eAnd, eOr, eNot, bAnd, bOr, bNot, eOp1, op1, eOp2, op2, eOpN, opN, eVar, eC, deref, derefs, Out.bind, asB, toB, ofB, cut_dat, cutS_self, cutS_head0, cutS_one, cutS_none, eChain, eTup, eLst, dats, aNil, aCons, eCall, eIf, pOne, pTwo, ed2, hn]
      have e3 : ((ltrs (prs ws i j)).map fun c => D.str [c]).map (fun d => match d with
        | .str [c] => .bl (!decide (c ∈ (rowsN rows).map (·.1)))
        | _ => .non) = (ltrs (prs ws i j)).map fun c => D.bl (!decide (c ∈ (rowsN rows).map (·.1))) := by
        rw [List.map_map]
        rfl
      rw [e3] at q
      have hl : (ltrs (prs ws i j)).length ≤ 1000000 := by
        have := srt_len (flat2 (prs ws i j))
        rw [flat2_len, prs_len] at this
        have := h.n6
        unfold ltrs
        omega
      have e4 : pAny (.lst ((ltrs (prs ws i j)).map fun c => D.bl (!decide (c ∈ (rowsN rows).map (·.1))))) = some (.bl (!(ltrs (prs ws i j)).all fun c => decide (c ∈ (rowsN rows).map (·.1)))) := by
        have := boolsOf_map (fun c => !decide (c ∈ (rowsN rows).map (·.1))) (ltrs (prs ws i j))
        simp only [pAny, this, Option.map_some, List.any_map]
        rw [← any_not]
        rfl
      by_cases b : ((ltrs (prs ws i j)).all fun c => decide (c ∈ (rowsN rows).map (·.1))) = true
      · have en : numOk (prs ws i j) room (.tup rows) = true := by
          simp only [numOk, a, Bool.true_and]
          exact b
        have e5 := p_numbers_by ws i j room (rowsN rows) S h.len (by have := h.n6; omega) (by omega) fun c hc => of_decide_eq_true (List.all_eq_true.mp b c (mem_srt.mpr hc))
        rw [if_pos en]
        rw [b] at e4
        simp [d_numbered, m_numbered, fnOf, env0, sSeq, SOut.bind, sRet, sRetN, sOf, sIf, sNil, sExpr, sSet, sRaise, eAnd, eOr, eNot, bAnd, bOr, bNot, eOp1, op1, eOp2, op2, eOpN, opN, eVar, eC, deref, derefs, Out.bind, asB, toB, ofB, cut_dat, cutS_self, cutS_head0, cutS_one, cutS_none, eChain, eTup, eLst, dats, aNil, aCons, eCall, eIf, pOne, pTwo, n1, n2, e1, a, eComp, iOf, e2, itemsD, hl, wipeE, q, e4, ed, e5, rowsT, -List.mem_map, -List.any_map, -List.all_eq_true]
      · have b' : ((ltrs (prs ws i j)).all fun c => decide (c ∈ (rowsN rows).map (·.1))) = false := by simpa using b
        have en : numOk (prs ws i j) room (.tup rows) = false := by
          simp only [numOk, a, Bool.true_and]
          exact b'
        rw [en]
        rw [b'] at e4
        simp [d_numbered, m_numbered, fnOf, env0, sSeq, SOut.bind, sRet, sRetN, sOf, sIf, sNil, sExpr, sSet, sRaise, eAnd, eOr, eNot, bAnd, bOr, bNot, eOp1, op1, eOp2, op2, eOpN, opN, eVar, eC, deref, derefs, Out.bind, asB, toB, ofB, cut_dat, cutS_self, cutS_head0, cutS_one, cutS_none, eChain, eTup, eLst, dats, aNil, aCons, eCall, eIf, pOne, pTwo, n1, n2, e1, a, eComp, iOf, e2, itemsD, hl, wipeE, q, e4, ed, -List.mem_map, -List.any_map, -List.all_eq_true]
    | _ => cases a
  · have a' : worthsB room t = false := by simpa using a
    have en : numOk (prs ws i j) room t = false := by
      simp only [numOk, a', Bool.false_and]
    rw [en]
    simp [d_numbered, m_numbered, fnOf, env0, sSeq, SOut.bind, sRet, sRetN, sOf, sIf, sNil, sExpr, sSet, sRaise, eAnd, eOr, eNot, bAnd, bOr, bNot, eOp1, op1, eOp2, op2, eOpN, opN, eVar, eC, deref, derefs, Out.bind, asB, toB, ofB, cut_dat, cutS_self, cutS_head0, cutS_one, cutS_none, eChain, eTup, eLst, dats, aNil, aCons, eCall, eIf, pOne, pTwo, n1, n2, e1, a']
theorem p_numbered0 {a : D} (b r t : D) (S : Store) (ha : okW a = true) (hb : wordsB a = false) : d_numbered [.dat a, .dat b, .dat r, .dat t] S = .exc 0 S := by
  have e := p_need_both a b S ha (.inr hb)
  simp [d_numbered, m_numbered, fnOf, env0, sSeq, SOut.bind, sRet, sRetN, sOf, sIf, sNil, sExpr, sSet, sRaise, eAnd, eOr, eNot, bAnd, bOr, bNot, eOp1, op1, eOp2, op2, eOpN, opN, eVar, eC, deref, derefs, Out.bind, asB, toB, ofB, cut_dat, cutS_self, cutS_head0, cutS_one, cutS_none, eChain, eTup, eLst, dats, aNil, aCons, eCall, eIf, pOne, pTwo, e, hb]
theorem p_numbered1 {ws : List (List Nat)} {b : D} (r t : D) (S : Store) (h : Ws ws) (hb : okL b = true) (hc : lookB b = false) : d_numbered [.dat (wsD ws), .dat b, .dat r, .dat t] S = .exc 1 S := by
  have e := p_need_both (wsD ws) b S h.ok.1 (.inl hb)
  simp [d_numbered, m_numbered, fnOf, env0, sSeq, SOut.bind, sRet, sRetN, sOf, sIf, sNil, sExpr, sSet, sRaise, eAnd, eOr, eNot, bAnd, bOr, bNot, eOp1, op1, eOp2, op2, eOpN, opN, eVar, eC, deref, derefs, Out.bind, asB, toB, ofB, cut_dat, cutS_self, cutS_head0, cutS_one, cutS_none, eChain, eTup, eLst, dats, aNil, aCons, eCall, eIf, pOne, pTwo, e, hc, h.ok.2]
theorem p_numbered3 {ws : List (List Nat)} {i j : Int} {r : D} (t : D) (S : Store) (h : Ws ws) (l : Lk i j) (hr : plainD r = true) (hw : wholeB r 1 99 = false) : d_numbered [.dat (wsD ws), .dat (lkD i j), .dat r, .dat t] S = .exc 3 S := by
  have n1 := need_ok h l S
  have n2 := p_need_room r S hr
  simp [d_numbered, m_numbered, fnOf, env0, sSeq, SOut.bind, sRet, sRetN, sOf, sIf, sNil, sExpr, sSet, sRaise, eAnd, eOr, eNot, bAnd, bOr, bNot, eOp1, op1, eOp2, op2, eOpN, opN, eVar, eC, deref, derefs, Out.bind, asB, toB, ofB, cut_dat, cutS_self, cutS_head0, cutS_one, cutS_none, eChain, eTup, eLst, dats, aNil, aCons, eCall, eIf, pOne, pTwo, n1, n2, hw]
end PB

namespace PB
open PySem PySem.Spec PyProof.Rows L2 DL MP MB PN
theorem compL_filt {i : Nat} {mt : BM} {me : EM} {ρ : Ev} {f : D → Bool} {g : D → D} : ∀ {ds : List D} {S : Store}, (∀ d ∈ ds, mt (ρ.set i (some (.dat d))) S = .ok (f d) S ∧ me (ρ.set i (some (.dat d))) S = .ok (.dat (g d)) S) → compL (bN i) mt me ρ ds S = .ok ((ds.filter f).map g) S
  | [], S, _ => rfl
  | d :: ds, S, h => by
    have ih := compL_filt (i := i) (mt := mt) (me := me) (ρ := ρ) (f := f) (g := g) (ds := ds) (S := S) fun x hx => h x (List.mem_cons_of_mem _ hx)
    obtain ⟨e1, e2⟩ := h d List.mem_cons_self
    by_cases hf : f d = true
    · rw [hf] at e1
      simp only [compL, bN, setE, e1, Out.bind, if_true, e2, ih, List.filter_cons, hf, List.map_cons]
    · have hf' : f d = false := by simpa using hf
      rw [hf'] at e1
      simp only [compL, bN, setE, e1, Out.bind, Bool.false_eq_true, if_false, ih, List.filter_cons, hf']
theorem filter_range (m : Nat) : ∀ n : Nat, (List.range n).filter (fun k => decide (k = m)) = if m < n then [m] else []
  | 0 => rfl
  | n + 1 => by
    rw [List.range_succ, List.filter_append, filter_range m n]
    by_cases h : m < n
    · rw [if_pos h, if_pos (by omega)]
      have : ¬ n = m := by omega
      simp [this]
    · rw [if_neg h]
      by_cases e : n = m
      · subst e
        rw [if_pos (by omega)]
        simp
      · rw [if_neg (by omega)]
        simp [e]
theorem filter_none {α : Type} {f : α → Bool} {l : List α} (h : ∀ x ∈ l, f x = false) : l.filter f = [] := by
  rw [List.filter_eq_nil_iff]
  exact fun x hx => by simp [h x hx]
def spotB (p : Int) (n : Nat) : D → Bool
  | .int k => decide (k = p) || decide (k = p + n)
  | _ => false
theorem spots (p : Int) (n : Nat) : ((rangeD 0 n).filter (spotB p n)).map id = if 0 ≤ p ∧ p < n then [.int p] else if -(n : Int) ≤ p ∧ p < 0 then [.int (p + n)] else [] := by
  rw [List.map_id]
  unfold rangeD
  rw [List.filter_map]
  have key : ∀ m : Nat, (∀ k ∈ List.range n, (spotB p n ∘ fun i : Nat => D.int (0 + (i : Int))) k = decide (k = m)) → (List.range n).filter (spotB p n ∘ fun i : Nat => D.int (0 + (i : Int))) = if m < n then [m] else [] := fun m h => by
    rw [← filter_range m n]
    exact List.filter_congr h
  split
  · rename_i h
    rw [key p.toNat fun k hk => by
      have := List.mem_range.mp hk
      show (decide ((0 : Int) + k = p) || decide ((0 : Int) + k = p + n)) = decide (k = p.toNat)
      rw [← Bool.decide_or]
      exact decide_eq_decide.mpr (by omega), if_pos (by omega)]
    simp only [List.map_cons, List.map_nil]
    congr 2
    omega
  · rename_i h
    split
    · rename_i h2
      rw [key (p + n).toNat fun k hk => by
        have := List.mem_range.mp hk
        show (decide ((0 : Int) + k = p) || decide ((0 : Int) + k = p + n)) = decide (k = (p + n).toNat)
        rw [← Bool.decide_or]
        exact decide_eq_decide.mpr (by omega), if_pos (by omega)]
      simp only [List.map_cons, List.map_nil]
      congr 2
      omega
    · rename_i h2
      rw [filter_none fun k hk => by
        have := List.mem_range.mp hk
        show (decide ((0 : Int) + k = p) || decide ((0 : Int) + k = p + n)) = false
        rw [← Bool.decide_or]
        exact decide_eq_false (by omega)]
      rfl
theorem p_law_at (w : List Nat) (p : Int) (S : Store) (h : 1 ≤ w.length) (hl : w.length ≤ 1000) : d__law_at [.dat (.str w), .dat (.int p)] S = .ok (.dat (.str [letAt w p])) S := by
  have hl2 : w.length ≤ 1000000 := by omega
  have hls : pLen (.str w) = some (.int (w.length : Nat)) := by simp only [pLen, if_pos hl2]
  have q := compL_filt (i := 3) (mt := bOr (toB (eOp2 pEq (eVar 3) (eVar 1))) (toB (eOp2 pEq (eVar 3) (eOp2 pAdd (eVar 1) (eOpN (pOne pLen) (aCons (eVar 0) (aNil))))))) (me := eVar 3) (ρ := [some (.dat (.str w)), some (.dat (.int p)), none, none]) (f := spotB p w.length) (g := id) (ds := rangeD 0 w.length) (S := S) fun d hd => by
    unfold rangeD at hd
    obtain ⟨k, hk, rfl⟩ := List.mem_map.mp hd
    refine ⟨?_, by simp [fnOf, env0, sSeq, SOut.bind, sRet, sRetN, sOf, sIf, sNil, sExpr, sSet, sRaise, eAnd, eOr, eNot, bAnd, bOr, bNot, eOp1, op1, eOp2, op2, eOpN, opN, eVar, eC, deref, derefs, Out.bind, asB, toB, ofB, cut_dat, cutS_self, cutS_head0, cutS_one, cutS_none, eChain, eTup, eLst, dats, aNil, aCons, eCall, eIf, pOne, pTwo]⟩
    by_cases h1 : ((k : Nat) : Int) = p
    · simp [fnOf, env0, sSeq, SOut.bind, sRet, sRetN, sOf, sIf, sNil, sExpr, sSet, sRaise, eAnd, eOr, eNot, bAnd, bOr, bNot, eOp1, op1, eOp2, op2, eOpN, opN, eVar, eC, deref, derefs, Out.bind, asB, toB, ofB, cut_dat, cutS_self, cutS_head0, cutS_one, cutS_none, eChain, eTup, eLst, dats, aNil, aCons, eCall, eIf, pOne, pTwo, pEq, sh, eqD_int, h1, spotB]
    · have h1' : ¬ (0 : Int) + ((k : Nat) : Int) = p := by omega
      simp [fnOf, env0, sSeq, SOut.bind, sRet, sRetN, sOf, sIf, sNil, sExpr, sSet, sRaise, eAnd, eOr, eNot, bAnd, bOr, bNot, eOp1, op1, eOp2, op2, eOpN, opN, eVar, eC, deref, derefs, Out.bind, asB, toB, ofB, cut_dat, cutS_self, cutS_head0, cutS_one, cutS_none, eChain, eTup, eLst, dats, aNil, aCons, eCall, eIf, pOne, pTwo, pEq, sh, eqD_int, h1, spotB, hls, pAdd]
  rw [spots] at q
  have hlr : (rangeD 0 w.length).length ≤ 1000000 := by
    rw [rangeD_len]
    exact hl2
  have hb : -1000000 ≤ (w.length : Int) ∧ (w.length : Int) ≤ 1000000 := by omega
  have hx := letAt_ix h p
  have hg : w[if 0 ≤ p then min p.toNat (w.length - 1) else ((w.length : Int) + max p (-(w.length : Int))).toNat]? = some (letAt w p) := by
    unfold letAt
    rw [List.getElem?_eq_getElem hx]
    rfl
  have ix : ∀ k : Int, ((0 ≤ k ∧ k = (if 0 ≤ p then min p.toNat (w.length - 1) else ((w.length : Int) + max p (-(w.length : Int))).toNat : Nat)) ∨ (k < 0 ∧ k + w.length = (if 0 ≤ p then min p.toNat (w.length - 1) else ((w.length : Int) + max p (-(w.length : Int))).toNat : Nat))) → pIx (.str w) (.int k) = some (.str [letAt w p]) := fun k hk => by
    have ha := atI_of hg hk
    have hbk : -1000000 ≤ k ∧ k ≤ 1000000 := by omega
    simp [pIx, hbk, ha]
  have ix0 : ∀ d : D, pIx (.lst [d]) (.int 0) = some d := fun _ => rfl
  by_cases c1 : 0 ≤ p ∧ p < w.length
  · rw [if_pos c1] at q
    have e := ix p (.inl ⟨c1.1, by rw [if_pos c1.1]; omega⟩)
    simp [d__law_at, m__law_at, fnOf, env0, sSeq, SOut.bind, sRet, sRetN, sOf, sIf, sNil, sExpr, sSet, sRaise, eAnd, eOr, eNot, bAnd, bOr, bNot, eOp1, op1, eOp2, op2, eOpN, opN, eVar, eC, deref, derefs, Out.bind, asB, toB, ofB, cut_dat, cutS_self, cutS_head0, cutS_one, cutS_none, eChain, eTup, eLst, dats, aNil, aCons, eCall, eIf, pOne, pTwo, eComp, iRange1, hls, hb, hlr, wipeE, q, pNe, sh, eqD, toPy, toPys, PyData.eqv, PyData.eqvAll, ix0, e]
  · rw [if_neg c1] at q
    by_cases c2 : -(w.length : Int) ≤ p ∧ p < 0
    · rw [if_pos c2] at q
      have e := ix (p + w.length) (.inl ⟨by omega, by rw [if_neg (by omega)]; omega⟩)
      simp [d__law_at, m__law_at, fnOf, env0, sSeq, SOut.bind, sRet, sRetN, sOf, sIf, sNil, sExpr, sSet, sRaise, eAnd, eOr, eNot, bAnd, bOr, bNot, eOp1, op1, eOp2, op2, eOpN, opN, eVar, eC, deref, derefs, Out.bind, asB, toB, ofB, cut_dat, cutS_self, cutS_head0, cutS_one, cutS_none, eChain, eTup, eLst, dats, aNil, aCons, eCall, eIf, pOne, pTwo, eComp, iRange1, hls, hb, hlr, wipeE, q, pNe, sh, eqD, toPy, toPys, PyData.eqv, PyData.eqvAll, ix0, e]
    · rw [if_neg c2] at q
      by_cases c3 : 0 ≤ p
      · have e := ix (-1) (.inr ⟨by omega, by rw [if_pos c3]; omega⟩)
        simp [d__law_at, m__law_at, fnOf, env0, sSeq, SOut.bind, sRet, sRetN, sOf, sIf, sNil, sExpr, sSet, sRaise, eAnd, eOr, eNot, bAnd, bOr, bNot, eOp1, op1, eOp2, op2, eOpN, opN, eVar, eC, deref, derefs, Out.bind, asB, toB, ofB, cut_dat, cutS_self, cutS_head0, cutS_one, cutS_none, eChain, eTup, eLst, dats, aNil, aCons, eCall, eIf, pOne, pTwo, eComp, iRange1, hls, hb, hlr, wipeE, q, pNe, sh, eqD, toPy, toPys, PyData.eqv, PyData.eqvAll, pGe, c3, pNeg, e]
      · have e := ix 0 (.inl ⟨by omega, by rw [if_neg c3]; omega⟩)
        simp [d__law_at, m__law_at, fnOf, env0, sSeq, SOut.bind, sRet, sRetN, sOf, sIf, sNil, sExpr, sSet, sRaise, eAnd, eOr, eNot, bAnd, bOr, bNot, eOp1, op1, eOp2, op2, eOpN, opN, eVar, eC, deref, derefs, Out.bind, asB, toB, ofB, cut_dat, cutS_self, cutS_head0, cutS_one, cutS_none, eChain, eTup, eLst, dats, aNil, aCons, eCall, eIf, pOne, pTwo, eComp, iRange1, hls, hb, hlr, wipeE, q, pNe, sh, eqD, toPy, toPys, PyData.eqv, PyData.eqvAll, pGe, c3, e]

theorem p_law_seen (ws : List (List Nat)) (i j : Int) (S : Store) (h : ∀ w ∈ ws, 1 ≤ w.length ∧ w.length ≤ 1000) (hn : ws.length ≤ 1000) : d__law_seen [.dat (wsD ws), .dat (lkD i j)] S = .ok (.dat (.lst ((prs ws i j).map prD))) S := by
  have e := compL_map (i := 2) (me := eTup (aCons (eCall 2 d__law_at (aCons (eVar 2) (aCons (eOp2 pIx (eVar 1) (eC (.int 0))) (aNil)))) (aCons (eCall 2 d__law_at (aCons (eVar 2) (aCons (eOp2 pIx (eVar 1) (eC (.int 1))) (aNil)))) (aNil)))) (ρ := [some (.dat (wsD ws)), some (.dat (lkD i j)), none]) (f := fun d => match d with
    | .str w => prD (letAt w i, letAt w j)
    | _ => .non) (ds := ws.map .str) (S := S) fun d hd => by
      obtain ⟨w, hw, rfl⟩ := List.mem_map.mp hd
      obtain ⟨h1, h2⟩ := h w hw
      simp [fnOf, env0, sSeq, SOut.bind, sRet, sRetN, sOf, sIf, sNil, sExpr, sSet, sRaise, eAnd, eOr, eNot, bAnd, bOr, bNot, eOp1, op1, eOp2, op2, eOpN, opN, eVar, eC, deref, derefs, Out.bind, asB, toB, ofB, cut_dat, cutS_self, cutS_head0, cutS_one, cutS_none, eChain, eTup, eLst, dats, aNil, aCons, eCall, eIf, pOne, pTwo, ix_look0, ix_look1, p_law_at, h1, h2, prD]
  have e3 : (ws.map D.str).map (fun d => match d with
    | .str w => prD (letAt w i, letAt w j)
    | _ => .non) = (prs ws i j).map prD := by
    unfold prs
    rw [List.map_map, List.map_map]
    rfl
  rw [e3] at e
  have hn2 : ws.length ≤ 1000000 := by omega
  simp [d__law_seen, m__law_seen, fnOf, env0, sSeq, SOut.bind, sRet, sRetN, sOf, sIf, sNil, sExpr, sSet, sRaise, eAnd, eOr, eNot, bAnd, bOr, bNot, eOp1, op1, eOp2, op2, eOpN, opN, eVar, eC, deref, derefs, Out.bind, asB, toB, ofB, cut_dat, cutS_self, cutS_head0, cutS_one, cutS_none, eChain, eTup, eLst, dats, aNil, aCons, eCall, eIf, pOne, pTwo, eComp, iOf, itemsD, hn2, wipeE, e]
theorem p_law_letters (ws : List (List Nat)) (i j : Int) (S : Store) (h : ∀ w ∈ ws, 1 ≤ w.length ∧ w.length ≤ 1000) (hn : ws.length ≤ 20) : d__law_letters [.dat (wsD ws), .dat (lkD i j)] S = .ok (.dat (lsD (ltrs (prs ws i j)))) S := by
  have e1 := p_law_seen ws i j (S ++ [.lst []]) h (by omega)
  have hp := prs_len ws i j
  obtain ⟨y', e2⟩ := letters_loop (.dat (wsD ws)) (.dat (lkD i j)) S (prs ws i j) [] none (by simp; omega)
  have e3 : pSortSet (.lst ((flat2 (prs ws i j)).map fun c => D.str [c])) = some (lsD (ltrs (prs ws i j))) := by
    simp only [pSortSet, strs_sg]
    rw [if_pos (by unfold sgs; rw [List.length_map, flat2_len]; omega), sort_sgs, sgs_map]
    rfl
  simp only [List.map_nil, List.nil_append] at e2
  simp [d__law_letters, m__law_letters, fnOf, env0, sSeq, SOut.bind, sRet, sRetN, sOf, sIf, sNil, sExpr, sSet, sRaise, eAnd, eOr, eNot, bAnd, bOr, bNot, eOp1, op1, eOp2, op2, eOpN, opN, eVar, eC, deref, derefs, Out.bind, asB, toB, ofB, cut_dat, cutS_self, cutS_head0, cutS_one, cutS_none, eChain, eTup, eLst, dats, aNil, aCons, eCall, eIf, pOne, pTwo, eNew, cLst, sFor, iOf, e1, itemsD, e2, e3, cutS_more]
theorem p_law_by (ws : List (List Nat)) (i j room : Int) (ps : List (Nat × Int)) (S : Store) (h : ∀ w ∈ ws, 1 ≤ w.length ∧ w.length ≤ 1000) (hn : ws.length ≤ 20) (hr : 0 < room) (hall : ∀ c ∈ flat2 (prs ws i j), c ∈ ps.map (·.1)) :
    d__law_by [.dat (wsD ws), .dat (lkD i j), .dat (.int room), .dat (.dct (bkD ps))] S = .ok (.dat (.tup ((nums (prs ws i j) room (wI ps)).map .int))) S := by
  have e1 := p_law_seen ws i j S h (by omega)
  have hl2 : (prs ws i j).length ≤ 1000000 := by
    rw [prs_len]
    omega
  have q := compL_mapB (B := bTup (bCons (bN 4) (bCons (bN 5) (bNil)))) (me := eOp2 pMod (eOp2 pAdd (eOp2 pIx (eVar 3) (eVar 4)) (eOp2 pIx (eVar 3) (eVar 5))) (eVar 2)) (ρ := [some (.dat (wsD ws)), some (.dat (lkD i j)), some (.dat (.int room)), some (.dat (.dct (bkD ps))), none, none]) (f := fun d => match d with
    | .tup [.str [a], .str [b]] => .int ((wI ps a + wI ps b) % room)
    | _ => .non) (ds := (prs ws i j).map prD) (S := S) fun d hd => by
      obtain ⟨p, hp, rfl⟩ := List.mem_map.mp hd
      have h1 := ix_bkI (hall p.1 (mem_flat2.mpr ⟨p, hp, .inl rfl⟩))
      have h2 := ix_bkI (hall p.2 (mem_flat2.mpr ⟨p, hp, .inr rfl⟩))
      exact ⟨[(4, .str [p.1]), (5, .str [p.2])], rfl, by simp [setE, fnOf, env0, sSeq, SOut.bind, sRet, sRetN, sOf, sIf, sNil, sExpr, sSet, sRaise, eAnd, eOr, eNot, bAnd, bOr, bNot, eOp1, op1, eOp2, op2, eOpN, opN, eVar, eC, deref, derefs, Out.bind, asB, toB, ofB, cut_dat, cutS_self, cutS_head0, cutS_one, cutS_none, eChain, eTup, eLst, dats, aNil, aCons, eCall, eIf, pOne, pTwo, h1, h2, pAdd, pMod, hr, prD]⟩
  have e2 : ((prs ws i j).map prD).map (fun d => match d with
    | .tup [.str [a], .str [b]] => D.int ((wI ps a + wI ps b) % room)
    | _ => .non) = (nums (prs ws i j) room (wI ps)).map .int := by
    unfold nums
    rw [List.map_map, List.map_map]
    rfl
  rw [e2] at q
  simp [d__law_by, m__law_by, fnOf, env0, sSeq, SOut.bind, sRet, sRetN, sOf, sIf, sNil, sExpr, sSet, sRaise, eAnd, eOr, eNot, bAnd, bOr, bNot, eOp1, op1, eOp2, op2, eOpN, opN, eVar, eC, deref, derefs, Out.bind, asB, toB, ofB, cut_dat, cutS_self, cutS_head0, cutS_one, cutS_none, eChain, eTup, eLst, dats, aNil, aCons, eCall, eIf, pOne, pTwo, eComp, iOf, e1, itemsD, hl2, wipeE, q, tupleA_ints]
theorem getR {R : Store} {c x : Cell} : (c :: (R ++ [x]))[R.length + 1]? = some x := by simp
theorem setR {R : Store} {c x y : Cell} : (c :: (R ++ [x])).set (R.length + 1) y = c :: (R ++ [y]) := by simp
theorem words_loopR (ns : List Int) (L : List Nat) (R : Store) (hL : L ≠ []) (hsub : ∀ c ∈ L, c ∈ letL) (k : D) :
    ∀ (ds : List D) (a b : Option Val) (n : Nat) (ss : List (List Nat)), n + 10 * ds.length ≤ 80000 → ss.length + ds.length ≤ 1000 → ss.Nodup → (∀ s ∈ ss, goodW s) →
      ∃ (a' b' : Option Val) (n' : Nat) (ss' : List (List Nat)), n' ≤ n + 10 * ds.length ∧ ss.length ≤ ss'.length ∧ ss'.length ≤ ss.length + ds.length ∧ (ds ≠ [] → ss' ≠ []) ∧ ss'.Nodup ∧ (∀ s ∈ ss', goodW s) ∧
      sForL (bN 5) (sSeq (sSet 6 (eCall 4 d__law_word (aCons (eVar 0) (aCons (eVar 1) (aCons (eVar 3) (aCons (eC (.int 6)) (aNil))))))) (sIf (toB (eOp2 pNotIn (eVar 6) (eVar 4))) (sExpr (eMutL true mAppend (eVar 4) (aCons (eVar 6) (aNil)))) (sNil))) ds
        [some (.dat (.scr ns)), some (.ptr 0), some (.dat k), some (.dat (.lst ((sgs L).map .str))), some (.ptr (R.length + 1)), a, b] (.lst (zs n) :: (R ++ [.lst (ss.map .str)])) =
        .nx [some (.dat (.scr ns)), some (.ptr 0), some (.dat k), some (.dat (.lst ((sgs L).map .str))), some (.ptr (R.length + 1)), a', b'] (.lst (zs n') :: (R ++ [.lst (ss'.map .str)]))
  | [], a, b, n, ss, _, _, nd, gd => ⟨a, b, n, ss, by simp, by simp, by simp, fun h => absurd rfl h, nd, gd, rfl⟩
  | d :: ds, a, b, n, ss, h1, h2, nd, gd => by
    rw [List.length_cons] at h1 h2
    obtain ⟨w, n1, w1, w2, w3, w4, hw⟩ := p_word ns n L (R ++ [.lst (ss.map .str)]) hL (by omega)
    have hni := notIn_strs w ss
    have gw : goodW w := ⟨w1, w2, fun c hc => hsub c (w3 c hc)⟩
    by_cases hm : w ∈ ss
    · rw [decide_eq_true hm] at hni
      obtain ⟨a', b', n', ss', r1, r2, r3, r4, r5, r6, r7⟩ := words_loopR ns L R hL hsub k ds (some (.dat d)) (some (.dat (.str w))) n1 ss (by omega) (by omega) nd gd
      refine ⟨a', b', n', ss', by rw [List.length_cons]; omega, r2, by rw [List.length_cons]; omega, fun _ z => ?_, r5, r6, ?_⟩
      · subst z
        have : ss.length = 0 := by simpa using r2
        rw [List.length_eq_zero_iff] at this
        subst this
        cases hm
      · simp [sForL, bN, setE, fnOf, env0, sSeq, SOut.bind, sRet, sRetN, sOf, sIf, sNil, sExpr, sSet, sRaise, eAnd, eOr, eNot, bAnd, bOr, bNot, eOp1, op1, eOp2, op2, eOpN, opN, eVar, eC, deref, derefs, Out.bind, asB, toB, ofB, cut_dat, cutS_self, cutS_head0, cutS_one, cutS_none, eChain, eTup, eLst, dats, aNil, aCons, eCall, eIf, pOne, pTwo, hw, hni, r7]
    · rw [decide_eq_false hm] at hni
      have nd2 : (ss ++ [w]).Nodup := by
        rw [List.nodup_append]
        exact ⟨nd, by simp, fun x hx y hy e => by
          rw [List.mem_singleton.mp hy] at e
          exact hm (e ▸ hx)⟩
      have gd2 : ∀ s ∈ ss ++ [w], goodW s := fun s hs => by
        rcases List.mem_append.mp hs with z | z
        · exact gd s z
        · rw [List.mem_singleton.mp z]
          exact gw
      have hl : (ss ++ [w]).length = ss.length + 1 := by simp
      obtain ⟨a', b', n', ss', r1, r2, r3, r4, r5, r6, r7⟩ := words_loopR ns L R hL hsub k ds (some (.dat d)) (some (.dat (.str w))) n1 (ss ++ [w]) (by omega) (by omega) nd2 gd2
      have hlt : ss.length < 1000000 := by omega
      rw [List.map_append] at r7
      refine ⟨a', b', n', ss', by rw [List.length_cons]; omega, by omega, by rw [List.length_cons]; omega, fun _ z => ?_, r5, r6, ?_⟩
      · subst z
        simp at r2
      · simp [sForL, bN, setE, fnOf, env0, sSeq, SOut.bind, sRet, sRetN, sOf, sIf, sNil, sExpr, sSet, sRaise, eAnd, eOr, eNot, bAnd, bOr, bNot, eOp1, op1, eOp2, op2, eOpN, opN, eVar, eC, deref, derefs, Out.bind, asB, toB, ofB, cut_dat, cutS_self, cutS_head0, cutS_one, cutS_none, eChain, eTup, eLst, dats, aNil, aCons, eCall, eIf, pOne, pTwo, hw, hni, eMutL, mutL, argD, mAppend, hlt]
        simpa using r7
/-- what is drawn behind n draws: no more than so many -/
theorem p_wordsR (ns : List Int) (n : Nat) (most : Int) (R : Store) (h1 : 1 ≤ most) (h6 : most ≤ 6) (hn : n < 50000) : ∃ (ss : List (List Nat)) (n' : Nat), n' ≤ n + 100 ∧ ss.length ≤ most.toNat ∧ Ws ss ∧
    d__law_words [.dat (.scr ns), .ptr 0, .dat (.int most)] (.lst (zs n) :: R) = .ok (.dat (wsD ss)) (.lst (zs n') :: R) := by
  obtain ⟨x, hx, hp⟩ := p_pick ns n [.lst [.str [97], .str [98]], .lst [.str [97], .str [98], .str [99]], .lst [.str [97], .str [98], .str [99], .str [100]], .lst [.str [107], .str [109], .str [122], .str [97], .str [101]]] R (fun z => nomatch z) (by omega)
  obtain ⟨L, rfl, hL, hsub⟩ : ∃ L : List Nat, x = .lst ((sgs L).map .str) ∧ L ≠ [] ∧ ∀ c ∈ L, c ∈ letL := by
    simp only [List.mem_cons, List.not_mem_nil, or_false] at hx
    rcases hx with e | e | e | e <;> subst e
    · exact ⟨[97, 98], rfl, by decide, by decide⟩
    · exact ⟨[97, 98, 99], rfl, by decide, by decide⟩
    · exact ⟨[97, 98, 99, 100], rfl, by decide, by decide⟩
    · exact ⟨[107, 109, 122, 97, 101], rfl, by decide, by decide⟩
  obtain ⟨v, v1, v2, hv⟩ := p_draw ns (n + 1) most (R ++ [.lst []]) (by omega) (by omega)
  have hb : -1000000 ≤ 1 + v ∧ 1 + v ≤ 1000000 := by omega
  have hlen := rangeD_len 0 (1 + v).toNat
  obtain ⟨a', b', n', ss', r1, r2, r3, r4, r5, r6, r7⟩ := words_loopR ns L R hL hsub (.int most) (rangeD 0 (1 + v).toNat) none none (n + 1 + 1) [] (by omega) (by simp; omega) List.nodup_nil (fun s hs => nomatch hs)
  have l6 : ss'.length ≤ most.toNat := by
    simp at r3
    omega
  refine ⟨ss', n', by omega, l6, ⟨?_, by omega, r5, r6⟩, ?_⟩
  · have : ss' ≠ [] := r4 fun z => by
      rw [z] at hlen
      simp at hlen
      omega
    have := List.length_pos_iff.mpr this
    omega
  · simp only [List.map_nil] at r7
    have hc := cutS_head (zs n) (zs n') R [.lst (ss'.map .str)] (Out.ok (Val.dat (wsD ss')))
    simp [d__law_words, m__law_words, fnOf, env0, sSeq, SOut.bind, sRet, sRetN, sOf, sIf, sNil, sExpr, sSet, sRaise, eAnd, eOr, eNot, bAnd, bOr, bNot, eOp1, op1, eOp2, op2, eOpN, opN, eVar, eC, deref, derefs, Out.bind, asB, toB, ofB, cut_dat, cutS_self, cutS_head0, cutS_one, cutS_none, eChain, eTup, eLst, dats, aNil, aCons, eCall, eIf, pOne, pTwo, hp, eNew, cLst, sFor, iRange1, hv, pAdd, hb, r7, pTupleA, pTuple, pList, hc]
theorem p_law_look (ns : List Int) (n : Nat) (R : Store) (hn : n < 90000) : ∃ i j : Int, Lk i j ∧ d__law_look [.dat (.scr ns), .ptr 0] (.lst (zs n) :: R) = .ok (.dat (lkD i j)) (.lst (zs (n + 2)) :: R) := by
  obtain ⟨v, v1, v2, hv⟩ := p_draw ns n 6 R (by decide) (by omega)
  obtain ⟨u, u1, u2, hu⟩ := p_draw ns (n + 1) 6 R (by decide) (by omega)
  exact ⟨v - 3, u - 3, ⟨by omega, by omega, by omega, by omega⟩, by simp [d__law_look, m__law_look, fnOf, env0, sSeq, SOut.bind, sRet, sRetN, sOf, sIf, sNil, sExpr, sSet, sRaise, eAnd, eOr, eNot, bAnd, bOr, bNot, eOp1, op1, eOp2, op2, eOpN, opN, eVar, eC, deref, derefs, Out.bind, asB, toB, ofB, cut_dat, cutS_self, cutS_head0, cutS_one, cutS_none, eChain, eTup, eLst, dats, aNil, aCons, eCall, eIf, pOne, pTwo, hv, hu, pSub]⟩
end PB

namespace PB
open PySem PySem.Spec PyProof.Rows L2 DL MP MB PN
def rowI (p : Nat × Int) : D := .tup [.str [p.1], .int p.2]
theorem rowOf_I (p : Nat × Int) : rowOf (rowI p) = some p := rfl
theorem rowsN_I (ps : List (Nat × Int)) : rowsN (ps.map rowI) = ps := by
  unfold rowsN
  rw [List.filterMap_map]
  have : (rowOf ∘ rowI) = some := funext fun p => rowOf_I p
  rw [this, List.filterMap_some]
theorem let_small {c : Nat} (h : c ∈ letL) : c < 1114112 := by
  have h26 : ∀ y ∈ letL, y < 1114112 := by decide
  exact h26 c h
/-- worths of letters within a room, rising -/
structure Wo (ps : List (Nat × Int)) (room : Int) : Prop where
  up : (ps.map (·.1)).Pairwise (· < ·)
  gd : ∀ p ∈ ps, p.1 ∈ letL ∧ 0 ≤ p.2 ∧ p.2 < room
theorem rowB_I {p : Nat × Int} {room : Int} : rowB room (rowI p) = true ↔ p.1 ∈ letL ∧ 0 ≤ p.2 ∧ p.2 ≤ room - 1 := by
  unfold rowB
  rw [rowOf_I]
  simp
theorem Wo.ok {ps : List (Nat × Int)} {room : Int} (h : Wo ps room) : worthsB room (.tup (ps.map rowI)) = true := by
  simp only [worthsB, Bool.and_eq_true]
  refine ⟨?_, ?_⟩
  · rw [List.all_eq_true]
    intro d hd
    obtain ⟨p, hp, rfl⟩ := List.mem_map.mp hd
    obtain ⟨a, b, c⟩ := h.gd p hp
    exact rowB_I.mpr ⟨a, b, by omega⟩
  · rw [asc_pw, List.map_map]
    have e : (letOf ∘ rowI) = fun p : Nat × Int => p.1 := rfl
    rw [e]
    exact h.up
theorem let_nodup : letL.Nodup := by decide
theorem Wo.len {ps : List (Nat × Int)} {room : Int} (h : Wo ps room) : ps.length ≤ 26 := by
  have nd : (ps.map (·.1)).Nodup := List.nodup_iff_pairwise_ne.mpr (h.up.imp fun h => Nat.ne_of_lt h)
  have := nodup_sub_len nd (m := letL) fun c hc => by
    obtain ⟨p, hp, rfl⟩ := List.mem_map.mp hc
    exact (h.gd p hp).1
  rw [List.length_map] at this
  exact this
theorem okRow_I {p : Nat × Int} (h : p.1 ∈ letL) : okRow (rowI p) = true := by
  have hs : goodL [p.1] = true := by
    simp [goodL, let_small h]
  simp [okRow, rowI, okD, hs, plainD]
theorem Wo.okWs {ps : List (Nat × Int)} {room : Int} (h : Wo ps room) : okWs (.tup (ps.map rowI)) = true := by
  have := h.len
  simp only [PB.okWs, Bool.and_eq_true, decide_eq_true_eq, List.length_map]
  refine ⟨?_, by omega⟩
  rw [List.all_eq_true]
  intro d hd
  obtain ⟨p, hp, rfl⟩ := List.mem_map.mp hd
  exact okRow_I (h.gd p hp).1
theorem flat2_let {ws : List (List Nat)} {i j : Int} (h : Ws ws) : ∀ c ∈ flat2 (prs ws i j), c ∈ letL := fun c hc => by
  obtain ⟨p, hp, e⟩ := mem_flat2.mp hc
  unfold prs at hp
  obtain ⟨w, hw, rfl⟩ := List.mem_map.mp hp
  obtain ⟨g1, g2, g3⟩ := h.gd w hw
  rcases e with e | e <;> rw [e] <;> exact g3 _ (letAt_mem g1 _)
theorem numOk_Wo {ws : List (List Nat)} {i j room : Int} {ps : List (Nat × Int)} (h : Wo ps room) : numOk (prs ws i j) room (.tup (ps.map rowI)) = true ↔ ∀ c ∈ flat2 (prs ws i j), c ∈ ps.map (·.1) := by
  unfold numOk
  rw [h.ok, Bool.true_and, List.all_eq_true]
  show (∀ x ∈ ltrs (prs ws i j), decide (x ∈ (rowsN (ps.map rowI)).map (·.1)) = true) ↔ _
  rw [rowsN_I]
  constructor
  · intro q c hc
    exact of_decide_eq_true (q c (mem_srt.mpr hc))
  · intro q c hc
    exact decide_eq_true (q c (mem_srt.mp hc))
theorem comp_line {me : EM} {i : Nat} {ρ : Ev} {R : Store} {room : Int} (lim : Nat) (h : ∀ c n, n < lim → ∃ v : Int, 0 ≤ v ∧ v < room ∧ me (ρ.set i (some (.dat (.str [c])))) (.lst (zs n) :: R) = .ok (.dat (rowI (c, v))) (.lst (zs (n + 1)) :: R)) :
    ∀ (cs : List Nat) (n : Nat), n + cs.length ≤ lim → ∃ ps : List (Nat × Int), ps.map (·.1) = cs ∧ (∀ p ∈ ps, 0 ≤ p.2 ∧ p.2 < room) ∧ compL (bN i) bYes me ρ (cs.map fun c => .str [c]) (.lst (zs n) :: R) = .ok (ps.map rowI) (.lst (zs (n + cs.length)) :: R)
  | [], n, _ => ⟨[], rfl, (fun x hx => nomatch hx), rfl⟩
  | c :: cs, n, hl => by
    rw [List.length_cons] at hl
    obtain ⟨v, v1, v2, hv⟩ := h c n (by omega)
    obtain ⟨ps, e1, e2, e3⟩ := comp_line lim h cs (n + 1) (by omega)
    refine ⟨(c, v) :: ps, by rw [List.map_cons, e1], fun p hp => ?_, ?_⟩
    · rcases List.mem_cons.mp hp with e | e
      · subst e
        exact ⟨v1, v2⟩
      · exact e2 p e
    · have e4 : n + 1 + cs.length = n + (cs.length + 1) := by omega
      rw [e4] at e3
      simp only [List.map_cons, compL, bN, setE, bYes, if_true, hv, e3, Out.bind, List.length_cons]
theorem sort_set (l : List Nat) (h : l.length < 64) : pSortSet (lsD l) = some (lsD (srt l)) := by
  simp only [lsD, pSortSet, strs_sg]
  rw [if_pos (by unfold sgs; rw [List.length_map]; exact h), sort_sgs, sgs_map]
theorem p_law_made (ns : List Int) (n : Nat) (most wide : Int) (R : Store) (h1 : 1 ≤ most) (h6 : most ≤ 6) (w1 : 1 ≤ wide) (hn : n < 40000) : ∃ (ws : List (List Nat)) (i j room : Int) (ps : List (Nat × Int)) (n' : Nat), n' ≤ n + 200 ∧ Ws ws ∧ Lk i j ∧ 1 ≤ room ∧ room ≤ wide ∧ Wo ps room ∧
    (∀ c ∈ flat2 (prs ws i j), c ∈ ps.map (·.1)) ∧ d__law_made [.dat (.scr ns), .ptr 0, .dat (.int most), .dat (.int wide)] (.lst (zs n) :: R) = .ok (.dat (.tup [wsD ws, lkD i j, .int room, .tup (ps.map rowI)])) (.lst (zs n') :: R) := by
  obtain ⟨v, v1, v2, hv⟩ := p_draw ns n wide R (by omega) (by omega)
  obtain ⟨i, j, hl, hlook⟩ := p_law_look ns (n + 1) R (by omega)
  obtain ⟨ws, n2, hn2, _, hw, hwords⟩ := p_wordsR ns (n + 1 + 2) most R h1 h6 (by omega)
  obtain ⟨x, hx, hp⟩ := p_pick ns n2 [lsD [], lsD [113], lsD [121, 120]] R (fun z => nomatch z) (by omega)
  obtain ⟨M, rfl, hM, hM2⟩ : ∃ M : List Nat, x = lsD M ∧ (∀ c ∈ M, c ∈ letL) ∧ M.length ≤ 2 := by
    simp only [List.mem_cons, List.not_mem_nil, or_false] at hx
    rcases hx with e | e | e <;> subst e
    · exact ⟨[], rfl, by decide, by decide⟩
    · exact ⟨[113], rfl, by decide, by decide⟩
    · exact ⟨[121, 120], rfl, by decide, by decide⟩
  have e1 := p_law_letters ws i j (.lst (zs (n2 + 1)) :: R) hw.len (by have := hw.n6; omega)
  have hL1 : (ltrs (prs ws i j)).length ≤ 12 := by
    have := srt_len (flat2 (prs ws i j))
    rw [flat2_len, prs_len] at this
    have := hw.n6
    unfold ltrs
    omega
  have e2 : pAdd (lsD (ltrs (prs ws i j))) (lsD M) = some (lsD (ltrs (prs ws i j) ++ M)) := by
    simp only [lsD, pAdd, List.length_append, List.length_map, List.map_append]
    rw [if_pos (by omega)]
  have e3 := sort_set (ltrs (prs ws i j) ++ M) (by rw [List.length_append]; omega)
  obtain ⟨ps, q1, q2, q3⟩ := comp_line (me := eTup (aCons (eVar 9) (aCons (eCall 3 d__law_draw (aCons (eVar 0) (aCons (eVar 1) (aCons (eVar 4) (aNil))))) (aNil)))) (i := 9) (R := R) (room := 1 + v)
    (ρ := [some (.dat (.scr ns)), some (.ptr 0), some (.dat (.int most)), some (.dat (.int wide)), some (.dat (.int (1 + v))), some (.dat (lkD i j)), some (.dat (wsD ws)), some (.dat (lsD M)), some (.dat (lsD (srt (ltrs (prs ws i j) ++ M)))), none]) 90000 (fun c n hn => by
      obtain ⟨u, u1, u2, hu⟩ := p_draw ns n (1 + v) R (by omega) (by omega)
      exact ⟨u, u1, u2, by simp [fnOf, env0, sSeq, SOut.bind, sRet, sRetN, sOf, sIf, sNil, sExpr, sSet, sRaise, eAnd, eOr, eNot, bAnd, bOr, bNot, eOp1, op1, eOp2, op2, eOpN, opN, eVar, eC, deref, derefs, Out.bind, asB, toB, ofB, cut_dat, cutS_self, cutS_head0, cutS_one, cutS_none, eChain, eTup, eLst, dats, aNil, aCons, eCall, eIf, pOne, pTwo, hu, rowI]⟩) (srt (ltrs (prs ws i j) ++ M)) (n2 + 1) (by
        have := srt_len (ltrs (prs ws i j) ++ M)
        rw [List.length_append] at this
        omega)
  have hls := srt_len (ltrs (prs ws i j) ++ M)
  rw [List.length_append] at hls
  have hl2 : (srt (ltrs (prs ws i j) ++ M)).length ≤ 1000000 := by omega
  refine ⟨ws, i, j, 1 + v, ps, n2 + 1 + (srt (ltrs (prs ws i j) ++ M)).length, by omega, hw, hl, by omega, by omega, ⟨?_, fun p hp => ⟨?_, q2 p hp⟩⟩, fun c hc => ?_, ?_⟩
  · rw [q1]
    exact srt_lt _
  · have : p.1 ∈ srt (ltrs (prs ws i j) ++ M) := by
      rw [← q1]
      exact List.mem_map.mpr ⟨p, hp, rfl⟩
    rcases List.mem_append.mp (mem_srt.mp this) with z | z
    · exact flat2_let hw _ (mem_srt.mp z)
    · exact hM _ z
  · rw [q1]
    exact mem_srt.mpr (List.mem_append_left _ (mem_srt.mpr hc))
  · simp only [lsD, List.map_nil, List.map_cons] at hp
    simp only [lsD] at e1 q3
    simp only [lsD, List.map_append] at e2 e3
    have hadd : pAdd (.int 1) (.int v) = some (.int (1 + v)) := rfl
    simp [d__law_made, m__law_made, fnOf, env0, sSeq, SOut.bind, sRet, sRetN, sOf, sIf, sNil, sExpr, sSet, sRaise, eAnd, eOr, eNot, bAnd, bOr, bNot, eOp1, op1, eOp2, op2, eOpN, opN, eVar, eC, deref, derefs, Out.bind, asB, toB, ofB, cut_dat, cutS_self, cutS_head0, cutS_one, cutS_none, eChain, eTup, eLst, dats, aNil, aCons, eCall, eIf, pOne, pTwo, hv, hadd, hlook, hwords, hp, e1, e2, e3, eComp, iOf, itemsD, hl2, wipeE, q3, tupleA_ints]

abbrev badW : List D := [.non, .int 5, .tup [], .lst [.str [97, 98]], .tup [.str [97, 98], .str [97, 98]], .tup [.str []], .tup [.str [97, 98, 99, 100, 101, 102, 103]], .tup [.str [65, 98]], .tup [.str [97, 32, 98]], .str [97, 98], .tup [.int 1], .tup [.str [97, 98], .non],
  .tup [.str [97], .str [98], .str [99], .str [100], .str [101], .str [102], .str [103]], .tup [.str [97, 98], .str [97, 49]], .tup [.tup [.str [97]]]]
theorem badW_no : ∀ x ∈ badW, okW x = true ∧ wordsB x = false := by decide +kernel
theorem p_odd_words (ns : List Int) (n : Nat) (R : Store) (hn : n < 90000) : ∃ x, okW x = true ∧ wordsB x = false ∧ d__law_odd_words [.dat (.scr ns), .ptr 0] (.lst (zs n) :: R) = .ok (.dat x) (.lst (zs (n + 1)) :: R) := by
  obtain ⟨x, hx, hp⟩ := p_pick ns n badW R (fun z => nomatch z) (by omega)
  obtain ⟨h1, h2⟩ := badW_no x hx
  exact ⟨x, h1, h2, by simp [d__law_odd_words, m__law_odd_words, fnOf, env0, sSeq, SOut.bind, sRet, sRetN, sOf, sIf, sNil, sExpr, sSet, sRaise, eAnd, eOr, eNot, bAnd, bOr, bNot, eOp1, op1, eOp2, op2, eOpN, opN, eVar, eC, deref, derefs, Out.bind, asB, toB, ofB, cut_dat, cutS_self, cutS_head0, cutS_one, cutS_none, eChain, eTup, eLst, dats, aNil, aCons, eCall, eIf, pOne, pTwo, pTupleA, sgs, pAdd, hp]⟩
abbrev badL : List D := [.non, .int 5, .tup [], .tup [.int 0], .tup [.int 0, .int 1, .int 2], .lst [.int 0, .int 1], .tup [.int 0, .int 3], .tup [.int (-4), .int 0], .tup [.bl true, .int 0], .tup [.int 0, .bl false], .tup [.int 0, .non], .str [48, 49], .tup [.str [48], .int 1]]
theorem badL_no : ∀ x ∈ badL, okL x = true ∧ lookB x = false := by decide +kernel
theorem p_odd_look (ns : List Int) (n : Nat) (R : Store) (hn : n < 90000) : ∃ x, okL x = true ∧ lookB x = false ∧ d__law_odd_look [.dat (.scr ns), .ptr 0] (.lst (zs n) :: R) = .ok (.dat x) (.lst (zs (n + 1)) :: R) := by
  obtain ⟨x, hx, hp⟩ := p_pick ns n badL R (fun z => nomatch z) (by omega)
  obtain ⟨h1, h2⟩ := badL_no x hx
  exact ⟨x, h1, h2, by simp [d__law_odd_look, m__law_odd_look, fnOf, env0, sSeq, SOut.bind, sRet, sRetN, sOf, sIf, sNil, sExpr, sSet, sRaise, eAnd, eOr, eNot, bAnd, bOr, bNot, eOp1, op1, eOp2, op2, eOpN, opN, eVar, eC, deref, derefs, Out.bind, asB, toB, ofB, cut_dat, cutS_self, cutS_head0, cutS_one, cutS_none, eChain, eTup, eLst, dats, aNil, aCons, eCall, eIf, pOne, pTwo, pNeg, hp]⟩
abbrev bkF (a b c d e : Val) : List (Str × Val) := [(("look" : Str), a), (("size" : Str), b), (("book" : Str), c), (("row" : Str), d), (("past" : Str), e)]
theorem bk_put1 (a : Val) : putV "look" a [] = [(("look" : Str), a)] := rfl
theorem bk_put2 (a b : Val) : putV "size" b [(("look" : Str), a)] = [(("look" : Str), a), (("size" : Str), b)] := by kernel_rfl
theorem bk_put3 (a b c : Val) : putV "book" c [(("look" : Str), a), (("size" : Str), b)] = [(("look" : Str), a), (("size" : Str), b), (("book" : Str), c)] := by kernel_rfl
theorem bk_put4 (a b c d : Val) : putV "row" d [(("look" : Str), a), (("size" : Str), b), (("book" : Str), c)] = [(("look" : Str), a), (("size" : Str), b), (("book" : Str), c), (("row" : Str), d)] := by kernel_rfl
theorem bk_put5 (a b c d e : Val) : putV "past" e [(("look" : Str), a), (("size" : Str), b), (("book" : Str), c), (("row" : Str), d)] = bkF a b c d e := by kernel_rfl
theorem bk_row0 (a b c d : Val) : ([(("look" : Str), a), (("size" : Str), b), (("book" : Str), c), (("row" : Str), d)] : List (Str × Val)).lookup ("row" : Str) = some d := by kernel_rfl
theorem bk_look (a b c d e : Val) : (bkF a b c d e).lookup ("look" : Str) = some a := by kernel_rfl
theorem bk_size (a b c d e : Val) : (bkF a b c d e).lookup ("size" : Str) = some b := by kernel_rfl
theorem bk_book (a b c d e : Val) : (bkF a b c d e).lookup ("book" : Str) = some c := by kernel_rfl
theorem bk_row (a b c d e : Val) : (bkF a b c d e).lookup ("row" : Str) = some d := by kernel_rfl
theorem bk_past (a b c d e : Val) : (bkF a b c d e).lookup ("past" : Str) = some e := by kernel_rfl
theorem bk_m1 (a b c d e : Val) : (bkF a b c d e).lookup ("places" : Str) = none := by kernel_rfl
theorem bk_m2 (a b c d e : Val) : (bkF a b c d e).lookup ("ask" : Str) = none := by kernel_rfl
theorem bk_m3 (a b c d e : Val) : (bkF a b c d e).lookup ("counts" : Str) = none := by kernel_rfl
theorem bk_m4 (a b c d e : Val) : (bkF a b c d e).lookup ("undo" : Str) = none := by kernel_rfl
theorem bk_m5 (a b c d e : Val) : (bkF a b c d e).lookup ("number_of" : Str) = none := by kernel_rfl
end PB

namespace PB
open PySem PySem.Spec PyProof.Rows L2 DL MP MB PN
section
variable {S : Store} {a b c : Cell}
theorem g20 : (S ++ [a, b])[S.length]? = some a := by simp
theorem g21 : (S ++ [a, b])[S.length + 1]? = some b := by simp
theorem s20 : (S ++ [a, b]).set S.length c = S ++ [c, b] := by simp
theorem s21 : (S ++ [a, b]).set (S.length + 1) c = S ++ [a, c] := by simp
theorem g10 : (S ++ [a])[S.length]? = some a := by simp
theorem s10 : (S ++ [a]).set S.length c = S ++ [c] := by simp
end
def fillR (row : List D) (zs : List (List Nat × Int)) : List D := zs.foldl (fun r z => r.set z.2.toNat (.str z.1)) row
theorem fillR_len : ∀ (zs : List (List Nat × Int)) (row : List D), (fillR row zs).length = row.length
  | [], _ => rfl
  | z :: zs, row => by
    show (fillR (row.set z.2.toNat (.str z.1)) zs).length = _
    rw [fillR_len zs, List.length_set]
theorem fill_row (S : Store) (x1 x2 x3 x4 x5 : Val) (u v w : Val) : ∀ (zs : List (List Nat × Int)) (row : List D) (a b : Option Val), (∀ z ∈ zs, 0 ≤ z.2 ∧ z.2 < row.length) → ∃ a' b',
    sForL (bTup (bCons (bN 6) (bCons (bN 7) (bNil)))) (sPut (eFld 15 "row" (eVar 0)) (eVar 7) (eVar 6)) (zs.map fun z => .ktp [.str z.1, .int z.2]) [some (.ptr S.length), some x1, some x2, some x3, some x4, some x5, a, b]
      (S ++ [.obj 15 [(("look" : Str), u), (("size" : Str), v), (("book" : Str), w), (("row" : Str), .ptr (S.length + 1))], .lst row]) =
      .nx [some (.ptr S.length), some x1, some x2, some x3, some x4, some x5, a', b'] (S ++ [.obj 15 [(("look" : Str), u), (("size" : Str), v), (("book" : Str), w), (("row" : Str), .ptr (S.length + 1))], .lst (fillR row zs)])
  | [], row, a, b, _ => ⟨a, b, rfl⟩
  | z :: zs, row, a, b, h => by
    obtain ⟨h1, h2⟩ := h z List.mem_cons_self
    obtain ⟨a', b', e⟩ := fill_row S x1 x2 x3 x4 x5 u v w zs (row.set z.2.toNat (.str z.1)) (some (.dat (.str z.1))) (some (.dat (.int z.2))) fun q hq => by
      rw [List.length_set]
      exact h q (List.mem_cons_of_mem _ hq)
    have hx : ixN row.length z.2 = some z.2.toNat := by
      unfold ixN
      rw [if_pos h1, if_pos h2]
    refine ⟨a', b', ?_⟩
    have hb : sPut (eFld 15 "row" (eVar 0)) (eVar 7) (eVar 6) [some (.ptr S.length), some x1, some x2, some x3, some x4, some x5, some (.dat (.str z.1)), some (.dat (.int z.2))] (S ++ [.obj 15 [(("look" : Str), u), (("size" : Str), v), (("book" : Str), w), (("row" : Str), .ptr (S.length + 1))], .lst row]) =
        .nx [some (.ptr S.length), some x1, some x2, some x3, some x4, some x5, some (.dat (.str z.1)), some (.dat (.int z.2))] (S ++ [.obj 15 [(("look" : Str), u), (("size" : Str), v), (("book" : Str), w), (("row" : Str), .ptr (S.length + 1))], .lst (row.set z.2.toNat (.str z.1))]) := by
      simp only [sPut, fnOf, env0, sSeq, SOut.bind, sRet, sRetN, sOf, sIf, sNil, sExpr, sSet, sRaise, eAnd, eOr, eNot, bAnd, bOr, bNot, eOp1, op1, eOp2, op2, eOpN, opN, eVar, eC, deref, derefs, Out.bind, asB, toB, ofB, cut_dat, cutS_self, cutS_head0, cutS_one, cutS_none, eChain, eTup, eLst, dats, aNil, aCons, eCall, eIf, pOne, pTwo, eFld, objAt, List.getElem?_cons_succ, List.getElem?_cons_zero, g20, if_true, bk_row0, DL.putAt, g21, hx, s21]
    have hB : bTup (bCons (bN 6) (bCons (bN 7) (bNil))) (.ktp [.str z.1, .int z.2]) = some [(6, .str z.1), (7, .int z.2)] := rfl
    simp only [List.map_cons, sForL, hB, setE, List.set, hb]
    exact e
theorem keys_ints : ∀ l : List Int, keysOf (l.map .int) = some (l.map keyI)
  | [] => rfl
  | i :: l => by
    simp only [List.map_cons, DL.keysOf, DL.keyOf, keys_ints l]
    rfl
theorem lenSet_ints (l : List Int) (h : l.length ≤ 4000) : pLenSet (.tup (l.map .int)) = some (.int (seenIn l).length) := by
  simp only [pLenSet, keys_ints]
  rw [if_pos (by rw [List.length_map]; exact h), seenIn_map keyI_inj, List.length_map]
theorem nums_len (pp : List (Nat × Nat)) (room : Int) (f : Nat → Int) : (nums pp room f).length = pp.length := by
  unfold nums
  rw [List.length_map]
theorem nums_in {pp : List (Nat × Nat)} {room : Int} {f : Nat → Int} (h : 0 < room) : ∀ k ∈ nums pp room f, 0 ≤ k ∧ k < room := fun k hk => by
  unfold nums at hk
  obtain ⟨p, _, rfl⟩ := List.mem_map.mp hk
  exact ⟨Int.emod_nonneg _ (by omega), Int.emod_lt_of_pos _ h⟩
theorem zip_tup (ws : List (List Nat)) (l : List Int) : zipD (ws.map .str) (l.map .int) = (ws.zip l).map fun z => .ktp [.str z.1, .int z.2] := by
  unfold zipD
  rw [List.zip_map, List.map_map]
  rfl
/-- what stands where, in a book -/
def rowL (ws : List (List Nat)) (l : List Int) (room : Int) : List D := fillR (List.replicate room.toNat .non) (ws.zip l)
theorem flat_rep : ∀ n : Nat, (List.replicate n [D.non]).flatten = List.replicate n D.non
  | 0 => rfl
  | n + 1 => by
    rw [List.replicate_succ, List.flatten_cons, flat_rep n, List.replicate_succ]
    rfl
theorem p_book_bad {a b r t : D} {c : Nat} (S : Store) (h : ∀ S, d_numbered [.dat a, .dat b, .dat r, .dat t] S = .exc c S) : d_Book_init [.ptr S.length, .dat a, .dat b, .dat r, .dat t] (S ++ [.obj 15 []]) = .exc c (S ++ [.obj 15 []]) := by
  have e := h (S ++ [.obj 15 []])
  simp [d_Book_init, m_Book_init, fnOf, env0, sSeq, SOut.bind, sRet, sRetN, sOf, sIf, sNil, sExpr, sSet, sRaise, eAnd, eOr, eNot, bAnd, bOr, bNot, eOp1, op1, eOp2, op2, eOpN, opN, eVar, eC, deref, derefs, Out.bind, asB, toB, ofB, cut_dat, cutS_self, cutS_head0, cutS_one, cutS_none, eChain, eTup, eLst, dats, aNil, aCons, eCall, eIf, pOne, pTwo, e]
theorem p_book_dup {ws : List (List Nat)} {b r t : D} {l : List Int} (S : Store) (h : ∀ S, d_numbered [.dat (wsD ws), .dat b, .dat r, .dat t] S = .ok (.dat (.tup (l.map .int))) S) (hl : l.length ≤ 100) (nd : ¬ l.Nodup) : d_Book_init [.ptr S.length, .dat (wsD ws), .dat b, .dat r, .dat t] (S ++ [.obj 15 []]) = .exc 6 (S ++ [.obj 15 []]) := by
  have e := h (S ++ [.obj 15 []])
  have e1 := lenSet_ints l (by omega)
  have hne : ¬ (((seenIn l).length : Nat) : Int) = (l.length : Nat) := fun z => nd (seenIn_eq_iff.mp (by omega))
  simp [d_Book_init, m_Book_init, fnOf, env0, sSeq, SOut.bind, sRet, sRetN, sOf, sIf, sNil, sExpr, sSet, sRaise, eAnd, eOr, eNot, bAnd, bOr, bNot, eOp1, op1, eOp2, op2, eOpN, opN, eVar, eC, deref, derefs, Out.bind, asB, toB, ofB, cut_dat, cutS_self, cutS_head0, cutS_one, cutS_none, eChain, eTup, eLst, dats, aNil, aCons, eCall, eIf, pOne, pTwo, e, e1, pLen, pNe, sh, eqD_int, hne]
theorem p_book {ws : List (List Nat)} {b : D} {room : Int} {rows : List D} {l : List Int} (S : Store) (h : ∀ S, d_numbered [.dat (wsD ws), .dat b, .dat (.int room), .dat (.tup rows)] S = .ok (.dat (.tup (l.map .int))) S) (hl : l.length ≤ 100) (nd : l.Nodup) (h1 : 1 ≤ room) (h2 : room ≤ 99) (hk : ∀ k ∈ l, 0 ≤ k ∧ k < room) (hw : worthsB room (.tup rows) = true) :
    d_Book_init [.ptr S.length, .dat (wsD ws), .dat b, .dat (.int room), .dat (.tup rows)] (S ++ [.obj 15 []]) = .ok (.dat .non) (S ++ [.obj 15 (bkF (.dat b) (.dat (.int room)) (.dat (.dct (bkD (rowsN rows)))) (.ptr (S.length + 1)) (.ptr (S.length + 2))), .lst (rowL ws l room), .lst []]) := by
  have e := h (S ++ [.obj 15 []])
  have e1 := lenSet_ints l (by omega)
  have e2 := seenIn_eq_iff.mpr nd
  obtain ⟨a', b', q⟩ := fill_row S (.dat (wsD ws)) (.dat b) (.dat (.int room)) (.dat (.tup rows)) (.dat (.tup (l.map .int))) (.dat b) (.dat (.int room)) (.dat (.dct (bkD (rowsN rows)))) (ws.zip l) (List.replicate room.toNat .non) none none (fun z hz => by
    have := hk z.2 (List.of_mem_zip hz).2
    rw [List.length_replicate]
    omega)
  have hd : eFrz (cDict (eVar 4)) [some (.ptr S.length), some (.dat (wsD ws)), some (.dat b), some (.dat (.int room)), some (.dat (.tup rows)), some (.dat (.tup (l.map .int))), none, none] (S ++ [.obj 15 [(("look" : Str), .dat b), (("size" : Str), .dat (.int room))]]) = .ok (.dat (.dct (bkD (rowsN rows)))) (S ++ [.obj 15 [(("look" : Str), .dat b), (("size" : Str), .dat (.int room))]]) := dict_worths hw rfl
  have hm : pMul (.lst [.non]) (.int room) = some (.lst (List.replicate room.toNat .non)) := by
    simp only [pMul]
    rw [if_pos (by simp; omega), flat_rep]
  have hlen : (S ++ [Cell.obj 15 [(("look" : Str), .dat b), (("size" : Str), .dat (.int room)), (("book" : Str), .dat (.dct (bkD (rowsN rows))))]]).length = S.length + 1 := by simp
  have hlen2 : (S ++ [Cell.obj 15 [(("look" : Str), .dat b), (("size" : Str), .dat (.int room)), (("book" : Str), .dat (.dct (bkD (rowsN rows)))), (("row" : Str), .ptr (S.length + 1))], .lst (rowL ws l room)]).length = S.length + 2 := by simp
  unfold rowL at *
  simp [d_Book_init, m_Book_init, fnOf, env0, sSeq, SOut.bind, sRet, sRetN, sOf, sIf, sNil, sExpr, sSet, sRaise, eAnd, eOr, eNot, bAnd, bOr, bNot, eOp1, op1, eOp2, op2, eOpN, opN, eVar, eC, deref, derefs, Out.bind, asB, toB, ofB, cut_dat, cutS_self, cutS_head0, cutS_one, cutS_none, eChain, eTup, eLst, dats, aNil, aCons, eCall, eIf, pOne, pTwo, e, e1, pLen, pNe, sh, e2, eqD_int, sFldS, objAt, g10, s10, bk_put1, bk_put2, bk_put3, bk_put4, bk_put5, hd, eNew, cOp2, lst2, hm, hlen, sFor, iZipD, zip2, zip_tup, q, cLst, g20, s20, hlen2, cut]
end PB

namespace PB
open PySem PySem.Spec PyProof.Rows L2 DL MP MB PN
/-- a book in the store: the object at k, its row at a, what was asked at b -/
structure Bk (S : Store) (k a b : Nat) (i j room : Int) (ps : List (Nat × Int)) (row : List D) (past : List D) : Prop where
  ob : S[k]? = some (.obj 15 (bkF (.dat (lkD i j)) (.dat (.int room)) (.dat (.dct (bkD ps))) (.ptr a) (.ptr b)))
  row : S[a]? = some (.lst row)
  past : S[b]? = some (.lst past)
  ne : a ≠ b
theorem Bk.kb {S : Store} {k a b : Nat} {i j room : Int} {ps : List (Nat × Int)} {row past : List D} (h : Bk S k a b i j room ps row past) : k ≠ b := fun e => by
  have h1 := h.ob
  rw [e, h.past] at h1
  cases h1
theorem Bk.ka {S : Store} {k a b : Nat} {i j room : Int} {ps : List (Nat × Int)} {row past : List D} (h : Bk S k a b i j room ps row past) : k ≠ a := fun e => by
  have h1 := h.ob
  rw [e, h.row] at h1
  cases h1
theorem Bk.set {S : Store} {k a b : Nat} {i j room : Int} {ps : List (Nat × Int)} {row past : List D} (h : Bk S k a b i j room ps row past) (new : List D) : Bk (S.set b (.lst new)) k a b i j room ps row new :=
  ⟨by rw [List.getElem?_set_ne h.kb.symm]; exact h.ob, by rw [List.getElem?_set_ne h.ne.symm]; exact h.row, by rw [List.getElem?_set_self (List.getElem?_eq_some_iff.mp h.past).1], h.ne⟩
/-- another cell is stored: the book is as it was -/
theorem Bk.other {S : Store} {k a b : Nat} {i j room : Int} {ps : List (Nat × Int)} {row past : List D} (h : Bk S k a b i j room ps row past) {n : Nat} (c : Cell) (h1 : n ≠ k) (h2 : n ≠ a) (h3 : n ≠ b) : Bk (S.set n c) k a b i j room ps row past :=
  ⟨by rw [List.getElem?_set_ne h1]; exact h.ob, by rw [List.getElem?_set_ne h2]; exact h.row, by rw [List.getElem?_set_ne h3]; exact h.past, h.ne⟩
theorem Bk.more {S : Store} {k a b : Nat} {i j room : Int} {ps : List (Nat × Int)} {row past : List D} (h : Bk S k a b i j room ps row past) (T : Store) : Bk (S ++ T) k a b i j room ps row past := by
  have l := fun {n : Nat} {c : Cell} (e : S[n]? = some c) => (List.getElem?_append_left (l₂ := T) (List.getElem?_eq_some_iff.mp e).1).trans e
  exact ⟨l h.ob, l h.row, l h.past, h.ne⟩
theorem cutS_set {α : Type} {S : Store} {b : Nat} {xs ys : List D} (h : S[b]? = some (.lst xs)) (f : Store → Out α) : DL.cutS S (S.set b (.lst ys)) f = f (S.set b (.lst ys)) := by
  unfold DL.cutS
  have e : (S.set b (.lst ys)).take S.length = S.set b (.lst ys) := by
    rw [List.take_of_length_le]
    rw [List.length_set]
    exact Nat.le_refl _
  rw [e, if_pos]
  intro n c fs hn
  by_cases z : b = n
  · subst z
    rw [List.getElem?_set_self (List.getElem?_eq_some_iff.mp h).1] at hn
    cases hn
  · rw [List.getElem?_set_ne z] at hn
    exact .inl hn
section
variable {S : Store} {k a b : Nat} {i j room : Int} {ps : List (Nat × Int)} {row past : List D}
/-- the number of a word by the worths -/
def numOf (ps : List (Nat × Int)) (i j room : Int) (w : List Nat) : Option Int := if letAt w i ∈ ps.map (·.1) ∧ letAt w j ∈ ps.map (·.1) then some ((wI ps (letAt w i) + wI ps (letAt w j)) % room) else none
def optD : Option Int → D
  | some n => .int n
  | none => .non
theorem b_tup2 (x y : D) : bTup (bCons (bN 2) (bCons (bN 3) (bNil))) (.tup [x, y]) = some [(2, x), (3, y)] := rfl
theorem p_number_of (h : Bk S k a b i j room ps row past) (hr : 0 < room) (w : List Nat) (h1 : 1 ≤ w.length) (h2 : w.length ≤ 1000) : d_Book_number_of [.ptr k, .dat (.str w)] S = .ok (.dat (optD (numOf ps i j room w))) S := by
  have e1 := p_pair_of w i j S h1 h2
  have ob := h.ob
  have f1 := bk_look (.dat (lkD i j)) (.dat (.int room)) (.dat (.dct (bkD ps))) (.ptr a) (.ptr b)
  have f2 := bk_book (.dat (lkD i j)) (.dat (.int room)) (.dat (.dct (bkD ps))) (.ptr a) (.ptr b)
  have f3 := bk_size (.dat (lkD i j)) (.dat (.int room)) (.dat (.dct (bkD ps))) (.ptr a) (.ptr b)
  generalize bkF (.dat (lkD i j)) (.dat (.int room)) (.dat (.dct (bkD ps))) (.ptr a) (.ptr b) = fs at ob f1 f2 f3
  have n1 := notIn_bk ps (letAt w i)
  have n2 := notIn_bk ps (letAt w j)
  unfold numOf
  by_cases c1 : letAt w i ∈ ps.map (·.1)
  · by_cases c2 : letAt w j ∈ ps.map (·.1)
    · rw [if_pos ⟨c1, c2⟩]
      rw [decide_eq_true c1] at n1
      rw [decide_eq_true c2] at n2
      have x1 := ix_bkI c1
      have x2 := ix_bkI c2
      simp [d_Book_number_of, m_Book_number_of, fnOf, env0, sSeq, SOut.bind, sRet, sRetN, sOf, sIf, sNil, sExpr, sSet, sRaise, eAnd, eOr, eNot, bAnd, bOr, bNot, eOp1, op1, eOp2, op2, eOpN, opN, eVar, eC, deref, derefs, Out.bind, asB, toB, ofB, cut_dat, cutS_self, cutS_head0, cutS_one, cutS_none, eChain, eTup, eLst, dats, aNil, aCons, eCall, eIf, pOne, pTwo, sAsg, b_tup2, setE, eFld, objAt, ob, f1, f2, f3, e1, prD, n1, n2, x1, x2, pAdd, pMod, hr, optD]
    · rw [if_neg (fun z => c2 z.2)]
      rw [decide_eq_true c1] at n1
      rw [decide_eq_false c2] at n2
      simp [d_Book_number_of, m_Book_number_of, fnOf, env0, sSeq, SOut.bind, sRet, sRetN, sOf, sIf, sNil, sExpr, sSet, sRaise, eAnd, eOr, eNot, bAnd, bOr, bNot, eOp1, op1, eOp2, op2, eOpN, opN, eVar, eC, deref, derefs, Out.bind, asB, toB, ofB, cut_dat, cutS_self, cutS_head0, cutS_one, cutS_none, eChain, eTup, eLst, dats, aNil, aCons, eCall, eIf, pOne, pTwo, sAsg, b_tup2, setE, eFld, objAt, ob, f1, f2, f3, e1, prD, n1, n2, optD]
  · rw [if_neg (fun z => c1 z.1)]
    rw [decide_eq_false c1] at n1
    simp [d_Book_number_of, m_Book_number_of, fnOf, env0, sSeq, SOut.bind, sRet, sRetN, sOf, sIf, sNil, sExpr, sSet, sRaise, eAnd, eOr, eNot, bAnd, bOr, bNot, eOp1, op1, eOp2, op2, eOpN, opN, eVar, eC, deref, derefs, Out.bind, asB, toB, ofB, cut_dat, cutS_self, cutS_head0, cutS_one, cutS_none, eChain, eTup, eLst, dats, aNil, aCons, eCall, eIf, pOne, pTwo, sAsg, b_tup2, setE, eFld, objAt, ob, f1, f2, f3, e1, prD, n1, optD]
/-- what is told of a word that is asked, and how it goes -/
def askN (ps : List (Nat × Int)) (i j room : Int) (row : List D) (w : List Nat) : Option Int × Int := match numOf ps i j room w with
  | some n => (match row[n.toNat]? with
    | some (.str u) => if u = w then (some n, 0) else (none, 1)
    | _ => (none, 2))
  | none => (none, 2)
def pastD (w : List Nat) (c : Int) : D := .tup [.str w, .int c]
/-- what stands in a row: texts, or None -/
def rowOk (row : List D) (room : Int) : Prop := row.length = room.toNat ∧ ∀ x ∈ row, x = .non ∨ ∃ u, x = .str u
theorem is_non (d : D) : pIs d .non = some (.bl (DL.isNon d)) := by
  cases d <;> rfl
theorem ne_strs2 (u w : List Nat) : pNe (.str u) (.str w) = some (.bl (!decide (u = w))) := by
  simp only [pNe, sh, eqD_str, and_self, if_true]
theorem eq_strs2 (u w : List Nat) : pEq (.str u) (.str w) = some (.bl (decide (u = w))) := by
  simp only [pEq, sh, eqD_str, and_self, if_true]
theorem p_ask (h : Bk S k a b i j room ps row past) (hr : 1 ≤ room) (hrow : rowOk row room) (w : List Nat) (hw : goodW w) (hp : past.length < 1000) :
    d_Book_ask [.ptr k, .dat (.str w)] S = .ok (.dat (optD (askN ps i j room row w).1)) (S.set b (.lst (past ++ [pastD w (askN ps i j room row w).2]))) := by
  obtain ⟨g1, g2, g3⟩ := hw
  have okw : okD (.str w) = true := by
    have hg : goodL w = true := List.all_eq_true.mpr fun x hx => decide_eq_true (let_small (g3 x hx))
    simp only [okD, hg, Bool.and_true, decide_eq_true_eq]
    omega
  have e1 := p_is_word (.str w) S okw
  have ew : wordB (.str w) = true := by simp [wordB, g1, g2, strip_all g3]
  rw [ew] at e1
  have e2 := p_number_of h (by omega) w g1 (by omega)
  have ob := h.ob
  have f1 := bk_row (.dat (lkD i j)) (.dat (.int room)) (.dat (.dct (bkD ps))) (.ptr a) (.ptr b)
  have f2 := bk_past (.dat (lkD i j)) (.dat (.int room)) (.dat (.dct (bkD ps))) (.ptr a) (.ptr b)
  have f3 := bk_m5 (.dat (lkD i j)) (.dat (.int room)) (.dat (.dct (bkD ps))) (.ptr a) (.ptr b)
  have ob2 := (h.set (past ++ [pastD w (askN ps i j room row w).2])).ob
  have row2 := (h.set (past ++ [pastD w (askN ps i j room row w).2])).row
  generalize bkF (.dat (lkD i j)) (.dat (.int room)) (.dat (.dct (bkD ps))) (.ptr a) (.ptr b) = fs at ob f1 f2 f3 ob2
  have hrw := h.row
  have hpa := h.past
  have hp2 : past.length < 1000000 := by omega
  have hc := cutS_set (ys := past ++ [pastD w (askN ps i j room row w).2]) hpa (Out.ok (Val.dat (optD (askN ps i j room row w).1)))
  unfold askN at *
  cases hn : numOf ps i j room w with
  | none =>
    rw [hn] at e2 hc ob2 row2
    simp only [optD, pastD] at e2 hc ob2 row2 ⊢
    simp [d_Book_ask, m_Book_ask, fnOf, env0, sSeq, SOut.bind, sRet, sRetN, sOf, sIf, sNil, sExpr, sSet, sRaise, eAnd, eOr, eNot, bAnd, bOr, bNot, eOp1, op1, eOp2, op2, eOpN, opN, eVar, eC, deref, derefs, Out.bind, asB, toB, ofB, cut_dat, cutS_self, cutS_head0, cutS_one, cutS_none, eChain, eTup, eLst, dats, aNil, aCons, eCall, eIf, pOne, pTwo, e1, eMth, eFld, objAt, ob, f1, f2, f3, e2, is_non, DL.isNon, eMutL, mutL, argD, hpa, mAppend, hp2, hc]
  | some n =>
    rw [hn] at e2 hc ob2 row2
    have hn2 : 0 ≤ n ∧ n < room := by
      unfold numOf at hn
      split at hn
      · cases hn
        exact ⟨Int.emod_nonneg _ (by omega), Int.emod_lt_of_pos _ (by omega)⟩
      · cases hn
    have hlt : n.toNat < row.length := by
      rw [hrow.1]
      omega
    have hx : pIx (.lst row) (.int n) = some row[n.toNat] := atI_of (List.getElem?_eq_getElem hlt) (.inl ⟨hn2.1, by omega⟩)
    have hg : row[n.toNat]? = some row[n.toNat] := List.getElem?_eq_getElem hlt
    rcases hrow.2 _ (List.getElem_mem hlt) with z | ⟨u, z⟩
    · rw [z] at hx hg
      simp only [hg, optD, pastD] at e2 hc ob2 row2 ⊢
      simp [d_Book_ask, m_Book_ask, fnOf, env0, sSeq, SOut.bind, sRet, sRetN, sOf, sIf, sNil, sExpr, sSet, sRaise, eAnd, eOr, eNot, bAnd, bOr, bNot, eOp1, op1, eOp2, op2, eOpN, opN, eVar, eC, deref, derefs, Out.bind, asB, toB, ofB, cut_dat, cutS_self, cutS_head0, cutS_one, cutS_none, eChain, eTup, eLst, dats, aNil, aCons, eCall, eIf, pOne, pTwo, e1, eMth, eFld, objAt, ob, f1, f2, f3, e2, is_non, DL.isNon, hrw, hx, eMutL, mutL, argD, hpa, mAppend, hp2, hc]
    · rw [z] at hx hg
      have q1 := ne_strs2 u w
      have q2 := eq_strs2 u w
      by_cases c : u = w
      · rw [decide_eq_true c] at q1 q2
        simp only [hg, if_pos c, optD, pastD] at e2 hc ob2 row2 ⊢
        have hi : pInt (.bl false) = some (.int 0) := rfl
        simp [d_Book_ask, m_Book_ask, fnOf, env0, sSeq, SOut.bind, sRet, sRetN, sOf, sIf, sNil, sExpr, sSet, sRaise, eAnd, eOr, eNot, bAnd, bOr, bNot, eOp1, op1, eOp2, op2, eOpN, opN, eVar, eC, deref, derefs, Out.bind, asB, toB, ofB, cut_dat, cutS_self, cutS_head0, cutS_one, cutS_none, eChain, eTup, eLst, dats, aNil, aCons, eCall, eIf, pOne, pTwo, e1, eMth, eFld, objAt, ob, f1, f2, f3, e2, is_non, DL.isNon, hrw, hx, q1, q2, hi, eMutL, mutL, argD, hpa, mAppend, hp2, hc, ob2, row2]
      · rw [decide_eq_false c] at q1 q2
        simp only [hg, if_neg c, optD, pastD] at e2 hc ob2 row2 ⊢
        have hi : pInt (.bl true) = some (.int 1) := rfl
        simp [d_Book_ask, m_Book_ask, fnOf, env0, sSeq, SOut.bind, sRet, sRetN, sOf, sIf, sNil, sExpr, sSet, sRaise, eAnd, eOr, eNot, bAnd, bOr, bNot, eOp1, op1, eOp2, op2, eOpN, opN, eVar, eC, deref, derefs, Out.bind, asB, toB, ofB, cut_dat, cutS_self, cutS_head0, cutS_one, cutS_none, eChain, eTup, eLst, dats, aNil, aCons, eCall, eIf, pOne, pTwo, e1, eMth, eFld, objAt, ob, f1, f2, f3, e2, is_non, DL.isNon, hrw, hx, q1, q2, hi, eMutL, mutL, argD, hpa, mAppend, hp2, hc, ob2, row2]
theorem p_ask_bad (x : D) (h1 : okD x = true) (h2 : wordB x = false) : d_Book_ask [.ptr k, .dat x] S = .exc 4 S := by
  have e1 := p_is_word x S h1
  rw [h2] at e1
  simp [d_Book_ask, m_Book_ask, fnOf, env0, sSeq, SOut.bind, sRet, sRetN, sOf, sIf, sNil, sExpr, sSet, sRaise, eAnd, eOr, eNot, bAnd, bOr, bNot, eOp1, op1, eOp2, op2, eOpN, opN, eVar, eC, deref, derefs, Out.bind, asB, toB, ofB, cut_dat, cutS_self, cutS_head0, cutS_one, cutS_none, eChain, eTup, eLst, dats, aNil, aCons, eCall, eIf, pOne, pTwo, e1]
end
end PB

namespace PB
open PySem PySem.Spec PyProof.Rows L2 DL MP MB PN
theorem compP_mapB {ix : Nat} {all : List D} {B : TB} {me : EM} {ρ : Ev} {f : D → D} {S : Store} (hS : S[ix]? = some (.lst all)) : ∀ {ds : List D}, (∀ d ∈ ds, ∃ a, B d = some a ∧ me (setE ρ a) S = .ok (.dat (f d)) S) → compP ix all B bYes me ρ ds S = .ok (ds.map f) S
  | [], _ => by simp [compP, hS]
  | d :: ds, h => by
    have ih := compP_mapB (ix := ix) (all := all) (B := B) (me := me) (ρ := ρ) (f := f) hS (ds := ds) fun x hx => h x (List.mem_cons_of_mem _ hx)
    obtain ⟨a, e1, e2⟩ := h d List.mem_cons_self
    simp only [compP, hS, if_true, e1, bYes, e2, ih, Out.bind, List.map_cons]
def pastL (qs : List (List Nat × Int)) : List D := qs.map fun q => pastD q.1 q.2
def cnt (qs : List (List Nat × Int)) (c : Int) : Nat := qs.countP fun q => decide (q.2 = c)
theorem count_ints (l : List Int) (c : Int) : pCount (.lst (l.map .int)) [.int c] = some (.int ((l.countP fun x => decide (x = c) : Nat) : Int)) := by
  have h1 : sh 9 (.lst (l.map .int)) = true := by simp [sh]
  have e : (l.map D.int).countP (fun z => eqD z (.int c)) = l.countP fun x => decide (x = c) := by
    rw [List.countP_map]
    congr 1
  show (if sh 9 (.lst (l.map .int)) = true ∧ sh 9 (.int c) = true then some (D.int (((l.map D.int).countP (fun z => eqD z (.int c)) : Nat) : Int)) else none) = _
  rw [if_pos ⟨h1, rfl⟩, e]
section
variable {S : Store} {k a b : Nat} {i j room : Int} {ps : List (Nat × Int)} {row : List D}
theorem p_counts {qs : List (List Nat × Int)} (h : Bk S k a b i j room ps row (pastL qs)) (hl : qs.length ≤ 1000) : d_Book_counts [.ptr k] S = .ok (.dat (.tup [.int (cnt qs 0 : Nat), .int (cnt qs 1 : Nat), .int (cnt qs 2 : Nat)])) S := by
  have ob := h.ob
  have f2 := bk_past (.dat (lkD i j)) (.dat (.int room)) (.dat (.dct (bkD ps))) (.ptr a) (.ptr b)
  generalize bkF (.dat (lkD i j)) (.dat (.int room)) (.dat (.dct (bkD ps))) (.ptr a) (.ptr b) = fs at ob f2
  have hpa := h.past
  have q := compP_mapB (ix := b) (all := pastL qs) (B := bTup (bCons (bN 2) (bCons (bN 3) (bNil)))) (me := eVar 3) (ρ := [some (.ptr k), none, none, none]) (f := fun d => match d with
    | .tup [_, c] => c
    | _ => .non) (S := S) hpa (ds := pastL qs) fun d hd => by
      obtain ⟨p, hp, rfl⟩ := List.mem_map.mp hd
      exact ⟨[(2, .str p.1), (3, .int p.2)], rfl, by simp [setE, fnOf, env0, sSeq, SOut.bind, sRet, sRetN, sOf, sIf, sNil, sExpr, sSet, sRaise, eAnd, eOr, eNot, bAnd, bOr, bNot, eOp1, op1, eOp2, op2, eOpN, opN, eVar, eC, deref, derefs, Out.bind, asB, toB, ofB, cut_dat, cutS_self, cutS_head0, cutS_one, cutS_none, eChain, eTup, eLst, dats, aNil, aCons, eCall, eIf, pOne, pTwo, pastD]⟩
  have e2 : (pastL qs).map (fun d => match d with
    | .tup [_, c] => c
    | _ => D.non) = (qs.map (·.2)).map .int := by
    unfold pastL
    rw [List.map_map, List.map_map]
    rfl
  rw [e2] at q
  have hl2 : (pastL qs).length ≤ 1000000 := by
    unfold pastL
    rw [List.length_map]
    omega
  have c0 := count_ints (qs.map (·.2)) 0
  have c1 := count_ints (qs.map (·.2)) 1
  have c2 := count_ints (qs.map (·.2)) 2
  have ec : ∀ c : Int, ((qs.map (·.2)).countP fun x => decide (x = c)) = cnt qs c := fun c => by
    rw [List.countP_map]
    rfl
  rw [ec] at c0 c1 c2
  generalize (qs.map (·.2)).map D.int = L at *
  simp [d_Book_counts, m_Book_counts, fnOf, env0, sSeq, SOut.bind, sRet, sRetN, sOf, sIf, sNil, sExpr, sSet, sRaise, eAnd, eOr, eNot, bAnd, bOr, bNot, eOp1, op1, eOp2, op2, eOpN, opN, eVar, eC, deref, derefs, Out.bind, asB, toB, ofB, cut_dat, cutS_self, cutS_head0, cutS_one, cutS_none, eChain, eTup, eLst, dats, aNil, aCons, eCall, eIf, pOne, pTwo, eCompP, eFld, objAt, ob, f2, hpa, hl2, wipeE, q, eMeth, tyD, c0, c1, c2]
theorem p_undo0 (h : Bk S k a b i j room ps row []) : d_Book_undo [.ptr k] S = .exc 12 S := by
  have ob := h.ob
  have f2 := bk_past (.dat (lkD i j)) (.dat (.int room)) (.dat (.dct (bkD ps))) (.ptr a) (.ptr b)
  generalize bkF (.dat (lkD i j)) (.dat (.int room)) (.dat (.dct (bkD ps))) (.ptr a) (.ptr b) = fs at ob f2
  have hpa := h.past
  have e : pEq (.lst []) (.lst []) = some (.bl true) := by
    unfold pEq
    rw [if_pos (by decide), show eqD (.lst []) (.lst []) = true by decide +kernel]
  simp [d_Book_undo, m_Book_undo, fnOf, env0, sSeq, SOut.bind, sRet, sRetN, sOf, sIf, sNil, sExpr, sSet, sRaise, eAnd, eOr, eNot, bAnd, bOr, bNot, eOp1, op1, eOp2, op2, eOpN, opN, eVar, eC, deref, derefs, Out.bind, asB, toB, ofB, cut_dat, cutS_self, cutS_head0, cutS_one, cutS_none, eChain, eTup, eLst, dats, aNil, aCons, eCall, eIf, pOne, pTwo, eFld, objAt, ob, f2, hpa, e]
theorem pastL_sh (qs : List (List Nat × Int)) : sh 9 (.lst (pastL qs)) = true := by
  simp [sh, pastL, pastD]
theorem p_undo {qs : List (List Nat × Int)} {w : List Nat} {c : Int} (h : Bk S k a b i j room ps row (pastL (qs ++ [(w, c)]))) : d_Book_undo [.ptr k] S = .ok (.dat (.str w)) (S.set b (.lst (pastL qs))) := by
  have ob := h.ob
  have f2 := bk_past (.dat (lkD i j)) (.dat (.int room)) (.dat (.dct (bkD ps))) (.ptr a) (.ptr b)
  generalize bkF (.dat (lkD i j)) (.dat (.int room)) (.dat (.dct (bkD ps))) (.ptr a) (.ptr b) = fs at ob f2
  have hpa := h.past
  have ep : pastL (qs ++ [(w, c)]) = pastL qs ++ [pastD w c] := by
    unfold pastL
    rw [List.map_append]
    rfl
  have hsh := pastL_sh (qs ++ [(w, c)])
  rw [ep] at hpa hsh
  have e : pEq (.lst (pastL qs ++ [pastD w c])) (.lst []) = some (.bl false) := by
    unfold pEq
    rw [if_pos ⟨hsh, rfl⟩]
    have : eqD (.lst (pastL qs ++ [pastD w c])) (.lst []) = false := by
      cases pastL qs <;> simp [eqD, toPy, toPys, PyData.eqv, PyData.eqvAll]
    rw [this]
  have hm : mPop (pastL qs ++ [pastD w c]) [] = some (pastD w c, pastL qs) := by
    simp [mPop]
  have hx : pIx (pastD w c) (.int 0) = some (.str w) := rfl
  have hc := cutS_set (ys := pastL qs) hpa (Out.ok (Val.dat (.str w)))
  simp [d_Book_undo, m_Book_undo, fnOf, env0, sSeq, SOut.bind, sRet, sRetN, sOf, sIf, sNil, sExpr, sSet, sRaise, eAnd, eOr, eNot, bAnd, bOr, bNot, eOp1, op1, eOp2, op2, eOpN, opN, eVar, eC, deref, derefs, Out.bind, asB, toB, ofB, cut_dat, cutS_self, cutS_head0, cutS_one, cutS_none, eChain, eTup, eLst, dats, aNil, aCons, eCall, eIf, pOne, pTwo, eFld, objAt, ob, f2, hpa, e, eMutL, mutL, argD, hm, hx, hc]
end
end PB

namespace PB
open PySem PySem.Spec PyProof.Rows L2 DL MP MB PN
noncomputable def goodBody : SM := sSeq (sSet 8 (eCall 4 d__law_by (aCons (eOp2 pAdd (eVar 6) (eTup (aCons (eVar 7) (aNil)))) (aCons (eVar 3) (aCons (eVar 4) (aCons (eFrz (cDict (eVar 5))) (aNil))))))) (sIf (toB (eOp2 pEq (eOp1 pLenSet (eVar 8)) (eOpN (pOne pLen) (aCons (eVar 8) (aNil))))) (sSet 6 (eOp2 pAdd (eVar 6) (eTup (aCons (eVar 7) (aNil))))) (sNil))
theorem prs_sub {ks : List (List Nat)} {ws : List (List Nat)} {i j : Int} {ps : List (Nat × Int)} (h : ∀ w ∈ ks, w ∈ ws) (hall : ∀ c ∈ flat2 (prs ws i j), c ∈ ps.map (·.1)) : ∀ c ∈ flat2 (prs ks i j), c ∈ ps.map (·.1) := fun c hc => by
  obtain ⟨p, hp, e⟩ := mem_flat2.mp hc
  unfold prs at hp
  obtain ⟨w, hw, rfl⟩ := List.mem_map.mp hp
  exact hall c (mem_flat2.mpr ⟨_, List.mem_map.mpr ⟨w, h w hw, rfl⟩, e⟩)
theorem pEq_ints (a b : Int) : pEq (.int a) (.int b) = some (.bl (decide (a = b))) := by
  simp only [pEq, sh, eqD_int, and_self, if_true]
theorem good_loop (x0 x1 : Val) (S : Store) {ws : List (List Nat)} {i j room : Int} {ps : List (Nat × Int)} (hw : Ws ws) (hr : 1 ≤ room) (hps : Wo ps room) (hall : ∀ c ∈ flat2 (prs ws i j), c ∈ ps.map (·.1)) :
    ∀ (rest ks : List (List Nat)) (y z : Option Val), (∀ w ∈ rest, w ∈ ws) → (∀ w ∈ ks, w ∈ ws) → ks.length + rest.length ≤ 6 → ks.Nodup → rest.Nodup → (∀ w ∈ ks, w ∉ rest) → (nums (prs ks i j) room (wI ps)).Nodup →
      ∃ ks' y' z', (∀ w ∈ ks', w ∈ ws) ∧ ks'.length ≤ ks.length + rest.length ∧ ks'.Nodup ∧ (nums (prs ks' i j) room (wI ps)).Nodup ∧ (ks ≠ [] ∨ rest ≠ [] → ks' ≠ []) ∧ sForL (bN 7) goodBody (rest.map .str)
        [some x0, some x1, some (.dat (wsD ws)), some (.dat (lkD i j)), some (.dat (.int room)), some (.dat (.tup (ps.map rowI))), some (.dat (wsD ks)), y, z] S = .nx [some x0, some x1, some (.dat (wsD ws)), some (.dat (lkD i j)), some (.dat (.int room)), some (.dat (.tup (ps.map rowI))), some (.dat (wsD ks')), y', z'] S
  | [], ks, y, z, _, h2, _, nd, _, _, hn => ⟨ks, y, z, h2, by simp, nd, hn, fun h => h.elim id (fun q => absurd rfl q), rfl⟩
  | w :: rest, ks, y, z, h1, h2, h3, nd, nr, hk, hn => by
    rw [List.length_cons] at h3
    have hadd : pAdd (wsD ks) (.tup [.str w]) = some (wsD (ks ++ [w])) := by
      simp only [wsD, pAdd, List.length_map, List.length_cons, List.length_nil]
      rw [if_pos (by omega), List.map_append]
      rfl
    have hin2 : ∀ u ∈ ks ++ [w], u ∈ ws := fun u hu => by
      rcases List.mem_append.mp hu with q | q
      · exact h2 u q
      · rw [List.mem_singleton.mp q]
        exact h1 w List.mem_cons_self
    have hby := p_law_by (ks ++ [w]) i j room ps S (fun u hu => hw.len u (hin2 u hu)) (by rw [List.length_append]; simp; omega) (by omega) (prs_sub hin2 hall)
    have hd : eFrz (cDict (eVar 5)) [some x0, some x1, some (.dat (wsD ws)), some (.dat (lkD i j)), some (.dat (.int room)), some (.dat (.tup (ps.map rowI))), some (.dat (wsD ks)), some (.dat (.str w)), z] S = .ok (.dat (.dct (bkD ps))) S := by
      have := dict_worths (rows := ps.map rowI) (room := room) hps.ok (m := eVar 5) (ρ := [some x0, some x1, some (.dat (wsD ws)), some (.dat (lkD i j)), some (.dat (.int room)), some (.dat (.tup (ps.map rowI))), some (.dat (wsD ks)), some (.dat (.str w)), z]) (S := S) rfl
      rw [rowsN_I] at this
      exact this
    have hl : (nums (prs (ks ++ [w]) i j) room (wI ps)).length ≤ 4000 := by
      rw [nums_len, prs_len, List.length_append]
      simp
      omega
    have hls := lenSet_ints _ hl
    have heq := pEq_ints ((seenIn (nums (prs (ks ++ [w]) i j) room (wI ps))).length : Nat) ((nums (prs (ks ++ [w]) i j) room (wI ps)).length : Nat)
    obtain ⟨nr1, nr2⟩ := List.nodup_cons.mp nr
    have hk2 : ∀ u ∈ ks, u ∉ rest := fun u hu q => hk u hu (List.mem_cons_of_mem _ q)
    by_cases c : (nums (prs (ks ++ [w]) i j) room (wI ps)).Nodup
    · have e := seenIn_eq_iff.mpr c
      rw [decide_eq_true (by omega)] at heq
      have nd2 : (ks ++ [w]).Nodup := by
        rw [List.nodup_append]
        refine ⟨nd, by simp, fun a ha b hb e => ?_⟩
        rw [List.mem_singleton.mp hb] at e
        subst e
        exact hk a ha List.mem_cons_self
      obtain ⟨ks', y', z', r1, r2, r3, r4, r5, r6⟩ := good_loop x0 x1 S hw hr hps hall rest (ks ++ [w]) (some (.dat (.str w))) (some (.dat (.tup ((nums (prs (ks ++ [w]) i j) room (wI ps)).map .int)))) (fun u hu => h1 u (List.mem_cons_of_mem _ hu)) hin2 (by rw [List.length_append]; simp; omega) nd2 nr2 (fun u hu q => by
        rcases List.mem_append.mp hu with z | z
        · exact hk2 u z q
        · rw [List.mem_singleton.mp z] at q
          exact nr1 q) c
      refine ⟨ks', y', z', r1, by rw [List.length_append] at r2; simp at r2 ⊢; omega, r3, r4, fun _ => r5 (.inl (by simp)), ?_⟩
      generalize nums (prs (ks ++ [w]) i j) room (wI ps) = N at *
      have hb : goodBody [some x0, some x1, some (.dat (wsD ws)), some (.dat (lkD i j)), some (.dat (.int room)), some (.dat (.tup (ps.map rowI))), some (.dat (wsD ks)), some (.dat (.str w)), z] S = .nx [some x0, some x1, some (.dat (wsD ws)), some (.dat (lkD i j)), some (.dat (.int room)), some (.dat (.tup (ps.map rowI))), some (.dat (wsD (ks ++ [w]))), some (.dat (.str w)), some (.dat (.tup (N.map .int)))] S := by
        simp only [wsD] at hadd hby hd ⊢
        simp [goodBody, fnOf, env0, sSeq, SOut.bind, sRet, sRetN, sOf, sIf, sNil, sExpr, sSet, sRaise, eAnd, eOr, eNot, bAnd, bOr, bNot, eOp1, op1, eOp2, op2, eOpN, opN, eVar, eC, deref, derefs, Out.bind, asB, toB, ofB, cut_dat, cutS_self, cutS_head0, cutS_one, cutS_none, eChain, eTup, eLst, dats, aNil, aCons, eCall, eIf, pOne, pTwo, hadd, hd, hby, hls, pLen, heq, -List.map_append]
      simp only [List.map_cons, sForL, bN, setE, List.set, hb]
      exact r6
    · have e : (seenIn (nums (prs (ks ++ [w]) i j) room (wI ps))).length ≠ (nums (prs (ks ++ [w]) i j) room (wI ps)).length := fun z => c (seenIn_eq_iff.mp z)
      rw [decide_eq_false (by omega)] at heq
      have hne : ks ≠ [] := fun z => by
        subst z
        apply c
        simp [prs, nums]
      obtain ⟨ks', y', z', r1, r2, r3, r4, r5, r6⟩ := good_loop x0 x1 S hw hr hps hall rest ks (some (.dat (.str w))) (some (.dat (.tup ((nums (prs (ks ++ [w]) i j) room (wI ps)).map .int)))) (fun u hu => h1 u (List.mem_cons_of_mem _ hu)) h2 (by omega) nd nr2 hk2 hn
      refine ⟨ks', y', z', r1, by simp; omega, r3, r4, fun _ => r5 (.inl hne), ?_⟩
      generalize nums (prs (ks ++ [w]) i j) room (wI ps) = N at *
      have hb : goodBody [some x0, some x1, some (.dat (wsD ws)), some (.dat (lkD i j)), some (.dat (.int room)), some (.dat (.tup (ps.map rowI))), some (.dat (wsD ks)), some (.dat (.str w)), z] S = .nx [some x0, some x1, some (.dat (wsD ws)), some (.dat (lkD i j)), some (.dat (.int room)), some (.dat (.tup (ps.map rowI))), some (.dat (wsD ks)), some (.dat (.str w)), some (.dat (.tup (N.map .int)))] S := by
        simp only [wsD] at hadd hby hd ⊢
        simp [goodBody, fnOf, env0, sSeq, SOut.bind, sRet, sRetN, sOf, sIf, sNil, sExpr, sSet, sRaise, eAnd, eOr, eNot, bAnd, bOr, bNot, eOp1, op1, eOp2, op2, eOpN, opN, eVar, eC, deref, derefs, Out.bind, asB, toB, ofB, cut_dat, cutS_self, cutS_head0, cutS_one, cutS_none, eChain, eTup, eLst, dats, aNil, aCons, eCall, eIf, pOne, pTwo, hadd, hd, hby, hls, pLen, heq, -List.map_append]
      simp only [List.map_cons, sForL, bN, setE, List.set, hb]
      exact r6
theorem b_tup4 (x y z w : D) : bTup (bCons (bN 2) (bCons (bN 3) (bCons (bN 4) (bCons (bN 5) (bNil))))) (.tup [x, y, z, w]) = some [(2, x), (3, y), (4, z), (5, w)] := rfl
theorem p_law_good (ns : List Int) (n : Nat) (R : Store) (hn : n < 40000) : ∃ (ws : List (List Nat)) (i j room : Int) (ps : List (Nat × Int)) (n' : Nat), n' ≤ n + 200 ∧ Ws ws ∧ Lk i j ∧ 1 ≤ room ∧ room ≤ 20 ∧ Wo ps room ∧
    (∀ c ∈ flat2 (prs ws i j), c ∈ ps.map (·.1)) ∧ (nums (prs ws i j) room (wI ps)).Nodup ∧ d__law_good [.dat (.scr ns), .ptr 0] (.lst (zs n) :: R) = .ok (.dat (.tup [wsD ws, lkD i j, .int room, .tup (ps.map rowI)])) (.lst (zs n') :: R) := by
  obtain ⟨ws, i, j, room, ps, n', hn', hw, hk, r1, r9, hps, hall, hmade⟩ := p_law_made ns n 6 20 R (by decide) (by decide) (by decide) hn
  obtain ⟨ks, y', z', q1, q2, q3, q4, q5, q6⟩ := good_loop (.dat (.scr ns)) (.ptr 0) (.lst (zs n') :: R) hw r1 hps hall ws [] none none (fun w h => h) (fun w h => nomatch h) (by have := hw.n6; simp; omega) List.nodup_nil hw.nd (fun w h => nomatch h) (by simp [prs, nums])
  have hne : ks ≠ [] := q5 (.inr (fun z => by
    have := hw.n1
    rw [z] at this
    simp at this))
  have hpos := List.length_pos_iff.mpr hne
  refine ⟨ks, i, j, room, ps, n', hn', ⟨hpos, by have := hw.n6; simp at q2; omega, q3, fun w h => hw.gd w (q1 w h)⟩, hk, r1, r9, hps, prs_sub q1 hall, q4, ?_⟩
  have hc := cutS_head0 (zs n) (zs n') R (Out.ok (Val.dat (.tup [wsD ks, lkD i j, .int room, .tup (ps.map rowI)])))
  unfold goodBody at q6
  rw [show wsD [] = .tup [] from rfl] at q6
  simp [d__law_good, m__law_good, fnOf, env0, sSeq, SOut.bind, sRet, sRetN, sOf, sIf, sNil, sExpr, sSet, sRaise, eAnd, eOr, eNot, bAnd, bOr, bNot, eOp1, op1, eOp2, op2, eOpN, opN, eVar, eC, deref, derefs, Out.bind, asB, toB, ofB, cut_dat, cutS_self, cutS_head0, cutS_one, cutS_none, eChain, eTup, eLst, dats, aNil, aCons, eCall, eIf, pOne, pTwo, hmade, sAsg, b_tup4, setE, sFor, iOf, itemsD, q6, hc]
end PB

namespace PB
open PySem PySem.Spec PyProof.Rows L2 DL MP MB PN
theorem fillR_miss {p : Nat} : ∀ {zs : List (List Nat × Int)} {row : List D}, (∀ z ∈ zs, z.2.toNat ≠ p) → (fillR row zs)[p]? = row[p]?
  | [], _, _ => rfl
  | z :: zs, row, h => by
    show (fillR (row.set z.2.toNat (.str z.1)) zs)[p]? = _
    rw [fillR_miss fun q hq => h q (List.mem_cons_of_mem _ hq), List.getElem?_set_ne (h z List.mem_cons_self)]
theorem fillR_hit : ∀ {zs : List (List Nat × Int)} {row : List D} {z : List Nat × Int}, z ∈ zs → (zs.map fun q => q.2.toNat).Nodup → z.2.toNat < row.length → (fillR row zs)[z.2.toNat]? = some (.str z.1)
  | q :: zs, row, z, hz, nd, hl => by
    rw [List.map_cons] at nd
    obtain ⟨n1, n2⟩ := List.nodup_cons.mp nd
    show (fillR (row.set q.2.toNat (.str q.1)) zs)[z.2.toNat]? = _
    rcases List.mem_cons.mp hz with e | e
    · subst e
      rw [fillR_miss fun q hq e => n1 (List.mem_map.mpr ⟨q, hq, e⟩), List.getElem?_set_self hl]
    · exact fillR_hit e n2 (by rw [List.length_set]; exact hl)
theorem zip_nd {ws : List (List Nat)} {l : List Int} (nd : l.Nodup) (hp : ∀ k ∈ l, 0 ≤ k) : ((ws.zip l).map fun q => q.2.toNat).Nodup := by
  induction ws generalizing l with
  | nil => simp
  | cons w ws ih =>
    cases l with
    | nil => simp
    | cons k l =>
      obtain ⟨n1, n2⟩ := List.nodup_cons.mp nd
      rw [List.zip_cons_cons, List.map_cons, List.nodup_cons]
      refine ⟨fun h => ?_, ih n2 fun x hx => hp x (List.mem_cons_of_mem _ hx)⟩
      obtain ⟨q, hq, e⟩ := List.mem_map.mp h
      have hq2 := (List.of_mem_zip hq).2
      have h1 := hp k List.mem_cons_self
      have h2 := hp q.2 (List.mem_cons_of_mem _ hq2)
      have : q.2 = k := by
        have e' : q.2.toNat = k.toNat := e
        omega
      exact n1 (this ▸ hq2)
/-- a word's own number -/
def nOf (ps : List (Nat × Int)) (i j room : Int) (w : List Nat) : Int := (wI ps (letAt w i) + wI ps (letAt w j)) % room
theorem nums_eq (ps : List (Nat × Int)) (ws : List (List Nat)) (i j room : Int) : nums (prs ws i j) room (wI ps) = ws.map (nOf ps i j room) := by
  unfold nums prs
  rw [List.map_map]
  rfl
theorem zip_map {ws : List (List Nat)} {f : List Nat → Int} : ws.zip (ws.map f) = ws.map fun w => (w, f w) := by
  induction ws with
  | nil => rfl
  | cons w ws ih => simp [ih]
theorem inj_of {ws : List (List Nat)} {f : List Nat → Int} (nd : (ws.map f).Nodup) {u w : List Nat} (hu : u ∈ ws) (hw : w ∈ ws) (e : f u = f w) : u = w := by
  induction ws with
  | nil => cases hu
  | cons x ws ih =>
    rw [List.map_cons] at nd
    obtain ⟨n1, n2⟩ := List.nodup_cons.mp nd
    rcases List.mem_cons.mp hu with a | a <;> rcases List.mem_cons.mp hw with b | b
    · rw [a, b]
    · subst a
      exact absurd (List.mem_map.mpr ⟨w, b, e.symm⟩) n1
    · subst b
      exact absurd (List.mem_map.mpr ⟨u, a, e⟩) n1
    · exact ih n2 a b
theorem fillR_sh : ∀ (zs : List (List Nat × Int)) (row : List D), row.all (sh 8) = true → (fillR row zs).all (sh 8) = true
  | [], _, h => h
  | z :: zs, row, h => fillR_sh zs _ (by
      rw [List.all_eq_true] at h ⊢
      intro x hx
      rcases List.mem_or_eq_of_mem_set hx with q | q
      · exact h x q
      · rw [q]
        rfl)
theorem rowL_sh2 (ws : List (List Nat)) (l : List Int) (room : Int) : (rowL ws l room).all (sh 8) = true := fillR_sh _ _ (by
  rw [List.all_eq_true]
  intro x hx
  rw [List.eq_of_mem_replicate hx]
  rfl)
section
variable {ws : List (List Nat)} {i j room : Int} {ps : List (Nat × Int)}
theorem nOf_in (hr : 1 ≤ room) (w : List Nat) : 0 ≤ nOf ps i j room w ∧ nOf ps i j room w < room := ⟨Int.emod_nonneg _ (by omega), Int.emod_lt_of_pos _ (by omega)⟩
/-- the row of these words -/
abbrev rowW (ws : List (List Nat)) (ps : List (Nat × Int)) (i j room : Int) : List D := rowL ws (nums (prs ws i j) room (wI ps)) room
theorem rowW_len : (rowW ws ps i j room).length = room.toNat := by
  unfold rowW rowL
  rw [fillR_len, List.length_replicate]
theorem rowW_hit (hr : 1 ≤ room) (nd : (nums (prs ws i j) room (wI ps)).Nodup) {w : List Nat} (hw : w ∈ ws) : (rowW ws ps i j room)[(nOf ps i j room w).toNat]? = some (.str w) := by
  unfold rowW rowL
  rw [nums_eq] at nd ⊢
  rw [zip_map]
  have hz : (w, nOf ps i j room w) ∈ ws.map fun w => (w, nOf ps i j room w) := List.mem_map.mpr ⟨w, hw, rfl⟩
  have nd2 := zip_nd (ws := ws) nd fun k hk => by
    obtain ⟨u, _, rfl⟩ := List.mem_map.mp hk
    exact (nOf_in hr u).1
  rw [zip_map] at nd2
  have := nOf_in (ps := ps) (i := i) (j := j) hr w
  exact fillR_hit hz nd2 (by rw [List.length_replicate]; show (nOf ps i j room w).toNat < _; omega)
theorem rowW_any (hr : 1 ≤ room) (nd : (nums (prs ws i j) room (wI ps)).Nodup) {p : Nat} (hp : p < room.toNat) : (rowW ws ps i j room)[p]? = some .non ∨ ∃ w ∈ ws, (nOf ps i j room w).toNat = p ∧ (rowW ws ps i j room)[p]? = some (.str w) := by
  by_cases h : ∃ w ∈ ws, (nOf ps i j room w).toNat = p
  · obtain ⟨w, hw, e⟩ := h
    refine .inr ⟨w, hw, e, ?_⟩
    rw [← e]
    exact rowW_hit hr nd hw
  · left
    unfold rowW rowL
    rw [nums_eq, zip_map, fillR_miss]
    · rw [List.getElem?_replicate, if_pos hp]
    · intro z hz e
      obtain ⟨w, hw, rfl⟩ := List.mem_map.mp hz
      exact h ⟨w, hw, e⟩
theorem rowW_ok (hr : 1 ≤ room) (nd : (nums (prs ws i j) room (wI ps)).Nodup) : rowOk (rowW ws ps i j room) room := by
  refine ⟨rowW_len, fun x hx => ?_⟩
  obtain ⟨p, hp, e⟩ := List.mem_iff_getElem.mp hx
  have hp' : p < room.toNat := by rw [← rowW_len (ws := ws) (ps := ps) (i := i) (j := j)]; exact hp
  have e2 : (rowW ws ps i j room)[p]? = some x := by rw [← e]; exact List.getElem?_eq_getElem hp
  rcases rowW_any hr nd hp' with q | ⟨w, _, _, q⟩
  · rw [q] at e2
    cases e2
    exact .inl rfl
  · rw [q] at e2
    cases e2
    exact .inr ⟨w, rfl⟩
theorem numOf_in (hall : ∀ c ∈ flat2 (prs ws i j), c ∈ ps.map (·.1)) {w : List Nat} (hw : w ∈ ws) : numOf ps i j room w = some (nOf ps i j room w) := by
  have hp : (letAt w i, letAt w j) ∈ prs ws i j := List.mem_map.mpr ⟨w, hw, rfl⟩
  unfold numOf
  rw [if_pos ⟨hall _ (mem_flat2.mpr ⟨_, hp, .inl rfl⟩), hall _ (mem_flat2.mpr ⟨_, hp, .inr rfl⟩)⟩]
  rfl
theorem askN_in (hr : 1 ≤ room) (nd : (nums (prs ws i j) room (wI ps)).Nodup) (hall : ∀ c ∈ flat2 (prs ws i j), c ∈ ps.map (·.1)) {w : List Nat} (hw : w ∈ ws) : askN ps i j room (rowW ws ps i j room) w = (some (nOf ps i j room w), 0) := by
  unfold askN
  rw [numOf_in hall hw]
  simp only [rowW_hit hr nd hw, if_true]
theorem eqD_non_str (w : List Nat) : eqD .non (.str w) = false := by simp [eqD, toPy, PyData.eqv]
theorem rowW_sh : sh 9 (.lst (rowW ws ps i j room)) = true := by
  have := rowL_sh2 ws (nums (prs ws i j) room (wI ps)) room
  simpa [sh] using this
theorem rowW_index (hr : 1 ≤ room) (nd : (nums (prs ws i j) room (wI ps)).Nodup) {w : List Nat} (hw : w ∈ ws) : pIndexL (.lst (rowW ws ps i j room)) [.str w] = some (.int (nOf ps i j room w)) := by
  have hn := nOf_in (ps := ps) (i := i) (j := j) hr w
  have hlt : (nOf ps i j room w).toNat < (rowW ws ps i j room).length := by
    rw [rowW_len]
    omega
  have hg : (rowW ws ps i j room)[(nOf ps i j room w).toNat] = .str w := by
    have := rowW_hit hr nd hw
    rw [List.getElem?_eq_getElem hlt] at this
    exact Option.some.inj this
  have hf : (rowW ws ps i j room).findIdx? (eqD · (.str w)) = some (nOf ps i j room w).toNat := by
    refine List.findIdx?_eq_some_iff_getElem.mpr ⟨hlt, by rw [hg, eqD_str, decide_eq_true rfl], fun p hp => ?_⟩
    have hp' : p < room.toNat := by omega
    have hp2 : p < (rowW ws ps i j room).length := Nat.lt_trans hp hlt
    rcases rowW_any hr nd hp' with q | ⟨u, hu, e, q⟩
    · rw [List.getElem?_eq_getElem hp2] at q
      rw [Option.some.inj q, eqD_non_str]
      decide
    · rw [List.getElem?_eq_getElem hp2] at q
      rw [Option.some.inj q, eqD_str]
      have : u ≠ w := fun z => by
        subst z
        omega
      simp [this]
  show (if sh 9 (.lst (rowW ws ps i j room)) = true ∧ sh 9 (.str w) = true then ((rowW ws ps i j room).findIdx? (eqD · (.str w))).map fun k => D.int (k : Nat) else none) = _
  rw [if_pos ⟨rowW_sh, rfl⟩, hf, Option.map_some]
  congr 2
  omega
end
theorem eqv_row : ∀ l : List D, (∀ x ∈ l, x = .non ∨ ∃ u, x = .str u) → PyData.eqvAll (toPys l) (toPys l) = true
  | [], _ => by simp [toPys, PyData.eqvAll]
  | x :: l, h => by
    have ih := eqv_row l fun y hy => h y (List.mem_cons_of_mem _ hy)
    have hx : PyData.eqv (toPy x) (toPy x) = true := by
      rcases h x List.mem_cons_self with e | ⟨u, e⟩
      · subst e
        decide +kernel
      · subst e
        have : PyData.eqv (toPy (.str u)) (toPy (.str u)) = decide (u = u) := eqD_str u u
        rw [this, decide_eq_true rfl]
    simp only [toPys, PyData.eqvAll, hx, ih, Bool.and_self]
theorem eq_row {l : List D} (h : ∀ x ∈ l, x = .non ∨ ∃ u, x = .str u) : eqD (.lst l) (.lst l) = true := by
  have := eqv_row l h
  simpa [eqD, toPy, PyData.eqv] using this
end PB

namespace PB
open PySem PySem.Spec PyProof.Rows L2 DL MP MB PN
theorem seq_nx {a b : SM} {ρ ρ' : Ev} {S S' : Store} (h : a ρ S = .nx ρ' S') : sSeq a b ρ S = b ρ' S' := by
  simp only [sSeq, h, SOut.bind]
abbrev o (d : D) : Option Val := some (.dat d)
def cD (qs : List (List Nat × Int)) : D := .tup [.int (PB.cnt qs 0 : Nat), .int (PB.cnt qs 1 : Nat), .int (PB.cnt qs 2 : Nat)]
section
variable {S : Store} {k a b : Nat} {ws : List (List Nat)} {i j room : Int} {ps : List (Nat × Int)} {row : List D} {qs : List (List Nat × Int)}
theorem e_counts (h : Bk S k a b i j room ps row (pastL qs)) (hl : qs.length ≤ 1000) {m : EM} {ρ : Ev} (hm : m ρ S = .ok (.ptr k) S) : eMth 15 1 "counts" d_Book_counts m aNil ρ S = .ok (.dat (cD qs)) S := by
  have ob := h.ob
  have f2 := bk_m3 (.dat (lkD i j)) (.dat (.int room)) (.dat (.dct (bkD ps))) (.ptr a) (.ptr b)
  have e := p_counts h hl
  generalize bkF (.dat (lkD i j)) (.dat (.int room)) (.dat (.dct (bkD ps))) (.ptr a) (.ptr b) = fs at ob f2
  simp [eMth, fnOf, env0, sSeq, SOut.bind, sRet, sRetN, sOf, sIf, sNil, sExpr, sSet, sRaise, eAnd, eOr, eNot, bAnd, bOr, bNot, eOp1, op1, eOp2, op2, eOpN, opN, eVar, eC, deref, derefs, Out.bind, asB, toB, ofB, cut_dat, cutS_self, cutS_head0, cutS_one, cutS_none, eChain, eTup, eLst, dats, aNil, aCons, eCall, eIf, pOne, pTwo, hm, objAt, ob, f2, e, cD]
theorem e_ask (h : Bk S k a b i j room ps row (pastL qs)) (hr : 1 ≤ room) (hrow : rowOk row room) {w : List Nat} (hw : goodW w) (hp : qs.length < 1000) {m n : EM} {ρ : Ev} (hm : m ρ S = .ok (.ptr k) S) (hn : n ρ S = .ok (.dat (.str w)) S) :
    eMth 15 2 "ask" d_Book_ask m (aCons n aNil) ρ S = .ok (.dat (optD (askN ps i j room row w).1)) (S.set b (.lst (pastL (qs ++ [(w, (askN ps i j room row w).2)])))) := by
  have ob := h.ob
  have f2 := bk_m2 (.dat (lkD i j)) (.dat (.int room)) (.dat (.dct (bkD ps))) (.ptr a) (.ptr b)
  have e := p_ask h hr hrow w hw (by unfold pastL; rw [List.length_map]; exact hp)
  have e2 : pastL qs ++ [pastD w (askN ps i j room row w).2] = pastL (qs ++ [(w, (askN ps i j room row w).2)]) := by
    unfold pastL
    rw [List.map_append]
    rfl
  rw [e2] at e
  generalize bkF (.dat (lkD i j)) (.dat (.int room)) (.dat (.dct (bkD ps))) (.ptr a) (.ptr b) = fs at ob f2
  simp [eMth, fnOf, env0, sSeq, SOut.bind, sRet, sRetN, sOf, sIf, sNil, sExpr, sSet, sRaise, eAnd, eOr, eNot, bAnd, bOr, bNot, eOp1, op1, eOp2, op2, eOpN, opN, eVar, eC, deref, derefs, Out.bind, asB, toB, ofB, cut_dat, cutS_self, cutS_head0, cutS_one, cutS_none, eChain, eTup, eLst, dats, aNil, aCons, eCall, eIf, pOne, pTwo, hm, hn, objAt, ob, f2, e]
theorem e_askbad {past : List D} (h : Bk S k a b i j room ps row past) {x : D} (h1 : okD x = true) (h2 : wordB x = false) {m n : EM} {ρ : Ev} (hm : m ρ S = .ok (.ptr k) S) (hn : n ρ S = .ok (.dat x) S) : eMth 15 2 "ask" d_Book_ask m (aCons n aNil) ρ S = .exc 4 S := by
  have ob := h.ob
  have f2 := bk_m2 (.dat (lkD i j)) (.dat (.int room)) (.dat (.dct (bkD ps))) (.ptr a) (.ptr b)
  have e := p_ask_bad (S := S) (k := k) x h1 h2
  generalize bkF (.dat (lkD i j)) (.dat (.int room)) (.dat (.dct (bkD ps))) (.ptr a) (.ptr b) = fs at ob f2
  simp [eMth, fnOf, env0, sSeq, SOut.bind, sRet, sRetN, sOf, sIf, sNil, sExpr, sSet, sRaise, eAnd, eOr, eNot, bAnd, bOr, bNot, eOp1, op1, eOp2, op2, eOpN, opN, eVar, eC, deref, derefs, Out.bind, asB, toB, ofB, cut_dat, cutS_self, cutS_head0, cutS_one, cutS_none, eChain, eTup, eLst, dats, aNil, aCons, eCall, eIf, pOne, pTwo, hm, hn, objAt, ob, f2, e]
theorem e_undo {w : List Nat} {c : Int} (h : Bk S k a b i j room ps row (pastL (qs ++ [(w, c)]))) {m : EM} {ρ : Ev} (hm : m ρ S = .ok (.ptr k) S) : eMth 15 1 "undo" d_Book_undo m aNil ρ S = .ok (.dat (.str w)) (S.set b (.lst (pastL qs))) := by
  have ob := h.ob
  have f2 := bk_m4 (.dat (lkD i j)) (.dat (.int room)) (.dat (.dct (bkD ps))) (.ptr a) (.ptr b)
  have e := p_undo h
  generalize bkF (.dat (lkD i j)) (.dat (.int room)) (.dat (.dct (bkD ps))) (.ptr a) (.ptr b) = fs at ob f2
  simp [eMth, fnOf, env0, sSeq, SOut.bind, sRet, sRetN, sOf, sIf, sNil, sExpr, sSet, sRaise, eAnd, eOr, eNot, bAnd, bOr, bNot, eOp1, op1, eOp2, op2, eOpN, opN, eVar, eC, deref, derefs, Out.bind, asB, toB, ofB, cut_dat, cutS_self, cutS_head0, cutS_one, cutS_none, eChain, eTup, eLst, dats, aNil, aCons, eCall, eIf, pOne, pTwo, hm, objAt, ob, f2, e]
theorem e_undo0 (h : Bk S k a b i j room ps row []) {m : EM} {ρ : Ev} (hm : m ρ S = .ok (.ptr k) S) : eMth 15 1 "undo" d_Book_undo m aNil ρ S = .exc 12 S := by
  have ob := h.ob
  have f2 := bk_m4 (.dat (lkD i j)) (.dat (.int room)) (.dat (.dct (bkD ps))) (.ptr a) (.ptr b)
  have e := p_undo0 h
  generalize bkF (.dat (lkD i j)) (.dat (.int room)) (.dat (.dct (bkD ps))) (.ptr a) (.ptr b) = fs at ob f2
  simp [eMth, fnOf, env0, sSeq, SOut.bind, sRet, sRetN, sOf, sIf, sNil, sExpr, sSet, sRaise, eAnd, eOr, eNot, bAnd, bOr, bNot, eOp1, op1, eOp2, op2, eOpN, opN, eVar, eC, deref, derefs, Out.bind, asB, toB, ofB, cut_dat, cutS_self, cutS_head0, cutS_one, cutS_none, eChain, eTup, eLst, dats, aNil, aCons, eCall, eIf, pOne, pTwo, hm, objAt, ob, f2, e]
end
section
variable {ws : List (List Nat)} {i j room : Int} {ps : List (Nat × Int)}
/-- a word is there just if it is one of the book's -/
theorem askN_some (hr : 1 ≤ room) (nd : (nums (prs ws i j) room (wI ps)).Nodup) (hall : ∀ c ∈ flat2 (prs ws i j), c ∈ ps.map (·.1)) (w : List Nat) : (askN ps i j room (rowW ws ps i j room) w).1.isSome = decide (w ∈ ws) := by
  by_cases h : w ∈ ws
  · rw [askN_in hr nd hall h, decide_eq_true h]
    rfl
  · rw [decide_eq_false h]
    unfold askN
    cases hn : numOf ps i j room w with
    | none => rfl
    | some n =>
      simp only
      cases hg : (rowW ws ps i j room)[n.toNat]? with
      | none => simp only [Option.isSome_none]
      | some d =>
        have hlt : n.toNat < room.toNat := by
          have := (List.getElem?_eq_some_iff.mp hg).1
          rw [rowW_len] at this
          exact this
        rcases rowW_any (ws := ws) (ps := ps) hr nd hlt with q | ⟨u, hu, _, q⟩
        · rw [q] at hg
          cases hg
          simp only [Option.isSome_none]
        · rw [q] at hg
          cases hg
          have : ¬ u = w := fun e => h (e ▸ hu)
          simp [this]
theorem askN_code (row : List D) (w : List Nat) : (askN ps i j room row w).2 = 0 ∨ (askN ps i j room row w).2 = 1 ∨ (askN ps i j room row w).2 = 2 := by
  unfold askN
  split
  · split
    · split
      · exact .inl rfl
      · exact .inr (.inl rfl)
    · exact .inr (.inr rfl)
  · exact .inr (.inr rfl)
end
theorem opt_isNot (x : Option Int) : pIsNot (optD x) .non = some (.bl x.isSome) := by
  cases x <;> rfl
theorem cnt_snoc (qs : List (List Nat × Int)) (w : List Nat) (c d : Int) : PB.cnt (qs ++ [(w, c)]) d = PB.cnt qs d + if c = d then 1 else 0 := by
  unfold PB.cnt
  rw [List.countP_append]
  by_cases h : c = d <;> simp [h]
theorem eq3 (a b c : Int) : pEq (.tup [.int a, .int b, .int c]) (.tup [.int a, .int b, .int c]) = some (.bl true) := by
  have e : eqD (.tup [.int a, .int b, .int c]) (.tup [.int a, .int b, .int c]) = (eqD (.int a) (.int a) && (eqD (.int b) (.int b) && (eqD (.int c) (.int c) && true))) := by
    simp [eqD, toPy, toPys, PyData.eqv, PyData.eqvAll]
  unfold pEq
  rw [if_pos (by constructor <;> rfl), e, eqD_int, eqD_int, eqD_int]
  simp
theorem cD_py (q : List (List Nat × Int)) : PyData.eqv (toPy (cD q)) (toPy (cD q)) = true := by
  have h : PyData.eqv (toPy (cD q)) (toPy (cD q)) = (eqD (.int (PB.cnt q 0 : Nat)) (.int (PB.cnt q 0 : Nat)) && (eqD (.int (PB.cnt q 1 : Nat)) (.int (PB.cnt q 1 : Nat)) && (eqD (.int (PB.cnt q 2 : Nat)) (.int (PB.cnt q 2 : Nat)) && true))) := by
    simp [cD, eqD, toPy, toPys, PyData.eqv, PyData.eqvAll]
  rw [h, eqD_int, eqD_int, eqD_int]
  simp
theorem eq_cD (q : List (List Nat × Int)) : pEq (cD q) (cD q) = some (.bl true) := eq3 _ _ _
theorem ne_snap (q r : List (List Nat × Int)) : pNe (.tup [cD q, cD r]) (.tup [cD q, cD r]) = some (.bl false) := by
  have e : eqD (.tup [cD q, cD r]) (.tup [cD q, cD r]) = (PyData.eqv (toPy (cD q)) (toPy (cD q)) && (PyData.eqv (toPy (cD r)) (toPy (cD r)) && true)) := by
    simp [eqD, toPy, toPys, PyData.eqv, PyData.eqvAll]
  unfold pNe
  rw [if_pos (by constructor <;> rfl), e, cD_py, cD_py]
  rfl
theorem sum_cD (q : List (List Nat × Int)) : pSumT (cD q) = some (.int ((PB.cnt q 0 : Nat) + ((PB.cnt q 1 : Nat) + ((PB.cnt q 2 : Nat) + 0)))) := rfl
theorem ne_intI (a b : Int) : pNe (.int a) (.int b) = some (.bl (!decide (a = b))) := by
  simp only [pNe, sh, eqD_int, and_self, if_true]
theorem ne_bools (a b : Bool) : pNe (.bl a) (.bl b) = some (.bl (a != b)) := by
  cases a <;> cases b <;> simp [pNe, sh, eqD, toPy, PyData.eqv]
theorem eq_nilL : pEq (.lst []) (.lst []) = some (.bl true) := by
  unfold pEq
  rw [if_pos (by decide), show eqD (.lst []) (.lst []) = true by decide +kernel]
theorem ne_nilL (l : List D) (h : sh 9 (.lst l) = true) : pNe (.lst l) (.lst []) = some (.bl (!l.isEmpty)) := by
  unfold pNe
  rw [if_pos ⟨h, rfl⟩]
  cases l <;> simp [eqD, toPy, toPys, PyData.eqv, PyData.eqvAll]
end PB

namespace PN
/-- the same within a room -/
def Cg (m a b : Int) : Prop := ∃ k, a - b = m * k
theorem Cg.refl (m a : Int) : Cg m a a := ⟨0, by omega⟩
theorem Cg.of_eq {m a b : Int} (h : a = b) : Cg m a b := h ▸ Cg.refl m a
theorem Cg.symm {m a b : Int} : Cg m a b → Cg m b a := fun ⟨k, h⟩ => ⟨-k, by rw [Int.mul_neg]; omega⟩
theorem Cg.trans {m a b c : Int} : Cg m a b → Cg m b c → Cg m a c := fun ⟨k, h⟩ ⟨l, g⟩ => ⟨k + l, by rw [Int.mul_add]; omega⟩
theorem Cg.add {m a b c d : Int} : Cg m a b → Cg m c d → Cg m (a + c) (b + d) := fun ⟨k, h⟩ ⟨l, g⟩ => ⟨k + l, by rw [Int.mul_add]; omega⟩
theorem Cg.sub {m a b c d : Int} : Cg m a b → Cg m c d → Cg m (a - c) (b - d) := fun ⟨k, h⟩ ⟨l, g⟩ => ⟨k - l, by rw [Int.mul_sub]; omega⟩
theorem Cg.mod (m a : Int) : Cg m (a % m) a := ⟨-(a / m), by have := Int.emod_add_mul_ediv a m; rw [Int.mul_neg]; omega⟩
theorem Cg.iff {m a b : Int} : Cg m a b ↔ a % m = b % m := by
  constructor
  · rintro ⟨k, h⟩
    have : a = b + m * k := by omega
    rw [this, Int.add_mul_emod_self_left]
  · intro h
    exact (Cg.mod m a).symm.trans ((Cg.of_eq h).trans (Cg.mod m b))
theorem Cg.small {m a b : Int} (h : Cg m a b) (a0 : 0 ≤ a) (a1 : a < m) (b0 : 0 ≤ b) (b1 : b < m) : a = b := by
  have := Cg.iff.mp h
  rwa [Int.emod_eq_of_lt a0 a1, Int.emod_eq_of_lt b0 b1] at this
theorem Cg.zero {m a : Int} : Cg m a 0 ↔ a % m = 0 := by
  rw [Cg.iff, Int.zero_emod]

/-- the number of a word -/
def nmb (ks : List Int) (k : Nat) : Int := (ks[k]?).getD 0
/-- a walk's end -/
def ledN (ks : List Int) (m : Int) (w : List Nat) (x : Int) : Int := w.foldl (fun h k => (nmb ks k - h) % m) x
def altN (ks : List Int) (w : List Nat) : Int := w.foldl (fun t k => nmb ks k - t) 0
inductive Walk (ps : List (Nat × Nat)) : Nat → List Nat → Nat → Prop
  | nil (a : Nat) : Walk ps a [] a
  | cons {a b c k : Nat} {w : List Nat} {p : Nat × Nat} : ps[k]? = some p → (a = p.1 ∧ c = p.2 ∨ a = p.2 ∧ c = p.1) → Walk ps c w b → Walk ps a (k :: w) b
theorem Walk.app {ps : List (Nat × Nat)} {a b c : Nat} {w v : List Nat} (h : Walk ps a w b) (g : Walk ps b v c) : Walk ps a (w ++ v) c := by
  induction h with
  | nil a => exact g
  | cons e o _ ih => exact .cons e o (ih g)
theorem Walk.one {ps : List (Nat × Nat)} {a b k : Nat} {p : Nat × Nat} (h : ps[k]? = some p) (o : a = p.1 ∧ b = p.2 ∨ a = p.2 ∧ b = p.1) : Walk ps a [k] b := .cons h o (.nil b)
theorem Walk.rev {ps : List (Nat × Nat)} {a b : Nat} {w : List Nat} (h : Walk ps a w b) : Walk ps b w.reverse a := by
  induction h with
  | nil a => exact .nil a
  | cons e o _ ih =>
    rw [List.reverse_cons]
    exact ih.app (.one e (by rcases o with ⟨h, g⟩ | ⟨h, g⟩; exact .inr ⟨g, h⟩; exact .inl ⟨g, h⟩))
theorem Walk.lt {ps : List (Nat × Nat)} {a b : Nat} {w : List Nat} (h : Walk ps a w b) : ∀ k ∈ w, k < ps.length := by
  induction h with
  | nil a => exact fun k h => nomatch h
  | cons e o _ ih =>
    intro k hk
    rcases List.mem_cons.mp hk with rfl | hk
    · exact (List.getElem?_eq_some_iff.mp e).1
    · exact ih k hk
theorem ledN_app (ks : List Int) (m : Int) (w v : List Nat) (x : Int) : ledN ks m (w ++ v) x = ledN ks m v (ledN ks m w x) := by
  unfold ledN
  rw [List.foldl_append]
theorem ledN_cons (ks : List Int) (m : Int) (k : Nat) (v : List Nat) (x : Int) : ledN ks m (k :: v) x = ledN ks m v ((nmb ks k - x) % m) := rfl
theorem ledN_in {ks : List Int} {m : Int} (hm : 0 < m) : ∀ {w : List Nat} {x : Int}, 0 ≤ x → x < m → 0 ≤ ledN ks m w x ∧ ledN ks m w x < m
  | [], x, h, g => ⟨h, g⟩
  | k :: w, x, h, g => ledN_in hm (w := w) (Int.emod_nonneg _ (by omega)) (Int.emod_lt_of_pos _ hm)
theorem ledN_cg {ks : List Int} {m : Int} : ∀ {w : List Nat} {x y : Int}, Cg m x y → Cg m (ledN ks m w x) (ledN ks m w y)
  | [], x, y, h => h
  | k :: w, x, y, h => ledN_cg (w := w) ((Cg.mod _ _).trans (((Cg.refl m _).sub h).trans (Cg.mod _ _).symm))
/-- there and back -/
theorem ledN_back {ks : List Int} {m : Int} : ∀ {w : List Nat} {x : Int}, Cg m (ledN ks m w.reverse (ledN ks m w x)) x
  | [], x => Cg.refl m x
  | k :: w, x => by
    rw [List.reverse_cons, ledN_app, ledN_cons, ledN_cons]
    have h := ledN_back (ks := ks) (m := m) (w := w) (x := (nmb ks k - x) % m)
    show Cg m ((nmb ks k - ledN ks m w.reverse (ledN ks m w ((nmb ks k - x) % m))) % m) x
    have h2 := (Cg.refl m (nmb ks k)).sub (h.trans (Cg.mod m (nmb ks k - x)))
    exact (Cg.mod _ _).trans (h2.trans (Cg.of_eq (by omega)))
theorem ledN_inj {ks : List Int} {m : Int} {w : List Nat} {x y : Int} (h : Cg m (ledN ks m w x) (ledN ks m w y)) : Cg m x y :=
  (ledN_back (w := w) (x := x)).symm.trans ((ledN_cg (w := w.reverse) h).trans (ledN_back (w := w) (x := y)))
/-- alternating sums -/
theorem altN_gen {ks : List Int} {m : Int} : ∀ {w : List Nat} {x t : Int} , Cg m (ledN ks m w x) ((w.foldl (fun t k => nmb ks k - t) t) + if w.length % 2 = 0 then x - t else t - x)
  | [], x, t => Cg.of_eq (by show x = t + (x - t); omega)
  | k :: w, x, t => by
    have h := altN_gen (ks := ks) (m := m) (w := w) (x := (nmb ks k - x) % m) (t := nmb ks k - t)
    rw [ledN_cons]
    refine h.trans ?_
    rw [List.foldl_cons, List.length_cons]
    refine (Cg.refl m _).add ?_
    have c := Cg.mod m (nmb ks k - x)
    by_cases e : w.length % 2 = 0
    · rw [if_pos e, if_neg (by omega)]
      exact (c.sub (Cg.refl m _)).trans (Cg.of_eq (by omega))
    · rw [if_neg e, if_pos (by omega)]
      exact ((Cg.refl m _).sub c).trans (Cg.of_eq (by omega))
theorem altN_led {ks : List Int} {m : Int} {w : List Nat} {x : Int} : Cg m (ledN ks m w x) (altN ks w + if w.length % 2 = 0 then x else -x) := by
  have := altN_gen (ks := ks) (m := m) (w := w) (x := x) (t := 0)
  refine this.trans (Cg.of_eq ?_)
  unfold altN
  split <;> omega
/-- a closed walk that leads back -/
theorem fix_even {ks : List Int} {m : Int} {w : List Nat} {x : Int} (e : w.length % 2 = 0) : Cg m (ledN ks m w x) x ↔ altN ks w % m = 0 := by
  have h := altN_led (ks := ks) (m := m) (w := w) (x := x)
  rw [if_pos e] at h
  rw [← Cg.zero]
  constructor
  · intro g
    exact ((h.symm.trans g).sub (Cg.refl m x)).symm.symm.trans (Cg.of_eq (by omega)) |> fun z => (Cg.of_eq (by omega)).trans z
  · intro g
    exact h.trans ((g.add (Cg.refl m x)).trans (Cg.of_eq (by omega)))
theorem fix_odd {ks : List Int} {m : Int} {w : List Nat} {x : Int} (e : w.length % 2 = 1) : Cg m (ledN ks m w x) x ↔ Cg m (altN ks w) (2 * x) := by
  have h := altN_led (ks := ks) (m := m) (w := w) (x := x)
  rw [if_neg (by omega)] at h
  constructor
  · intro g
    have := (h.symm.trans g).add (Cg.refl m x)
    exact (Cg.of_eq (by omega)).trans (this.trans (Cg.of_eq (by omega)))
  · intro g
    exact h.trans ((g.add (Cg.refl m (-x))).trans (Cg.of_eq (by omega)))

/-- worths f tell the numbers -/
def Sol (ps : List (Nat × Nat)) (m : Int) (ks : List Int) (f : Nat → Int) : Prop := ∀ k p, ps[k]? = some p → (f p.1 + f p.2) % m = nmb ks k
def InR (m : Int) (f : Nat → Int) : Prop := ∀ c, 0 ≤ f c ∧ f c < m
theorem Sol.led {ps : List (Nat × Nat)} {m : Int} {ks : List Int} {f : Nat → Int} (s : Sol ps m ks f) (r : InR m f) {a b : Nat} {w : List Nat} (h : Walk ps a w b) : ledN ks m w (f a) = f b := by
  induction h with
  | nil a => rfl
  | @cons a b c k w p e o _ ih =>
    have q := s k p e
    have step : (nmb ks k - f a) % m = f c := by
      have hc := r c
      refine Cg.small ((Cg.mod _ _).trans ?_) (Int.emod_nonneg _ (by omega)) (Int.emod_lt_of_pos _ (by omega)) hc.1 hc.2
      have z : Cg m (nmb ks k) (f a + f c) := by
        rw [← q]
        rcases o with ⟨h1, h2⟩ | ⟨h1, h2⟩
        · rw [h1, h2]
          exact Cg.mod _ _
        · rw [h1, h2]
          exact (Cg.mod _ _).trans (Cg.of_eq (by omega))
      exact (z.sub (Cg.refl m (f a))).trans (Cg.of_eq (by omega))
    rw [ledN_cons, step]
    exact ih
/-- what a piece is: its first letter, and a walk to each of its letters -/
structure Pc (ps : List (Nat × Nat)) (s : Nat) (fd : List (Nat × List Nat)) : Prop where
  hd : ∃ t, fd = (s, []) :: t
  nd : (fd.map (·.1)).Nodup
  wk : ∀ q ∈ fd, Walk ps s q.2 q.1
  cl : ∀ p ∈ ps, p.1 ∈ fd.map (·.1) ↔ p.2 ∈ fd.map (·.1)
  sub : ∀ c ∈ fd.map (·.1), c = s ∨ c ∈ flat2 ps
def wk (fd : List (Nat × List Nat)) (c : Nat) : List Nat := (lk fd c).getD []
theorem wk_of {ps : List (Nat × Nat)} {s : Nat} {fd : List (Nat × List Nat)} (h : Pc ps s fd) {c : Nat} (hc : c ∈ fd.map (·.1)) : lk fd c = some (wk fd c) ∧ Walk ps s (wk fd c) c := by
  obtain ⟨v, e⟩ := lk_some.mp hc
  unfold wk
  rw [e]
  exact ⟨rfl, h.wk _ (lk_mem e)⟩
/-- the closed walks of a piece -/
def closedG (fd : List (Nat × List Nat)) : Nat → List (Nat × Nat) → List (List Nat)
  | _, [] => []
  | k, p :: r => if p.1 ∈ fd.map (·.1) then (wk fd p.1 ++ [k] ++ (wk fd p.2).reverse) :: closedG fd (k + 1) r else closedG fd (k + 1) r
def closedN (ps : List (Nat × Nat)) (fd : List (Nat × List Nat)) : List (List Nat) := closedG fd 0 ps
theorem mem_closedG {fd : List (Nat × List Nat)} {w : List Nat} : ∀ {k : Nat} {r : List (Nat × Nat)}, w ∈ closedG fd k r ↔ ∃ (j : Nat) (p : Nat × Nat), r[j]? = some p ∧ p.1 ∈ fd.map (·.1) ∧ w = wk fd p.1 ++ [k + j] ++ (wk fd p.2).reverse
  | k, [] => by simp [closedG]
  | k, p :: r => by
    unfold closedG
    constructor
    · intro h
      split at h
      · rename_i hp
        rcases List.mem_cons.mp h with e | e
        · exact ⟨0, p, rfl, hp, by rw [e]; rfl⟩
        · obtain ⟨j, q, h1, h2, h3⟩ := mem_closedG.mp e
          exact ⟨j + 1, q, h1, h2, by rw [h3]; congr 3; omega⟩
      · obtain ⟨j, q, h1, h2, h3⟩ := mem_closedG.mp h
        exact ⟨j + 1, q, h1, h2, by rw [h3]; congr 3; omega⟩
    · rintro ⟨j, q, h1, h2, h3⟩
      cases j with
      | zero =>
        simp at h1
        subst h1
        rw [if_pos h2]
        exact List.mem_cons.mpr (.inl h3)
      | succ j =>
        have : w ∈ closedG fd (k + 1) r := mem_closedG.mpr ⟨j, q, by simpa using h1, h2, by rw [h3]; congr 3; omega⟩
        split
        · exact List.mem_cons_of_mem _ this
        · exact this
theorem mem_closed {ps : List (Nat × Nat)} {fd : List (Nat × List Nat)} {w : List Nat} : w ∈ closedN ps fd ↔ ∃ (k : Nat) (p : Nat × Nat), ps[k]? = some p ∧ p.1 ∈ fd.map (·.1) ∧ w = wk fd p.1 ++ [k] ++ (wk fd p.2).reverse := by
  unfold closedN
  rw [mem_closedG]
  simp only [Nat.zero_add]
/-- what the first letter can have -/
def Fix (ps : List (Nat × Nat)) (m : Int) (ks : List Int) (fd : List (Nat × List Nat)) (x : Int) : Prop := 0 ≤ x ∧ x < m ∧ ∀ w ∈ closedN ps fd, Cg m (ledN ks m w x) x
theorem closed_walk {ps : List (Nat × Nat)} {s : Nat} {fd : List (Nat × List Nat)} (h : Pc ps s fd) {w : List Nat} (hw : w ∈ closedN ps fd) : Walk ps s w s := by
  obtain ⟨k, p, h1, h2, rfl⟩ := mem_closed.mp hw
  have h3 := (h.cl p (List.mem_of_getElem? h1)).mp h2
  exact ((wk_of h h2).2.app (.one h1 (.inl ⟨rfl, rfl⟩))).app (wk_of h h3).2.rev
theorem Sol.fix {ps : List (Nat × Nat)} {m : Int} {ks : List Int} {f : Nat → Int} (s : Sol ps m ks f) (r : InR m f) {a : Nat} {fd : List (Nat × List Nat)} (h : Pc ps a fd) : Fix ps m ks fd (f a) :=
  ⟨(r a).1, (r a).2, fun w hw => Cg.of_eq (s.led r (closed_walk h hw))⟩
/-- such a worth tells the numbers of the piece -/
theorem fix_sol {ps : List (Nat × Nat)} {m : Int} {ks : List Int} {a : Nat} {fd : List (Nat × List Nat)} {x : Int} (h : Pc ps a fd) (fx : Fix ps m ks fd x) (hk : ∀ k, k < ps.length → 0 ≤ nmb ks k ∧ nmb ks k < m) {k : Nat} {p : Nat × Nat} (e : ps[k]? = some p) (hp : p.1 ∈ fd.map (·.1)) :
    (ledN ks m (wk fd p.1) x + ledN ks m (wk fd p.2) x) % m = nmb ks k := by
  obtain ⟨x0, x1, fx⟩ := fx
  have q := fx _ (mem_closed.mpr ⟨k, p, e, hp, rfl⟩)
  rw [ledN_app, ledN_app] at q
  have q2 := (ledN_cg (ks := ks) (w := wk fd p.2) q)
  have q3 := (ledN_back (ks := ks) (m := m) (w := (wk fd p.2).reverse) (x := ledN ks m [k] (ledN ks m (wk fd p.1) x)))
  rw [List.reverse_reverse] at q3
  have q4 := q3.symm.trans q2
  have q5 : Cg m (nmb ks k - ledN ks m (wk fd p.1) x) (ledN ks m (wk fd p.2) x) := (Cg.mod _ _).symm.trans q4
  obtain ⟨k0, k1⟩ := hk k (List.getElem?_eq_some_iff.mp e).1
  refine Cg.small ((Cg.mod _ _).trans ?_) (Int.emod_nonneg _ (by omega)) (Int.emod_lt_of_pos _ (by omega)) k0 k1
  exact ((q5.symm).add (Cg.refl m (ledN ks m (wk fd p.1) x))).trans (Cg.of_eq (by omega)) |> fun z => (Cg.of_eq (by omega)).trans z
/-- pieces of what is left -/
inductive Grp (ps : List (Nat × Nat)) : List Nat → List (Nat × List (Nat × List Nat)) → Prop
  | nil : Grp ps [] []
  | cons {s : Nat} {left : List Nat} {fd : List (Nat × List Nat)} {gs : List (Nat × List (Nat × List Nat))} : Pc ps s fd → Grp ps ((s :: left).filter fun c => decide (c ∉ fd.map (·.1))) gs → Grp ps (s :: left) ((s, fd) :: gs)
def valG (m : Int) (ks : List Int) : List (Nat × List (Nat × List Nat)) → List Int → Nat → Int
  | g :: gs, x :: xs, c => if c ∈ g.2.map (·.1) then ledN ks m (wk g.2 c) x else valG m ks gs xs c
  | _, _, _ => 0
/-- each of the rows lets its worths -/
inductive Fixes (ps : List (Nat × Nat)) (m : Int) (ks : List Int) : List (Nat × List (Nat × List Nat)) → List Int → Prop
  | nil : Fixes ps m ks [] []
  | cons {g : Nat × List (Nat × List Nat)} {gs : List (Nat × List (Nat × List Nat))} {x : Int} {xs : List Int} : Fix ps m ks g.2 x → Fixes ps m ks gs xs → Fixes ps m ks (g :: gs) (x :: xs)
theorem Fixes.len {ps : List (Nat × Nat)} {m : Int} {ks : List Int} {gs : List (Nat × List (Nat × List Nat))} {xs : List Int} (h : Fixes ps m ks gs xs) : xs.length = gs.length := by
  induction h with
  | nil => rfl
  | cons _ _ ih => rw [List.length_cons, List.length_cons, ih]
theorem Grp.cover {ps : List (Nat × Nat)} {left : List Nat} {gs : List (Nat × List (Nat × List Nat))} (h : Grp ps left gs) {c : Nat} (hc : c ∈ left) : ∃ g ∈ gs, c ∈ g.2.map (·.1) := by
  induction h with
  | nil => cases hc
  | @cons s left fd gs pc _ ih =>
    by_cases z : c ∈ fd.map (·.1)
    · exact ⟨_, List.mem_cons_self, z⟩
    · obtain ⟨g, h1, h2⟩ := ih (List.mem_filter.mpr ⟨hc, decide_eq_true z⟩)
      exact ⟨g, List.mem_cons_of_mem _ h1, h2⟩
theorem Grp.pc {ps : List (Nat × Nat)} {left : List Nat} {gs : List (Nat × List (Nat × List Nat))} (h : Grp ps left gs) : ∀ g ∈ gs, Pc ps g.1 g.2 := by
  induction h with
  | nil => exact fun g h => nomatch h
  | cons pc _ ih =>
    intro g hg
    rcases List.mem_cons.mp hg with rfl | hg
    · exact pc
    · exact ih g hg
theorem Grp.first {ps : List (Nat × Nat)} {left : List Nat} {gs : List (Nat × List (Nat × List Nat))} (h : Grp ps left gs) : ∀ g ∈ gs, g.1 ∈ left := by
  induction h with
  | nil => exact fun g h => nomatch h
  | cons pc _ ih =>
    intro g hg
    rcases List.mem_cons.mp hg with rfl | hg
    · exact List.mem_cons_self
    · exact (List.mem_filter.mp (ih g hg)).1
theorem Sol.fixes {ps : List (Nat × Nat)} {m : Int} {ks : List Int} {f : Nat → Int} (s : Sol ps m ks f) (r : InR m f) : ∀ {gs : List (Nat × List (Nat × List Nat))}, (∀ g ∈ gs, Pc ps g.1 g.2) → Fixes ps m ks gs (gs.map fun g => f g.1)
  | [], _ => .nil
  | g :: gs, h => .cons (s.fix r (h g List.mem_cons_self)) (Sol.fixes s r fun q hq => h q (List.mem_cons_of_mem _ hq))
theorem Sol.val {ps : List (Nat × Nat)} {m : Int} {ks : List Int} {f : Nat → Int} (s : Sol ps m ks f) (r : InR m f) {c : Nat} : ∀ {gs : List (Nat × List (Nat × List Nat))}, (∀ g ∈ gs, Pc ps g.1 g.2) → (∃ g ∈ gs, c ∈ g.2.map (·.1)) → valG m ks gs (gs.map fun g => f g.1) c = f c
  | [], _, h => by
    obtain ⟨_, h, _⟩ := h
    cases h
  | g :: gs, h, hc => by
    show (if c ∈ g.2.map (·.1) then ledN ks m (wk g.2 c) (f g.1) else valG m ks gs (gs.map fun g => f g.1) c) = _
    split
    · rename_i z
      exact s.led r (wk_of (h g List.mem_cons_self) z).2
    · rename_i z
      refine Sol.val s r (fun q hq => h q (List.mem_cons_of_mem _ hq)) ?_
      obtain ⟨q, h1, h2⟩ := hc
      rcases List.mem_cons.mp h1 with rfl | h1
      · exact absurd h2 z
      · exact ⟨q, h1, h2⟩
theorem valG_in {m : Int} {ks : List Int} (hm : 0 < m) {c : Nat} : ∀ {gs : List (Nat × List (Nat × List Nat))} {xs : List Int}, (∀ x ∈ xs, 0 ≤ x ∧ x < m) → 0 ≤ valG m ks gs xs c ∧ valG m ks gs xs c < m
  | [], _, _ => ⟨Int.le_refl _, hm⟩
  | _ :: _, [], _ => ⟨Int.le_refl _, hm⟩
  | g :: gs, x :: xs, h => by
    show 0 ≤ (if c ∈ g.2.map (·.1) then ledN ks m (wk g.2 c) x else valG m ks gs xs c) ∧ (if c ∈ g.2.map (·.1) then ledN ks m (wk g.2 c) x else valG m ks gs xs c) < m
    split
    · exact ledN_in hm (h x List.mem_cons_self).1 (h x List.mem_cons_self).2
    · exact valG_in hm fun y hy => h y (List.mem_cons_of_mem _ hy)
theorem Fixes.sol {ps : List (Nat × Nat)} {m : Int} {ks : List Int} (hk : ∀ k, k < ps.length → 0 ≤ nmb ks k ∧ nmb ks k < m) {k : Nat} {p : Nat × Nat} (e : ps[k]? = some p) : ∀ {gs : List (Nat × List (Nat × List Nat))} {xs : List Int}, (∀ g ∈ gs, Pc ps g.1 g.2) → Fixes ps m ks gs xs → (∃ g ∈ gs, p.1 ∈ g.2.map (·.1)) →
    (valG m ks gs xs p.1 + valG m ks gs xs p.2) % m = nmb ks k
  | [], _, _, _, h => by
    obtain ⟨_, h, _⟩ := h
    cases h
  | g :: gs, _, h, .cons (x := x) (xs := xs) fx fs, hc => by
    have pc := h g List.mem_cons_self
    have cl := pc.cl p (List.mem_of_getElem? e)
    show ((if p.1 ∈ g.2.map (·.1) then ledN ks m (wk g.2 p.1) x else valG m ks gs xs p.1) + (if p.2 ∈ g.2.map (·.1) then ledN ks m (wk g.2 p.2) x else valG m ks gs xs p.2)) % m = _
    by_cases z : p.1 ∈ g.2.map (·.1)
    · rw [if_pos z, if_pos (cl.mp z)]
      exact fix_sol pc fx hk e z
    · rw [if_neg z, if_neg (fun y => z (cl.mpr y))]
      refine Fixes.sol hk e (fun q hq => h q (List.mem_cons_of_mem _ hq)) fs ?_
      obtain ⟨q, h1, h2⟩ := hc
      rcases List.mem_cons.mp h1 with rfl | h1
      · exact absurd h2 z
      · exact ⟨q, h1, h2⟩
/-- ahead of another list -/
def LL : List Int → List Int → Prop
  | x :: xs, y :: ys => x < y ∨ (x = y ∧ LL xs ys)
  | _, _ => False
theorem LL.irr : ∀ {xs : List Int}, ¬ LL xs xs
  | [], h => h
  | x :: xs, h => h.elim (fun z => by omega) fun z => LL.irr z.2
theorem LL.trans : ∀ {xs ys zs : List Int}, LL xs ys → LL ys zs → LL xs zs
  | [], _, _, h, _ => h.elim
  | _ :: _, [], _, h, _ => h.elim
  | _ :: _, _ :: _, [], _, h => h.elim
  | x :: xs, y :: ys, z :: zs, h, g => by
    rcases h with h | ⟨rfl, h⟩ <;> rcases g with g | ⟨rfl, g⟩
    · exact .inl (by omega)
    · exact .inl h
    · exact .inl g
    · exact .inr ⟨rfl, h.trans g⟩
theorem LL.tot : ∀ {xs ys : List Int}, xs.length = ys.length → LL xs ys ∨ xs = ys ∨ LL ys xs
  | [], [], _ => .inr (.inl rfl)
  | [], _ :: _, h => by cases h
  | _ :: _, [], h => by cases h
  | x :: xs, y :: ys, h => by
    rcases Int.lt_trichotomy x y with z | rfl | z
    · exact .inl (.inl z)
    · rcases LL.tot (xs := xs) (ys := ys) (by simpa using h) with q | q | q
      · exact .inl (.inr ⟨rfl, q⟩)
      · exact .inr (.inl (by rw [q]))
      · exact .inr (.inr (.inr ⟨rfl, q⟩))
    · exact .inr (.inr (.inl z))
/-- lists that rise, of the same things, are the same -/
theorem rise_ext {α : Type} {R : α → α → Prop} (irr : ∀ x, ¬ R x x) (tr : ∀ x y z, R x y → R y z → R x z) : ∀ {l m : List α}, l.Pairwise R → m.Pairwise R → (∀ x, x ∈ l ↔ x ∈ m) → l = m
  | [], [], _, _, _ => rfl
  | [], b :: m, _, _, h => absurd ((h b).mpr List.mem_cons_self) (by simp)
  | a :: l, [], _, _, h => absurd ((h a).mp List.mem_cons_self) (by simp)
  | a :: l, b :: m, hl, hm, h => by
    obtain ⟨l1, l2⟩ := List.pairwise_cons.mp hl
    obtain ⟨m1, m2⟩ := List.pairwise_cons.mp hm
    have e : a = b := by
      rcases List.mem_cons.mp ((h a).mp List.mem_cons_self) with q | q
      · exact q
      · rcases List.mem_cons.mp ((h b).mpr List.mem_cons_self) with r | r
        · exact r.symm
        · exact absurd (tr _ _ _ (l1 b r) (m1 a q)) (irr a)
    subst e
    congr 1
    refine rise_ext irr tr l2 m2 fun x => ?_
    constructor
    · intro hx
      rcases List.mem_cons.mp ((h x).mp (List.mem_cons_of_mem _ hx)) with q | q
      · subst q
        exact absurd (l1 x hx) (irr x)
      · exact q
    · intro hx
      rcases List.mem_cons.mp ((h x).mpr (List.mem_cons_of_mem _ hx)) with q | q
      · subst q
        exact absurd (m1 x hx) (irr x)
      · exact q
/-- one of each row, rising -/
def prodL : List (List Int) → List (List Int)
  | [] => [[]]
  | r :: rs => r.flatMap fun x => (prodL rs).map (x :: ·)
inductive Picks : List (List Int) → List Int → Prop
  | nil : Picks [] []
  | cons {r : List Int} {rs : List (List Int)} {x : Int} {xs : List Int} : x ∈ r → Picks rs xs → Picks (r :: rs) (x :: xs)
theorem mem_prodL : ∀ {rs : List (List Int)} {xs : List Int}, xs ∈ prodL rs ↔ Picks rs xs
  | [], xs => by
    simp only [prodL, List.mem_singleton]
    constructor
    · rintro rfl
      exact .nil
    · rintro ⟨⟩
      rfl
  | r :: rs, xs => by
    simp only [prodL, List.mem_flatMap, List.mem_map]
    constructor
    · rintro ⟨x, hx, ys, hy, rfl⟩
      exact .cons hx (mem_prodL.mp hy)
    · rintro (_ | ⟨hx, hy⟩)
      exact ⟨_, hx, _, mem_prodL.mpr hy, rfl⟩
theorem prodL_rise : ∀ {rs : List (List Int)}, (∀ r ∈ rs, r.Pairwise (· < ·)) → (prodL rs).Pairwise LL
  | [], _ => List.pairwise_singleton _ _
  | r :: rs, h => by
    have ih := prodL_rise (rs := rs) fun q hq => h q (List.mem_cons_of_mem _ hq)
    have hr := h r List.mem_cons_self
    simp only [prodL]
    rw [List.pairwise_flatMap]
    refine ⟨fun x _ => ?_, hr.imp fun {x y} hxy => ?_⟩
    · rw [List.pairwise_map]
      exact ih.imp fun q => .inr ⟨rfl, q⟩
    · intro a ha b hb
      obtain ⟨a', _, rfl⟩ := List.mem_map.mp ha
      obtain ⟨b', _, rfl⟩ := List.mem_map.mp hb
      exact .inl hxy
theorem prodL_len : ∀ rs : List (List Int), (prodL rs).length = (rs.map (·.length)).foldr (· * ·) 1
  | [] => rfl
  | r :: rs => by
    have ih := prodL_len rs
    simp only [prodL, List.length_flatMap, List.length_map, List.map_cons, List.foldr_cons, ih]
    induction r with
    | nil => simp
    | cons x r ihr =>
      simp only [List.map_cons, List.sum_cons, List.length_cons, ihr, Nat.add_mul, Nat.one_mul]
      omega
/-- the line of worths rises with what is picked -/
theorem Grp.mono {ps : List (Nat × Nat)} {left : List Nat} {gs : List (Nat × List (Nat × List Nat))} (m : Int) (ks : List Int) (h : Grp ps left gs) (hl : left.Pairwise (· < ·)) : ∀ {xs ys : List Int}, xs.length = gs.length → ys.length = gs.length → LL xs ys →
    ∃ c ∈ left, valG m ks gs xs c < valG m ks gs ys c ∧ ∀ d ∈ left, d < c → valG m ks gs xs d = valG m ks gs ys d := by
  induction h with
  | nil =>
    intro xs ys h1 h2 h3
    cases xs with
    | nil => exact h3.elim
    | cons => cases h1
  | @cons s left fd gs pc _ ih =>
    intro xs ys h1 h2 h3
    cases xs with
    | nil => exact h3.elim
    | cons x xs =>
      cases ys with
      | nil => exact h3.elim
      | cons y ys =>
        obtain ⟨l1, l2⟩ := List.pairwise_cons.mp hl
        rcases h3 with z | ⟨rfl, z⟩
        · refine ⟨s, List.mem_cons_self, ?_, fun d hd hlt => ?_⟩
          · obtain ⟨t, e⟩ := pc.hd
            have hs : s ∈ fd.map (·.1) := by rw [e]; exact List.mem_cons_self
            have hw : wk fd s = [] := by
              rw [e]
              simp [wk, lk]
            show (if s ∈ fd.map (·.1) then ledN ks m (wk fd s) x else valG m ks gs xs s) < (if s ∈ fd.map (·.1) then ledN ks m (wk fd s) y else valG m ks gs ys s)
            rw [if_pos hs, if_pos hs, hw]
            exact z
          · rcases List.mem_cons.mp hd with rfl | hd
            · omega
            · have := l1 d hd
              omega
        · obtain ⟨c, hc, q1, q2⟩ := ih (hl.filter _) (by simpa using h1) (by simpa using h2) z
          obtain ⟨c1, c2⟩ := List.mem_filter.mp hc
          have c3 : c ∉ fd.map (·.1) := of_decide_eq_true c2
          refine ⟨c, c1, ?_, fun d hd hlt => ?_⟩
          · show (if c ∈ fd.map (·.1) then ledN ks m (wk fd c) x else valG m ks gs xs c) < (if c ∈ fd.map (·.1) then ledN ks m (wk fd c) x else valG m ks gs ys c)
            rw [if_neg c3, if_neg c3]
            exact q1
          · show (if d ∈ fd.map (·.1) then ledN ks m (wk fd d) x else valG m ks gs xs d) = (if d ∈ fd.map (·.1) then ledN ks m (wk fd d) x else valG m ks gs ys d)
            split
            · rfl
            · rename_i dn
              exact q2 d (List.mem_filter.mpr ⟨hd, decide_eq_true dn⟩) hlt
theorem LL.of {f g : Nat → Int} : ∀ {left : List Nat}, left.Pairwise (· < ·) → (∃ c ∈ left, f c < g c ∧ ∀ d ∈ left, d < c → f d = g d) → LL (left.map f) (left.map g)
  | [], _, h => by
    obtain ⟨_, h, _⟩ := h
    cases h
  | s :: left, hl, ⟨c, hc, h1, h2⟩ => by
    obtain ⟨l1, l2⟩ := List.pairwise_cons.mp hl
    rcases List.mem_cons.mp hc with rfl | hc
    · exact .inl h1
    · refine .inr ⟨h2 s List.mem_cons_self (l1 c hc), LL.of l2 ⟨c, hc, h1, fun d hd => h2 d (List.mem_cons_of_mem _ hd)⟩⟩
/-- all lists of so many worths, rising -/
def allL (m : Nat) : Nat → List (List Int)
  | 0 => [[]]
  | n + 1 => (allL m n).flatMap fun l => (List.range m).map fun (x : Nat) => l ++ [(x : Int)]
theorem LL.snoc : ∀ {xs ys : List Int} {a b : Int}, xs.length = ys.length → LL xs ys → LL (xs ++ [a]) (ys ++ [b])
  | [], _, _, _, _, h => h.elim
  | _ :: _, [], _, _, _, h => h.elim
  | x :: xs, y :: ys, a, b, e, h => h.elim .inl fun z => .inr ⟨z.1, LL.snoc (by simpa using e) z.2⟩
theorem LL.last : ∀ {xs : List Int} {a b : Int}, a < b → LL (xs ++ [a]) (xs ++ [b])
  | [], _, _, h => .inl h
  | _ :: _, _, _, h => .inr ⟨rfl, LL.last h⟩
theorem mem_allL {m : Nat} : ∀ {n : Nat} {xs : List Int}, xs ∈ allL m n ↔ xs.length = n ∧ ∀ x ∈ xs, 0 ≤ x ∧ x < m
  | 0, xs => by
    simp only [allL, List.mem_singleton]
    constructor
    · rintro rfl
      exact ⟨rfl, fun x h => nomatch h⟩
    · rintro ⟨h, _⟩
      exact List.length_eq_zero_iff.mp h
  | n + 1, xs => by
    simp only [allL, List.mem_flatMap, List.mem_map, List.mem_range]
    constructor
    · rintro ⟨l, hl, x, hx, rfl⟩
      obtain ⟨h1, h2⟩ := mem_allL.mp hl
      refine ⟨by rw [List.length_append, h1]; rfl, fun y hy => ?_⟩
      rcases List.mem_append.mp hy with hy | hy
      · exact h2 y hy
      · rw [List.mem_singleton.mp hy]
        omega
    · rintro ⟨h1, h2⟩
      have hne : xs ≠ [] := fun z => by rw [z] at h1; cases h1
      refine ⟨xs.dropLast, mem_allL.mpr ⟨by rw [List.length_dropLast, h1]; rfl, fun x hx => h2 x ((List.dropLast_sublist xs).subset hx)⟩, (xs.getLast hne).toNat, ?_, ?_⟩
      · have := h2 _ (List.getLast_mem hne)
        omega
      · have := h2 _ (List.getLast_mem hne)
        rw [Int.toNat_of_nonneg this.1]
        exact List.dropLast_concat_getLast hne
theorem allL_rise {m : Nat} : ∀ n : Nat, (allL m n).Pairwise LL
  | 0 => List.pairwise_singleton _ _
  | n + 1 => by
    have ih := allL_rise (m := m) n
    simp only [allL]
    rw [List.pairwise_flatMap]
    refine ⟨fun l _ => ?_, ?_⟩
    · rw [List.pairwise_map]
      exact List.pairwise_lt_range.imp fun {a b} h => LL.last (by omega)
    · refine List.Pairwise.imp_of_mem ?_ ih
      intro a b ha hb h x hx y hy
      obtain ⟨u, _, rfl⟩ := List.mem_map.mp hx
      obtain ⟨v, _, rfl⟩ := List.mem_map.mp hy
      exact LL.snoc (by rw [(mem_allL.mp ha).1, (mem_allL.mp hb).1]) h
end PN

namespace PN
inductive RowsOk (ps : List (Nat × Nat)) (m : Int) (ks : List Int) : List (Nat × List (Nat × List Nat)) → List (List Int) → Prop
  | nil : RowsOk ps m ks [] []
  | cons {g : Nat × List (Nat × List Nat)} {gs : List (Nat × List (Nat × List Nat))} {r : List Int} {rs : List (List Int)} : (∀ x, x ∈ r ↔ Fix ps m ks g.2 x) → r.Pairwise (· < ·) → RowsOk ps m ks gs rs → RowsOk ps m ks (g :: gs) (r :: rs)
theorem RowsOk.picks {ps : List (Nat × Nat)} {m : Int} {ks : List Int} {gs : List (Nat × List (Nat × List Nat))} {rs : List (List Int)} (h : RowsOk ps m ks gs rs) : ∀ {xs : List Int}, Picks rs xs ↔ Fixes ps m ks gs xs := by
  induction h with
  | nil =>
    intro xs
    constructor
    · rintro ⟨⟩
      exact .nil
    · rintro ⟨⟩
      exact .nil
  | cons e _ _ ih =>
    intro xs
    constructor
    · rintro (_ | ⟨hx, hy⟩)
      exact .cons ((e _).mp hx) (ih.mp hy)
    · rintro (_ | ⟨hx, hy⟩)
      exact .cons ((e _).mpr hx) (ih.mpr hy)
theorem RowsOk.rise {ps : List (Nat × Nat)} {m : Int} {ks : List Int} {gs : List (Nat × List (Nat × List Nat))} {rs : List (List Int)} (h : RowsOk ps m ks gs rs) : ∀ r ∈ rs, r.Pairwise (· < ·) := by
  induction h with
  | nil => exact fun r h => nomatch h
  | cons _ p _ ih =>
    intro r hr
    rcases List.mem_cons.mp hr with rfl | hr
    · exact p
    · exact ih r hr
theorem RowsOk.len {ps : List (Nat × Nat)} {m : Int} {ks : List Int} {gs : List (Nat × List (Nat × List Nat))} {rs : List (List Int)} (h : RowsOk ps m ks gs rs) : rs.length = gs.length := by
  induction h with
  | nil => rfl
  | cons _ _ _ ih => rw [List.length_cons, List.length_cons, ih]
theorem Fixes.dom {ps : List (Nat × Nat)} {m : Int} {ks : List Int} {gs : List (Nat × List (Nat × List Nat))} {xs : List Int} (h : Fixes ps m ks gs xs) : ∀ x ∈ xs, 0 ≤ x ∧ x < m := by
  induction h with
  | nil => exact fun x h => nomatch h
  | cons f _ ih =>
    intro x hx
    rcases List.mem_cons.mp hx with rfl | hx
    · exact ⟨f.1, f.2.1⟩
    · exact ih x hx
theorem wI_zip : ∀ {L : List Nat} {l : List Int}, L.Nodup → l.length = L.length → L.map (wI (L.zip l)) = l
  | [], [], _, _ => rfl
  | [], _ :: _, _, h => by cases h
  | _ :: _, [], _, h => by cases h
  | c :: L, x :: l, nd, h => by
    obtain ⟨n1, n2⟩ := List.nodup_cons.mp nd
    have ih := wI_zip (L := L) (l := l) n2 (by simpa using h)
    have hx : wI ((c, x) :: L.zip l) c = x := by simp [wI, lk]
    rw [List.zip_cons_cons, List.map_cons, hx]
    congr 1
    refine Eq.trans (List.map_congr_left fun d hd => ?_) ih
    have : ¬ c = d := fun e => n1 (e ▸ hd)
    simp [wI, lk, List.find?_cons, this]
theorem wI_in {m : Int} (hm : 0 < m) {ps : List (Nat × Int)} (h : ∀ p ∈ ps, 0 ≤ p.2 ∧ p.2 < m) : InR m (wI ps) := fun c => by
  unfold wI
  cases e : lk ps c with
  | none => exact ⟨Int.le_refl _, hm⟩
  | some v => exact h _ (lk_mem e)
theorem nums_sol {ps : List (Nat × Nat)} {m : Int} {ks : List Int} {f : Nat → Int} (hl : ks.length = ps.length) : nums ps m f = ks ↔ Sol ps m ks f := by
  unfold nums Sol nmb
  constructor
  · intro h k p e
    have : (ps.map fun p => (f p.1 + f p.2) % m)[k]? = some ((f p.1 + f p.2) % m) := by rw [List.getElem?_map, e]; rfl
    rw [h] at this
    rw [this]
    rfl
  · intro h
    apply List.ext_getElem?
    intro k
    rw [List.getElem?_map]
    cases e : ps[k]? with
    | none =>
      rw [List.getElem?_eq_none_iff] at e
      rw [Option.map_none, eq_comm, List.getElem?_eq_none_iff]
      omega
    | some p =>
      have hk : k < ks.length := by
        have := (List.getElem?_eq_some_iff.mp e).1
        omega
      have := h k p e
      rw [List.getElem?_eq_getElem hk] at this ⊢
      rw [Option.map_some, this]
      rfl
/-- numbers within the room -/
def NOk (ps : List (Nat × Nat)) (m : Int) (ks : List Int) : Prop := ks.length = ps.length ∧ ∀ k ∈ ks, 0 ≤ k ∧ k < m
theorem NOk.at {ps : List (Nat × Nat)} {m : Int} {ks : List Int} (h : NOk ps m ks) : ∀ k, k < ps.length → 0 ≤ nmb ks k ∧ nmb ks k < m := fun k hk => by
  have hk' : k < ks.length := by rw [h.1]; exact hk
  unfold nmb
  rw [List.getElem?_eq_getElem hk']
  exact h.2 _ (List.getElem_mem hk')
theorem flat_ltrs {ps : List (Nat × Nat)} {k : Nat} {p : Nat × Nat} (e : ps[k]? = some p) : p.1 ∈ ltrs ps ∧ p.2 ∈ ltrs ps :=
  ⟨mem_srt.mpr (mem_flat2.mpr ⟨p, List.mem_of_getElem? e, .inl rfl⟩), mem_srt.mpr (mem_flat2.mpr ⟨p, List.mem_of_getElem? e, .inr rfl⟩)⟩
/-- lines of worths that tell the numbers -/
def isS (ps : List (Nat × Nat)) (m : Int) (ks : List Int) (l : List Int) : Bool := decide (nums ps m (wI ((ltrs ps).zip l)) = ks)
def sols (ps : List (Nat × Nat)) (m : Int) (ks : List Int) : List (List Int) := (allL m.toNat (ltrs ps).length).filter (isS ps m ks)
theorem ltrs_nd (ps : List (Nat × Nat)) : (ltrs ps).Nodup := (srt_lt _).imp fun h => by omega
theorem zip_dom {m : Int} {L : List Nat} {l : List Int} (h : ∀ x ∈ l, 0 ≤ x ∧ x < m) : ∀ p ∈ L.zip l, 0 ≤ p.2 ∧ p.2 < m := fun p hp => h _ (List.of_mem_zip hp).2
theorem sol_congr {ps : List (Nat × Nat)} {m : Int} {ks : List Int} {f g : Nat → Int} (h : ∀ c ∈ ltrs ps, f c = g c) (s : Sol ps m ks f) : Sol ps m ks g := fun k p e => by
  obtain ⟨h1, h2⟩ := flat_ltrs e
  rw [← h _ h1, ← h _ h2]
  exact s k p e
theorem mem_sols {ps : List (Nat × Nat)} {m : Int} (hm : 0 < m) {ks : List Int} (nk : NOk ps m ks) {l : List Int} : l ∈ sols ps m ks ↔ ∃ f, InR m f ∧ Sol ps m ks f ∧ l = (ltrs ps).map f := by
  unfold sols isS
  rw [List.mem_filter, mem_allL, decide_eq_true_iff]
  constructor
  · rintro ⟨⟨h1, h2⟩, h3⟩
    have hd : ∀ x ∈ l, 0 ≤ x ∧ x < m := fun x hx => ⟨(h2 x hx).1, by have := (h2 x hx).2; omega⟩
    exact ⟨_, wI_in hm (zip_dom hd), (nums_sol nk.1).mp h3, (wI_zip (ltrs_nd ps) h1).symm⟩
  · rintro ⟨f, h1, h2, rfl⟩
    have e : (ltrs ps).map (wI ((ltrs ps).zip ((ltrs ps).map f))) = (ltrs ps).map f := wI_zip (ltrs_nd ps) (by rw [List.length_map])
    refine ⟨⟨by rw [List.length_map], fun x hx => ?_⟩, (nums_sol nk.1).mpr (sol_congr (f := f) (fun c hc => ?_) h2)⟩
    · obtain ⟨c, _, rfl⟩ := List.mem_map.mp hx
      have := h1 c
      omega
    · exact ((List.map_inj_left.mp e) c hc).symm
theorem sols_rise (ps : List (Nat × Nat)) (m : Int) (ks : List Int) : (sols ps m ks).Pairwise LL := (allL_rise _).filter _
/-- all of them, by pieces -/
theorem sols_eq {ps : List (Nat × Nat)} {m : Int} (hm : 0 < m) {ks : List Int} (nk : NOk ps m ks) {gs : List (Nat × List (Nat × List Nat))} {rows : List (List Int)} (hg : Grp ps (ltrs ps) gs) (hr : RowsOk ps m ks gs rows) :
    sols ps m ks = (prodL rows).map fun xs => (ltrs ps).map (valG m ks gs xs) := by
  have pk : ∀ {xs}, xs ∈ prodL rows → Fixes ps m ks gs xs := fun h => hr.picks.mp (mem_prodL.mp h)
  refine rise_ext (R := LL) (fun _ => LL.irr) (fun _ _ _ => LL.trans) (sols_rise _ _ _) ?_ fun l => ?_
  · rw [List.pairwise_map]
    refine List.Pairwise.imp_of_mem ?_ (prodL_rise hr.rise)
    intro a b ha hb hab
    exact LL.of (srt_lt _) (hg.mono m ks (srt_lt _) (pk ha).len (pk hb).len hab)
  · rw [mem_sols hm nk, List.mem_map]
    constructor
    · rintro ⟨f, h1, h2, rfl⟩
      refine ⟨gs.map fun g => f g.1, mem_prodL.mpr (hr.picks.mpr (h2.fixes h1 hg.pc)), List.map_congr_left fun c hc => ?_⟩
      exact h2.val h1 hg.pc (hg.cover hc)
    · rintro ⟨xs, hx, rfl⟩
      refine ⟨valG m ks gs xs, fun c => valG_in hm (pk hx).dom, fun k p e => ?_, rfl⟩
      exact (pk hx).sol nk.at e hg.pc (hg.cover (flat_ltrs e).1)
/-- whether there are some -/
theorem prodL_nil : ∀ {rs : List (List Int)}, prodL rs = [] ↔ [] ∈ rs
  | [] => by simp [prodL]
  | r :: rs => by
    have ih := prodL_nil (rs := rs)
    simp only [prodL, List.flatMap_eq_nil_iff, List.map_eq_nil_iff, List.mem_cons]
    constructor
    · intro h
      cases r with
      | nil => exact .inl rfl
      | cons x r => exact .inr (ih.mp (h x List.mem_cons_self))
    · rintro (h | h) x hx
      · rw [← h] at hx
        cases hx
      · exact ih.mpr h
/-- a room is a number, and it is even or odd: what half is -/
def halfN (t m : Int) : Int := if t % m % 2 = 0 then t % m / 2 else (t % m + m) / 2
theorem half_in {t m : Int} (hm : 0 < m) : 0 ≤ halfN t m ∧ halfN t m < m := by
  unfold halfN
  have h1 := Int.emod_nonneg t (b := m) (by omega)
  have h2 := Int.emod_lt_of_pos t hm
  split <;> omega
theorem half_cg {t m : Int} (hm : 0 < m) (h : m % 2 = 1 ∨ t % m % 2 = 0) : Cg m t (2 * halfN t m) := by
  unfold halfN
  have h1 := Int.emod_nonneg t (b := m) (by omega)
  have h2 := Int.emod_lt_of_pos t hm
  refine (Cg.mod m t).symm.trans ?_
  split
  · exact Cg.of_eq (by omega)
  · exact ⟨-1, by omega⟩
/-- of an odd walk: the first letter's worths -/
def rowOdd (t m : Int) : List Int := if m % 2 = 1 then [halfN t m] else DL.isort DL.leI [halfN t m, (halfN t m + m / 2) % m]
theorem odd_case {m x h : Int} (o : m % 2 = 1) (hx : 0 ≤ x ∧ x < m) (hh : 0 ≤ h ∧ h < m) (c : Cg m (2 * h) (2 * x)) : x = h := by
  obtain ⟨k, e⟩ := c
  have key : ∃ j, k = 2 * j := by
    rcases (show k % 2 = 0 ∨ k % 2 = 1 from by omega) with q | q
    · exact ⟨k / 2, by omega⟩
    · exfalso
      have : k = 2 * (k / 2) + 1 := by omega
      rw [this, Int.mul_add, Int.mul_one] at e
      have e2 : m * (2 * (k / 2)) = 2 * (m * (k / 2)) := by rw [Int.mul_left_comm]
      omega
  obtain ⟨j, rfl⟩ := key
  have e2 : m * (2 * j) = 2 * (m * j) := by rw [Int.mul_left_comm]
  have : Cg m h x := ⟨j, by omega⟩
  exact (this.small hh.1 hh.2 hx.1 hx.2).symm
theorem even_case {m x h : Int} (o : m % 2 = 0) (hx : 0 ≤ x ∧ x < m) (hh : 0 ≤ h ∧ h < m) (c : Cg m (2 * h) (2 * x)) : x = h ∨ x = (h + m / 2) % m := by
  obtain ⟨k, e⟩ := c
  obtain ⟨n, rfl⟩ : ∃ n, m = 2 * n := ⟨m / 2, by omega⟩
  have hn : 2 * n / 2 = n := by omega
  rw [hn]
  have e2 : 2 * n * k = 2 * (n * k) := by rw [Int.mul_assoc]
  have e3 : h - x = n * k := by omega
  have hk : k = 0 ∨ k = 1 ∨ k = -1 := by
    rcases Int.lt_trichotomy k 0 with q | q | q
    · right; right
      have h1 : n * k ≤ n * (-1) := Int.mul_le_mul_of_nonneg_left (by omega) (by omega)
      have : ¬ k < -1 := fun z => by
        have := Int.mul_le_mul_of_nonneg_left (show k ≤ -2 by omega) (show 0 ≤ n by omega)
        omega
      omega
    · left; exact q
    · right; left
      have : ¬ 1 < k := fun z => by
        have := Int.mul_le_mul_of_nonneg_left (show 2 ≤ k by omega) (show 0 ≤ n by omega)
        omega
      omega
  rcases hk with rfl | rfl | rfl
  · left; omega
  · right
    have : h + n = x + 2 * n := by omega
    rw [this, Int.add_emod_right, Int.emod_eq_of_lt hx.1 hx.2]
  · right
    have : h + n = x := by omega
    rw [this, Int.emod_eq_of_lt hx.1 hx.2]
theorem two_half {m h : Int} (o : m % 2 = 0) : Cg m (2 * h) (2 * ((h + m / 2) % m)) := by
  have := Cg.mod m (h + m / 2)
  obtain ⟨k, e⟩ := this
  refine ⟨-1 - 2 * k, ?_⟩
  have e2 : m * (-1 - 2 * k) = - m - 2 * (m * k) := by rw [Int.mul_sub, Int.mul_left_comm]; omega
  omega
theorem half_ne {m h : Int} (o : m % 2 = 0) (hm : 0 < m) (hh : 0 ≤ h ∧ h < m) : h ≠ (h + m / 2) % m := by
  by_cases q : h + m / 2 < m
  · rw [Int.emod_eq_of_lt (by omega) q]
    omega
  · have : (h + m / 2) % m = h + m / 2 - m := by
      have : h + m / 2 = (h + m / 2 - m) + m := by omega
      rw [this, Int.add_emod_right, Int.emod_eq_of_lt (by omega) (by omega)]
      omega
    rw [this]
    omega
theorem mem_rowOdd {t m x : Int} (hm : 0 < m) (h : m % 2 = 1 ∨ t % m % 2 = 0) : x ∈ rowOdd t m ↔ 0 ≤ x ∧ x < m ∧ Cg m t (2 * x) := by
  have hi := half_in (t := t) hm
  have hc := half_cg (t := t) hm h
  have h2 := Int.emod_nonneg (halfN t m + m / 2) (b := m) (by omega)
  have h3 := Int.emod_lt_of_pos (halfN t m + m / 2) hm
  unfold rowOdd
  by_cases o : m % 2 = 1
  · rw [if_pos o, List.mem_singleton]
    constructor
    · rintro rfl
      exact ⟨hi.1, hi.2, hc⟩
    · rintro ⟨a, b, c⟩
      exact odd_case o ⟨a, b⟩ hi (hc.symm.trans c)
  · have o2 : m % 2 = 0 := by omega
    rw [if_neg o, (DL.isort_perm _ _).mem_iff]
    simp only [List.mem_cons, List.not_mem_nil, or_false]
    constructor
    · rintro (rfl | rfl)
      · exact ⟨hi.1, hi.2, hc⟩
      · exact ⟨h2, h3, hc.trans (two_half o2)⟩
    · rintro ⟨a, b, c⟩
      exact even_case o2 ⟨a, b⟩ hi (hc.symm.trans c)
theorem rowOdd_rise {t m : Int} (hm : 0 < m) : (rowOdd t m).Pairwise (· < ·) := by
  unfold rowOdd
  by_cases o : m % 2 = 1
  · rw [if_pos o]
    exact List.pairwise_singleton _ _
  · rw [if_neg o]
    have hne := half_ne (m := m) (h := halfN t m) (by omega) hm (half_in hm)
    have h1 := DL.isort_pw DL.leI_tot DL.leI_tr [halfN t m, (halfN t m + m / 2) % m]
    have nd : [halfN t m, (halfN t m + m / 2) % m].Nodup := by simpa using hne
    have h2 := List.nodup_iff_pairwise_ne.mp ((DL.isort_perm DL.leI _).nodup_iff.mpr nd)
    refine List.Pairwise.imp ?_ (h1.and h2)
    rintro a b ⟨h, h'⟩
    have : a ≤ b := of_decide_eq_true h
    omega
/-- the walk that bars -/
def barL (ks : List Int) (m : Int) : Option (List Nat) → List (List Nat) → Option (List Nat)
  | _, [] => none
  | od, w :: r =>
    if w.length % 2 = 0 then (if altN ks w % m = 0 then barL ks m od r else some w)
    else if m % 2 = 0 ∧ altN ks w % m % 2 = 1 then some w
    else match od with
      | some o => if (altN ks o - altN ks w % m) % m = 0 then barL ks m (some w) r else some (o ++ w)
      | none => barL ks m (some w) r
theorem barL_none {ks : List Int} {m : Int} : ∀ {ws : List (List Nat)} {od : Option (List Nat)}, barL ks m od ws = none ↔
    (∀ w ∈ ws, w.length % 2 = 0 → altN ks w % m = 0) ∧ (∀ w ∈ ws, w.length % 2 = 1 → m % 2 = 1 ∨ altN ks w % m % 2 = 0) ∧ ∃ a, (∀ o, od = some o → Cg m (altN ks o) a) ∧ ∀ w ∈ ws, w.length % 2 = 1 → Cg m (altN ks w) a
  | [], od => by
    unfold barL
    refine ⟨fun _ => ⟨fun w h => (nomatch h), fun w h => (nomatch h), ?_⟩, fun _ => rfl⟩
    cases od with
    | none => exact ⟨0, fun o h => (nomatch h), fun w h => (nomatch h)⟩
    | some o => exact ⟨altN ks o, fun o' h => by cases h; exact Cg.refl _ _, fun w h => (nomatch h)⟩
  | w :: r, od => by
    unfold barL
    by_cases e : w.length % 2 = 0
    · rw [if_pos e]
      by_cases z : altN ks w % m = 0
      · rw [if_pos z, barL_none]
        constructor
        · rintro ⟨h1, h2, a, h3, h4⟩
          refine ⟨fun v hv => ?_, fun v hv => ?_, a, h3, fun v hv => ?_⟩ <;> rcases List.mem_cons.mp hv with rfl | hv
          · exact fun _ => z
          · exact h1 v hv
          · exact fun q => by omega
          · exact h2 v hv
          · exact fun q => by omega
          · exact h4 v hv
        · rintro ⟨h1, h2, a, h3, h4⟩
          exact ⟨fun v hv => h1 v (List.mem_cons_of_mem _ hv), fun v hv => h2 v (List.mem_cons_of_mem _ hv), a, h3, fun v hv => h4 v (List.mem_cons_of_mem _ hv)⟩
      · rw [if_neg z]
        refine ⟨fun q => (nomatch q), fun q => absurd (q.1 w List.mem_cons_self e) z⟩
    · rw [if_neg e]
      have eo : w.length % 2 = 1 := by omega
      by_cases z : m % 2 = 0 ∧ altN ks w % m % 2 = 1
      · rw [if_pos z]
        refine ⟨fun q => (nomatch q), fun q => ?_⟩
        have := q.2.1 w List.mem_cons_self eo
        omega
      · rw [if_neg z]
        have z' : m % 2 = 1 ∨ altN ks w % m % 2 = 0 := by omega
        have go : ((∀ v ∈ r, v.length % 2 = 0 → altN ks v % m = 0) ∧ (∀ v ∈ r, v.length % 2 = 1 → m % 2 = 1 ∨ altN ks v % m % 2 = 0) ∧ ∃ a, (∀ o, some w = some o → Cg m (altN ks o) a) ∧ ∀ v ∈ r, v.length % 2 = 1 → Cg m (altN ks v) a) ↔
            ((∀ v ∈ w :: r, v.length % 2 = 0 → altN ks v % m = 0) ∧ (∀ v ∈ w :: r, v.length % 2 = 1 → m % 2 = 1 ∨ altN ks v % m % 2 = 0) ∧ ∃ a, ∀ v ∈ w :: r, v.length % 2 = 1 → Cg m (altN ks v) a) := by
          constructor
          · rintro ⟨h1, h2, a, h3, h4⟩
            refine ⟨fun v hv => ?_, fun v hv => ?_, a, fun v hv => ?_⟩ <;> rcases List.mem_cons.mp hv with rfl | hv
            · exact fun _ => by omega
            · exact h1 v hv
            · exact fun _ => z'
            · exact h2 v hv
            · exact fun _ => h3 _ rfl
            · exact h4 v hv
          · rintro ⟨h1, h2, a, h4⟩
            exact ⟨fun v hv => h1 v (List.mem_cons_of_mem _ hv), fun v hv => h2 v (List.mem_cons_of_mem _ hv), a, fun o h => by cases h; exact h4 w List.mem_cons_self eo, fun v hv => h4 v (List.mem_cons_of_mem _ hv)⟩
        cases od with
        | none =>
          show barL ks m (some w) r = none ↔ _
          rw [barL_none, go]
          constructor
          · rintro ⟨h1, h2, a, h3⟩
            exact ⟨h1, h2, a, fun o h => (nomatch h), h3⟩
          · rintro ⟨h1, h2, a, _, h3⟩
            exact ⟨h1, h2, a, h3⟩
        | some o =>
          show (if (altN ks o - altN ks w % m) % m = 0 then barL ks m (some w) r else some (o ++ w)) = none ↔ _
          have ce : (altN ks o - altN ks w % m) % m = 0 ↔ Cg m (altN ks o) (altN ks w) := by
            rw [← Cg.zero]
            constructor
            · intro h
              have := h.add (Cg.mod m (altN ks w))
              exact (Cg.of_eq (by omega)).trans (this.trans (Cg.of_eq (by omega)))
            · intro h
              exact (h.sub (Cg.mod m (altN ks w))).trans (Cg.of_eq (by omega))
          by_cases y : (altN ks o - altN ks w % m) % m = 0
          · rw [if_pos y, barL_none, go]
            have y' := ce.mp y
            constructor
            · rintro ⟨h1, h2, a, h3⟩
              exact ⟨h1, h2, a, fun o' h => by cases h; exact y'.trans (h3 w List.mem_cons_self eo), h3⟩
            · rintro ⟨h1, h2, a, _, h3⟩
              exact ⟨h1, h2, a, h3⟩
          · rw [if_neg y]
            refine ⟨fun q => (nomatch q), fun ⟨_, _, a, h3, h4⟩ => absurd (ce.mpr ((h3 o rfl).trans (h4 w List.mem_cons_self eo).symm)) y⟩
/-- the worths of a piece's first letter -/
def oddW (w : List Nat) : Bool := decide (w.length % 2 = 1)
def rowN (ks : List Int) (m : Int) (ws : List (List Nat)) : List Int := match ws.filter oddW with
  | [] => (List.range m.toNat).map fun (x : Nat) => (x : Int)
  | w :: _ => rowOdd (altN ks w) m
theorem rowN_rise {ks : List Int} {m : Int} (hm : 0 < m) (ws : List (List Nat)) : (rowN ks m ws).Pairwise (· < ·) := by
  unfold rowN
  split
  · rw [List.pairwise_map]
    exact List.pairwise_lt_range.imp fun {a b} h => by omega
  · exact rowOdd_rise hm
theorem mem_rowN {ks : List Int} {m : Int} (hm : 0 < m) {ws : List (List Nat)} (h : barL ks m none ws = none) {x : Int} : x ∈ rowN ks m ws ↔ 0 ≤ x ∧ x < m ∧ ∀ w ∈ ws, Cg m (ledN ks m w x) x := by
  obtain ⟨h1, h2, a, _, h4⟩ := barL_none.mp h
  have main : (∀ w ∈ ws, Cg m (ledN ks m w x) x) ↔ ∀ w ∈ ws.filter oddW, Cg m (altN ks w) (2 * x) := by
    constructor
    · intro g w hw
      obtain ⟨hw, o⟩ := List.mem_filter.mp hw
      exact (fix_odd (of_decide_eq_true o)).mp (g w hw)
    · intro g w hw
      by_cases o : w.length % 2 = 1
      · exact (fix_odd o).mpr (g w (List.mem_filter.mpr ⟨hw, decide_eq_true o⟩))
      · exact (fix_even (by omega)).mpr (h1 w hw (by omega))
  rw [main]
  unfold rowN
  cases e : ws.filter oddW with
  | nil =>
    simp only [List.mem_map, List.mem_range]
    constructor
    · rintro ⟨y, hy, rfl⟩
      exact ⟨by omega, by omega, fun w h => nomatch h⟩
    · rintro ⟨g1, g2, _⟩
      exact ⟨x.toNat, by omega, by omega⟩
  | cons w r =>
    have hw : w ∈ ws.filter oddW := by rw [e]; exact List.mem_cons_self
    obtain ⟨hw1, hw2⟩ := List.mem_filter.mp hw
    have ow : w.length % 2 = 1 := of_decide_eq_true hw2
    show x ∈ rowOdd (altN ks w) m ↔ _
    rw [mem_rowOdd hm (h2 w hw1 ow)]
    constructor
    · rintro ⟨g1, g2, g3⟩
      refine ⟨g1, g2, fun v hv => ?_⟩
      have hv' : v ∈ ws.filter oddW := by rw [e]; exact hv
      obtain ⟨hv1, hv2⟩ := List.mem_filter.mp hv'
      exact (h4 v hv1 (of_decide_eq_true hv2)).trans ((h4 w hw1 ow).symm.trans g3)
    · rintro ⟨g1, g2, g3⟩
      exact ⟨g1, g2, g3 w List.mem_cons_self⟩
theorem rowN_ne {ks : List Int} {m : Int} (hm : 0 < m) (ws : List (List Nat)) : rowN ks m ws ≠ [] := by
  unfold rowN
  split
  · intro h
    have := congrArg List.length h
    simp at this
    omega
  · unfold rowOdd
    split
    · exact List.cons_ne_nil _ _
    · intro h
      have := congrArg List.length h
      rw [(DL.isort_perm _ _).length_eq] at this
      cases this
theorem bar_fix {ks : List Int} {m : Int} {ws : List (List Nat)} {x : Int} (h : ∀ w ∈ ws, Cg m (ledN ks m w x) x) : barL ks m none ws = none := by
  rw [barL_none]
  refine ⟨fun w hw e => (fix_even e).mp (h w hw), fun w hw o => ?_, 2 * x, fun o q => (nomatch q), fun w hw o => (fix_odd o).mp (h w hw)⟩
  rcases (show m % 2 = 0 ∨ m % 2 = 1 from by omega) with q | q
  · right
    have := Cg.iff.mp ((fix_odd o).mp (h w hw))
    rw [this]
    have e := Int.emod_add_mul_ediv (2 * x) m
    obtain ⟨n, rfl⟩ : ∃ n, m = 2 * n := ⟨m / 2, by omega⟩
    rw [Int.mul_assoc] at e
    omega
  · exact .inl q
/-- what bars numbers -/
def barN (ps : List (Nat × Nat)) (ks : List Int) (m : Int) : List (Nat × List (Nat × List Nat)) → Option (Nat × List Nat)
  | [] => none
  | g :: gs => match barL ks m none (closedN ps g.2) with
    | some w => some (g.1, w)
    | none => barN ps ks m gs
theorem barN_none {ps : List (Nat × Nat)} {ks : List Int} {m : Int} : ∀ {gs : List (Nat × List (Nat × List Nat))}, barN ps ks m gs = none ↔ ∀ g ∈ gs, barL ks m none (closedN ps g.2) = none
  | [] => ⟨fun _ g h => (nomatch h), fun _ => rfl⟩
  | g :: gs => by
    unfold barN
    cases e : barL ks m none (closedN ps g.2) with
    | none =>
      show barN ps ks m gs = none ↔ _
      rw [barN_none]
      exact ⟨fun h q hq => (List.mem_cons.mp hq).elim (fun z => z ▸ e) (h q), fun h q hq => h q (List.mem_cons_of_mem _ hq)⟩
    | some w => exact ⟨fun h => (nomatch h), fun h => by rw [h g List.mem_cons_self] at e; cases e⟩
def rowsG (ps : List (Nat × Nat)) (ks : List Int) (m : Int) (gs : List (Nat × List (Nat × List Nat))) : List (List Int) := gs.map fun g => rowN ks m (closedN ps g.2)
theorem rows_ok {ps : List (Nat × Nat)} {ks : List Int} {m : Int} (hm : 0 < m) : ∀ {gs : List (Nat × List (Nat × List Nat))}, barN ps ks m gs = none → RowsOk ps m ks gs (rowsG ps ks m gs)
  | [], _ => .nil
  | g :: gs, h => by
    have h' := barN_none.mp h
    exact .cons (fun x => mem_rowN hm (h' g List.mem_cons_self)) (rowN_rise hm _) (rows_ok hm (barN_none.mpr fun q hq => h' q (List.mem_cons_of_mem _ hq)))
/-- all worths, where nothing bars -/
theorem sols_free {ps : List (Nat × Nat)} {m : Int} (hm : 0 < m) {ks : List Int} (nk : NOk ps m ks) {gs : List (Nat × List (Nat × List Nat))} (hg : Grp ps (ltrs ps) gs) (h : barN ps ks m gs = none) :
    sols ps m ks = (prodL (rowsG ps ks m gs)).map fun xs => (ltrs ps).map (valG m ks gs xs) := sols_eq hm nk hg (rows_ok hm h)
theorem sols_some {ps : List (Nat × Nat)} {m : Int} (hm : 0 < m) {ks : List Int} (nk : NOk ps m ks) {gs : List (Nat × List (Nat × List Nat))} (hg : Grp ps (ltrs ps) gs) (h : barN ps ks m gs = none) : sols ps m ks ≠ [] := by
  rw [sols_free hm nk hg h]
  intro z
  rw [List.map_eq_nil_iff, prodL_nil] at z
  obtain ⟨g, _, e⟩ := List.mem_map.mp z
  exact rowN_ne hm _ e
/-- nothing bars just if there are some worths -/
theorem bar_iff {ps : List (Nat × Nat)} {m : Int} (hm : 0 < m) {ks : List Int} (nk : NOk ps m ks) {gs : List (Nat × List (Nat × List Nat))} (hg : Grp ps (ltrs ps) gs) : barN ps ks m gs = none ↔ sols ps m ks ≠ [] := by
  refine ⟨sols_some hm nk hg, fun h => ?_⟩
  obtain ⟨l, hl⟩ := List.exists_mem_of_ne_nil _ h
  obtain ⟨f, h1, h2, _⟩ := (mem_sols hm nk).mp hl
  exact barN_none.mpr fun g hg' => bar_fix (h2.fix h1 (hg.pc g hg')).2.2
theorem bar_sol {ps : List (Nat × Nat)} {m : Int} (hm : 0 < m) {ks : List Int} (nk : NOk ps m ks) {gs : List (Nat × List (Nat × List Nat))} (hg : Grp ps (ltrs ps) gs) : barN ps ks m gs = none ↔ ∃ f, InR m f ∧ Sol ps m ks f := by
  rw [bar_iff hm nk hg]
  constructor
  · intro h
    obtain ⟨l, hl⟩ := List.exists_mem_of_ne_nil _ h
    obtain ⟨f, h1, h2, _⟩ := (mem_sols hm nk).mp hl
    exact ⟨f, h1, h2⟩
  · rintro ⟨f, h1, h2⟩ z
    have : (ltrs ps).map f ∈ sols ps m ks := (mem_sols hm nk).mpr ⟨f, h1, h2, rfl⟩
    rw [z] at this
    cases this
end PN

namespace PB
open PySem PySem.Spec PyProof.Rows L2 DL MP MB PN
def kvD {β : Type} (f : β → D) (ps : List (Nat × β)) : List (D × D) := ps.map fun p => (.str [p.1], f p.2)
section
variable {β : Type} {f : β → D}
theorem look_kv (ps : List (Nat × β)) (c : Nat) : lookD (kvD f ps) (keyS [c]) = (lk ps c).map f := by
  unfold lookD lk kvD
  rw [List.find?_map]
  simp only [Option.map_map]
  congr 1
  refine congrArg (fun f => List.find? f ps) (funext fun p => ?_)
  show decide (keyOf (.str [p.1]) = some (keyS [c])) = decide (p.1 = c)
  rw [key_one]
  refine decide_eq_decide.mpr ⟨fun h => keyS_one.mp (Option.some.inj h), fun h => by rw [h]⟩
theorem in_kv (ps : List (Nat × β)) (c : Nat) : pIn (.str [c]) (.dct (kvD f ps)) = some (.bl (decide (c ∈ ps.map (·.1)))) := by
  have e : pGet (.dct (kvD f ps)) (.str [c]) = some ((lk ps c).map f) := by
    simp only [pGet, key_one, Option.map_some, look_kv]
  simp only [pIn, e, Option.map_some]
  congr 2
  cases hl : lk ps c with
  | none =>
    rw [decide_eq_false]
    · rfl
    · intro h
      obtain ⟨v, hv⟩ := lk_some.mp h
      rw [hl] at hv
      cases hv
  | some v =>
    rw [decide_eq_true (lk_some.mpr ⟨v, hl⟩)]
    rfl
theorem notIn_kv (ps : List (Nat × β)) (c : Nat) : pNotIn (.str [c]) (.dct (kvD f ps)) = some (.bl (!decide (c ∈ ps.map (·.1)))) := by
  simp only [pNotIn, in_kv]
theorem ix_kv {ps : List (Nat × β)} {c : Nat} {k : β} (h : lk ps c = some k) : pIx (.dct (kvD f ps)) (.str [c]) = some (f k) := by
  simp only [pIx, pGet, key_one, Option.map_some, look_kv, h, Option.bind_some, id]
theorem put_kv {ps : List (Nat × β)} {c : Nat} {k : β} (h : c ∉ ps.map (·.1)) : putD (kvD f ps) (.str [c]) (f k) = kvD f (ps ++ [(c, k)]) := by
  rw [putD_new]
  · unfold kvD
    rw [List.map_append]
    rfl
  · intro p hp
    unfold kvD at hp
    obtain ⟨q, hq, rfl⟩ := List.mem_map.mp hp
    intro z
    have : keyOf (.str [q.1]) = keyOf (.str [c]) := z
    rw [key_one, key_one] at this
    have := keyS_one.mp (Option.some.inj this)
    exact h (this ▸ List.mem_map.mpr ⟨q, hq, rfl⟩)
theorem kv_len (ps : List (Nat × β)) : (kvD f ps).length = ps.length := List.length_map _
end
theorem bk_kv (ps : List (Nat × Int)) : bkD ps = kvD .int ps := rfl
def natsD (w : List Nat) : List D := w.map fun (k : Nat) => .int (k : Nat)
def wD (w : List Nat) : D := .lst (natsD w)
abbrev fkD (fd : List (Nat × List Nat)) : List (D × D) := kvD wD fd
theorem ix_fk {fd : List (Nat × List Nat)} {c : Nat} (h : c ∈ fd.map (·.1)) : pIx (.dct (fkD fd)) (.str [c]) = some (wD (wk fd c)) := by
  obtain ⟨v, hv⟩ := lk_some.mp h
  rw [ix_kv hv]
  unfold wk
  rw [hv]
  rfl
def enumF (k : Nat) (ps : List (Nat × Nat)) : List D := (ps.zipIdx k).map fun q => .ktp [.int (q.2 : Nat), prD q.1]
theorem enum_prs (ps : List (Nat × Nat)) : enumD (ps.map prD) = enumF 0 ps := by
  unfold enumD enumF
  rw [List.zipIdx_map, List.map_map]
  rfl
theorem enumF_cons (k : Nat) (p : Nat × Nat) (r : List (Nat × Nat)) : enumF k (p :: r) = .ktp [.int (k : Nat), prD p] :: enumF (k + 1) r := rfl
theorem enumF_len (k : Nat) (ps : List (Nat × Nat)) : (enumF k ps).length = ps.length := by
  unfold enumF
  rw [List.length_map, List.length_zipIdx]
abbrev St2 := List (Nat × List Nat) × List Nat
def sub2 (here k now later : Nat) (st : St2) : St2 := if now = here ∧ later ∉ st.1.map (·.1) then (st.1 ++ [(later, wk st.1 here ++ [k])], st.2 ++ [later]) else st
def edges (here : Nat) : Nat → List (Nat × Nat) → St2 → St2
  | _, [], st => st
  | k, p :: r, st => edges here (k + 1) r (sub2 here k p.2 p.1 (sub2 here k p.1 p.2 st))
/-- what holds while letters are found -/
structure Inv (ps : List (Nat × Nat)) (s : Nat) (st : St2) : Prop where
  hd : ∃ t, st.1 = (s, []) :: t
  nd : (st.1.map (·.1)).Nodup
  wk : ∀ q ∈ st.1, Walk ps s q.2 q.1
  sub : ∀ c ∈ st.1.map (·.1), c = s ∨ c ∈ flat2 ps
  row : ∀ c ∈ st.2, c ∈ st.1.map (·.1)
  ln : ∀ q ∈ st.1, q.2.length < st.1.length
theorem Inv.at {ps : List (Nat × Nat)} {s : Nat} {st : St2} (h : Inv ps s st) {c : Nat} (hc : c ∈ st.1.map (·.1)) : lk st.1 c = some (PN.wk st.1 c) ∧ Walk ps s (PN.wk st.1 c) c := by
  obtain ⟨v, e⟩ := lk_some.mp hc
  unfold PN.wk
  rw [e]
  exact ⟨rfl, h.wk _ (lk_mem e)⟩
theorem sub2_keys {here k now later : Nat} {st : St2} {c : Nat} : c ∈ (sub2 here k now later st).1.map (·.1) ↔ c ∈ st.1.map (·.1) ∨ (now = here ∧ c = later) := by
  unfold sub2
  by_cases h : now = here ∧ later ∉ st.1.map (·.1)
  · rw [if_pos h]
    simp only [List.map_append, List.map_cons, List.map_nil, List.mem_append, List.mem_singleton]
    constructor
    · rintro (q | q)
      · exact .inl q
      · exact .inr ⟨h.1, q⟩
    · rintro (q | ⟨_, q⟩)
      · exact .inl q
      · exact .inr q
  · rw [if_neg h]
    constructor
    · exact .inl
    · rintro (q | ⟨q, rfl⟩)
      · exact q
      · by_cases z : c ∈ st.1.map (·.1)
        · exact z
        · exact absurd ⟨q, z⟩ h
theorem sub2_row {here k now later : Nat} {st : St2} {c : Nat} : c ∈ (sub2 here k now later st).2 ↔ c ∈ st.2 ∨ (c ∈ (sub2 here k now later st).1.map (·.1) ∧ c ∉ st.1.map (·.1)) := by
  rw [sub2_keys]
  unfold sub2
  by_cases h : now = here ∧ later ∉ st.1.map (·.1)
  · rw [if_pos h]
    simp only [List.mem_append, List.mem_singleton]
    constructor
    · rintro (q | rfl)
      · exact .inl q
      · exact .inr ⟨.inr ⟨h.1, rfl⟩, h.2⟩
    · rintro (q | ⟨q | ⟨_, q⟩, z⟩)
      · exact .inl q
      · exact absurd q z
      · exact .inr q
  · rw [if_neg h]
    constructor
    · exact .inl
    · rintro (q | ⟨q | ⟨y, rfl⟩, z⟩)
      · exact q
      · exact absurd q z
      · exact absurd ⟨y, z⟩ h
theorem sub2_size (here k now later : Nat) (st : St2) : ∃ d, (sub2 here k now later st).1.length = st.1.length + d ∧ (sub2 here k now later st).2.length = st.2.length + d := by
  unfold sub2
  split
  · exact ⟨1, by simp, by simp⟩
  · exact ⟨0, rfl, rfl⟩
theorem Inv.sub2 {ps : List (Nat × Nat)} {s : Nat} {st : St2} (h : Inv ps s st) {here k now later : Nat} {p : Nat × Nat} (e : ps[k]? = some p) (o : now = p.1 ∧ later = p.2 ∨ now = p.2 ∧ later = p.1) (hh : here ∈ st.1.map (·.1)) : Inv ps s (sub2 here k now later st) := by
  have hm := List.mem_of_getElem? e
  unfold PB.sub2
  by_cases g : now = here ∧ later ∉ st.1.map (·.1)
  · rw [if_pos g]
    obtain ⟨t, ht⟩ := h.hd
    refine ⟨⟨t ++ [(later, PN.wk st.1 here ++ [k])], by show st.1 ++ _ = _; rw [ht]; rfl⟩, ?_, ?_, ?_, ?_, ?_⟩
    · show ((st.1 ++ [(later, PN.wk st.1 here ++ [k])]).map (·.1)).Nodup
      rw [List.map_append, List.nodup_append]
      refine ⟨h.nd, by simp, fun a ha b hb z => ?_⟩
      have : b = later := by simpa using hb
      rw [z, this] at ha
      exact g.2 ha
    · intro q hq
      rcases List.mem_append.mp hq with hq | hq
      · exact h.wk q hq
      · rw [List.mem_singleton.mp hq]
        refine (h.at hh).2.app (.one e ?_)
        rw [← g.1]
        exact o
    · intro c hc
      rw [List.map_append] at hc
      rcases List.mem_append.mp hc with hc | hc
      · exact h.sub c hc
      · have : c = later := by simpa using hc
        rw [this]
        right
        rcases o with ⟨_, z⟩ | ⟨_, z⟩ <;> rw [z]
        · exact mem_flat2.mpr ⟨p, hm, .inr rfl⟩
        · exact mem_flat2.mpr ⟨p, hm, .inl rfl⟩
    · intro c hc
      rw [List.map_append]
      rcases List.mem_append.mp hc with hc | hc
      · exact List.mem_append_left _ (h.row c hc)
      · exact List.mem_append_right _ (by simpa using hc)
    · intro q hq
      show q.2.length < (st.1 ++ [(later, PN.wk st.1 here ++ [k])]).length
      rw [List.length_append]
      rcases List.mem_append.mp hq with hq | hq
      · have := h.ln q hq
        simp
        omega
      · rw [List.mem_singleton.mp hq]
        have := h.ln _ (lk_mem (h.at hh).1)
        simp
        exact this
  · rw [if_neg g]
    exact h
theorem edges_ok {ps : List (Nat × Nat)} {s here : Nat} : ∀ {r : List (Nat × Nat)} {k : Nat} {st : St2}, Inv ps s st → here ∈ st.1.map (·.1) → (∀ j p, r[j]? = some p → ps[k + j]? = some p) →
    Inv ps s (edges here k r st) ∧ (∀ c ∈ st.1.map (·.1), c ∈ (edges here k r st).1.map (·.1)) ∧ (∀ c, c ∈ (edges here k r st).2 ↔ c ∈ st.2 ∨ (c ∈ (edges here k r st).1.map (·.1) ∧ c ∉ st.1.map (·.1))) ∧
    (∃ d, (edges here k r st).1.length = st.1.length + d ∧ (edges here k r st).2.length = st.2.length + d) ∧
    (∀ p ∈ r, (p.1 = here → p.2 ∈ (edges here k r st).1.map (·.1)) ∧ (p.2 = here → p.1 ∈ (edges here k r st).1.map (·.1)))
  | [], k, st, h, hh, _ => ⟨h, fun c z => z, fun c => ⟨.inl, fun z => z.elim id fun y => absurd y.1 y.2⟩, ⟨0, rfl, rfl⟩, fun p z => nomatch z⟩
  | p :: r, k, st, h, hh, hr => by
    have e : ps[k]? = some p := hr 0 p rfl
    have h1 := h.sub2 (here := here) e (.inl ⟨rfl, rfl⟩) hh
    have m1 : ∀ c ∈ st.1.map (·.1), c ∈ (sub2 here k p.1 p.2 st).1.map (·.1) := fun c hc => sub2_keys.mpr (.inl hc)
    have h2 := h1.sub2 (here := here) e (.inr ⟨rfl, rfl⟩) (m1 _ hh)
    have m2 : ∀ c ∈ (sub2 here k p.1 p.2 st).1.map (·.1), c ∈ (sub2 here k p.2 p.1 (sub2 here k p.1 p.2 st)).1.map (·.1) := fun c hc => sub2_keys.mpr (.inl hc)
    obtain ⟨i1, i2, i3, ⟨d, i4, i5⟩, i6⟩ := edges_ok (r := r) (k := k + 1) h2 (m2 _ (m1 _ hh)) fun j q hj => by
      have := hr (j + 1) q hj
      rw [show k + 1 + j = k + (j + 1) from by omega]
      exact this
    obtain ⟨d1, j1, j2⟩ := sub2_size here k p.1 p.2 st
    obtain ⟨d2, j3, j4⟩ := sub2_size here k p.2 p.1 (sub2 here k p.1 p.2 st)
    refine ⟨i1, fun c hc => i2 c (m2 c (m1 c hc)), fun c => ?_, ⟨d1 + d2 + d, ?_, ?_⟩, fun q hq => ?_⟩
    · show c ∈ (edges here (k + 1) r _).2 ↔ c ∈ st.2 ∨ (c ∈ (edges here (k + 1) r _).1.map (·.1) ∧ c ∉ st.1.map (·.1))
      rw [i3, sub2_row, sub2_row]
      constructor
      · rintro (((q | ⟨q1, q2⟩) | ⟨q1, q2⟩) | ⟨q1, q2⟩)
        · exact .inl q
        · exact .inr ⟨i2 c (m2 c q1), q2⟩
        · exact .inr ⟨i2 c q1, fun z => q2 (m1 c z)⟩
        · exact .inr ⟨q1, fun z => q2 (m2 c (m1 c z))⟩
      · rintro (q | ⟨q1, q2⟩)
        · exact .inl (.inl (.inl q))
        · by_cases z2 : c ∈ (sub2 here k p.2 p.1 (sub2 here k p.1 p.2 st)).1.map (·.1)
          · by_cases z1 : c ∈ (sub2 here k p.1 p.2 st).1.map (·.1)
            · exact .inl (.inl (.inr ⟨z1, q2⟩))
            · exact .inl (.inr ⟨z2, z1⟩)
          · exact .inr ⟨q1, z2⟩
    · show (edges here (k + 1) r _).1.length = _
      omega
    · show (edges here (k + 1) r _).2.length = _
      omega
    · rcases List.mem_cons.mp hq with rfl | hq
      · exact ⟨fun z => i2 _ (m2 _ (sub2_keys.mpr (.inr ⟨z, rfl⟩))), fun z => i2 _ (sub2_keys.mpr (.inr ⟨z, rfl⟩))⟩
      · exact i6 q hq
/-- letters whose words were all gone by -/
def Done (ps : List (Nat × Nat)) (st : St2) : Prop := ∀ p ∈ ps, (p.1 ∈ st.1.map (·.1) → p.1 ∉ st.2 → p.2 ∈ st.1.map (·.1)) ∧ (p.2 ∈ st.1.map (·.1) → p.2 ∉ st.2 → p.1 ∈ st.1.map (·.1))
theorem edges_done {ps : List (Nat × Nat)} {s here : Nat} {fd : List (Nat × List Nat)} {row : List Nat} (h : Inv ps s (fd, here :: row)) (dn : Done ps (fd, here :: row)) : Inv ps s (edges here 0 ps (fd, row)) ∧ Done ps (edges here 0 ps (fd, row)) ∧
    ∃ d, (edges here 0 ps (fd, row)).1.length = fd.length + d ∧ (edges here 0 ps (fd, row)).2.length = row.length + d := by
  have hh : here ∈ fd.map (·.1) := h.row here List.mem_cons_self
  have h' : Inv ps s (fd, row) := ⟨h.hd, h.nd, h.wk, h.sub, fun c hc => h.row c (List.mem_cons_of_mem _ hc), h.ln⟩
  obtain ⟨i1, i2, i3, i4, i6⟩ := edges_ok (r := ps) (k := 0) (here := here) h' hh fun j p e => by rw [Nat.zero_add]; exact e
  refine ⟨i1, fun p hp => ⟨fun a b => ?_, fun a b => ?_⟩, i4⟩
  · by_cases z : p.1 = here
    · exact (i6 p hp).1 z
    · have b' : ¬ (p.1 ∈ row ∨ (p.1 ∈ (edges here 0 ps (fd, row)).1.map (·.1) ∧ p.1 ∉ fd.map (·.1))) := fun y => b ((i3 p.1).mpr y)
      have c1 : p.1 ∈ fd.map (·.1) := by
        by_cases y : p.1 ∈ fd.map (·.1)
        · exact y
        · exact absurd (.inr ⟨a, y⟩) b'
      refine i2 _ ((dn p hp).1 c1 fun y => ?_)
      rcases List.mem_cons.mp y with y | y
      · exact z y
      · exact b' (.inl y)
  · by_cases z : p.2 = here
    · exact (i6 p hp).2 z
    · have b' : ¬ (p.2 ∈ row ∨ (p.2 ∈ (edges here 0 ps (fd, row)).1.map (·.1) ∧ p.2 ∉ fd.map (·.1))) := fun y => b ((i3 p.2).mpr y)
      have c1 : p.2 ∈ fd.map (·.1) := by
        by_cases y : p.2 ∈ fd.map (·.1)
        · exact y
        · exact absurd (.inr ⟨a, y⟩) b'
      refine i2 _ ((dn p hp).2 c1 fun y => ?_)
      rcases List.mem_cons.mp y with y | y
      · exact z y
      · exact b' (.inl y)
theorem Inv.size {ps : List (Nat × Nat)} {s : Nat} {st : St2} (h : Inv ps s st) : st.1.length ≤ (flat2 ps).length + 1 := by
  have := nodup_sub_len (m := s :: flat2 ps) h.nd fun x hx => by
    rcases h.sub x hx with rfl | z
    · exact List.mem_cons_self
    · exact List.mem_cons_of_mem _ z
  rw [List.length_map, List.length_cons] at this
  exact this
theorem Inv.pc {ps : List (Nat × Nat)} {s : Nat} {fd : List (Nat × List Nat)} (h : Inv ps s (fd, [])) (dn : Done ps (fd, [])) : Pc ps s fd :=
  ⟨h.hd, h.nd, h.wk, fun p hp => ⟨fun a => (dn p hp).1 a (fun z => nomatch z), fun a => (dn p hp).2 a (fun z => nomatch z)⟩, h.sub⟩
end PB

namespace PB
open PySem PySem.Spec PyProof.Rows L2 DL MP MB PN
section
variable {S : Store} {a b c : Cell}
theorem h20 : (S ++ [a, b])[S.length]? = some a := by simp
theorem h21 : (S ++ [a, b])[S.length + 1]? = some b := by simp
theorem t20 : (S ++ [a, b]).set S.length c = S ++ [c, b] := by simp
theorem t21 : (S ++ [a, b]).set (S.length + 1) c = S ++ [a, c] := by simp
theorem h10 : (S ++ [a])[S.length]? = some a := by simp
theorem t10 : (S ++ [a]).set S.length c = S ++ [c] := by simp
end
theorem eq_strs3 (u w : List Nat) : pEq (.str u) (.str w) = some (.bl (decide (u = w))) := by
  simp only [pEq, sh, eqD_str, and_self, if_true]
theorem add_wD {w : List Nat} (k : Nat) (h : w.length < 1000000) : pAdd (wD w) (.lst [.int (k : Nat)]) = some (wD (w ++ [k])) := by
  have : w.length + 1 ≤ 1000000 := h
  simp [pAdd, wD, natsD, this]
noncomputable def wfIn : SM := sIf (bAnd (toB (eOp2 pEq (eVar 10) (eVar 6))) (toB (eOp2 pNotIn (eVar 11) (eVar 4)))) (sSeq (sPut (eVar 4) (eVar 11) (eOp2 pAdd (eOp2 pIx (eVar 4) (eVar 6)) (eLst (aCons (eVar 7) (aNil))))) (sExpr (eMutL true mAppend (eVar 5) (aCons (eVar 11) (aNil))))) (sNil)
noncomputable def wfMid : SM := sFor (iOf (eTup (aCons (eTup (aCons (eVar 8) (aCons (eVar 9) (aNil)))) (aCons (eTup (aCons (eVar 9) (aCons (eVar 8) (aNil)))) (aNil))))) (bTup (bCons (bN 10) (bCons (bN 11) (bNil)))) wfIn
abbrev bE : TB := bTup (bCons (bN 7) (bCons (bTup (bCons (bN 8) (bCons (bN 9) (bNil)))) (bNil)))
noncomputable def wfBody : SM := sSeq (sSet 6 (eMutL false mPop0 (eVar 5) (aCons (eC (.int 0)) (aNil)))) (sFor (iEnumD (eVar 3)) bE wfMid)
theorem m_walk_eq : m_walk_from = sSeq (sSet 3 (eCall 2 d_pairs_of (aCons (eVar 0) (aCons (eVar 1) (aNil))))) (sSeq (sSet 4 (eDisp1 (eVar 2) (eLst (aNil)))) (sSeq (sSet 5 (eNew (cLst (aCons (eVar 2) (aNil))))) (sSeq (sWhile (toB (eOp2 pNe (eVar 5) (eLst (aNil)))) wfBody) (sRet (eFin (eVar 4)))))) := rfl
abbrev sgD (l : List Nat) : List D := l.map fun c => .str [c]
abbrev SW (S : Store) (st : St2) : Store := S ++ [.dct (fkD st.1), .lst (sgD st.2)]
abbrev EW (x0 x1 x2 x3 : Option Val) (n : Nat) (x6 x7 x8 x9 x10 x11 : Option Val) : Ev := [x0, x1, x2, x3, some (.ptr n), some (.ptr (n + 1)), x6, x7, x8, x9, x10, x11]
section
variable {S : Store} {x0 x1 x2 x3 : Option Val}
theorem wfIn_run {st : St2} {here k now later : Nat} (x8 x9 : Option Val) (hh : here ∈ st.1.map (·.1)) (h1 : st.1.length < 100000) (h2 : st.2.length < 100000) (h3 : ∀ q ∈ st.1, q.2.length < 100000) :
    wfIn (EW x0 x1 x2 x3 S.length (some (.dat (.str [here]))) (some (.dat (.int (k : Nat)))) x8 x9 (some (.dat (.str [now]))) (some (.dat (.str [later])))) (SW S st) =
      .nx (EW x0 x1 x2 x3 S.length (some (.dat (.str [here]))) (some (.dat (.int (k : Nat)))) x8 x9 (some (.dat (.str [now]))) (some (.dat (.str [later])))) (SW S (sub2 here k now later st)) := by
  have q := eq_strs3 [now] [here]
  have n := notIn_kv (f := wD) st.1 later
  have ix := ix_fk hh
  have ad := add_wD (w := PN.wk st.1 here) k (by
    obtain ⟨v, e⟩ := lk_some.mp hh
    have := h3 _ (lk_mem e)
    unfold PN.wk
    rw [e]
    exact Nat.lt_trans this (by decide))
  have kl : (fkD st.1).length < 1000000 := by rw [kv_len]; omega
  have rl : st.2.length < 1000000 := by omega
  by_cases c1 : now = here
  · have d1 : decide ([now] = [here]) = true := decide_eq_true (by rw [c1])
    rw [d1] at q
    by_cases c2 : later ∈ st.1.map (·.1)
    · rw [decide_eq_true c2] at n
      have e : sub2 here k now later st = st := if_neg fun z => z.2 c2
      rw [e]
      simp [wfIn, EW, SW, fnOf, env0, sSeq, SOut.bind, sRet, sRetN, sOf, sIf, sNil, sExpr, sSet, sRaise, eAnd, eOr, eNot, bAnd, bOr, bNot, eOp1, op1, eOp2, op2, eOpN, opN, eVar, eC, deref, derefs, Out.bind, asB, toB, ofB, cut_dat, cutS_self, cutS_head0, cutS_one, cutS_none, eChain, eTup, eLst, dats, aNil, aCons, eCall, eIf, pOne, pTwo, q, h20, n]
    · rw [decide_eq_false c2] at n
      have e : sub2 here k now later st = (st.1 ++ [(later, PN.wk st.1 here ++ [k])], st.2 ++ [later]) := if_pos ⟨c1, c2⟩
      have pt := put_kv (f := wD) (k := PN.wk st.1 here ++ [k]) c2
      rw [e]
      simp [wfIn, EW, SW, fnOf, env0, sSeq, SOut.bind, sRet, sRetN, sOf, sIf, sNil, sExpr, sSet, sRaise, eAnd, eOr, eNot, bAnd, bOr, bNot, eOp1, op1, eOp2, op2, eOpN, opN, eVar, eC, deref, derefs, Out.bind, asB, toB, ofB, cut_dat, cutS_self, cutS_head0, cutS_one, cutS_none, eChain, eTup, eLst, dats, aNil, aCons, eCall, eIf, pOne, pTwo, q, h20, h21, t20, t21, n, ix, ad, sPut, DL.putAt, key_one, kl, pt, eMutL, mutL, argD, mAppend, rl]
  · have d1 : decide ([now] = [here]) = false := decide_eq_false (by simpa using c1)
    rw [d1] at q
    have e : sub2 here k now later st = st := if_neg fun z => c1 z.1
    rw [e]
    simp [wfIn, EW, SW, fnOf, env0, sSeq, SOut.bind, sRet, sRetN, sOf, sIf, sNil, sExpr, sSet, sRaise, eAnd, eOr, eNot, bAnd, bOr, bNot, eOp1, op1, eOp2, op2, eOpN, opN, eVar, eC, deref, derefs, Out.bind, asB, toB, ofB, cut_dat, cutS_self, cutS_head0, cutS_one, cutS_none, eChain, eTup, eLst, dats, aNil, aCons, eCall, eIf, pOne, pTwo, q]
theorem wfMid_run {st : St2} {here k : Nat} {p : Nat × Nat} (x10 x11 : Option Val) {ps : List (Nat × Nat)} {s : Nat} (hi : Inv ps s st) (hp : ps[k]? = some p) (hh : here ∈ st.1.map (·.1)) (h1 : st.1.length < 90000) (h2 : st.2.length < 90000) :
    ∃ y10 y11, wfMid (EW x0 x1 x2 x3 S.length (some (.dat (.str [here]))) (some (.dat (.int (k : Nat)))) (some (.dat (.str [p.1]))) (some (.dat (.str [p.2]))) x10 x11) (SW S st) =
      .nx (EW x0 x1 x2 x3 S.length (some (.dat (.str [here]))) (some (.dat (.int (k : Nat)))) (some (.dat (.str [p.1]))) (some (.dat (.str [p.2]))) y10 y11) (SW S (sub2 here k p.2 p.1 (sub2 here k p.1 p.2 st))) := by
  obtain ⟨d, s1, s2⟩ := sub2_size here k p.1 p.2 st
  have hd : d ≤ 1 := by
    unfold sub2 at s1
    split at s1
    · simp at s1; omega
    · omega
  have e1 := wfIn_run (S := S) (x0 := x0) (x1 := x1) (x2 := x2) (x3 := x3) (st := st) (k := k) (now := p.1) (later := p.2) (some (.dat (.str [p.1]))) (some (.dat (.str [p.2]))) hh (by omega) (by omega) (fun q hq => by have := hi.ln q hq; omega)
  have i1 := hi.sub2 (here := here) hp (.inl ⟨rfl, rfl⟩) hh
  have e2 := wfIn_run (S := S) (x0 := x0) (x1 := x1) (x2 := x2) (x3 := x3) (st := sub2 here k p.1 p.2 st) (k := k) (now := p.2) (later := p.1) (some (.dat (.str [p.1]))) (some (.dat (.str [p.2]))) (sub2_keys.mpr (.inl hh)) (by omega) (by omega) (fun q hq => by have := i1.ln q hq; omega)
  refine ⟨some (.dat (.str [p.2])), some (.dat (.str [p.1])), ?_⟩
  generalize sub2 here k p.1 p.2 st = st1 at *
  generalize sub2 here k p.2 p.1 st1 = st2 at *
  simp only [EW, SW] at e1 e2
  simp [wfMid, EW, SW, fnOf, env0, sSeq, SOut.bind, sRet, sRetN, sOf, sIf, sNil, sExpr, sSet, sRaise, eAnd, eOr, eNot, bAnd, bOr, bNot, eOp1, op1, eOp2, op2, eOpN, opN, eVar, eC, deref, derefs, Out.bind, asB, toB, ofB, cut_dat, cutS_self, cutS_head0, cutS_one, cutS_none, eChain, eTup, eLst, dats, aNil, aCons, eCall, eIf, pOne, pTwo, sFor, iOf, itemsD, sForL, bTup, bCons, bN, bNil, setE, e1, e2]
theorem wfEdges_run {here : Nat} {ps : List (Nat × Nat)} {s : Nat} : ∀ {r : List (Nat × Nat)} {k : Nat} {st : St2} (x7 x8 x9 x10 x11 : Option Val), Inv ps s st → here ∈ st.1.map (·.1) → (∀ j p, r[j]? = some p → ps[k + j]? = some p) → st.1.length + 2 * r.length < 80000 → st.2.length + 2 * r.length < 80000 →
    ∃ y7 y8 y9 y10 y11, sForL bE wfMid (enumF k r) (EW x0 x1 x2 x3 S.length (some (.dat (.str [here]))) x7 x8 x9 x10 x11) (SW S st) = .nx (EW x0 x1 x2 x3 S.length (some (.dat (.str [here]))) y7 y8 y9 y10 y11) (SW S (edges here k r st))
  | [], k, st, x7, x8, x9, x10, x11, _, _, _, _, _ => ⟨x7, x8, x9, x10, x11, rfl⟩
  | p :: r, k, st, x7, x8, x9, x10, x11, h, hh, hr, h1, h2 => by
    rw [List.length_cons] at h1 h2
    obtain ⟨z10, z11, e1⟩ := wfMid_run (S := S) (x0 := x0) (x1 := x1) (x2 := x2) (x3 := x3) (st := st) (here := here) (k := k) (p := p) x10 x11 h (hr 0 p rfl) hh (by omega) (by omega)
    have e : ps[k]? = some p := hr 0 p rfl
    have i1 := h.sub2 (here := here) e (.inl ⟨rfl, rfl⟩) hh
    have i2 := i1.sub2 (here := here) e (.inr ⟨rfl, rfl⟩) (sub2_keys.mpr (.inl hh))
    obtain ⟨d1, j1, j2⟩ := sub2_size here k p.1 p.2 st
    obtain ⟨d2, j3, j4⟩ := sub2_size here k p.2 p.1 (sub2 here k p.1 p.2 st)
    have hd1 : d1 ≤ 1 := by
      unfold sub2 at j1
      split at j1
      · simp at j1; omega
      · omega
    have hd2 : d2 ≤ 1 := by
      rw [show sub2 here k p.2 p.1 (sub2 here k p.1 p.2 st) = if p.2 = here ∧ p.1 ∉ (sub2 here k p.1 p.2 st).1.map (·.1) then _ else _ from rfl] at j3
      split at j3
      · simp at j3; omega
      · omega
    obtain ⟨y7, y8, y9, y10, y11, e2⟩ := wfEdges_run (r := r) (k := k + 1) (st := sub2 here k p.2 p.1 (sub2 here k p.1 p.2 st)) (some (.dat (.int (k : Nat)))) (some (.dat (.str [p.1]))) (some (.dat (.str [p.2]))) z10 z11 i2 (sub2_keys.mpr (.inl (sub2_keys.mpr (.inl hh)))) (fun j q hj => by
      have := hr (j + 1) q hj
      rw [show k + 1 + j = k + (j + 1) from by omega]
      exact this) (by omega) (by omega)
    refine ⟨y7, y8, y9, y10, y11, ?_⟩
    have hb : bE (.ktp [.int (k : Nat), prD p]) = some [(7, .int (k : Nat)), (8, .str [p.1]), (9, .str [p.2])] := rfl
    rw [enumF_cons]
    simp only [sForL, hb]
    show (match wfMid (EW x0 x1 x2 x3 S.length (some (.dat (.str [here]))) (some (.dat (.int (k : Nat)))) (some (.dat (.str [p.1]))) (some (.dat (.str [p.2]))) x10 x11) (SW S st) with
        | .nx ρ2 S2 => sForL bE wfMid (enumF (k + 1) r) ρ2 S2
        | .ct ρ2 S2 => sForL bE wfMid (enumF (k + 1) r) ρ2 S2
        | .bk ρ2 S2 => .nx ρ2 S2
        | o => o) = _
    rw [e1]
    exact e2
theorem ne_sgs (l : List Nat) : pNe (.lst (sgD l)) (.lst []) = some (.bl (!l.isEmpty)) := by
  have h1 : sh 9 (.lst (sgD l)) = true := by
    simp [sh, sgD]
  have h2 : eqD (.lst (sgD l)) (.lst []) = l.isEmpty := by
    cases l with
    | nil => decide +kernel
    | cons c l => simp [eqD, toPy, toPys, PyData.eqv, PyData.eqvAll, sgD]
  unfold pNe
  rw [if_pos ⟨h1, rfl⟩, h2]
/-- rounds until no letter is left -/
def walkN (ps : List (Nat × Nat)) : Nat → St2 → List (Nat × List Nat)
  | 0, st => st.1
  | n + 1, (fd, []) => fd
  | n + 1, (fd, here :: row) => walkN ps n (edges here 0 ps (fd, row))
theorem walkN_nil (ps : List (Nat × Nat)) (fd : List (Nat × List Nat)) : ∀ n, walkN ps n (fd, []) = fd
  | 0 => rfl
  | _ + 1 => rfl
theorem wf_loop {ps : List (Nat × Nat)} {s : Nat} (hps : ps.length ≤ 1000) : ∀ (n : Nat) {st : St2} (x6 x7 x8 x9 x10 x11 : Option Val), n ≤ 5000 → Inv ps s st → Done ps st → st.2.length + ((flat2 ps).length + 1 - st.1.length) ≤ n →
    Pc ps s (walkN ps n st) ∧ (walkN ps n st).length ≤ (flat2 ps).length + 1 ∧ (∀ q ∈ walkN ps n st, q.2.length < (walkN ps n st).length) ∧ ∃ (y6 y7 y8 y9 y10 y11 : Option Val), sWh (toB (eOp2 pNe (eVar 5) (eLst (aNil)))) wfBody (n + 1) (EW x0 x1 x2 (some (.dat (.lst (ps.map prD)))) S.length x6 x7 x8 x9 x10 x11) (SW S st) = .nx (EW x0 x1 x2 (some (.dat (.lst (ps.map prD)))) S.length y6 y7 y8 y9 y10 y11) (SW S (walkN ps n st, []))
  | n, (fd, []), x6, x7, x8, x9, x10, x11, hN, h, dn, hn => by
    rw [walkN_nil]
    refine ⟨h.pc dn, h.size, h.ln, x6, x7, x8, x9, x10, x11, ?_⟩
    have ne := ne_sgs []
    simp only [sgD, List.map_nil] at ne
    simp [sWh, EW, SW, fnOf, env0, sSeq, SOut.bind, sRet, sRetN, sOf, sIf, sNil, sExpr, sSet, sRaise, eAnd, eOr, eNot, bAnd, bOr, bNot, eOp1, op1, eOp2, op2, eOpN, opN, eVar, eC, deref, derefs, Out.bind, asB, toB, ofB, cut_dat, cutS_self, cutS_head0, cutS_one, cutS_none, eChain, eTup, eLst, dats, aNil, aCons, eCall, eIf, pOne, pTwo, h21, ne]
  | 0, (fd, here :: row), _, _, _, _, _, _, _, h, dn, hn => by
    rw [List.length_cons] at hn
    omega
  | n + 1, (fd, here :: row), x6, x7, x8, x9, x10, x11, hN, h, dn, hn => by
    obtain ⟨i1, i2, d, i3, i4⟩ := edges_done h dn
    have sz := h.size
    have sz2 := i1.size
    have fl := flat2_len ps
    have hn0 : row.length + 1 + ((flat2 ps).length + 1 - fd.length) ≤ n + 1 := hn
    have hrow : row.length ≤ 5000 := by omega
    have hh : here ∈ fd.map (·.1) := h.row here List.mem_cons_self
    have h' : Inv ps s (fd, row) := ⟨h.hd, h.nd, h.wk, h.sub, fun c hc => h.row c (List.mem_cons_of_mem _ hc), h.ln⟩
    obtain ⟨z7, z8, z9, z10, z11, e1⟩ := wfEdges_run (S := S) (x0 := x0) (x1 := x1) (x2 := x2) (x3 := some (.dat (.lst (ps.map prD)))) (here := here) (r := ps) (k := 0) x7 x8 x9 x10 x11 h' hh (fun j p e => by rw [Nat.zero_add]; exact e) (by have : fd.length ≤ (flat2 ps).length + 1 := sz; show fd.length + _ < _; omega) (by show row.length + _ < _; omega)
    obtain ⟨p1, p2, p3, y6, y7, y8, y9, y10, y11, e2⟩ := wf_loop hps n (st := edges here 0 ps (fd, row)) (some (.dat (.str [here]))) z7 z8 z9 z10 z11 (by omega) i1 i2 (by
      have : fd.length + d ≤ (flat2 ps).length + 1 := by rw [← i3]; exact sz2
      rw [i3, i4]
      omega)
    refine ⟨p1, p2, p3, y6, y7, y8, y9, y10, y11, ?_⟩
    have ne := ne_sgs (here :: row)
    simp only [sgD, List.map_cons] at ne
    have body : wfBody (EW x0 x1 x2 (some (.dat (.lst (ps.map prD)))) S.length x6 x7 x8 x9 x10 x11) (SW S (fd, here :: row)) = .nx (EW x0 x1 x2 (some (.dat (.lst (ps.map prD)))) S.length (some (.dat (.str [here]))) z7 z8 z9 z10 z11) (SW S (edges here 0 ps (fd, row))) := by
      simp only [EW, SW] at e1
      simp [wfBody, EW, SW, fnOf, env0, sSeq, SOut.bind, sRet, sRetN, sOf, sIf, sNil, sExpr, sSet, sRaise, eAnd, eOr, eNot, bAnd, bOr, bNot, eOp1, op1, eOp2, op2, eOpN, opN, eVar, eC, deref, derefs, Out.bind, asB, toB, ofB, cut_dat, cutS_self, cutS_head0, cutS_one, cutS_none, eChain, eTup, eLst, dats, aNil, aCons, eCall, eIf, pOne, pTwo, h21, t21, eMutL, mutL, argD, mPop0, sgD, sFor, iEnumD, enum_prs, e1]
    have test : toB (eOp2 pNe (eVar 5) (eLst (aNil))) (EW x0 x1 x2 (some (.dat (.lst (ps.map prD)))) S.length x6 x7 x8 x9 x10 x11) (SW S (fd, here :: row)) = .ok true (SW S (fd, here :: row)) := by
      simp [EW, SW, fnOf, env0, sSeq, SOut.bind, sRet, sRetN, sOf, sIf, sNil, sExpr, sSet, sRaise, eAnd, eOr, eNot, bAnd, bOr, bNot, eOp1, op1, eOp2, op2, eOpN, opN, eVar, eC, deref, derefs, Out.bind, asB, toB, ofB, cut_dat, cutS_self, cutS_head0, cutS_one, cutS_none, eChain, eTup, eLst, dats, aNil, aCons, eCall, eIf, pOne, pTwo, h21, ne]
    rw [sWh]
    simp only [test, body, sOf, if_true]
    exact e2
end
def foundN (ps : List (Nat × Nat)) (s : Nat) : List (Nat × List Nat) := walkN ps ((flat2 ps).length + 1) ([(s, [])], [s])
theorem start_inv (ps : List (Nat × Nat)) (s : Nat) : Inv ps s ([(s, [])], [s]) :=
  ⟨⟨[], rfl⟩, by simp, fun q hq => by rw [List.mem_singleton.mp hq]; exact .nil s, fun c hc => .inl (by simpa using hc), fun c hc => by simpa using hc, fun q hq => by rw [List.mem_singleton.mp hq]; simp⟩
theorem start_done (ps : List (Nat × Nat)) (s : Nat) : Done ps ([(s, [])], [s]) := fun p hp => ⟨fun a b => absurd (by simpa using a) (by simpa using b), fun a b => absurd (by simpa using a) (by simpa using b)⟩
theorem found_ok (ps : List (Nat × Nat)) (s : Nat) (hps : ps.length ≤ 1000) : Pc ps s (foundN ps s) ∧ (foundN ps s).length ≤ 2 * ps.length + 1 ∧ ∀ q ∈ foundN ps s, q.2.length < (foundN ps s).length := by
  have fl := flat2_len ps
  obtain ⟨p1, p2, p3, _⟩ := wf_loop (S := []) (x0 := none) (x1 := none) (x2 := none) hps ((flat2 ps).length + 1) (st := ([(s, [])], [s])) none none none none none none (by omega) (start_inv ps s) (start_done ps s) (by simp; omega)
  exact ⟨p1, by unfold foundN; omega, p3⟩
theorem p_walk_from (ws : List (List Nat)) (i j : Int) (s : Nat) (S : Store) (h : ∀ w ∈ ws, 1 ≤ w.length ∧ w.length ≤ 1000) (hn : ws.length ≤ 1000) : d_walk_from [.dat (wsD ws), .dat (lkD i j), .dat (.str [s])] S = .ok (.dat (.dct (fkD (foundN (prs ws i j) s)))) S := by
  have e1 := p_pairs_of ws i j S h hn
  have fl := flat2_len (prs ws i j)
  have pl := prs_len ws i j
  obtain ⟨_, _, _, y6, y7, y8, y9, y10, y11, e2⟩ := wf_loop (S := S) (x0 := some (.dat (wsD ws))) (x1 := some (.dat (lkD i j))) (x2 := some (.dat (.str [s]))) (ps := prs ws i j) (by omega) ((flat2 (prs ws i j)).length + 1) (st := ([(s, [])], [s])) none none none none none none (by omega) (start_inv _ s) (start_done _ s) (by simp; omega)
  have e3 := sWhile_eq (t := toB (eOp2 pNe (eVar 5) (eLst (aNil)))) (body := wfBody) ((flat2 (prs ws i j)).length + 1 + 1) (by rw [e2]; exact fun z => nomatch z)
  rw [e2] at e3
  have hf : walkN (prs ws i j) ((flat2 (prs ws i j)).length + 1) ([(s, [])], [s]) = foundN (prs ws i j) s := rfl
  rw [hf] at e3
  have c0 : ([(s, [])] : List (Nat × List Nat)).map (fun p => (D.str [p.1], wD p.2)) = [(D.str [s], .lst [])] := rfl
  simp only [EW, SW, fkD, kvD, c0, sgD, List.map_cons, List.map_nil] at e3
  simp only [d_walk_from, fnOf, env0, m_walk_eq]
  simp [fnOf, env0, sSeq, SOut.bind, sRet, sRetN, sOf, sIf, sNil, sExpr, sSet, sRaise, eAnd, eOr, eNot, bAnd, bOr, bNot, eOp1, op1, eOp2, op2, eOpN, opN, eVar, eC, deref, derefs, Out.bind, asB, toB, ofB, cut_dat, cutS_self, cutS_head0, cutS_one, cutS_none, eChain, eTup, eLst, dats, aNil, aCons, eCall, eIf, pOne, pTwo, e1, eDisp1, h10, t10, key_one, eNew, cLst, e3, eFin, h20, t20, cellD, cutS_more, fkD, kvD]
end PB

namespace PB
open PySem PySem.Spec PyProof.Rows L2 DL MP MB PN
abbrev Grps := List (Nat × List (Nat × List Nat))
def grpN (ps : List (Nat × Nat)) : Nat → List Nat → Grps
  | 0, _ => []
  | _ + 1, [] => []
  | n + 1, s :: left => (s, foundN ps s) :: grpN ps n ((s :: left).filter fun c => decide (c ∉ (foundN ps s).map (·.1)))
theorem grp_ok {ps : List (Nat × Nat)} (hps : ps.length ≤ 1000) : ∀ (n : Nat) (left : List Nat), left.length ≤ n → Grp ps left (grpN ps n left)
  | 0, [], _ => .nil
  | 0, s :: left, h => by simp at h
  | n + 1, [], _ => .nil
  | n + 1, s :: left, h => by
    obtain ⟨h1, h2, h3⟩ := found_ok ps s hps
    refine .cons h1 (grp_ok hps n _ ?_)
    obtain ⟨t, e⟩ := h1.hd
    have hs : ¬ (s ∉ (foundN ps s).map (·.1)) := fun z => z (by rw [e]; exact List.mem_cons_self)
    rw [List.filter_cons, if_neg (by simpa using hs)]
    have := List.length_filter_le (fun c => decide (c ∉ (foundN ps s).map (·.1))) left
    simp at h
    omega
def groupsN (ps : List (Nat × Nat)) : Grps := grpN ps (ltrs ps).length (ltrs ps)
theorem groups_ok {ps : List (Nat × Nat)} (hps : ps.length ≤ 1000) : Grp ps (ltrs ps) (groupsN ps) := grp_ok hps _ _ (Nat.le_refl _)
def gD (g : Nat × List (Nat × List Nat)) : D := .tup [.str [g.1], .dct (fkD g.2)]
noncomputable def grBody : SM := sSeq (sSet 4 (eCall 3 d_walk_from (aCons (eVar 0) (aCons (eVar 1) (aCons (eOp2 pIx (eVar 2) (eC (.int 0))) (aNil)))))) (sSeq (sExpr (eMutL true mAppend (eVar 3) (aCons (eTup (aCons (eOp2 pIx (eVar 2) (eC (.int 0))) (aCons (eVar 4) (aNil)))) (aNil)))) (sSet 2 (eComp [5] (iOf (eVar 2)) (bN 5) (toB (eOp2 pNotIn (eVar 5) (eVar 4))) (eVar 5))))
theorem m_groups_eq : m_groups = sSeq (sSet 2 (eCall 2 d_letters_of (aCons (eVar 0) (aCons (eVar 1) (aNil))))) (sSeq (sSet 3 (eNew (cLst (aNil)))) (sSeq (sWhile (toB (eOp2 pNe (eVar 2) (eLst (aNil)))) grBody) (sRet (eFin (eVar 3))))) := rfl
theorem filt_sgD (left : List Nat) (fd : List (Nat × List Nat)) : ((sgD left).filter fun d => match d with
    | .str [c] => decide (c ∉ fd.map (·.1))
    | _ => false) = sgD (left.filter fun c => decide (c ∉ fd.map (·.1))) := by
  unfold sgD
  rw [List.filter_map]
  rfl
theorem gr_loop (ws : List (List Nat)) (i j : Int) (h : ∀ w ∈ ws, 1 ≤ w.length ∧ w.length ≤ 1000) (hn : ws.length ≤ 1000) (S : Store) : ∀ (n : Nat) (left : List Nat) (acc : Grps) (x4 : Option Val), left.length ≤ n → acc.length + n ≤ 90000 →
    ∃ y4, sWh (toB (eOp2 pNe (eVar 2) (eLst (aNil)))) grBody (n + 1) [some (.dat (wsD ws)), some (.dat (lkD i j)), some (.dat (.lst (sgD left))), some (.ptr S.length), x4, none] (S ++ [.lst (acc.map gD)]) =
      .nx [some (.dat (wsD ws)), some (.dat (lkD i j)), some (.dat (.lst [])), some (.ptr S.length), y4, none] (S ++ [.lst ((acc ++ grpN (prs ws i j) n left).map gD)])
  | n, [], acc, x4, _, _ => by
    refine ⟨x4, ?_⟩
    have ne := ne_sgs []
    simp only [sgD, List.map_nil] at ne
    have e : grpN (prs ws i j) n [] = [] := by cases n <;> rfl
    simp [sWh, fnOf, env0, sSeq, SOut.bind, sRet, sRetN, sOf, sIf, sNil, sExpr, sSet, sRaise, eAnd, eOr, eNot, bAnd, bOr, bNot, eOp1, op1, eOp2, op2, eOpN, opN, eVar, eC, deref, derefs, Out.bind, asB, toB, ofB, cut_dat, cutS_self, cutS_head0, cutS_one, cutS_none, eChain, eTup, eLst, dats, aNil, aCons, eCall, eIf, pOne, pTwo, ne, e]
  | 0, s :: left, acc, x4, hl, _ => by simp at hl
  | n + 1, s :: left, acc, x4, hl, ha => by
    have hw := p_walk_from ws i j s (S ++ [.lst (acc.map gD)]) h hn
    obtain ⟨h1, h2, h3⟩ := found_ok (prs ws i j) s (by rw [prs_len]; exact hn)
    obtain ⟨t, e⟩ := h1.hd
    have hs : ¬ (s ∉ (foundN (prs ws i j) s).map (·.1)) := fun z => z (by rw [e]; exact List.mem_cons_self)
    have hlen : ((s :: left).filter fun c => decide (c ∉ (foundN (prs ws i j) s).map (·.1))).length ≤ n := by
      rw [List.filter_cons, if_neg (by simpa using hs)]
      have := List.length_filter_le (fun c => decide (c ∉ (foundN (prs ws i j) s).map (·.1))) left
      simp at hl
      omega
    obtain ⟨y4, ih⟩ := gr_loop ws i j h hn S n ((s :: left).filter fun c => decide (c ∉ (foundN (prs ws i j) s).map (·.1))) (acc ++ [(s, foundN (prs ws i j) s)]) (some (.dat (.dct (fkD (foundN (prs ws i j) s))))) hlen (by simp; omega)
    refine ⟨y4, ?_⟩
    have hg : grpN (prs ws i j) (n + 1) (s :: left) = (s, foundN (prs ws i j) s) :: grpN (prs ws i j) n ((s :: left).filter fun c => decide (c ∉ (foundN (prs ws i j) s).map (·.1))) := rfl
    rw [hg]
    have acc2 : acc ++ (s, foundN (prs ws i j) s) :: grpN (prs ws i j) n ((s :: left).filter fun c => decide (c ∉ (foundN (prs ws i j) s).map (·.1))) = acc ++ [(s, foundN (prs ws i j) s)] ++ grpN (prs ws i j) n ((s :: left).filter fun c => decide (c ∉ (foundN (prs ws i j) s).map (·.1))) := by simp
    rw [acc2]
    generalize foundN (prs ws i j) s = fd at *
    have ne := ne_sgs (s :: left)
    have ix : pIx (.lst (sgD (s :: left))) (.int 0) = some (.str [s]) := atI_nat (j := 0) rfl
    have al : acc.length < 1000000 := by omega
    have cm := compL_filt (i := 5) (mt := toB (eOp2 pNotIn (eVar 5) (eVar 4))) (me := eVar 5) (ρ := [some (.dat (wsD ws)), some (.dat (lkD i j)), some (.dat (.lst (sgD (s :: left)))), some (.ptr S.length), some (.dat (.dct (fkD fd))), none]) (f := fun d => match d with
      | .str [c] => decide (c ∉ fd.map (·.1))
      | _ => false) (g := id) (ds := sgD (s :: left)) (S := S ++ [.lst ((acc ++ [(s, fd)]).map gD)]) fun d hd => by
        obtain ⟨c, _, rfl⟩ := List.mem_map.mp hd
        have q := notIn_kv (f := wD) fd c
        refine ⟨?_, by simp [fnOf, env0, sSeq, SOut.bind, sRet, sRetN, sOf, sIf, sNil, sExpr, sSet, sRaise, eAnd, eOr, eNot, bAnd, bOr, bNot, eOp1, op1, eOp2, op2, eOpN, opN, eVar, eC, deref, derefs, Out.bind, asB, toB, ofB, cut_dat, cutS_self, cutS_head0, cutS_one, cutS_none, eChain, eTup, eLst, dats, aNil, aCons, eCall, eIf, pOne, pTwo]⟩
        simp [fnOf, env0, sSeq, SOut.bind, sRet, sRetN, sOf, sIf, sNil, sExpr, sSet, sRaise, eAnd, eOr, eNot, bAnd, bOr, bNot, eOp1, op1, eOp2, op2, eOpN, opN, eVar, eC, deref, derefs, Out.bind, asB, toB, ofB, cut_dat, cutS_self, cutS_head0, cutS_one, cutS_none, eChain, eTup, eLst, dats, aNil, aCons, eCall, eIf, pOne, pTwo, q]
    rw [List.map_id, filt_sgD] at cm
    have ll : (sgD (s :: left)).length ≤ 1000000 := by
      rw [List.length_map]
      omega
    generalize ((s :: left).filter fun c => decide (c ∉ fd.map (·.1))) = rest at *
    have gd : gD (s, fd) = .tup [.str [s], .dct (fkD fd)] := rfl
    have body : grBody [some (.dat (wsD ws)), some (.dat (lkD i j)), some (.dat (.lst (sgD (s :: left)))), some (.ptr S.length), x4, none] (S ++ [.lst (acc.map gD)]) = .nx [some (.dat (wsD ws)), some (.dat (lkD i j)), some (.dat (.lst (sgD rest))), some (.ptr S.length), some (.dat (.dct (fkD fd))), none] (S ++ [.lst ((acc ++ [(s, fd)]).map gD)]) := by
      have gm : (acc ++ [(s, fd)]).map gD = acc.map gD ++ [.tup [.str [s], .dct (fkD fd)]] := by rw [List.map_append]; rfl
      rw [gm] at cm ⊢
      generalize sgD (s :: left) = L at *
      generalize fkD fd = FD at *
      simp [grBody, fnOf, env0, sSeq, SOut.bind, sRet, sRetN, sOf, sIf, sNil, sExpr, sSet, sRaise, eAnd, eOr, eNot, bAnd, bOr, bNot, eOp1, op1, eOp2, op2, eOpN, opN, eVar, eC, deref, derefs, Out.bind, asB, toB, ofB, cut_dat, cutS_self, cutS_head0, cutS_one, cutS_none, eChain, eTup, eLst, dats, aNil, aCons, eCall, eIf, pOne, pTwo, ix, hw, eMutL, mutL, argD, mAppend, h10, t10, al, eComp, iOf, itemsD, ll, wipeE, cm]
    have test : toB (eOp2 pNe (eVar 2) (eLst (aNil))) [some (.dat (wsD ws)), some (.dat (lkD i j)), some (.dat (.lst (sgD (s :: left)))), some (.ptr S.length), x4, none] (S ++ [.lst (acc.map gD)]) = .ok true (S ++ [.lst (acc.map gD)]) := by
      generalize sgD (s :: left) = L at *
      simp [fnOf, env0, sSeq, SOut.bind, sRet, sRetN, sOf, sIf, sNil, sExpr, sSet, sRaise, eAnd, eOr, eNot, bAnd, bOr, bNot, eOp1, op1, eOp2, op2, eOpN, opN, eVar, eC, deref, derefs, Out.bind, asB, toB, ofB, cut_dat, cutS_self, cutS_head0, cutS_one, cutS_none, eChain, eTup, eLst, dats, aNil, aCons, eCall, eIf, pOne, pTwo, ne]
    rw [sWh]
    simp only [test, body, sOf, if_true]
    exact ih
theorem p_groups (ws : List (List Nat)) (i j : Int) (S : Store) (h : ∀ w ∈ ws, 1 ≤ w.length ∧ w.length ≤ 1000) (hn : ws.length ≤ 20) : d_groups [.dat (wsD ws), .dat (lkD i j)] S = .ok (.dat (.lst ((groupsN (prs ws i j)).map gD))) S := by
  have e1 := p_letters_of ws i j S h hn
  have sl := srt_len (flat2 (prs ws i j))
  have fl := flat2_len (prs ws i j)
  have pl := prs_len ws i j
  have ll : (ltrs (prs ws i j)).length ≤ 40 := by
    unfold ltrs
    omega
  obtain ⟨y4, e2⟩ := gr_loop ws i j h (by omega) S (ltrs (prs ws i j)).length (ltrs (prs ws i j)) [] none (Nat.le_refl _) (by simp; omega)
  have e3 := sWhile_eq (t := toB (eOp2 pNe (eVar 2) (eLst (aNil)))) (body := grBody) ((ltrs (prs ws i j)).length + 1) (by rw [e2]; exact fun z => nomatch z)
  rw [e2, List.nil_append, List.map_nil] at e3
  have hf : grpN (prs ws i j) (ltrs (prs ws i j)).length (ltrs (prs ws i j)) = groupsN (prs ws i j) := rfl
  rw [hf] at e3
  simp only [d_groups, fnOf, env0, m_groups_eq]
  simp [fnOf, env0, sSeq, SOut.bind, sRet, sRetN, sOf, sIf, sNil, sExpr, sSet, sRaise, eAnd, eOr, eNot, bAnd, bOr, bNot, eOp1, op1, eOp2, op2, eOpN, opN, eVar, eC, deref, derefs, Out.bind, asB, toB, ofB, cut_dat, cutS_self, cutS_head0, cutS_one, cutS_none, eChain, eTup, eLst, dats, aNil, aCons, eCall, eIf, pOne, pTwo, e1, eNew, cLst, e3, eFin, h10, t10, cellD, cutS_more]
theorem add_wD2 {w v : List Nat} (h : w.length + v.length ≤ 1000000) : pAdd (wD w) (wD v) = some (wD (w ++ v)) := by
  simp [pAdd, wD, natsD, h]
theorem rev_wD (w : List Nat) : pRev (wD w) = some (wD w.reverse) := by
  simp [pRev, wD, natsD]
def Short (fd : List (Nat × List Nat)) : Prop := ∀ q ∈ fd, q.2.length ≤ 100
theorem Short.wk {fd : List (Nat × List Nat)} (h : Short fd) (c : Nat) : (PN.wk fd c).length ≤ 100 := by
  unfold PN.wk
  cases e : lk fd c with
  | none => exact Nat.zero_le _
  | some v => exact h _ (lk_mem e)
noncomputable def clBody : SM := sIf (toB (eOp2 pIn (eVar 6) (eVar 3))) (sExpr (eMutL true mAppend (eVar 4) (aCons (eOp2 pAdd (eOp2 pAdd (eOp2 pIx (eVar 3) (eVar 6)) (eLst (aCons (eVar 5) (aNil)))) (eOp1 pRev (eOp2 pIx (eVar 3) (eVar 7)))) (aNil)))) (sNil)
abbrev bC : TB := bTup (bCons (bN 5) (bCons (bTup (bCons (bN 6) (bCons (bN 7) (bNil)))) (bNil)))
theorem m_closed_eq : m_closed = sSeq (sSet 4 (eNew (cLst (aNil)))) (sSeq (sFor (iEnumD (eCall 2 d_pairs_of (aCons (eVar 0) (aCons (eVar 1) (aNil))))) bC clBody) (sRet (eFin (eVar 4)))) := rfl
theorem cl_loop {fd : List (Nat × List Nat)} (sh : Short fd) (x0 x1 x2 : Option Val) (S : Store) : ∀ {r : List (Nat × Nat)} {k : Nat} {acc : List (List Nat)} (x5 x6 x7 : Option Val), (∀ p ∈ r, p.1 ∈ fd.map (·.1) ↔ p.2 ∈ fd.map (·.1)) → acc.length + r.length ≤ 90000 →
    ∃ y5 y6 y7, sForL bC clBody (enumF k r) [x0, x1, x2, some (.dat (.dct (fkD fd))), some (.ptr S.length), x5, x6, x7] (S ++ [.lst (acc.map wD)]) = .nx [x0, x1, x2, some (.dat (.dct (fkD fd))), some (.ptr S.length), y5, y6, y7] (S ++ [.lst ((acc ++ closedG fd k r).map wD)])
  | [], k, acc, x5, x6, x7, _, _ => ⟨x5, x6, x7, by simp [enumF, sForL, closedG]⟩
  | p :: r, k, acc, x5, x6, x7, hc, ha => by
    rw [List.length_cons] at ha
    have hb : bC (.ktp [.int (k : Nat), prD p]) = some [(5, .int (k : Nat)), (6, .str [p.1]), (7, .str [p.2])] := rfl
    have q : pIn (.str [p.1]) (.dct (fkD fd)) = _ := in_kv (f := wD) fd p.1
    have hcp := hc p List.mem_cons_self
    have s1 := sh.wk p.1
    have s2 := sh.wk p.2
    by_cases c1 : p.1 ∈ fd.map (·.1)
    · rw [decide_eq_true c1] at q
      have i1 := ix_fk c1
      have i2 := ix_fk (hcp.mp c1)
      have a1 := add_wD (w := PN.wk fd p.1) k (by omega)
      have a2 := add_wD2 (w := PN.wk fd p.1 ++ [k]) (v := (PN.wk fd p.2).reverse) (by simp; omega)
      have a3 := rev_wD (PN.wk fd p.2)
      have al : acc.length < 1000000 := by omega
      have e : closedG fd k (p :: r) = (PN.wk fd p.1 ++ [k] ++ (PN.wk fd p.2).reverse) :: closedG fd (k + 1) r := by
        rw [closedG, if_pos c1]
      obtain ⟨y5, y6, y7, ih⟩ := cl_loop sh x0 x1 x2 S (r := r) (k := k + 1) (acc := acc ++ [PN.wk fd p.1 ++ [k] ++ (PN.wk fd p.2).reverse]) (some (.dat (.int (k : Nat)))) (some (.dat (.str [p.1]))) (some (.dat (.str [p.2]))) (fun q hq => hc q (List.mem_cons_of_mem _ hq)) (by simp; omega)
      refine ⟨y5, y6, y7, ?_⟩
      rw [e, enumF_cons]
      have acc2 : ∀ l : List (List Nat), acc ++ (PN.wk fd p.1 ++ [k] ++ (PN.wk fd p.2).reverse) :: l = acc ++ [PN.wk fd p.1 ++ [k] ++ (PN.wk fd p.2).reverse] ++ l := fun l => by simp
      rw [acc2, ← ih]
      generalize PN.wk fd p.1 ++ [k] ++ (PN.wk fd p.2).reverse = W at *
      have gm : (acc ++ [W]).map wD = acc.map wD ++ [wD W] := by rw [List.map_append]; rfl
      rw [gm]
      generalize fkD fd = FD at *
      simp [sForL, hb, setE, clBody, fnOf, env0, sSeq, SOut.bind, sRet, sRetN, sOf, sIf, sNil, sExpr, sSet, sRaise, eAnd, eOr, eNot, bAnd, bOr, bNot, eOp1, op1, eOp2, op2, eOpN, opN, eVar, eC, deref, derefs, Out.bind, asB, toB, ofB, cut_dat, cutS_self, cutS_head0, cutS_one, cutS_none, eChain, eTup, eLst, dats, aNil, aCons, eCall, eIf, pOne, pTwo, q, i1, i2, a1, a2, a3, eMutL, mutL, argD, mAppend, h10, t10, al]
    · rw [decide_eq_false c1] at q
      have e : closedG fd k (p :: r) = closedG fd (k + 1) r := by rw [closedG, if_neg c1]
      obtain ⟨y5, y6, y7, ih⟩ := cl_loop sh x0 x1 x2 S (r := r) (k := k + 1) (acc := acc) (some (.dat (.int (k : Nat)))) (some (.dat (.str [p.1]))) (some (.dat (.str [p.2]))) (fun q hq => hc q (List.mem_cons_of_mem _ hq)) (by omega)
      refine ⟨y5, y6, y7, ?_⟩
      rw [e, enumF_cons, ← ih]
      generalize fkD fd = FD at *
      simp [sForL, hb, setE, clBody, fnOf, env0, sSeq, SOut.bind, sRet, sRetN, sOf, sIf, sNil, sExpr, sSet, sRaise, eAnd, eOr, eNot, bAnd, bOr, bNot, eOp1, op1, eOp2, op2, eOpN, opN, eVar, eC, deref, derefs, Out.bind, asB, toB, ofB, cut_dat, cutS_self, cutS_head0, cutS_one, cutS_none, eChain, eTup, eLst, dats, aNil, aCons, eCall, eIf, pOne, pTwo, q]
theorem p_closed (ws : List (List Nat)) (i j : Int) (x : D) {fd : List (Nat × List Nat)} (S : Store) (h : ∀ w ∈ ws, 1 ≤ w.length ∧ w.length ≤ 1000) (hn : ws.length ≤ 1000) (sh : Short fd) (hc : ∀ p ∈ prs ws i j, p.1 ∈ fd.map (·.1) ↔ p.2 ∈ fd.map (·.1)) :
    d_closed [.dat (wsD ws), .dat (lkD i j), .dat x, .dat (.dct (fkD fd))] S = .ok (.dat (.lst ((closedN (prs ws i j) fd).map wD))) S := by
  have e1 := p_pairs_of ws i j (S ++ [.lst []]) h hn
  obtain ⟨y5, y6, y7, e2⟩ := cl_loop sh (some (.dat (wsD ws))) (some (.dat (lkD i j))) (some (.dat x)) S (r := prs ws i j) (k := 0) (acc := []) none none none hc (by rw [prs_len]; simp; omega)
  rw [List.map_nil, List.nil_append] at e2
  have hf : closedG fd 0 (prs ws i j) = closedN (prs ws i j) fd := rfl
  rw [hf] at e2
  simp only [d_closed, fnOf, env0, m_closed_eq]
  generalize fkD fd = FD at *
  simp [fnOf, env0, sSeq, SOut.bind, sRet, sRetN, sOf, sIf, sNil, sExpr, sSet, sRaise, eAnd, eOr, eNot, bAnd, bOr, bNot, eOp1, op1, eOp2, op2, eOpN, opN, eVar, eC, deref, derefs, Out.bind, asB, toB, ofB, cut_dat, cutS_self, cutS_head0, cutS_one, cutS_none, eChain, eTup, eLst, dats, aNil, aCons, eCall, eIf, pOne, pTwo, eNew, cLst, sFor, iEnumD, e1, enum_prs, e2, eFin, h10, t10, cellD, cutS_more]
abbrev nsD (ks : List Int) : D := .tup (ks.map .int)
theorem ix_ns {ks : List Int} {k : Nat} (h : k < ks.length) : pIx (nsD ks) (.int (k : Nat)) = some (.int (nmb ks k)) := by
  refine atI_nat ?_
  unfold nmb
  rw [List.getElem?_map, List.getElem?_eq_getElem h]
  rfl
theorem alt_loop {ks : List Int} (x1 : Option Val) (S : Store) : ∀ (w : List Nat) (t : Int) (x3 : Option Val), (∀ k ∈ w, k < ks.length) → ∃ y3, sForL (bN 3) (sSet 2 (eOp2 pSub (eOp2 pIx (eVar 0) (eVar 3)) (eVar 2))) (natsD w) [some (.dat (nsD ks)), x1, some (.dat (.int t)), x3] S =
    .nx [some (.dat (nsD ks)), x1, some (.dat (.int (w.foldl (fun t k => nmb ks k - t) t))), y3] S
  | [], t, x3, _ => ⟨x3, by simp [natsD, sForL]⟩
  | k :: w, t, x3, h => by
    obtain ⟨y3, ih⟩ := alt_loop x1 S w (nmb ks k - t) (some (.dat (.int (k : Nat)))) fun c hc => h c (List.mem_cons_of_mem _ hc)
    have ix := ix_ns (h k List.mem_cons_self)
    refine ⟨y3, ?_⟩
    have e : natsD (k :: w) = .int (k : Nat) :: natsD w := rfl
    rw [e, List.foldl_cons, ← ih]
    generalize nsD ks = KS at *
    simp [sForL, bN, setE, fnOf, env0, sSeq, SOut.bind, sRet, sRetN, sOf, sIf, sNil, sExpr, sSet, sRaise, eAnd, eOr, eNot, bAnd, bOr, bNot, eOp1, op1, eOp2, op2, eOpN, opN, eVar, eC, deref, derefs, Out.bind, asB, toB, ofB, cut_dat, cutS_self, cutS_head0, cutS_one, cutS_none, eChain, eTup, eLst, dats, aNil, aCons, eCall, eIf, pOne, pTwo, ix, pSub]
theorem p_alternate {ks : List Int} {w : List Nat} (S : Store) (h : ∀ k ∈ w, k < ks.length) : d_alternate [.dat (nsD ks), .dat (wD w)] S = .ok (.dat (.int (altN ks w))) S := by
  obtain ⟨y3, e⟩ := alt_loop (ks := ks) (some (.dat (wD w))) S w 0 none h
  unfold altN
  have it : itemsD (wD w) = some (natsD w) := rfl
  generalize nsD ks = KS at *
  generalize wD w = WD at *
  simp [d_alternate, m_alternate, fnOf, env0, sSeq, SOut.bind, sRet, sRetN, sOf, sIf, sNil, sExpr, sSet, sRaise, eAnd, eOr, eNot, bAnd, bOr, bNot, eOp1, op1, eOp2, op2, eOpN, opN, eVar, eC, deref, derefs, Out.bind, asB, toB, ofB, cut_dat, cutS_self, cutS_head0, cutS_one, cutS_none, eChain, eTup, eLst, dats, aNil, aCons, eCall, eIf, pOne, pTwo, sFor, iOf, it, e]
theorem p_led {ks : List Int} {w : List Nat} {m x : Int} (S : Store) (hm : 0 < m) (h : ∀ k ∈ w, k < ks.length) : d_led [.dat (nsD ks), .dat (.int m), .dat (wD w), .dat (.int x)] S = .ok (.dat (.int (ledN ks m w x))) S := by
  have key : ∀ (w' : List Nat) (x3 : Option Val) (t : Int) (x5 : Option Val), (∀ k ∈ w', k < ks.length) → ∃ y5, sForL (bN 5) (sSet 4 (eOp2 pMod (eOp2 pSub (eOp2 pIx (eVar 0) (eVar 5)) (eVar 4)) (eVar 1))) (natsD w') [some (.dat (nsD ks)), some (.dat (.int m)), some (.dat (wD w)), x3, some (.dat (.int t)), x5] S =
    .nx [some (.dat (nsD ks)), some (.dat (.int m)), some (.dat (wD w)), x3, some (.dat (.int (ledN ks m w' t))), y5] S := by
    intro w' x3
    induction w' with
    | nil => exact fun t x5 _ => ⟨x5, by simp [natsD, sForL, ledN]⟩
    | cons k w' ih =>
      intro t x5 h'
      obtain ⟨y5, q⟩ := ih ((nmb ks k - t) % m) (some (.dat (.int (k : Nat)))) fun c hc => h' c (List.mem_cons_of_mem _ hc)
      have ix := ix_ns (h' k List.mem_cons_self)
      refine ⟨y5, ?_⟩
      have e : natsD (k :: w') = .int (k : Nat) :: natsD w' := rfl
      rw [e, ledN_cons, ← q]
      generalize nsD ks = KS at *
      simp [sForL, bN, setE, fnOf, env0, sSeq, SOut.bind, sRet, sRetN, sOf, sIf, sNil, sExpr, sSet, sRaise, eAnd, eOr, eNot, bAnd, bOr, bNot, eOp1, op1, eOp2, op2, eOpN, opN, eVar, eC, deref, derefs, Out.bind, asB, toB, ofB, cut_dat, cutS_self, cutS_head0, cutS_one, cutS_none, eChain, eTup, eLst, dats, aNil, aCons, eCall, eIf, pOne, pTwo, ix, pSub, pMod, hm]
  obtain ⟨y5, e⟩ := key w (some (.dat (.int x))) x none h
  have it : itemsD (wD w) = some (natsD w) := rfl
  generalize nsD ks = KS at *
  generalize wD w = WD at *
  simp [d_led, m_led, fnOf, env0, sSeq, SOut.bind, sRet, sRetN, sOf, sIf, sNil, sExpr, sSet, sRaise, eAnd, eOr, eNot, bAnd, bOr, bNot, eOp1, op1, eOp2, op2, eOpN, opN, eVar, eC, deref, derefs, Out.bind, asB, toB, ofB, cut_dat, cutS_self, cutS_head0, cutS_one, cutS_none, eChain, eTup, eLst, dats, aNil, aCons, eCall, eIf, pOne, pTwo, sFor, iOf, it, e]
end PB

namespace PB
open PySem PySem.Spec PyProof.Rows L2 DL MP MB PN
theorem compL_mapF {α : Type} {B : TB} {me : EM} {ρ : Ev} {S : Store} {h f : α → D} : ∀ {l : List α}, (∀ x ∈ l, ∃ a, B (h x) = some a ∧ me (setE ρ a) S = .ok (.dat (f x)) S) → compL B bYes me ρ (l.map h) S = .ok (l.map f) S
  | [], _ => rfl
  | x :: l, H => by
    have ih := compL_mapF (B := B) (me := me) (ρ := ρ) (S := S) (h := h) (f := f) (l := l) fun y hy => H y (List.mem_cons_of_mem _ hy)
    obtain ⟨a, e1, e2⟩ := H x List.mem_cons_self
    rw [List.map_cons, List.map_cons]
    simp only [compL, e1, bYes, if_true, e2, ih, Out.bind]
theorem compL_filtF {α : Type} {B : TB} {mt : BM} {me : EM} {ρ : Ev} {S : Store} {h f : α → D} {g : α → Bool} : ∀ {l : List α}, (∀ x ∈ l, ∃ a, B (h x) = some a ∧ mt (setE ρ a) S = .ok (g x) S ∧ (g x = true → me (setE ρ a) S = .ok (.dat (f x)) S)) → compL B mt me ρ (l.map h) S = .ok ((l.filter g).map f) S
  | [], _ => rfl
  | x :: l, H => by
    have ih := compL_filtF (B := B) (mt := mt) (me := me) (ρ := ρ) (S := S) (h := h) (f := f) (g := g) (l := l) fun y hy => H y (List.mem_cons_of_mem _ hy)
    obtain ⟨a, e1, e2, e3⟩ := H x List.mem_cons_self
    rw [List.map_cons, List.filter_cons]
    by_cases c : g x = true
    · rw [c] at e2
      rw [if_pos c, List.map_cons]
      simp only [compL, e1, e2, if_true, e3 c, ih, Out.bind]
    · have c' : g x = false := by simpa using c
      rw [c'] at e2
      rw [if_neg c]
      simp only [compL, e1, e2, ih, Bool.false_eq_true, if_false]
theorem eq_ii (a b : Int) : pEq (.int a) (.int b) = some (.bl (decide (a = b))) := by
  simp only [pEq, sh, eqD_int, and_self, if_true]
theorem ne_ii (a b : Int) : pNe (.int a) (.int b) = some (.bl (!decide (a = b))) := by
  simp only [pNe, sh, eqD_int, and_self, if_true]
theorem len_wD (w : List Nat) : pLen (wD w) = some (.int (w.length : Nat)) := by
  simp [pLen, wD, natsD]
theorem ev_w (w : List Nat) : pEq (.int ((w.length : Int) % 2)) (.int 0) = some (.bl (decide (w.length % 2 = 0))) := by
  rw [eq_ii]
  congr 2
  exact decide_eq_decide.mpr (by omega)
theorem od_w (w : List Nat) : pEq (.int ((w.length : Int) % 2)) (.int 1) = some (.bl (decide (w.length % 2 = 1))) := by
  rw [eq_ii]
  congr 2
  exact decide_eq_decide.mpr (by omega)
def odD : Option (List Nat) → D
  | none => .non
  | some w => wD w
def barD : Option (Nat × List Nat) → D
  | none => .non
  | some p => .tup [.str [p.1], wD p.2]
theorem isNot_odD (od : Option (List Nat)) : pIsNot (odD od) .non = some (.bl od.isSome) := by
  cases od <;> rfl
noncomputable def brT : BM := bAnd (toB (eOp2 pEq (eOp2 pMod (eVar 2) (eC (.int 2))) (eC (.int 0)))) (toB (eOp2 pEq (eOp2 pMod (eVar 8) (eC (.int 2))) (eC (.int 1))))
noncomputable def brBody : SM := (sSeq (sSet 8 (eOp2 pMod (eCall 2 d_alternate (aCons (eVar 3) (aCons (eVar 7) (aNil)))) (eVar 2))) (sSeq (sIf (bAnd (toB (eOp2 pEq (eOp2 pMod (eOpN (pOne pLen) (aCons (eVar 7) (aNil))) (eC (.int 2))) (eC (.int 0)))) (toB (eOp2 pNe (eVar 8) (eC (.int 0))))) (sRet (eTup (aCons (eVar 4) (aCons (eVar 7) (aNil))))) (sNil)) (sIf (toB (eOp2 pEq (eOp2 pMod (eOpN (pOne pLen) (aCons (eVar 7) (aNil))) (eC (.int 2))) (eC (.int 1)))) (sSeq (sIf brT (sRet (eTup (aCons (eVar 4) (aCons (eVar 7) (aNil))))) (sNil)) (sSeq (sIf (bAnd (toB (eOp2 pIsNot (eVar 6) (eC .non))) (toB (eOp2 pNe (eOp2 pMod (eOp2 pSub (eCall 2 d_alternate (aCons (eVar 3) (aCons (eVar 6) (aNil)))) (eVar 8)) (eVar 2)) (eC (.int 0))))) (sRet (eTup (aCons (eVar 4) (aCons (eOp2 pAdd (eVar 6) (eVar 7)) (aNil))))) (sNil)) (sSet 6 (eVar 7)))) (sNil))))
noncomputable def brOut : SM := sSeq (sSet 6 (eC .non)) (sFor (iOf (eCall 4 d_closed (aCons (eVar 0) (aCons (eVar 1) (aCons (eVar 4) (aCons (eVar 5) (aNil))))))) (bN 7) brBody)
theorem m_bar_eq : m_bar_in = sSeq (sFor (iOf (eCall 2 d_groups (aCons (eVar 0) (aCons (eVar 1) (aNil))))) (bTup (bCons (bN 4) (bCons (bN 5) (bNil)))) brOut) (sRet (eC .non)) := rfl
theorem br_loop {ks : List Int} {m : Int} (hm : 0 < m) (x0 x1 x5 : Option Val) (s : Nat) (S : Store) : ∀ (ws : List (List Nat)) (od : Option (List Nat)) (x7 x8 : Option Val), (∀ w ∈ ws, w.length ≤ 1000 ∧ ∀ k ∈ w, k < ks.length) → (∀ w, od = some w → w.length ≤ 1000 ∧ ∀ k ∈ w, k < ks.length) →
    (∀ w, barL ks m od ws = some w → sForL (bN 7) brBody (ws.map wD) [x0, x1, some (.dat (.int m)), some (.dat (nsD ks)), some (.dat (.str [s])), x5, some (.dat (odD od)), x7, x8] S = .rt (.dat (.tup [.str [s], wD w])) S) ∧
    (barL ks m od ws = none → ∃ y6 y7 y8, sForL (bN 7) brBody (ws.map wD) [x0, x1, some (.dat (.int m)), some (.dat (nsD ks)), some (.dat (.str [s])), x5, some (.dat (odD od)), x7, x8] S = .nx [x0, x1, some (.dat (.int m)), some (.dat (nsD ks)), some (.dat (.str [s])), x5, y6, y7, y8] S)
  | [], od, x7, x8, _, _ => ⟨fun w h => (nomatch h), fun _ => ⟨some (.dat (odD od)), x7, x8, rfl⟩⟩
  | w :: ws, od, x7, x8, hw, ho => by
    obtain ⟨wl, wk⟩ := hw w List.mem_cons_self
    have a1 := p_alternate (ks := ks) (w := w) S wk
    have ev := ev_w w
    have od' := od_w w
    have lw := len_wD w
    have nz := ne_ii (altN ks w % m) 0
    have h2 : (0 : Int) < 2 := by decide
    have rec_ := fun o' h => br_loop hm x0 x1 x5 s S ws o' (some (.dat (wD w))) (some (.dat (.int (altN ks w % m)))) (fun v hv => hw v (List.mem_cons_of_mem _ hv)) h
    unfold barL
    rw [List.map_cons]
    by_cases e : w.length % 2 = 0
    · rw [if_pos e]
      rw [decide_eq_true e] at ev
      have e1 : ¬ w.length % 2 = 1 := by omega
      rw [decide_eq_false e1] at od'
      by_cases z : altN ks w % m = 0
      · rw [decide_eq_true z] at nz
        rw [if_pos z]
        have step : brBody [x0, x1, some (.dat (.int m)), some (.dat (nsD ks)), some (.dat (.str [s])), x5, some (.dat (odD od)), some (.dat (wD w)), x8] S = .nx [x0, x1, some (.dat (.int m)), some (.dat (nsD ks)), some (.dat (.str [s])), x5, some (.dat (odD od)), some (.dat (wD w)), some (.dat (.int (altN ks w % m)))] S := by
          generalize nsD ks = KS at *
          generalize wD w = WD at *
          generalize odD od = OD at *
          simp [brBody, fnOf, env0, sSeq, SOut.bind, sRet, sRetN, sOf, sIf, sNil, sExpr, sSet, sRaise, eAnd, eOr, eNot, bAnd, bOr, bNot, eOp1, op1, eOp2, op2, eOpN, opN, eVar, eC, deref, derefs, Out.bind, asB, toB, ofB, cut_dat, cutS_self, cutS_head0, cutS_one, cutS_none, eChain, eTup, eLst, dats, aNil, aCons, eCall, eIf, pOne, pTwo, a1, pMod, hm, lw, ev, od', nz]
        obtain ⟨i1, i2⟩ := rec_ od ho
        constructor
        · intro v hv
          have := i1 v hv
          simp only [sForL, bN, setE, List.set]
          simp only [step]
          exact this
        · intro hv
          obtain ⟨y6, y7, y8, q⟩ := i2 hv
          refine ⟨y6, y7, y8, ?_⟩
          simp only [sForL, bN, setE, List.set]
          simp only [step]
          exact q
      · rw [decide_eq_false z] at nz
        rw [if_neg z]
        refine ⟨fun v hv => ?_, fun hv => (nomatch hv)⟩
        cases hv
        generalize nsD ks = KS at *
        generalize wD w = WD at *
        generalize odD od = OD at *
        simp [sForL, bN, setE, brBody, fnOf, env0, sSeq, SOut.bind, sRet, sRetN, sOf, sIf, sNil, sExpr, sSet, sRaise, eAnd, eOr, eNot, bAnd, bOr, bNot, eOp1, op1, eOp2, op2, eOpN, opN, eVar, eC, deref, derefs, Out.bind, asB, toB, ofB, cut_dat, cutS_self, cutS_head0, cutS_one, cutS_none, eChain, eTup, eLst, dats, aNil, aCons, eCall, eIf, pOne, pTwo, a1, pMod, hm, lw, ev, od', nz]
    · rw [if_neg e]
      rw [decide_eq_false e] at ev
      have e1 : w.length % 2 = 1 := by omega
      rw [decide_eq_true e1] at od'
      have m2 := eq_ii (m % 2) 0
      have t2 := eq_ii (altN ks w % m % 2) 1
      by_cases z : m % 2 = 0 ∧ altN ks w % m % 2 = 1
      · rw [if_pos z]
        rw [decide_eq_true z.1] at m2
        rw [decide_eq_true z.2] at t2
        refine ⟨fun v hv => ?_, fun hv => (nomatch hv)⟩
        cases hv
        generalize nsD ks = KS at *
        generalize wD w = WD at *
        generalize odD od = OD at *
        simp [sForL, bN, setE, brBody, brT, fnOf, env0, sSeq, SOut.bind, sRet, sRetN, sOf, sIf, sNil, sExpr, sSet, sRaise, eAnd, eOr, eNot, bAnd, bOr, bNot, eOp1, op1, eOp2, op2, eOpN, opN, eVar, eC, deref, derefs, Out.bind, asB, toB, ofB, cut_dat, cutS_self, cutS_head0, cutS_one, cutS_none, eChain, eTup, eLst, dats, aNil, aCons, eCall, eIf, pOne, pTwo, a1, pMod, hm, lw, ev, od', m2, t2]
      · rw [if_neg z]
        have tst : ∀ x6 x7 : Option Val, brT [x0, x1, some (.dat (.int m)), some (.dat (nsD ks)), some (.dat (.str [s])), x5, x6, x7, some (.dat (.int (altN ks w % m)))] S = .ok false S := by
          intro x6 x7
          by_cases z1 : m % 2 = 0
          · have z2 : ¬ altN ks w % m % 2 = 1 := fun y => z ⟨z1, y⟩
            rw [decide_eq_true z1] at m2
            rw [decide_eq_false z2] at t2
            generalize nsD ks = KS at *
            simp [brT, fnOf, env0, sSeq, SOut.bind, sRet, sRetN, sOf, sIf, sNil, sExpr, sSet, sRaise, eAnd, eOr, eNot, bAnd, bOr, bNot, eOp1, op1, eOp2, op2, eOpN, opN, eVar, eC, deref, derefs, Out.bind, asB, toB, ofB, cut_dat, cutS_self, cutS_head0, cutS_one, cutS_none, eChain, eTup, eLst, dats, aNil, aCons, eCall, eIf, pOne, pTwo, pMod, m2, t2]
          · rw [decide_eq_false z1] at m2
            generalize nsD ks = KS at *
            simp [brT, fnOf, env0, sSeq, SOut.bind, sRet, sRetN, sOf, sIf, sNil, sExpr, sSet, sRaise, eAnd, eOr, eNot, bAnd, bOr, bNot, eOp1, op1, eOp2, op2, eOpN, opN, eVar, eC, deref, derefs, Out.bind, asB, toB, ofB, cut_dat, cutS_self, cutS_head0, cutS_one, cutS_none, eChain, eTup, eLst, dats, aNil, aCons, eCall, eIf, pOne, pTwo, pMod, m2]
        obtain ⟨i1, i2⟩ := rec_ (some w) fun v hv => by cases hv; exact ⟨wl, wk⟩
        have fin : ∀ {o : SOut}, brBody [x0, x1, some (.dat (.int m)), some (.dat (nsD ks)), some (.dat (.str [s])), x5, some (.dat (odD od)), some (.dat (wD w)), x8] S = .nx [x0, x1, some (.dat (.int m)), some (.dat (nsD ks)), some (.dat (.str [s])), x5, some (.dat (wD w)), some (.dat (wD w)), some (.dat (.int (altN ks w % m)))] S →
            (∀ v, barL ks m (some w) ws = some v → sForL (bN 7) brBody (wD w :: ws.map wD) [x0, x1, some (.dat (.int m)), some (.dat (nsD ks)), some (.dat (.str [s])), x5, some (.dat (odD od)), x7, x8] S = .rt (.dat (.tup [.str [s], wD v])) S) ∧
            (barL ks m (some w) ws = none → ∃ y6 y7 y8, sForL (bN 7) brBody (wD w :: ws.map wD) [x0, x1, some (.dat (.int m)), some (.dat (nsD ks)), some (.dat (.str [s])), x5, some (.dat (odD od)), x7, x8] S = .nx [x0, x1, some (.dat (.int m)), some (.dat (nsD ks)), some (.dat (.str [s])), x5, y6, y7, y8] S) := by
          intro _ step
          constructor
          · intro v hv
            have := i1 v hv
            simp only [sForL, bN, setE, List.set]
            simp only [step]
            exact this
          · intro hv
            obtain ⟨y6, y7, y8, q⟩ := i2 hv
            refine ⟨y6, y7, y8, ?_⟩
            simp only [sForL, bN, setE, List.set]
            simp only [step]
            exact q
        cases od with
        | none =>
          refine fin (o := .bad) ?_
          have ts := tst (some (.dat .non)) (some (.dat (wD w)))
          have io : pIsNot .non .non = some (.bl false) := rfl
          generalize nsD ks = KS at *
          generalize wD w = WD at *
          show brBody [x0, x1, some (.dat (.int m)), some (.dat KS), some (.dat (.str [s])), x5, some (.dat .non), some (.dat WD), x8] S = _
          unfold brBody
          simp [fnOf, env0, sSeq, SOut.bind, sRet, sRetN, sOf, sIf, sNil, sExpr, sSet, sRaise, eAnd, eOr, eNot, bAnd, bOr, bNot, eOp1, op1, eOp2, op2, eOpN, opN, eVar, eC, deref, derefs, Out.bind, asB, toB, ofB, cut_dat, cutS_self, cutS_head0, cutS_one, cutS_none, eChain, eTup, eLst, dats, aNil, aCons, eCall, eIf, pOne, pTwo, a1, pMod, hm, lw, ev, od', io, ts]
        | some o =>
          obtain ⟨ol, ok⟩ := ho o rfl
          have a2 := p_alternate (ks := ks) (w := o) S ok
          have nz2 := ne_ii ((altN ks o - altN ks w % m) % m) 0
          have ts := tst (some (.dat (wD o))) (some (.dat (wD w)))
          have io : pIsNot (wD o) .non = some (.bl true) := rfl
          have ad := add_wD2 (w := o) (v := w) (by omega)
          show (∀ v, (if (altN ks o - altN ks w % m) % m = 0 then barL ks m (some w) ws else some (o ++ w)) = some v → _) ∧ ((if (altN ks o - altN ks w % m) % m = 0 then barL ks m (some w) ws else some (o ++ w)) = none → _)
          by_cases y : (altN ks o - altN ks w % m) % m = 0
          · rw [if_pos y]
            rw [decide_eq_true y, show (altN ks o - altN ks w % m) % m = (altN ks o - altN ks w) % m from by simp] at nz2
            refine fin (o := .bad) ?_
            generalize nsD ks = KS at *
            generalize hW : wD w = WD at *
            show brBody [x0, x1, some (.dat (.int m)), some (.dat KS), some (.dat (.str [s])), x5, some (.dat (wD o)), some (.dat WD), x8] S = _
            generalize wD o = OD at *
            unfold brBody
            simp [fnOf, env0, sSeq, SOut.bind, sRet, sRetN, sOf, sIf, sNil, sExpr, sSet, sRaise, eAnd, eOr, eNot, bAnd, bOr, bNot, eOp1, op1, eOp2, op2, eOpN, opN, eVar, eC, deref, derefs, Out.bind, asB, toB, ofB, cut_dat, cutS_self, cutS_head0, cutS_one, cutS_none, eChain, eTup, eLst, dats, aNil, aCons, eCall, eIf, pOne, pTwo, a1, a2, pMod, hm, lw, ev, od', io, pSub, nz2, ts]
          · rw [if_neg y]
            rw [decide_eq_false y, show (altN ks o - altN ks w % m) % m = (altN ks o - altN ks w) % m from by simp] at nz2
            refine ⟨fun v hv => ?_, fun hv => (nomatch hv)⟩
            cases hv
            generalize nsD ks = KS at *
            generalize hW : wD w = WD at *
            show sForL (bN 7) brBody (WD :: ws.map wD) [x0, x1, some (.dat (.int m)), some (.dat KS), some (.dat (.str [s])), x5, some (.dat (wD o)), x7, x8] S = _
            generalize wD o = OD at *
            unfold brBody
            simp [sForL, bN, setE, fnOf, env0, sSeq, SOut.bind, sRet, sRetN, sOf, sIf, sNil, sExpr, sSet, sRaise, eAnd, eOr, eNot, bAnd, bOr, bNot, eOp1, op1, eOp2, op2, eOpN, opN, eVar, eC, deref, derefs, Out.bind, asB, toB, ofB, cut_dat, cutS_self, cutS_head0, cutS_one, cutS_none, eChain, eTup, eLst, dats, aNil, aCons, eCall, eIf, pOne, pTwo, a1, a2, pMod, hm, lw, ev, od', io, pSub, nz2, ad, ts]
end PB

namespace PB
open PySem PySem.Spec PyProof.Rows L2 DL MP MB PN
theorem found_short {ps : List (Nat × Nat)} (s : Nat) (hps : ps.length ≤ 20) : Short (foundN ps s) := fun q hq => by
  obtain ⟨_, h2, h3⟩ := found_ok ps s (by omega)
  have := h3 q hq
  omega
theorem closed_short {ps : List (Nat × Nat)} {fd : List (Nat × List Nat)} (sh : Short fd) {w : List Nat} (h : w ∈ closedN ps fd) : w.length ≤ 1000 := by
  obtain ⟨k, p, _, _, rfl⟩ := mem_closed.mp h
  have h1 := sh.wk p.1
  have h2 := sh.wk p.2
  simp
  omega
/-- pieces as groups gives them -/
structure Gr (ps : List (Nat × Nat)) (gs : Grps) : Prop where
  pc : ∀ g ∈ gs, Pc ps g.1 g.2
  sh : ∀ g ∈ gs, Short g.2
theorem grpN_short {ps : List (Nat × Nat)} (hps : ps.length ≤ 20) : ∀ (n : Nat) (left : List Nat), ∀ g ∈ grpN ps n left, Short g.2
  | 0, _, g, h => by simp [grpN] at h
  | n + 1, [], g, h => by simp [grpN] at h
  | n + 1, s :: left, g, h => by
    rw [grpN] at h
    rcases List.mem_cons.mp h with rfl | h
    · exact found_short s hps
    · exact grpN_short hps n _ g h
theorem groups_gr {ps : List (Nat × Nat)} (hps : ps.length ≤ 20) : Gr ps (groupsN ps) := ⟨(groups_ok (by omega)).pc, grpN_short hps _ _⟩
theorem b_g (g : Nat × List (Nat × List Nat)) : bTup (bCons (bN 4) (bCons (bN 5) (bNil))) (gD g) = some [(4, .str [g.1]), (5, .dct (fkD g.2))] := rfl
theorem walks_ok {ps : List (Nat × Nat)} {ks : List Int} (hl : ks.length = ps.length) {s : Nat} {fd : List (Nat × List Nat)} (pc : Pc ps s fd) (sh : Short fd) : ∀ w ∈ closedN ps fd, w.length ≤ 1000 ∧ ∀ k ∈ w, k < ks.length := fun w hw =>
  ⟨closed_short sh hw, fun k hk => by rw [hl]; exact (closed_walk pc hw).lt k hk⟩
theorem br_groups {ws : List (List Nat)} {i j : Int} {ks : List Int} {m : Int} (hm : 0 < m) (h : ∀ w ∈ ws, 1 ≤ w.length ∧ w.length ≤ 1000) (hn : ws.length ≤ 20) (hl : ks.length = (prs ws i j).length) (S : Store) : ∀ (gs : Grps) (x4 x5 x6 x7 x8 : Option Val), Gr (prs ws i j) gs →
    (∀ b, barN (prs ws i j) ks m gs = some b → sForL (bTup (bCons (bN 4) (bCons (bN 5) (bNil)))) brOut (gs.map gD) [some (.dat (wsD ws)), some (.dat (lkD i j)), some (.dat (.int m)), some (.dat (nsD ks)), x4, x5, x6, x7, x8] S = .rt (.dat (barD (some b))) S) ∧
    (barN (prs ws i j) ks m gs = none → ∃ y4 y5 y6 y7 y8, sForL (bTup (bCons (bN 4) (bCons (bN 5) (bNil)))) brOut (gs.map gD) [some (.dat (wsD ws)), some (.dat (lkD i j)), some (.dat (.int m)), some (.dat (nsD ks)), x4, x5, x6, x7, x8] S = .nx [some (.dat (wsD ws)), some (.dat (lkD i j)), some (.dat (.int m)), some (.dat (nsD ks)), y4, y5, y6, y7, y8] S)
  | [], x4, x5, x6, x7, x8, _ => ⟨fun b h => (nomatch h), fun _ => ⟨x4, x5, x6, x7, x8, rfl⟩⟩
  | g :: gs, x4, x5, x6, x7, x8, gr => by
    have pc := gr.pc g List.mem_cons_self
    have sh := gr.sh g List.mem_cons_self
    have e1 := p_closed ws i j (.str [g.1]) (fd := g.2) S h (by omega) sh pc.cl
    obtain ⟨i1, i2⟩ := br_loop hm (some (.dat (wsD ws))) (some (.dat (lkD i j))) (some (.dat (.dct (fkD g.2)))) g.1 S (ks := ks) (closedN (prs ws i j) g.2) none x7 x8 (walks_ok hl pc sh) (fun w h => nomatch h)
    have hb := b_g g
    unfold barN
    rw [List.map_cons]
    cases e : barL ks m none (closedN (prs ws i j) g.2) with
    | some w =>
      have q := i1 w e
      refine ⟨fun b hb' => ?_, fun h => (nomatch h)⟩
      cases hb'
      generalize nsD ks = KS at *
      generalize fkD g.2 = FD at *
      generalize wsD ws = WD at *
      simp only [odD] at q
      simp [sForL, hb, setE, brOut, fnOf, env0, sSeq, SOut.bind, sRet, sRetN, sOf, sIf, sNil, sExpr, sSet, sRaise, eAnd, eOr, eNot, bAnd, bOr, bNot, eOp1, op1, eOp2, op2, eOpN, opN, eVar, eC, deref, derefs, Out.bind, asB, toB, ofB, cut_dat, cutS_self, cutS_head0, cutS_one, cutS_none, eChain, eTup, eLst, dats, aNil, aCons, eCall, eIf, pOne, pTwo, sFor, iOf, e1, itemsD, q, barD]
    | none =>
      obtain ⟨y6, y7, y8, q⟩ := i2 e
      obtain ⟨r1, r2⟩ := br_groups hm h hn hl S gs (some (.dat (.str [g.1]))) (some (.dat (.dct (fkD g.2)))) y6 y7 y8 ⟨fun q hq => gr.pc q (List.mem_cons_of_mem _ hq), fun q hq => gr.sh q (List.mem_cons_of_mem _ hq)⟩
      have step : brOut [some (.dat (wsD ws)), some (.dat (lkD i j)), some (.dat (.int m)), some (.dat (nsD ks)), some (.dat (.str [g.1])), some (.dat (.dct (fkD g.2))), x6, x7, x8] S = .nx [some (.dat (wsD ws)), some (.dat (lkD i j)), some (.dat (.int m)), some (.dat (nsD ks)), some (.dat (.str [g.1])), some (.dat (.dct (fkD g.2))), y6, y7, y8] S := by
        generalize nsD ks = KS at *
        generalize fkD g.2 = FD at *
        generalize wsD ws = WD at *
        simp only [odD] at q
        simp [brOut, fnOf, env0, sSeq, SOut.bind, sRet, sRetN, sOf, sIf, sNil, sExpr, sSet, sRaise, eAnd, eOr, eNot, bAnd, bOr, bNot, eOp1, op1, eOp2, op2, eOpN, opN, eVar, eC, deref, derefs, Out.bind, asB, toB, ofB, cut_dat, cutS_self, cutS_head0, cutS_one, cutS_none, eChain, eTup, eLst, dats, aNil, aCons, eCall, eIf, pOne, pTwo, sFor, iOf, e1, itemsD, q]
      constructor
      · intro b hb'
        have := r1 b hb'
        simp only [sForL, hb, setE, List.set, step]
        exact this
      · intro hb'
        obtain ⟨z4, z5, z6, z7, z8, t⟩ := r2 hb'
        refine ⟨z4, z5, z6, z7, z8, ?_⟩
        simp only [sForL, hb, setE, List.set, step]
        exact t
/-- what bars the numbers -/
def theBar (ps : List (Nat × Nat)) (ks : List Int) (m : Int) : Option (Nat × List Nat) := barN ps ks m (groupsN ps)
theorem p_bar_in (ws : List (List Nat)) (i j : Int) {ks : List Int} {m : Int} (S : Store) (hm : 0 < m) (h : ∀ w ∈ ws, 1 ≤ w.length ∧ w.length ≤ 1000) (hn : ws.length ≤ 20) (hl : ks.length = ws.length) :
    d_bar_in [.dat (wsD ws), .dat (lkD i j), .dat (.int m), .dat (nsD ks)] S = .ok (.dat (barD (theBar (prs ws i j) ks m))) S := by
  have e1 := p_groups ws i j S h hn
  obtain ⟨i1, i2⟩ := br_groups (ks := ks) hm h hn (by rw [prs_len]; exact hl) S (groupsN (prs ws i j)) none none none none none (groups_gr (by rw [prs_len]; exact hn))
  simp only [d_bar_in, fnOf, env0, m_bar_eq]
  unfold theBar
  cases e : barN (prs ws i j) ks m (groupsN (prs ws i j)) with
  | some b =>
    have q := i1 b e
    generalize nsD ks = KS at *
    generalize wsD ws = WD at *
    simp [fnOf, env0, sSeq, SOut.bind, sRet, sRetN, sOf, sIf, sNil, sExpr, sSet, sRaise, eAnd, eOr, eNot, bAnd, bOr, bNot, eOp1, op1, eOp2, op2, eOpN, opN, eVar, eC, deref, derefs, Out.bind, asB, toB, ofB, cut_dat, cutS_self, cutS_head0, cutS_one, cutS_none, eChain, eTup, eLst, dats, aNil, aCons, eCall, eIf, pOne, pTwo, sFor, iOf, e1, itemsD, q]
  | none =>
    obtain ⟨y4, y5, y6, y7, y8, q⟩ := i2 e
    generalize nsD ks = KS at *
    generalize wsD ws = WD at *
    simp [fnOf, env0, sSeq, SOut.bind, sRet, sRetN, sOf, sIf, sNil, sExpr, sSet, sRaise, eAnd, eOr, eNot, bAnd, bOr, bNot, eOp1, op1, eOp2, op2, eOpN, opN, eVar, eC, deref, derefs, Out.bind, asB, toB, ofB, cut_dat, cutS_self, cutS_head0, cutS_one, cutS_none, eChain, eTup, eLst, dats, aNil, aCons, eCall, eIf, pOne, pTwo, sFor, iOf, e1, itemsD, q, barD]
def numsB (n : Nat) (m : Int) : D → Bool
  | .tup ds => decide (ds.length = n) && ds.all fun d => wholeB d 0 (m - 1)
  | _ => false
def okN : D → Bool
  | .tup ds => ds.all plainD && decide (ds.length ≤ 1000)
  | .scr _ => false
  | .dcu _ => false
  | .ktp _ => false
  | _ => true
theorem okN_plain {d : D} (h : okN d = true) : plainD d = true := by
  cases d <;> first
    | rfl
    | cases h
theorem p_are_numbers (ws : List (List Nat)) (m : Int) (d : D) (S : Store) (h : okN d = true) : d_are_numbers [.dat (wsD ws), .dat (.int m), .dat d] S = .ok (.dat (.bl (numsB ws.length m d))) S := by
  have hp := okN_plain h
  have it := isI_tuple hp
  have lw : pLen (wsD ws) = some (.int (ws.length : Nat)) := by simp [pLen, wsD]
  cases d with
  | tup ds =>
    simp only [okN, Bool.and_eq_true, decide_eq_true_eq] at h
    have ld : pLen (.tup ds) = some (.int (ds.length : Nat)) := rfl
    have nn := ne_ii (ds.length : Nat) (ws.length : Nat)
    by_cases c : ds.length = ws.length
    · have c' : ((ds.length : Nat) : Int) = (ws.length : Nat) := by omega
      rw [decide_eq_true c'] at nn
      have ll : ds.length ≤ 1000000 := by omega
      have cm := compL_map (i := 3) (me := eCall 3 d_is_whole (aCons (eVar 3) (aCons (eC (.int 0)) (aCons (eOp2 pSub (eVar 1) (eC (.int 1))) (aNil))))) (ρ := [some (.dat (wsD ws)), some (.dat (.int m)), some (.dat (.tup ds)), none]) (f := fun d => .bl (wholeB d 0 (m - 1))) (ds := ds) (S := S) fun d hd => by
        have q := p_is_whole d 0 (m - 1) S (List.all_eq_true.mp h.1 d hd)
        generalize wsD ws = WD at *
        simp [fnOf, env0, sSeq, SOut.bind, sRet, sRetN, sOf, sIf, sNil, sExpr, sSet, sRaise, eAnd, eOr, eNot, bAnd, bOr, bNot, eOp1, op1, eOp2, op2, eOpN, opN, eVar, eC, deref, derefs, Out.bind, asB, toB, ofB, cut_dat, cutS_self, cutS_head0, cutS_one, cutS_none, eChain, eTup, eLst, dats, aNil, aCons, eCall, eIf, pOne, pTwo, pSub, q]
      have e : numsB ws.length m (.tup ds) = ds.all fun d => wholeB d 0 (m - 1) := by simp [numsB, c]
      rw [e]
      generalize wsD ws = WD at *
      simp [d_are_numbers, m_are_numbers, fnOf, env0, sSeq, SOut.bind, sRet, sRetN, sOf, sIf, sNil, sExpr, sSet, sRaise, eAnd, eOr, eNot, bAnd, bOr, bNot, eOp1, op1, eOp2, op2, eOpN, opN, eVar, eC, deref, derefs, Out.bind, asB, toB, ofB, cut_dat, cutS_self, cutS_head0, cutS_one, cutS_none, eChain, eTup, eLst, dats, aNil, aCons, eCall, eIf, pOne, pTwo, it, isT, lw, ld, nn, eComp, iOf, itemsD, ll, wipeE, cm, pAll, boolsOf_map]
    · have c' : ¬ ((ds.length : Nat) : Int) = (ws.length : Nat) := by omega
      rw [decide_eq_false c'] at nn
      have e : numsB ws.length m (.tup ds) = false := by simp [numsB, c]
      rw [e]
      generalize wsD ws = WD at *
      simp [d_are_numbers, m_are_numbers, fnOf, env0, sSeq, SOut.bind, sRet, sRetN, sOf, sIf, sNil, sExpr, sSet, sRaise, eAnd, eOr, eNot, bAnd, bOr, bNot, eOp1, op1, eOp2, op2, eOpN, opN, eVar, eC, deref, derefs, Out.bind, asB, toB, ofB, cut_dat, cutS_self, cutS_head0, cutS_one, cutS_none, eChain, eTup, eLst, dats, aNil, aCons, eCall, eIf, pOne, pTwo, it, isT, lw, ld, nn]
  | scr ns => cases h
  | dcu ns => cases h
  | ktp ns => cases h
  | _ =>
    generalize wsD ws = WD at *
    simp [d_are_numbers, m_are_numbers, fnOf, env0, sSeq, SOut.bind, sRet, sRetN, sOf, sIf, sNil, sExpr, sSet, sRaise, eAnd, eOr, eNot, bAnd, bOr, bNot, eOp1, op1, eOp2, op2, eOpN, opN, eVar, eC, deref, derefs, Out.bind, asB, toB, ofB, cut_dat, cutS_self, cutS_head0, cutS_one, cutS_none, eChain, eTup, eLst, dats, aNil, aCons, eCall, eIf, pOne, pTwo, it, isT, numsB]
theorem p_need_numbers (ws : List (List Nat)) (m : Int) (d : D) (S : Store) (h : okN d = true) : d_need_numbers [.dat (wsD ws), .dat (.int m), .dat d] S = if numsB ws.length m d = true then .ok (.dat .non) S else .exc 2 S := by
  have e := p_are_numbers ws m d S h
  generalize wsD ws = WD at *
  by_cases c : numsB ws.length m d = true <;> simp [d_need_numbers, m_need_numbers, fnOf, env0, sSeq, SOut.bind, sRet, sRetN, sOf, sIf, sNil, sExpr, sSet, sRaise, eAnd, eOr, eNot, bAnd, bOr, bNot, eOp1, op1, eOp2, op2, eOpN, opN, eVar, eC, deref, derefs, Out.bind, asB, toB, ofB, cut_dat, cutS_self, cutS_head0, cutS_one, cutS_none, eChain, eTup, eLst, dats, aNil, aCons, eCall, eIf, pOne, pTwo, e, c]
theorem numsB_ns {n : Nat} {m : Int} {ks : List Int} : numsB n m (nsD ks) = true ↔ ks.length = n ∧ ∀ k ∈ ks, 0 ≤ k ∧ k < m := by
  simp only [numsB, List.length_map, List.all_map, Bool.and_eq_true, decide_eq_true_eq, List.all_eq_true]
  refine and_congr_right fun _ => forall_congr' fun k => forall_congr' fun _ => ?_
  show (decide (0 ≤ k) && decide (k ≤ m - 1)) = true ↔ _
  rw [Bool.and_eq_true, decide_eq_true_eq, decide_eq_true_eq]
  omega
theorem okN_ns {ks : List Int} (h : ks.length ≤ 1000) : okN (nsD ks) = true := by
  simp [okN, plainD, h]
theorem need_nums_ok {ws : List (List Nat)} {i j : Int} {ks : List Int} {m : Int} (S : Store) (hn : ws.length ≤ 20) (nk : NOk (prs ws i j) m ks) : d_need_numbers [.dat (wsD ws), .dat (.int m), .dat (nsD ks)] S = .ok (.dat .non) S := by
  have hl : ks.length = ws.length := by rw [nk.1, prs_len]
  have e := p_need_numbers ws m (nsD ks) S (okN_ns (by omega))
  rw [if_pos (numsB_ns.mpr ⟨hl, nk.2⟩)] at e
  exact e
/-- a problem as the laws build it -/
structure Pb (ws : List (List Nat)) (i j m : Int) (ks : List Int) : Prop where
  w : Ws ws
  l : Lk i j
  m1 : 1 ≤ m
  m99 : m ≤ 99
  n : NOk (prs ws i j) m ks
section
variable {ws : List (List Nat)} {i j m : Int} {ks : List Int}
theorem Pb.len (h : Pb ws i j m ks) : ks.length = ws.length := by rw [h.n.1, prs_len]
theorem Pb.n20 (h : Pb ws i j m ks) : ws.length ≤ 20 := by have := h.w.n6; omega
theorem Pb.p20 (h : Pb ws i j m ks) : (prs ws i j).length ≤ 20 := by rw [prs_len]; exact h.n20
theorem Pb.mp (h : Pb ws i j m ks) : 0 < m := by have := h.m1; omega
theorem Pb.grp (h : Pb ws i j m ks) : Grp (prs ws i j) (ltrs (prs ws i j)) (groupsN (prs ws i j)) := groups_ok (by have := h.p20; omega)
theorem p_bar (h : Pb ws i j m ks) (S : Store) : d_bar [.dat (wsD ws), .dat (lkD i j), .dat (.int m), .dat (nsD ks)] S = .ok (.dat (barD (theBar (prs ws i j) ks m))) S := by
  have e1 := need_ok h.w h.l S
  have e2 := room_ok h.m1 h.m99 S
  have e3 := need_nums_ok (i := i) (j := j) S h.n20 h.n
  have e4 := p_bar_in ws i j (ks := ks) S h.mp h.w.len h.n20 h.len
  generalize nsD ks = KS at *
  generalize wsD ws = WD at *
  simp [d_bar, m_bar, fnOf, env0, sSeq, SOut.bind, sRet, sRetN, sOf, sIf, sNil, sExpr, sSet, sRaise, eAnd, eOr, eNot, bAnd, bOr, bNot, eOp1, op1, eOp2, op2, eOpN, opN, eVar, eC, deref, derefs, Out.bind, asB, toB, ofB, cut_dat, cutS_self, cutS_head0, cutS_one, cutS_none, eChain, eTup, eLst, dats, aNil, aCons, eCall, eIf, pOne, pTwo, e1, e2, e3, e4]
theorem theBar_none (h : Pb ws i j m ks) : theBar (prs ws i j) ks m = none ↔ sols (prs ws i j) m ks ≠ [] := bar_iff h.mp h.n h.grp
end
theorem p_half (t m : Int) (S : Store) (hm : 0 < m) : d_half [.dat (.int t), .dat (.int m)] S = .ok (.dat (.int (halfN t m))) S := by
  have e := eq_ii (t % m % 2) 0
  unfold halfN
  by_cases c : t % m % 2 = 0
  · rw [decide_eq_true c] at e
    rw [if_pos c]
    simp [d_half, m_half, fnOf, env0, sSeq, SOut.bind, sRet, sRetN, sOf, sIf, sNil, sExpr, sSet, sRaise, eAnd, eOr, eNot, bAnd, bOr, bNot, eOp1, op1, eOp2, op2, eOpN, opN, eVar, eC, deref, derefs, Out.bind, asB, toB, ofB, cut_dat, cutS_self, cutS_head0, cutS_one, cutS_none, eChain, eTup, eLst, dats, aNil, aCons, eCall, eIf, pOne, pTwo, pMod, hm, e, pDiv]
  · rw [decide_eq_false c] at e
    rw [if_neg c]
    simp [d_half, m_half, fnOf, env0, sSeq, SOut.bind, sRet, sRetN, sOf, sIf, sNil, sExpr, sSet, sRaise, eAnd, eOr, eNot, bAnd, bOr, bNot, eOp1, op1, eOp2, op2, eOpN, opN, eVar, eC, deref, derefs, Out.bind, asB, toB, ofB, cut_dat, cutS_self, cutS_head0, cutS_one, cutS_none, eChain, eTup, eLst, dats, aNil, aCons, eCall, eIf, pOne, pTwo, pMod, hm, e, pDiv, pAdd]
abbrev rowD (r : List Int) : D := .lst (r.map .int)
theorem sh_wDs (ws : List (List Nat)) : sh 9 (.lst (ws.map wD)) = true := by
  simp [sh, wD, natsD]
theorem eq_wnil (ws : List (List Nat)) : pEq (.lst (ws.map wD)) (.lst []) = some (.bl ws.isEmpty) := by
  have h2 : eqD (.lst (ws.map wD)) (.lst []) = ws.isEmpty := by
    cases ws with
    | nil => decide +kernel
    | cons c l => simp [eqD, toPy, toPys, PyData.eqv, PyData.eqvAll]
  unfold pEq
  rw [if_pos ⟨sh_wDs ws, rfl⟩, h2]
theorem range_ints (n : Nat) : rangeD 0 n = ((List.range n).map fun (x : Nat) => (x : Int)).map .int := by
  unfold rangeD
  rw [List.map_map]
  refine List.map_congr_left fun x _ => ?_
  simp
theorem p_begins {ws : List (List Nat)} {i j m : Int} {ks : List Int} (h : Pb ws i j m ks) {g : Nat × List (Nat × List Nat)} (pc : Pc (prs ws i j) g.1 g.2) (sh : Short g.2) (S : Store) :
    d_begins [.dat (wsD ws), .dat (lkD i j), .dat (.int m), .dat (nsD ks), .dat (.str [g.1]), .dat (.dct (fkD g.2))] S = .ok (.dat (rowD (rowN ks m (closedN (prs ws i j) g.2)))) S := by
  have e1 := p_closed ws i j (.str [g.1]) (fd := g.2) S h.w.len (by have := h.n20; omega) sh pc.cl
  have wok := walks_ok (ks := ks) h.n.1 pc sh
  have cm := compL_filtF (B := bN 8) (mt := toB (eOp2 pEq (eOp2 pMod (eOpN (pOne pLen) (aCons (eVar 8) (aNil))) (eC (.int 2))) (eC (.int 1)))) (me := eVar 8) (ρ := [some (.dat (wsD ws)), some (.dat (lkD i j)), some (.dat (.int m)), some (.dat (nsD ks)), some (.dat (.str [g.1])), some (.dat (.dct (fkD g.2))), none, none, none]) (S := S) (h := wD) (f := wD) (g := oddW) (l := closedN (prs ws i j) g.2) fun w hw => by
    refine ⟨_, rfl, ?_, fun _ => by simp [setE, fnOf, env0, sSeq, SOut.bind, sRet, sRetN, sOf, sIf, sNil, sExpr, sSet, sRaise, eAnd, eOr, eNot, bAnd, bOr, bNot, eOp1, op1, eOp2, op2, eOpN, opN, eVar, eC, deref, derefs, Out.bind, asB, toB, ofB, cut_dat, cutS_self, cutS_head0, cutS_one, cutS_none, eChain, eTup, eLst, dats, aNil, aCons, eCall, eIf, pOne, pTwo]⟩
    have lw := len_wD w
    have od := od_w w
    generalize nsD ks = KS at *
    generalize fkD g.2 = FD at *
    generalize wsD ws = WD at *
    generalize wD w = W at *
    simp [setE, fnOf, env0, sSeq, SOut.bind, sRet, sRetN, sOf, sIf, sNil, sExpr, sSet, sRaise, eAnd, eOr, eNot, bAnd, bOr, bNot, eOp1, op1, eOp2, op2, eOpN, opN, eVar, eC, deref, derefs, Out.bind, asB, toB, ofB, cut_dat, cutS_self, cutS_head0, cutS_one, cutS_none, eChain, eTup, eLst, dats, aNil, aCons, eCall, eIf, pOne, pTwo, lw, pMod, od, oddW]
  have ll : (closedN (prs ws i j) g.2).length ≤ 1000000 := by
    have : ∀ (k : Nat) (r : List (Nat × Nat)), (closedG g.2 k r).length ≤ r.length := by
      intro k r
      induction r generalizing k with
      | nil => simp [closedG]
      | cons p r ih =>
        have := ih (k + 1)
        unfold closedG
        split <;> simp <;> omega
    have := this 0 (prs ws i j)
    have := h.p20
    show (closedG g.2 0 (prs ws i j)).length ≤ _
    omega
  have hm := h.mp
  unfold rowN
  cases e : (closedN (prs ws i j) g.2).filter oddW with
  | nil =>
    rw [e] at cm
    have q := eq_wnil []
    simp only [List.map_nil, List.isEmpty_nil] at q cm
    have hb : (-1000000 ≤ m ∧ m ≤ 1000000) := by have := h.m99; omega
    have rg : pRgL1 (.int m) = some (rowD ((List.range m.toNat).map fun (x : Nat) => (x : Int))) := by
      simp only [pRgL1, rngL]
      rw [if_pos ⟨by decide, by decide, hb.1, hb.2⟩, Option.map_some, Int.sub_zero, range_ints]
    generalize nsD ks = KS at *
    generalize fkD g.2 = FD at *
    generalize wsD ws = WD at *
    simp [d_begins, m_begins, fnOf, env0, sSeq, SOut.bind, sRet, sRetN, sOf, sIf, sNil, sExpr, sSet, sRaise, eAnd, eOr, eNot, bAnd, bOr, bNot, eOp1, op1, eOp2, op2, eOpN, opN, eVar, eC, deref, derefs, Out.bind, asB, toB, ofB, cut_dat, cutS_self, cutS_head0, cutS_one, cutS_none, eChain, eTup, eLst, dats, aNil, aCons, eCall, eIf, pOne, pTwo, eComp, iOf, e1, itemsD, ll, wipeE, cm, q, rg]
  | cons w r =>
    rw [e] at cm
    have q := eq_wnil (w :: r)
    have hw : w ∈ closedN (prs ws i j) g.2 := (List.mem_filter.mp (by rw [e]; exact List.mem_cons_self)).1
    have a1 := p_alternate (ks := ks) (w := w) S (wok w hw).2
    have hf := p_half (altN ks w) m S hm
    have ix : pIx (.lst ((w :: r).map wD)) (.int 0) = some (wD w) := atI_nat (j := 0) rfl
    have m1 := eq_ii (m % 2) 1
    have so : ∀ a b : Int, pSorted (.lst [.int a, .int b]) = some (rowD (isort leI [a, b])) := fun a b => rfl
    simp only [List.isEmpty_cons] at q
    show _ = Out.ok (Val.dat (rowD (rowOdd (altN ks w) m))) S
    unfold rowOdd
    by_cases c : m % 2 = 1
    · rw [decide_eq_true c] at m1
      rw [if_pos c]
      generalize nsD ks = KS at *
      generalize fkD g.2 = FD at *
      generalize wsD ws = WD at *
      generalize (w :: r).map wD = WR at *
      generalize wD w = W at *
      simp [d_begins, m_begins, fnOf, env0, sSeq, SOut.bind, sRet, sRetN, sOf, sIf, sNil, sExpr, sSet, sRaise, eAnd, eOr, eNot, bAnd, bOr, bNot, eOp1, op1, eOp2, op2, eOpN, opN, eVar, eC, deref, derefs, Out.bind, asB, toB, ofB, cut_dat, cutS_self, cutS_head0, cutS_one, cutS_none, eChain, eTup, eLst, dats, aNil, aCons, eCall, eIf, pOne, pTwo, eComp, iOf, e1, itemsD, ll, wipeE, cm, q, ix, a1, hf, pMod, m1]
    · rw [decide_eq_false c] at m1
      rw [if_neg c]
      generalize nsD ks = KS at *
      generalize fkD g.2 = FD at *
      generalize wsD ws = WD at *
      generalize (w :: r).map wD = WR at *
      generalize wD w = W at *
      simp [d_begins, m_begins, fnOf, env0, sSeq, SOut.bind, sRet, sRetN, sOf, sIf, sNil, sExpr, sSet, sRaise, eAnd, eOr, eNot, bAnd, bOr, bNot, eOp1, op1, eOp2, op2, eOpN, opN, eVar, eC, deref, derefs, Out.bind, asB, toB, ofB, cut_dat, cutS_self, cutS_head0, cutS_one, cutS_none, eChain, eTup, eLst, dats, aNil, aCons, eCall, eIf, pOne, pTwo, eComp, iOf, e1, itemsD, ll, wipeE, cm, q, ix, a1, hf, pMod, m1, pAdd, pDiv, hm, so]
end PB

namespace PB
open PySem PySem.Spec PyProof.Rows L2 DL MP MB PN
def pcD (ps : List (Nat × Nat)) (ks : List Int) (m : Int) (g : Nat × List (Nat × List Nat)) : D := .tup [.dct (fkD g.2), rowD (rowN ks m (closedN ps g.2))]
theorem isNot_barD (b : Option (Nat × List Nat)) : pIsNot (barD b) .non = some (.bl b.isSome) := by
  cases b <;> rfl
theorem rowN_len {ks : List Int} {m : Int} (hm : 0 < m) (h99 : m ≤ 99) (ws : List (List Nat)) : (rowN ks m ws).length ≤ 100 := by
  unfold rowN
  split
  · simp
    omega
  · unfold rowOdd
    split
    · simp
    · rw [(isort_perm _ _).length_eq]
      simp
section
variable {ws : List (List Nat)} {i j m : Int} {ks : List Int}
theorem gs_len (h : Pb ws i j m ks) : (groupsN (prs ws i j)).length ≤ 40 := by
  have key : ∀ (ps : List (Nat × Nat)) (n : Nat) (left : List Nat), (grpN ps n left).length ≤ n := by
    intro ps n
    induction n with
    | zero => exact fun left => Nat.le_refl _
    | succ n ih =>
      intro left
      cases left with
      | nil => exact Nat.zero_le _
      | cons s left => exact Nat.succ_le_succ (ih _)
  have h1 := key (prs ws i j) (ltrs (prs ws i j)).length (ltrs (prs ws i j))
  have h2 := srt_len (flat2 (prs ws i j))
  have h3 := flat2_len (prs ws i j)
  have h4 := h.p20
  have h5 : (ltrs (prs ws i j)).length ≤ (flat2 (prs ws i j)).length := h2
  show (grpN (prs ws i j) (ltrs (prs ws i j)).length (ltrs (prs ws i j))).length ≤ 40
  omega
theorem p_pieces (h : Pb ws i j m ks) (S : Store) : d_pieces [.dat (wsD ws), .dat (lkD i j), .dat (.int m), .dat (nsD ks)] S = .ok (.dat (.lst (if theBar (prs ws i j) ks m = none then (groupsN (prs ws i j)).map (pcD (prs ws i j) ks m) else []))) S := by
  have e1 := p_bar h S
  have e2 := isNot_barD (theBar (prs ws i j) ks m)
  have e3 := p_groups ws i j S h.w.len h.n20
  have gr := groups_gr h.p20
  have cm := compL_mapF (B := bTup (bCons (bN 4) (bCons (bN 5) (bNil)))) (me := eTup (aCons (eVar 5) (aCons (eCall 6 d_begins (aCons (eVar 0) (aCons (eVar 1) (aCons (eVar 2) (aCons (eVar 3) (aCons (eVar 4) (aCons (eVar 5) (aNil)))))))) (aNil)))) (ρ := [some (.dat (wsD ws)), some (.dat (lkD i j)), some (.dat (.int m)), some (.dat (nsD ks)), none, none]) (S := S) (h := gD) (f := pcD (prs ws i j) ks m) (l := groupsN (prs ws i j)) fun g hg => by
    refine ⟨_, b_g g, ?_⟩
    have q := p_begins h (gr.pc g hg) (gr.sh g hg) S
    unfold pcD
    generalize nsD ks = KS at *
    generalize fkD g.2 = FD at *
    generalize wsD ws = WD at *
    simp [setE, fnOf, env0, sSeq, SOut.bind, sRet, sRetN, sOf, sIf, sNil, sExpr, sSet, sRaise, eAnd, eOr, eNot, bAnd, bOr, bNot, eOp1, op1, eOp2, op2, eOpN, opN, eVar, eC, deref, derefs, Out.bind, asB, toB, ofB, cut_dat, cutS_self, cutS_head0, cutS_one, cutS_none, eChain, eTup, eLst, dats, aNil, aCons, eCall, eIf, pOne, pTwo, q]
  have gl := gs_len h
  have ll : (groupsN (prs ws i j)).length ≤ 1000000 := by omega
  cases c : theBar (prs ws i j) ks m with
  | none =>
    rw [c] at e1 e2
    rw [if_pos rfl]
    generalize nsD ks = KS at *
    generalize wsD ws = WD at *
    simp only [Option.isSome_none] at e2
    simp [d_pieces, m_pieces, fnOf, env0, sSeq, SOut.bind, sRet, sRetN, sOf, sIf, sNil, sExpr, sSet, sRaise, eAnd, eOr, eNot, bAnd, bOr, bNot, eOp1, op1, eOp2, op2, eOpN, opN, eVar, eC, deref, derefs, Out.bind, asB, toB, ofB, cut_dat, cutS_self, cutS_head0, cutS_one, cutS_none, eChain, eTup, eLst, dats, aNil, aCons, eCall, eIf, pOne, pTwo, e1, e2, eComp, iOf, e3, itemsD, ll, wipeE, cm]
  | some b =>
    rw [c] at e1 e2
    rw [if_neg (fun z => nomatch z)]
    generalize nsD ks = KS at *
    generalize wsD ws = WD at *
    simp only [Option.isSome_some] at e2
    simp [d_pieces, m_pieces, fnOf, env0, sSeq, SOut.bind, sRet, sRetN, sOf, sIf, sNil, sExpr, sSet, sRaise, eAnd, eOr, eNot, bAnd, bOr, bNot, eOp1, op1, eOp2, op2, eOpN, opN, eVar, eC, deref, derefs, Out.bind, asB, toB, ofB, cut_dat, cutS_self, cutS_head0, cutS_one, cutS_none, eChain, eTup, eLst, dats, aNil, aCons, eCall, eIf, pOne, pTwo, e1, e2]
theorem neL_nil (xs : List D) : pNeL (.lst xs) (.lst []) = some (.bl (!xs.isEmpty)) := by
  cases xs with
  | nil =>
    have := ne_sgs []
    exact this
  | cons x xs => rfl
theorem hm_loop {ps : List (Nat × Nat)} (hm : 0 < m) (h99 : m ≤ 99) (x0 x1 x2 x3 x4 : Option Val) (S : Store) : ∀ (gs : Grps) (t : Int) (x6 x7 : Option Val), ∃ y6 y7, sForL (bTup (bCons (bN 6) (bCons (bN 7) (bNil)))) (sSet 5 (eOp2 pMul (eVar 5) (eOpN (pOne pLen) (aCons (eVar 7) (aNil))))) (gs.map (pcD ps ks m)) [x0, x1, x2, x3, x4, some (.dat (.int t)), x6, x7] S =
    .nx [x0, x1, x2, x3, x4, some (.dat (.int (t * (((rowsG ps ks m gs).map (·.length)).foldr (· * ·) 1 : Nat)))), y6, y7] S
  | [], t, x6, x7 => ⟨x6, x7, by simp [sForL, rowsG]⟩
  | g :: gs, t, x6, x7 => by
    obtain ⟨y6, y7, ih⟩ := hm_loop hm h99 x0 x1 x2 x3 x4 S gs (t * ((rowN ks m (closedN ps g.2)).length : Nat)) (some (.dat (.dct (fkD g.2)))) (some (.dat (rowD (rowN ks m (closedN ps g.2)))))
    refine ⟨y6, y7, ?_⟩
    have hb : bTup (bCons (bN 6) (bCons (bN 7) (bNil))) (pcD ps ks m g) = some [(6, .dct (fkD g.2)), (7, rowD (rowN ks m (closedN ps g.2)))] := rfl
    have hl : pLen (rowD (rowN ks m (closedN ps g.2))) = some (.int ((rowN ks m (closedN ps g.2)).length : Nat)) := by simp [pLen]
    have h100 := rowN_len (ks := ks) hm h99 (closedN ps g.2)
    have pm : pMul (.int t) (.int ((rowN ks m (closedN ps g.2)).length : Nat)) = some (.int (t * ((rowN ks m (closedN ps g.2)).length : Nat))) := by
      simp only [pMul]
      rw [if_pos (.inr ⟨by omega, by omega⟩)]
    have e : ((rowsG ps ks m (g :: gs)).map (·.length)).foldr (· * ·) 1 = (rowN ks m (closedN ps g.2)).length * ((rowsG ps ks m gs).map (·.length)).foldr (· * ·) 1 := rfl
    rw [e, Int.natCast_mul, ← Int.mul_assoc, ← ih, List.map_cons]
    generalize fkD g.2 = FD at *
    generalize rowN ks m (closedN ps g.2) = R at *
    generalize hR : rowD R = RD at *
    simp [sForL, hb, setE, fnOf, env0, sSeq, SOut.bind, sRet, sRetN, sOf, sIf, sNil, sExpr, sSet, sRaise, eAnd, eOr, eNot, bAnd, bOr, bNot, eOp1, op1, eOp2, op2, eOpN, opN, eVar, eC, deref, derefs, Out.bind, asB, toB, ofB, cut_dat, cutS_self, cutS_head0, cutS_one, cutS_none, eChain, eTup, eLst, dats, aNil, aCons, eCall, eIf, pOne, pTwo, hl, pm]
theorem p_how_many (h : Pb ws i j m ks) (S : Store) : d_how_many [.dat (wsD ws), .dat (lkD i j), .dat (.int m), .dat (nsD ks)] S = .ok (.dat (.int ((sols (prs ws i j) m ks).length : Nat))) S := by
  have e1 := p_pieces h S
  cases c : theBar (prs ws i j) ks m with
  | none =>
    rw [c, if_pos rfl] at e1
    have e2 := neL_nil ((groupsN (prs ws i j)).map (pcD (prs ws i j) ks m))
    have hne : ((groupsN (prs ws i j)).map (pcD (prs ws i j) ks m)).isEmpty = false := by
      rw [List.isEmpty_eq_false_iff]
      intro z
      rw [List.map_eq_nil_iff] at z
      have hg := h.grp
      rw [z] at hg
      have n1 := h.w.n1
      have pl := prs_len ws i j
      cases hp : prs ws i j with
      | nil =>
        rw [hp] at pl
        simp at pl
        omega
      | cons p r =>
        have := (flat_ltrs (ps := prs ws i j) (k := 0) (p := p) (by rw [hp]; rfl)).1
        obtain ⟨g, hg', _⟩ := hg.cover this
        cases hg'
    rw [hne] at e2
    obtain ⟨y6, y7, e3⟩ := hm_loop (ps := prs ws i j) (ks := ks) h.mp h.m99 (some (.dat (wsD ws))) (some (.dat (lkD i j))) (some (.dat (.int m))) (some (.dat (nsD ks))) (some (.dat (.lst ((groupsN (prs ws i j)).map (pcD (prs ws i j) ks m))))) S (groupsN (prs ws i j)) 1 none none
    rw [Int.one_mul, ← prodL_len] at e3
    have e4 : (sols (prs ws i j) m ks).length = (prodL (rowsG (prs ws i j) ks m (groupsN (prs ws i j)))).length := by
      rw [sols_free h.mp h.n h.grp c, List.length_map]
    rw [e4]
    generalize nsD ks = KS at *
    generalize wsD ws = WD at *
    generalize (groupsN (prs ws i j)).map (pcD (prs ws i j) ks m) = PS at *
    generalize (prodL (rowsG (prs ws i j) ks m (groupsN (prs ws i j)))).length = N at *
    have it : pInt (.bl true) = some (.int 1) := rfl
    simp [d_how_many, m_how_many, fnOf, env0, sSeq, SOut.bind, sRet, sRetN, sOf, sIf, sNil, sExpr, sSet, sRaise, eAnd, eOr, eNot, bAnd, bOr, bNot, eOp1, op1, eOp2, op2, eOpN, opN, eVar, eC, deref, derefs, Out.bind, asB, toB, ofB, cut_dat, cutS_self, cutS_head0, cutS_one, cutS_none, eChain, eTup, eLst, dats, aNil, aCons, eCall, eIf, pOne, pTwo, e1, e2, it, sFor, iOf, itemsD, e3]
  | some b =>
    rw [c, if_neg (fun z => nomatch z)] at e1
    have e2 := neL_nil []
    have e4 : sols (prs ws i j) m ks = [] := by
      have := (theBar_none h)
      rw [c] at this
      by_cases z : sols (prs ws i j) m ks = []
      · exact z
      · exact nomatch this.mpr z
    rw [e4]
    have it : pInt (.bl false) = some (.int 0) := rfl
    generalize nsD ks = KS at *
    generalize wsD ws = WD at *
    simp only [List.isEmpty_nil] at e2
    simp [d_how_many, m_how_many, fnOf, env0, sSeq, SOut.bind, sRet, sRetN, sOf, sIf, sNil, sExpr, sSet, sRaise, eAnd, eOr, eNot, bAnd, bOr, bNot, eOp1, op1, eOp2, op2, eOpN, opN, eVar, eC, deref, derefs, Out.bind, asB, toB, ofB, cut_dat, cutS_self, cutS_head0, cutS_one, cutS_none, eChain, eTup, eLst, dats, aNil, aCons, eCall, eIf, pOne, pTwo, e1, e2, it, sFor, iOf, itemsD, sForL]
end
end PB

namespace PB
open PySem PySem.Spec PyProof.Rows L2 DL MP MB PN
/-- words of no more than so many letters -/
theorem words_loopL (ns : List Int) (L : List Nat) (R : Store) (hL : L ≠ []) (hsub : ∀ c ∈ L, c ∈ letL) (k : D) :
    ∀ (ds : List D) (a b : Option Val) (n : Nat) (ss : List (List Nat)), n + 10 * ds.length ≤ 80000 → ss.length + ds.length ≤ 1000 → ss.Nodup → (∀ s ∈ ss, goodW s ∧ ∀ c ∈ s, c ∈ L) →
      ∃ (a' b' : Option Val) (n' : Nat) (ss' : List (List Nat)), n' ≤ n + 10 * ds.length ∧ ss.length ≤ ss'.length ∧ ss'.length ≤ ss.length + ds.length ∧ (ds ≠ [] → ss' ≠ []) ∧ ss'.Nodup ∧ (∀ s ∈ ss', goodW s ∧ ∀ c ∈ s, c ∈ L) ∧
      sForL (bN 5) (sSeq (sSet 6 (eCall 4 d__law_word (aCons (eVar 0) (aCons (eVar 1) (aCons (eVar 3) (aCons (eC (.int 6)) (aNil))))))) (sIf (toB (eOp2 pNotIn (eVar 6) (eVar 4))) (sExpr (eMutL true mAppend (eVar 4) (aCons (eVar 6) (aNil)))) (sNil))) ds
        [some (.dat (.scr ns)), some (.ptr 0), some (.dat k), some (.dat (.lst ((sgs L).map .str))), some (.ptr (R.length + 1)), a, b] (.lst (zs n) :: (R ++ [.lst (ss.map .str)])) =
        .nx [some (.dat (.scr ns)), some (.ptr 0), some (.dat k), some (.dat (.lst ((sgs L).map .str))), some (.ptr (R.length + 1)), a', b'] (.lst (zs n') :: (R ++ [.lst (ss'.map .str)]))
  | [], a, b, n, ss, _, _, nd, gd => ⟨a, b, n, ss, by simp, by simp, by simp, fun h => absurd rfl h, nd, gd, rfl⟩
  | d :: ds, a, b, n, ss, h1, h2, nd, gd => by
    rw [List.length_cons] at h1 h2
    obtain ⟨w, n1, w1, w2, w3, w4, hw⟩ := p_word ns n L (R ++ [.lst (ss.map .str)]) hL (by omega)
    have hni := notIn_strs w ss
    have gw : goodW w := ⟨w1, w2, fun c hc => hsub c (w3 c hc)⟩
    by_cases hm : w ∈ ss
    · rw [decide_eq_true hm] at hni
      obtain ⟨a', b', n', ss', r1, r2, r3, r4, r5, r6, r7⟩ := words_loopL ns L R hL hsub k ds (some (.dat d)) (some (.dat (.str w))) n1 ss (by omega) (by omega) nd gd
      refine ⟨a', b', n', ss', by rw [List.length_cons]; omega, r2, by rw [List.length_cons]; omega, fun _ z => ?_, r5, r6, ?_⟩
      · subst z
        have : ss.length = 0 := by simpa using r2
        rw [List.length_eq_zero_iff] at this
        subst this
        cases hm
      · simp [sForL, bN, setE, fnOf, env0, sSeq, SOut.bind, sRet, sRetN, sOf, sIf, sNil, sExpr, sSet, sRaise, eAnd, eOr, eNot, bAnd, bOr, bNot, eOp1, op1, eOp2, op2, eOpN, opN, eVar, eC, deref, derefs, Out.bind, asB, toB, ofB, cut_dat, cutS_self, cutS_head0, cutS_one, cutS_none, eChain, eTup, eLst, dats, aNil, aCons, eCall, eIf, pOne, pTwo, hw, hni, r7]
    · rw [decide_eq_false hm] at hni
      have nd2 : (ss ++ [w]).Nodup := by
        rw [List.nodup_append]
        exact ⟨nd, by simp, fun x hx y hy e => by
          rw [List.mem_singleton.mp hy] at e
          exact hm (e ▸ hx)⟩
      have gd2 : ∀ s ∈ ss ++ [w], goodW s ∧ ∀ c ∈ s, c ∈ L := fun s hs => by
        rcases List.mem_append.mp hs with z | z
        · exact gd s z
        · rw [List.mem_singleton.mp z]
          exact ⟨gw, w3⟩
      have hl : (ss ++ [w]).length = ss.length + 1 := by simp
      obtain ⟨a', b', n', ss', r1, r2, r3, r4, r5, r6, r7⟩ := words_loopL ns L R hL hsub k ds (some (.dat d)) (some (.dat (.str w))) n1 (ss ++ [w]) (by omega) (by omega) nd2 gd2
      have hlt : ss.length < 1000000 := by omega
      rw [List.map_append] at r7
      refine ⟨a', b', n', ss', by rw [List.length_cons]; omega, by omega, by rw [List.length_cons]; omega, fun _ z => ?_, r5, r6, ?_⟩
      · subst z
        simp at r2
      · simp [sForL, bN, setE, fnOf, env0, sSeq, SOut.bind, sRet, sRetN, sOf, sIf, sNil, sExpr, sSet, sRaise, eAnd, eOr, eNot, bAnd, bOr, bNot, eOp1, op1, eOp2, op2, eOpN, opN, eVar, eC, deref, derefs, Out.bind, asB, toB, ofB, cut_dat, cutS_self, cutS_head0, cutS_one, cutS_none, eChain, eTup, eLst, dats, aNil, aCons, eCall, eIf, pOne, pTwo, hw, hni, eMutL, mutL, argD, mAppend, hlt]
        simpa using r7
theorem p_wordsL (ns : List Int) (n : Nat) (most : Int) (R : Store) (h1 : 1 ≤ most) (h6 : most ≤ 6) (hn : n < 50000) : ∃ (ss : List (List Nat)) (n' : Nat) (L : List Nat), n' ≤ n + 100 ∧ ss.length ≤ most.toNat ∧ Ws ss ∧ L.length ≤ 5 ∧ (∀ s ∈ ss, ∀ c ∈ s, c ∈ L) ∧
    d__law_words [.dat (.scr ns), .ptr 0, .dat (.int most)] (.lst (zs n) :: R) = .ok (.dat (wsD ss)) (.lst (zs n') :: R) := by
  obtain ⟨x, hx, hp⟩ := p_pick ns n [.lst [.str [97], .str [98]], .lst [.str [97], .str [98], .str [99]], .lst [.str [97], .str [98], .str [99], .str [100]], .lst [.str [107], .str [109], .str [122], .str [97], .str [101]]] R (fun z => nomatch z) (by omega)
  obtain ⟨L, rfl, hL, hsub, hl5⟩ : ∃ L : List Nat, x = .lst ((sgs L).map .str) ∧ L ≠ [] ∧ (∀ c ∈ L, c ∈ letL) ∧ L.length ≤ 5 := by
    simp only [List.mem_cons, List.not_mem_nil, or_false] at hx
    rcases hx with e | e | e | e <;> subst e
    · exact ⟨[97, 98], rfl, by decide, by decide, by decide⟩
    · exact ⟨[97, 98, 99], rfl, by decide, by decide, by decide⟩
    · exact ⟨[97, 98, 99, 100], rfl, by decide, by decide, by decide⟩
    · exact ⟨[107, 109, 122, 97, 101], rfl, by decide, by decide, by decide⟩
  obtain ⟨v, v1, v2, hv⟩ := p_draw ns (n + 1) most (R ++ [.lst []]) (by omega) (by omega)
  have hb : -1000000 ≤ 1 + v ∧ 1 + v ≤ 1000000 := by omega
  have hlen := rangeD_len 0 (1 + v).toNat
  obtain ⟨a', b', n', ss', r1, r2, r3, r4, r5, r6, r7⟩ := words_loopL ns L R hL hsub (.int most) (rangeD 0 (1 + v).toNat) none none (n + 1 + 1) [] (by omega) (by simp; omega) List.nodup_nil (fun s hs => nomatch hs)
  have l6 : ss'.length ≤ most.toNat := by
    simp at r3
    omega
  refine ⟨ss', n', L, by omega, l6, ⟨?_, by omega, r5, fun s hs => (r6 s hs).1⟩, hl5, fun s hs => (r6 s hs).2, ?_⟩
  · have : ss' ≠ [] := r4 fun z => by
      rw [z] at hlen
      simp at hlen
      omega
    have := List.length_pos_iff.mpr this
    omega
  · simp only [List.map_nil] at r7
    have hc := cutS_head (zs n) (zs n') R [.lst (ss'.map .str)] (Out.ok (Val.dat (wsD ss')))
    simp [d__law_words, m__law_words, fnOf, env0, sSeq, SOut.bind, sRet, sRetN, sOf, sIf, sNil, sExpr, sSet, sRaise, eAnd, eOr, eNot, bAnd, bOr, bNot, eOp1, op1, eOp2, op2, eOpN, opN, eVar, eC, deref, derefs, Out.bind, asB, toB, ofB, cut_dat, cutS_self, cutS_head0, cutS_one, cutS_none, eChain, eTup, eLst, dats, aNil, aCons, eCall, eIf, pOne, pTwo, hp, eNew, cLst, sFor, iRange1, hv, pAdd, hb, r7, pTupleA, pTuple, pList, hc]
theorem ltrs_few {ws : List (List Nat)} {i j : Int} (h : Ws ws) {L : List Nat} (hL : ∀ s ∈ ws, ∀ c ∈ s, c ∈ L) : (ltrs (prs ws i j)).length ≤ L.length := by
  refine nodup_sub_len (ltrs_nd _) fun c hc => ?_
  obtain ⟨p, hp, e⟩ := mem_flat2.mp (mem_srt.mp hc)
  unfold prs at hp
  obtain ⟨w, hw, rfl⟩ := List.mem_map.mp hp
  have h1 := (h.gd w hw).1
  rcases e with e | e <;> rw [e]
  · exact hL w hw _ (letAt_mem h1 i)
  · exact hL w hw _ (letAt_mem h1 j)
theorem set_ints (l : List Int) (k : Nat) (v : Int) : (l.map D.int).set k (.int v) = (l.set k v).map .int := by
  rw [List.map_set]
theorem told_loop (ns : List Int) (R : Store) (m : Int) (hm : 0 < m) (x2 x3 x4 x6 x7 x8 x11 : Option Val) : ∀ (ds : List D) (ks : List Int) (n : Nat) (x10 : Option Val), ks ≠ [] → ks.length ≤ 1000 → (∀ k ∈ ks, 0 ≤ k ∧ k < m) → n + 2 * ds.length ≤ 80000 →
    ∃ (ks' : List Int) (y10 : Option Val), ks'.length = ks.length ∧ (∀ k ∈ ks', 0 ≤ k ∧ k < m) ∧ sForL (bN 10) (sPut (eVar 9) (eCall 3 d__law_draw (aCons (eVar 0) (aCons (eVar 1) (aCons (eOpN (pOne pLen) (aCons (eVar 9) (aNil))) (aNil))))) (eCall 3 d__law_draw (aCons (eVar 0) (aCons (eVar 1) (aCons (eVar 5) (aNil)))))) ds
      [some (.dat (.scr ns)), some (.ptr 0), x2, x3, x4, some (.dat (.int m)), x6, x7, x8, some (.ptr (R.length + 1)), x10, x11] (.lst (zs n) :: (R ++ [.lst (ks.map .int)])) =
      .nx [some (.dat (.scr ns)), some (.ptr 0), x2, x3, x4, some (.dat (.int m)), x6, x7, x8, some (.ptr (R.length + 1)), y10, x11] (.lst (zs (n + 2 * ds.length)) :: (R ++ [.lst (ks'.map .int)]))
  | [], ks, n, x10, _, _, hk, _ => ⟨ks, x10, rfl, hk, rfl⟩
  | d :: ds, ks, n, x10, hne, hl, hk, hn => by
    rw [List.length_cons] at hn
    have hp : 0 < ks.length := List.length_pos_iff.mpr hne
    obtain ⟨v, v1, v2, hv⟩ := p_draw ns n m (R ++ [.lst (ks.map .int)]) hm (by omega)
    obtain ⟨u, u1, u2, hu⟩ := p_draw ns (n + 1) (ks.length : Int) (R ++ [.lst (ks.map .int)]) (by omega) (by omega)
    have hne2 : ks.set u.toNat v ≠ [] := fun z => by
      have := congrArg List.length z
      rw [List.length_set, List.length_nil] at this
      omega
    obtain ⟨ks', y10, r1, r2, r3⟩ := told_loop ns R m hm x2 x3 x4 x6 x7 x8 x11 ds (ks.set u.toNat v) (n + 2) (some (.dat d)) hne2 (by simpa using hl) (fun k hk' => by
      rcases List.mem_or_eq_of_mem_set hk' with z | z
      · exact hk k z
      · rw [z]
        exact ⟨v1, v2⟩) (by omega)
    refine ⟨ks', y10, by rw [r1, List.length_set], r2, ?_⟩
    have hix : ixN (ks.map D.int).length u = some u.toNat := by
      unfold ixN
      rw [List.length_map]
      have : u.toNat < ks.length := by omega
      simp [u1, this, u2]
    have e2 : n + 2 + 2 * ds.length = n + 2 * (d :: ds).length := by rw [List.length_cons]; omega
    rw [e2] at r3
    have hll : pLen (.lst (ks.map .int)) = some (.int (ks.length : Nat)) := by simp [pLen]
    rw [← r3, ← set_ints]
    generalize ks.map D.int = KS at *
    simp [sForL, bN, setE, fnOf, env0, sSeq, SOut.bind, sRet, sRetN, sOf, sIf, sNil, sExpr, sSet, sRaise, eAnd, eOr, eNot, bAnd, bOr, bNot, eOp1, op1, eOp2, op2, eOpN, opN, eVar, eC, deref, derefs, Out.bind, asB, toB, ofB, cut_dat, cutS_self, cutS_head0, cutS_one, cutS_none, eChain, eTup, eLst, dats, aNil, aCons, eCall, eIf, pOne, pTwo, sPut, hv, getR, hll, hu, DL.putAt, hix, setR]
theorem dict_line {ps : List (Nat × Int)} {m : EM} {ρ : Ev} {S S' : Store} (hl : ∀ p ∈ ps, p.1 ∈ letL) (nd : (ps.map (·.1)).Nodup) (hm : m ρ S = .ok (.dat (.lst (ps.map rowI))) S') : eFrz (cDict m) ρ S = .ok (.dat (.dct (bkD ps))) S' := by
  have i1 : ∀ ps : List (Nat × Int), pairsOf (ps.map rowI) = some (bkD ps) := fun ps => by
    induction ps with
    | nil => rfl
    | cons p ps ih =>
      have h6 : pairOf (rowI p) = some (.str [p.1], .int p.2) := rfl
      rw [List.map_cons]
      simp only [DL.pairsOf, h6, ih, bkD, List.map_cons]
  have e := merge_bk ps [] (by rw [List.nil_append]; exact nd)
  rw [List.nil_append] at e
  have e' : mergeD [] (bkD ps) = bkD ps := e
  simp [eFrz, cDict, fnOf, env0, sSeq, SOut.bind, sRet, sRetN, sOf, sIf, sNil, sExpr, sSet, sRaise, eAnd, eOr, eNot, bAnd, bOr, bNot, eOp1, op1, eOp2, op2, eOpN, opN, eVar, eC, deref, derefs, Out.bind, asB, toB, ofB, cut_dat, cutS_self, cutS_head0, cutS_one, cutS_none, eChain, eTup, eLst, dats, aNil, aCons, eCall, eIf, pOne, pTwo, hm, i1, e', cellD]
theorem p_law_told (ns : List Int) (n : Nat) (most wide : Int) (R : Store) (h1 : 1 ≤ most) (h6 : most ≤ 6) (w1 : 1 ≤ wide) (w99 : wide ≤ 99) (hn : n < 40000) : ∃ (ws : List (List Nat)) (i j m : Int) (ks : List Int) (n' : Nat), n' ≤ n + 200 ∧ ws.length ≤ most.toNat ∧ m ≤ wide ∧ Pb ws i j m ks ∧ (ltrs (prs ws i j)).length ≤ 5 ∧
    d__law_told [.dat (.scr ns), .ptr 0, .dat (.int most), .dat (.int wide)] (.lst (zs n) :: R) = .ok (.dat (.tup [wsD ws, lkD i j, .int m, nsD ks])) (.lst (zs n') :: R) := by
  obtain ⟨sp, s1, s2, hs⟩ := p_draw ns n 4 R (by decide) (by omega)
  obtain ⟨v, v1, v2, hv⟩ := p_draw ns (n + 1) wide R (by omega) (by omega)
  obtain ⟨i, j, hl, hlook⟩ := p_law_look ns (n + 1 + 1) R (by omega)
  obtain ⟨ws, n2, L, hn2, hmost, hw, hL5, hLs, hwords⟩ := p_wordsL ns (n + 1 + 1 + 2) most R h1 h6 (by omega)
  have few := ltrs_few (i := i) (j := j) hw hLs
  have n6 := hw.n6
  have e1 := p_law_letters ws i j (.lst (zs n2) :: R) hw.len (by omega)
  obtain ⟨ps, q1, q2, q3⟩ := comp_line (me := eTup (aCons (eVar 11) (aCons (eCall 3 d__law_draw (aCons (eVar 0) (aCons (eVar 1) (aCons (eVar 5) (aNil))))) (aNil)))) (i := 11) (R := R) (room := 1 + v)
    (ρ := [some (.dat (.scr ns)), some (.ptr 0), some (.dat (.int most)), some (.dat (.int wide)), some (.dat (.int sp)), some (.dat (.int (1 + v))), some (.dat (lkD i j)), some (.dat (wsD ws)), none, none, none, none]) 90000 (fun c n hn => by
      obtain ⟨u, u1, u2, hu⟩ := p_draw ns n (1 + v) R (by omega) (by omega)
      exact ⟨u, u1, u2, by simp [fnOf, env0, sSeq, SOut.bind, sRet, sRetN, sOf, sIf, sNil, sExpr, sSet, sRaise, eAnd, eOr, eNot, bAnd, bOr, bNot, eOp1, op1, eOp2, op2, eOpN, opN, eVar, eC, deref, derefs, Out.bind, asB, toB, ofB, cut_dat, cutS_self, cutS_head0, cutS_one, cutS_none, eChain, eTup, eLst, dats, aNil, aCons, eCall, eIf, pOne, pTwo, hu, rowI]⟩) (ltrs (prs ws i j)) n2 (by omega)
  have hl2 : (ltrs (prs ws i j)).length ≤ 1000000 := by omega
  have hall : ∀ c ∈ flat2 (prs ws i j), c ∈ ps.map (·.1) := fun c hc => by
    rw [q1]
    exact mem_srt.mpr hc
  have hd := dict_line (ps := ps) (m := eComp [11] (iOf (eCall 2 d__law_letters (aCons (eVar 7) (aCons (eVar 6) (aNil))))) (bN 11) (bYes) (eTup (aCons (eVar 11) (aCons (eCall 3 d__law_draw (aCons (eVar 0) (aCons (eVar 1) (aCons (eVar 5) (aNil))))) (aNil)))))
    (ρ := [some (.dat (.scr ns)), some (.ptr 0), some (.dat (.int most)), some (.dat (.int wide)), some (.dat (.int sp)), some (.dat (.int (1 + v))), some (.dat (lkD i j)), some (.dat (wsD ws)), none, none, none, none]) (S := .lst (zs n2) :: R) (S' := .lst (zs (n2 + (ltrs (prs ws i j)).length)) :: R)
    (fun p hp => flat2_let hw _ (mem_srt.mp (by
      have : p.1 ∈ ps.map (·.1) := List.mem_map.mpr ⟨p, hp, rfl⟩
      rw [q1] at this
      exact this))) (by rw [q1]; exact ltrs_nd _) (by
      simp only [lsD] at e1 q3
      simp [fnOf, env0, sSeq, SOut.bind, sRet, sRetN, sOf, sIf, sNil, sExpr, sSet, sRaise, eAnd, eOr, eNot, bAnd, bOr, bNot, eOp1, op1, eOp2, op2, eOpN, opN, eVar, eC, deref, derefs, Out.bind, asB, toB, ofB, cut_dat, cutS_self, cutS_head0, cutS_one, cutS_none, eChain, eTup, eLst, dats, aNil, aCons, eCall, eIf, pOne, pTwo, e1, eComp, iOf, itemsD, hl2, wipeE, q3])
  have e3 := p_law_by ws i j (1 + v) ps (.lst (zs (n2 + (ltrs (prs ws i j)).length)) :: R) hw.len (by omega) (by omega) hall
  have nl := nums_len (prs ws i j) (1 + v) (wI ps)
  have nin := nums_in (pp := prs ws i j) (f := wI ps) (show 0 < 1 + v by omega)
  have pl := prs_len ws i j
  have n1 := hw.n1
  have hsp : sp / 2 * (1 + sp % 2) ≤ 2 ∧ 0 ≤ sp / 2 * (1 + sp % 2) := by
    have : sp = 0 ∨ sp = 1 ∨ sp = 2 ∨ sp = 3 := by omega
    rcases this with e | e | e | e <;> subst e <;> decide
  obtain ⟨ks', y10, r1, r2, r3⟩ := told_loop ns R (1 + v) (by omega) (some (.dat (.int most))) (some (.dat (.int wide))) (some (.dat (.int sp))) (some (.dat (lkD i j))) (some (.dat (wsD ws))) (some (.dat (.dct (bkD ps)))) none (rangeD 0 (sp / 2 * (1 + sp % 2)).toNat) (nums (prs ws i j) (1 + v) (wI ps)) (n2 + (ltrs (prs ws i j)).length) none (fun z => by
    rw [z] at nl
    simp at nl
    omega) (by omega) nin (by rw [rangeD_len]; omega)
  rw [rangeD_len] at r3
  refine ⟨ws, i, j, 1 + v, ks', n2 + (ltrs (prs ws i j)).length + 2 * (sp / 2 * (1 + sp % 2)).toNat, by omega, hmost, by omega, ⟨hw, hl, by omega, by omega, ⟨by rw [r1, nl], r2⟩⟩, by omega, ?_⟩
  have hc := cutS_head (zs n) (zs (n2 + (ltrs (prs ws i j)).length + 2 * (sp / 2 * (1 + sp % 2)).toNat)) R [.lst (ks'.map .int)] (Out.ok (Val.dat (.tup [wsD ws, lkD i j, .int (1 + v), nsD ks'])))
  have hadd : pAdd (.int 1) (.int v) = some (.int (1 + v)) := rfl
  have c1 : pDiv (.int sp) (.int 2) = some (.int (sp / 2)) := rfl
  have c2 : pMod (.int sp) (.int 2) = some (.int (sp % 2)) := rfl
  have c3 : pAdd (.int 1) (.int (sp % 2)) = some (.int (1 + sp % 2)) := rfl
  have c4 : pMul (.int (sp / 2)) (.int (1 + sp % 2)) = some (.int (sp / 2 * (1 + sp % 2))) := by
    simp only [pMul]
    rw [if_pos (.inl ⟨by omega, by omega⟩)]
  have c5 : -1000000 ≤ sp / 2 * (1 + sp % 2) ∧ sp / 2 * (1 + sp % 2) ≤ 1000000 := by omega
  have c6 : pTupleA (.lst (ks'.map .int)) = some (nsD ks') := rfl
  generalize hX : sp / 2 * (1 + sp % 2) = X at *
  simp only [nsD] at hc c6 ⊢
  generalize ks'.map D.int = KS at *
  generalize (nums (prs ws i j) (1 + v) (wI ps)).map D.int = NS at *
  generalize wsD ws = WD at *
  simp [d__law_told, m__law_told, fnOf, env0, sSeq, SOut.bind, sRet, sRetN, sOf, sIf, sNil, sExpr, sSet, sRaise, eAnd, eOr, eNot, bAnd, bOr, bNot, eOp1, op1, eOp2, op2, eOpN, opN, eVar, eC, deref, derefs, Out.bind, asB, toB, ofB, cut_dat, cutS_self, cutS_head0, cutS_one, cutS_none, eChain, eTup, eLst, dats, aNil, aCons, eCall, eIf, pOne, pTwo, hs, hadd, hv, hlook, hwords, hd, e3, eNew, cOf, sFor, iRange1, c1, c2, c3, c4, c5, r3, c6, getR, hc]
end PB

namespace PB
open PySem PySem.Spec PyProof.Rows L2 DL MP MB PN
def lineD (P : List Nat) (l : List Int) : D := .tup ((P.zip l).map rowI)
theorem lineD_snoc {P : List Nat} {l : List Int} (c : Nat) (x : Int) (h : l.length = P.length) : lineD (P ++ [c]) (l ++ [x]) = .tup ((P.zip l).map rowI ++ [rowI (c, x)]) := by
  unfold lineD
  rw [List.zip_append h.symm, List.map_append]
  rfl
theorem range_map (m : Nat) : rangeD 0 m = (List.range m).map fun (x : Nat) => D.int (x : Int) := by
  unfold rangeD
  refine List.map_congr_left fun x _ => ?_
  simp
noncomputable def evIn : SM := sExpr (eMutL false mExtend (eVar 5) (aCons (eComp [7] (iRange1 (eVar 2)) (bN 7) (bYes) (eOp2 pAdd (eVar 6) (eTup (aCons (eTup (aCons (eVar 4) (aCons (eVar 7) (aNil)))) (aNil))))) (aNil)))
noncomputable def evBody : SM := sSeq (sSet 5 (eNew (cLst (aNil)))) (sSeq (sFor (iOf (eVar 3)) (bN 6) evIn) (sSet 3 (eFin (eVar 5))))
theorem m_every_eq : m__law_every = sSeq (sSet 3 (eLst (aCons (eTup (aNil)) (aNil)))) (sSeq (sFor (iOf (eCall 2 d__law_letters (aCons (eVar 0) (aCons (eVar 1) (aNil))))) (bN 4) evBody) (sRet (eVar 3))) := rfl
theorem ev_in (x0 x1 x3 : Option Val) (m : Int) (hm : 0 < m) (h99 : m ≤ 99) (P : List Nat) (hP : P.length ≤ 100) (c : Nat) (T : Store) : ∀ (ls acc : List (List Int)) (x6 : Option Val), (∀ l ∈ ls, l.length = P.length) → acc.length + m.toNat * ls.length ≤ 1000000 →
    ∃ y6, sForL (bN 6) evIn (ls.map (lineD P)) [x0, x1, some (.dat (.int m)), x3, some (.dat (.str [c])), some (.ptr T.length), x6, none] (T ++ [.lst (acc.map (lineD (P ++ [c])))]) =
      .nx [x0, x1, some (.dat (.int m)), x3, some (.dat (.str [c])), some (.ptr T.length), y6, none] (T ++ [.lst ((acc ++ ls.flatMap fun l => (List.range m.toNat).map fun (x : Nat) => l ++ [(x : Int)]).map (lineD (P ++ [c])))])
  | [], acc, x6, _, _ => ⟨x6, by simp [sForL]⟩
  | l :: ls, acc, x6, hl, hb => by
    have l1 := hl l List.mem_cons_self
    rw [List.length_cons, Nat.mul_add, Nat.mul_one] at hb
    obtain ⟨y6, ih⟩ := ev_in x0 x1 x3 m hm h99 P hP c T ls (acc ++ (List.range m.toNat).map fun (x : Nat) => l ++ [(x : Int)]) (some (.dat (lineD P l))) (fun q hq => hl q (List.mem_cons_of_mem _ hq)) (by simp; omega)
    refine ⟨y6, ?_⟩
    have cm := compL_mapF (B := bN 7) (me := eOp2 pAdd (eVar 6) (eTup (aCons (eTup (aCons (eVar 4) (aCons (eVar 7) (aNil)))) (aNil)))) (ρ := [x0, x1, some (.dat (.int m)), x3, some (.dat (.str [c])), some (.ptr T.length), some (.dat (lineD P l)), none]) (S := T ++ [.lst (acc.map (lineD (P ++ [c])))]) (h := fun (x : Nat) => D.int (x : Int)) (f := fun (x : Nat) => lineD (P ++ [c]) (l ++ [(x : Int)])) (l := List.range m.toNat) fun x _ => by
      refine ⟨_, rfl, ?_⟩
      have e : pAdd (lineD P l) (.tup [.tup [.str [c], .int (x : Int)]]) = some (lineD (P ++ [c]) (l ++ [(x : Int)])) := by
        rw [lineD_snoc c x l1]
        unfold lineD
        simp only [pAdd, List.length_map, List.length_zip, List.length_cons, List.length_nil]
        rw [if_pos (by omega)]
        rfl
      generalize lineD P l = LD at *
      generalize lineD (P ++ [c]) (l ++ [(x : Int)]) = LD2 at *
      simp [setE, fnOf, env0, sSeq, SOut.bind, sRet, sRetN, sOf, sIf, sNil, sExpr, sSet, sRaise, eAnd, eOr, eNot, bAnd, bOr, bNot, eOp1, op1, eOp2, op2, eOpN, opN, eVar, eC, deref, derefs, Out.bind, asB, toB, ofB, cut_dat, cutS_self, cutS_head0, cutS_one, cutS_none, eChain, eTup, eLst, dats, aNil, aCons, eCall, eIf, pOne, pTwo, e]
    have hb2 : -1000000 ≤ m ∧ m ≤ 1000000 := by omega
    have ll : (rangeD 0 m.toNat).length ≤ 1000000 := by rw [rangeD_len]; omega
    rw [← range_map] at cm
    have ex : mExtend (acc.map (lineD (P ++ [c]))) [.lst ((List.range m.toNat).map fun (x : Nat) => lineD (P ++ [c]) (l ++ [(x : Int)]))] = some (.non, (acc ++ (List.range m.toNat).map fun (x : Nat) => l ++ [(x : Int)]).map (lineD (P ++ [c]))) := by
      unfold mExtend
      simp only [List.length_map, List.length_range, List.map_append, List.map_map]
      rw [if_pos (by omega)]
      rfl
    have step : evIn [x0, x1, some (.dat (.int m)), x3, some (.dat (.str [c])), some (.ptr T.length), some (.dat (lineD P l)), none] (T ++ [.lst (acc.map (lineD (P ++ [c])))]) = .nx [x0, x1, some (.dat (.int m)), x3, some (.dat (.str [c])), some (.ptr T.length), some (.dat (lineD P l)), none] (T ++ [.lst ((acc ++ (List.range m.toNat).map fun (x : Nat) => l ++ [(x : Int)]).map (lineD (P ++ [c])))]) := by
      generalize lineD P l = LD at *
      generalize acc.map (lineD (P ++ [c])) = AD at *
      generalize (List.map (lineD (P ++ [c])) (acc ++ (List.range m.toNat).map fun (x : Nat) => l ++ [(x : Int)])) = AE at *
      simp [evIn, fnOf, env0, sSeq, SOut.bind, sRet, sRetN, sOf, sIf, sNil, sExpr, sSet, sRaise, eAnd, eOr, eNot, bAnd, bOr, bNot, eOp1, op1, eOp2, op2, eOpN, opN, eVar, eC, deref, derefs, Out.bind, asB, toB, ofB, cut_dat, cutS_self, cutS_head0, cutS_one, cutS_none, eChain, eTup, eLst, dats, aNil, aCons, eCall, eIf, pOne, pTwo, eMutL, mutL, argD, h10, t10, eComp, iRange1, hb2, ll, wipeE, cm, ex]
    have e2 : acc ++ (l :: ls).flatMap (fun l => (List.range m.toNat).map fun (x : Nat) => l ++ [(x : Int)]) = (acc ++ (List.range m.toNat).map fun (x : Nat) => l ++ [(x : Int)]) ++ ls.flatMap fun l => (List.range m.toNat).map fun (x : Nat) => l ++ [(x : Int)] := by
      rw [List.flatMap_cons, List.append_assoc]
    rw [e2, List.map_cons]
    simp only [sForL, bN, setE, List.set]
    rw [step]
    exact ih
theorem allL_len (m : Nat) : ∀ n : Nat, (allL m n).length = m ^ n
  | 0 => rfl
  | n + 1 => by
    have ih := allL_len m n
    unfold allL
    rw [List.length_flatMap]
    have : (allL m n).map (fun l => ((List.range m).map fun (x : Nat) => l ++ [(x : Int)]).length) = (allL m n).map fun _ => m := List.map_congr_left fun l _ => by simp
    rw [this, List.map_const', List.sum_replicate_nat, ih, Nat.pow_succ]
theorem ev_loop (x0 x1 : Option Val) (m : Int) (hm : 0 < m) (h99 : m ≤ 99) (S : Store) : ∀ (cs P : List Nat) (X : Store) (x4 x5 x6 : Option Val), P.length + cs.length ≤ 100 → m.toNat ^ (P.length + cs.length) ≤ 1000000 →
    ∃ (X' : Store) (y4 y5 y6 : Option Val), sForL (bN 4) evBody (cs.map fun c => .str [c]) [x0, x1, some (.dat (.int m)), some (.dat (.lst ((allL m.toNat P.length).map (lineD P)))), x4, x5, x6, none] (S ++ X) =
      .nx [x0, x1, some (.dat (.int m)), some (.dat (.lst ((allL m.toNat (P ++ cs).length).map (lineD (P ++ cs))))), y4, y5, y6, none] (S ++ X')
  | [], P, X, x4, x5, x6, _, _ => ⟨X, x4, x5, x6, by rw [List.append_nil]; rfl⟩
  | c :: cs, P, X, x4, x5, x6, hn, hp => by
    rw [List.length_cons] at hn hp
    have al := allL_len m.toNat P.length
    have hpow : m.toNat ^ (P.length + 1) ≤ m.toNat ^ (P.length + (cs.length + 1)) := Nat.pow_le_pow_right (by omega) (by omega)
    rw [Nat.pow_succ, Nat.mul_comm] at hpow
    obtain ⟨y6, e1⟩ := ev_in x0 x1 (some (.dat (.lst ((allL m.toNat P.length).map (lineD P))))) m hm h99 P (by omega) c (S ++ X) (allL m.toNat P.length) [] x6 (fun l hl => (mem_allL.mp hl).1) (by rw [al]; simp; omega)
    obtain ⟨X', z4, z5, z6, e2⟩ := ev_loop x0 x1 m hm h99 S cs (P ++ [c]) (X ++ [.dead]) (some (.dat (.str [c]))) (some (.ptr (S ++ X).length)) y6 (by simp; omega) (by
      have : (P ++ [c]).length + cs.length = P.length + (cs.length + 1) := by simp; omega
      rw [this]
      exact hp)
    refine ⟨X', z4, z5, z6, ?_⟩
    have hal : (allL m.toNat P.length).flatMap (fun l => (List.range m.toNat).map fun (x : Nat) => l ++ [(x : Int)]) = allL m.toNat (P ++ [c]).length := by
      rw [List.length_append]
      rfl
    rw [List.nil_append, hal, List.map_nil] at e1
    have e3 : P ++ c :: cs = P ++ [c] ++ cs := by simp
    rw [e3, ← e2]
    have step : evBody [x0, x1, some (.dat (.int m)), some (.dat (.lst ((allL m.toNat P.length).map (lineD P)))), some (.dat (.str [c])), x5, x6, none] (S ++ X) = .nx [x0, x1, some (.dat (.int m)), some (.dat (.lst ((allL m.toNat (P ++ [c]).length).map (lineD (P ++ [c]))))), some (.dat (.str [c])), some (.ptr (S ++ X).length), y6, none] ((S ++ X) ++ [.dead]) := by
      generalize (allL m.toNat P.length).map (lineD P) = A1 at *
      generalize (allL m.toNat (P ++ [c]).length).map (lineD (P ++ [c])) = A2 at *
      generalize S ++ X = T at *
      simp [evBody, fnOf, env0, sSeq, SOut.bind, sRet, sRetN, sOf, sIf, sNil, sExpr, sSet, sRaise, eAnd, eOr, eNot, bAnd, bOr, bNot, eOp1, op1, eOp2, op2, eOpN, opN, eVar, eC, deref, derefs, Out.bind, asB, toB, ofB, cut_dat, cutS_self, cutS_head0, cutS_one, cutS_none, eChain, eTup, eLst, dats, aNil, aCons, eCall, eIf, pOne, pTwo, eNew, cLst, sFor, iOf, itemsD, e1, eFin, h10, t10, cellD]
    rw [List.map_cons]
    simp only [sForL, bN, setE, List.set]
    rw [step, List.append_assoc]
theorem p_law_every (ws : List (List Nat)) (i j m : Int) (S : Store) (h : ∀ w ∈ ws, 1 ≤ w.length ∧ w.length ≤ 1000) (hn : ws.length ≤ 20) (hm : 0 < m) (h99 : m ≤ 99) (hp : m.toNat ^ (ltrs (prs ws i j)).length ≤ 1000000) :
    d__law_every [.dat (wsD ws), .dat (lkD i j), .dat (.int m)] S = .ok (.dat (.lst ((allL m.toNat (ltrs (prs ws i j)).length).map (lineD (ltrs (prs ws i j)))))) S := by
  have e1 := p_law_letters ws i j S h hn
  have sl : (ltrs (prs ws i j)).length ≤ (flat2 (prs ws i j)).length := srt_len (flat2 (prs ws i j))
  have fl := flat2_len (prs ws i j)
  have pl := prs_len ws i j
  obtain ⟨X', y4, y5, y6, e2⟩ := ev_loop (some (.dat (wsD ws))) (some (.dat (lkD i j))) m hm h99 S (ltrs (prs ws i j)) [] [] none none none (by simp; omega) (by simpa using hp)
  rw [List.nil_append, List.append_nil] at e2
  have e0 : (allL m.toNat ([] : List Nat).length).map (lineD []) = [.tup []] := rfl
  rw [e0] at e2
  simp only [d__law_every, fnOf, env0, m_every_eq]
  simp only [lsD] at e1
  generalize (allL m.toNat (ltrs (prs ws i j)).length).map (lineD (ltrs (prs ws i j))) = AL at *
  generalize wsD ws = WD at *
  simp [fnOf, env0, sSeq, SOut.bind, sRet, sRetN, sOf, sIf, sNil, sExpr, sSet, sRaise, eAnd, eOr, eNot, bAnd, bOr, bNot, eOp1, op1, eOp2, op2, eOpN, opN, eVar, eC, deref, derefs, Out.bind, asB, toB, ofB, cut_dat, cutS_self, cutS_head0, cutS_one, cutS_none, eChain, eTup, eLst, dats, aNil, aCons, eCall, eIf, pOne, pTwo, e1, sFor, iOf, itemsD, e2, cutS_more]
theorem line_Wo {L : List Nat} {l : List Int} {m : Int} (hL : L.Pairwise (· < ·)) (hlet : ∀ c ∈ L, c ∈ letL) (h1 : l.length = L.length) (h2 : ∀ x ∈ l, 0 ≤ x ∧ x < m) : Wo (L.zip l) m := by
  have hk : (L.zip l).map (·.1) = L := by
    rw [List.map_fst_zip]
    omega
  refine ⟨by rw [hk]; exact hL, fun p hp => ?_⟩
  exact ⟨hlet _ (List.of_mem_zip hp).1, h2 _ (List.of_mem_zip hp).2⟩
theorem eqv_ints : ∀ a b : List Int, PyData.eqvAll (toPys (a.map .int)) (toPys (b.map .int)) = decide (a = b)
  | [], [] => by simp [toPys, PyData.eqvAll]
  | [], _ :: _ => by simp [toPys, PyData.eqvAll]
  | _ :: _, [] => by simp [toPys, PyData.eqvAll]
  | x :: xs, y :: ys => by
    have ih := eqv_ints xs ys
    have h : PyData.eqv (toPy (.int x)) (toPy (.int y)) = decide (x = y) := eqD_int x y
    simp only [List.map_cons, toPys, PyData.eqvAll, ih, h]
    by_cases c : x = y <;> simp [c]
theorem sh_ns (a : List Int) (n : Nat) : sh (n + 1) (nsD a) = true := by
  simp [sh]
theorem eqD_ns (a b : List Int) : eqD (nsD a) (nsD b) = decide (a = b) := by
  have := eqv_ints a b
  simp only [eqD, toPy, PyData.eqv]
  exact this
theorem eq_ns (a b : List Int) : pEq (nsD a) (nsD b) = some (.bl (decide (a = b))) := by
  unfold pEq
  rw [if_pos ⟨sh_ns a 8, sh_ns b 8⟩, eqD_ns]
theorem ne_ns (a b : List Int) : pNe (nsD a) (nsD b) = some (.bl (!decide (a = b))) := by
  unfold pNe
  rw [if_pos ⟨sh_ns a 8, sh_ns b 8⟩, eqD_ns]
section
variable {ws : List (List Nat)} {i j m : Int} {ks : List Int}
theorem Pb.line (h : Pb ws i j m ks) {l : List Int} (hl : l ∈ allL m.toNat (ltrs (prs ws i j)).length) : Wo ((ltrs (prs ws i j)).zip l) m ∧ ((ltrs (prs ws i j)).zip l).map (·.1) = ltrs (prs ws i j) := by
  obtain ⟨h1, h2⟩ := mem_allL.mp hl
  have hm := h.mp
  refine ⟨line_Wo (srt_lt _) (fun c hc => flat2_let h.w _ (mem_srt.mp hc)) h1 fun x hx => ⟨(h2 x hx).1, by have := (h2 x hx).2; omega⟩, ?_⟩
  rw [List.map_fst_zip]
  omega
theorem line_dict (h : Pb ws i j m ks) {l : List Int} (hl : l ∈ allL m.toNat (ltrs (prs ws i j)).length) {e : EM} {ρ : Ev} {S : Store} (hm : e ρ S = .ok (.dat (lineD (ltrs (prs ws i j)) l)) S) : eFrz (cDict e) ρ S = .ok (.dat (.dct (bkD ((ltrs (prs ws i j)).zip l)))) S := by
  have := dict_worths (rows := ((ltrs (prs ws i j)).zip l).map rowI) (room := m) (h.line hl).1.ok hm
  rw [rowsN_I] at this
  exact this
theorem line_by (h : Pb ws i j m ks) {l : List Int} (hl : l ∈ allL m.toNat (ltrs (prs ws i j)).length) (S : Store) : d__law_by [.dat (wsD ws), .dat (lkD i j), .dat (.int m), .dat (.dct (bkD ((ltrs (prs ws i j)).zip l)))] S = .ok (.dat (nsD (nums (prs ws i j) m (wI ((ltrs (prs ws i j)).zip l))))) S :=
  p_law_by ws i j m _ S h.w.len h.n20 h.mp fun c hc => by
    rw [(h.line hl).2]
    exact mem_srt.mpr hc
/-- the lines that tell the numbers -/
def solD (ps : List (Nat × Nat)) (m : Int) (ks : List Int) : List D := (sols ps m ks).map (lineD (ltrs ps))
theorem pow_few {m : Int} {n : Nat} (hm : 0 < m) (h4 : m ≤ 4) (hn : n ≤ 5) : m.toNat ^ n ≤ 1000000 := by
  have h1 : m.toNat ^ n ≤ 4 ^ n := Nat.pow_le_pow_left (by omega) n
  have h2 : 4 ^ n ≤ 4 ^ 5 := Nat.pow_le_pow_right (by decide) hn
  have h3 : 4 ^ 5 ≤ 1000000 := by decide
  omega
end
end PB

namespace PB
open PySem PySem.Spec PyProof.Rows L2 DL MP MB PN
def okP (part : List Nat) (p : Nat) : Bool := part.isEmpty || decide (part.getLast?.getD 0 < p)
def partsN (n : Nat) : Nat → List (List Nat)
  | 0 => [[]]
  | s + 1 => (partsN n s).flatMap fun part => ((List.range n).filter (okP part)).map fun p => part ++ [p]
abbrev ptD (part : List Nat) : D := .tup (natsD part)
theorem pw_snoc {part : List Nat} {p : Nat} (h : part.Pairwise (· < ·)) : (part ++ [p]).Pairwise (· < ·) ↔ okP part p = true := by
  unfold okP
  rw [List.pairwise_append]
  cases hp : part.getLast? with
  | none =>
    rw [List.getLast?_eq_none_iff] at hp
    subst hp
    simp
  | some q =>
    have hne : part ≠ [] := fun z => by rw [z] at hp; cases hp
    have hq : part.getLast hne = q := by rw [List.getLast?_eq_some_getLast hne] at hp; exact Option.some.inj hp
    have he : part.isEmpty = false := by rw [List.isEmpty_eq_false_iff]; exact hne
    rw [he, Bool.false_or, decide_eq_true_iff]
    simp only [h, List.pairwise_singleton, true_and, List.mem_singleton, forall_eq, Option.getD_some]
    constructor
    · intro z
      rw [← hq]
      exact z _ (List.getLast_mem hne)
    · intro z a ha
      have hd := List.dropLast_concat_getLast hne
      rw [hq] at hd
      rw [← hd] at ha h
      rcases List.mem_append.mp ha with y | y
      · have := (List.pairwise_append.mp h).2.2 a y q (List.mem_singleton.mpr rfl)
        omega
      · rw [List.mem_singleton.mp y]
        exact z
theorem mem_partsN {n : Nat} : ∀ {s : Nat} {part : List Nat}, part ∈ partsN n s ↔ part.length = s ∧ part.Pairwise (· < ·) ∧ ∀ p ∈ part, p < n
  | 0, part => by
    simp only [partsN, List.mem_singleton]
    constructor
    · rintro rfl
      exact ⟨rfl, .nil, fun p h => nomatch h⟩
    · rintro ⟨h, _⟩
      exact List.length_eq_zero_iff.mp h
  | s + 1, part => by
    simp only [partsN, List.mem_flatMap, List.mem_map, List.mem_filter, List.mem_range]
    constructor
    · rintro ⟨q, hq, p, ⟨h1, h2⟩, rfl⟩
      obtain ⟨g1, g2, g3⟩ := mem_partsN.mp hq
      refine ⟨by rw [List.length_append, g1]; rfl, (pw_snoc g2).mpr h2, fun x hx => ?_⟩
      rcases List.mem_append.mp hx with z | z
      · exact g3 x z
      · rw [List.mem_singleton.mp z]
        exact h1
    · rintro ⟨h1, h2, h3⟩
      have hne : part ≠ [] := fun z => by rw [z] at h1; cases h1
      have hd := List.dropLast_concat_getLast hne
      have hp : part.dropLast.Pairwise (· < ·) := h2.sublist (List.dropLast_sublist part)
      refine ⟨part.dropLast, mem_partsN.mpr ⟨by rw [List.length_dropLast, h1]; rfl, hp, fun p hp => h3 p ((List.dropLast_sublist part).subset hp)⟩, part.getLast hne, ⟨h3 _ (List.getLast_mem hne), ?_⟩, hd⟩
      rw [← hd] at h2
      exact (pw_snoc hp).mp h2
/-- ahead of another list of places -/
def NL : List Nat → List Nat → Prop
  | x :: xs, y :: ys => x < y ∨ (x = y ∧ NL xs ys)
  | _, _ => False
theorem NL.last : ∀ {xs : List Nat} {a b : Nat}, a < b → NL (xs ++ [a]) (xs ++ [b])
  | [], _, _, h => .inl h
  | _ :: _, _, _, h => .inr ⟨rfl, NL.last h⟩
theorem NL.snoc : ∀ {xs ys : List Nat} {a b : Nat}, NL xs ys → NL (xs ++ [a]) (ys ++ [b])
  | [], _, _, _, h => h.elim
  | _ :: _, [], _, _, h => h.elim
  | x :: xs, y :: ys, a, b, h => h.elim .inl fun z => .inr ⟨z.1, NL.snoc z.2⟩
theorem partsN_rise (n : Nat) : ∀ s : Nat, (partsN n s).Pairwise NL
  | 0 => List.pairwise_singleton _ _
  | s + 1 => by
    have ih := partsN_rise n s
    simp only [partsN]
    rw [List.pairwise_flatMap]
    refine ⟨fun l _ => ?_, ?_⟩
    · rw [List.pairwise_map]
      exact (List.pairwise_lt_range.filter _).imp fun {a b} h => NL.last h
    · refine ih.imp ?_
      intro a b h x hx y hy
      obtain ⟨u, _, rfl⟩ := List.mem_map.mp hx
      obtain ⟨v, _, rfl⟩ := List.mem_map.mp hy
      exact NL.snoc h
theorem partsN_few {n : Nat} (h : n ≤ 6) : ∀ s : Nat, s ≤ 6 → (partsN n s).length ≤ 100 := by
  intro s hs
  have : ∀ n, n ≤ 6 → ∀ s, s ≤ 6 → (partsN n s).length ≤ 100 := by decide +kernel
  exact this n h s hs
noncomputable def paIn : SM := sExpr (eMutL false mExtend (eVar 4) (aCons (eComp [6] (iOf (eVar 0)) (bN 6) (bOr (toB (eOp2 pEq (eVar 5) (eTup (aNil)))) (toB (eOp2 pGt (eVar 6) (eOp2 pIx (eVar 5) (eOp1 pNeg (eC (.int 1))))))) (eOp2 pAdd (eVar 5) (eTup (aCons (eVar 6) (aNil))))) (aNil)))
noncomputable def paBody : SM := sSeq (sSet 4 (eNew (cLst (aNil)))) (sSeq (sFor (iOf (eVar 2)) (bN 5) paIn) (sSet 2 (eFin (eVar 4))))
theorem m_parts_eq : m_parts_of = sSeq (sSet 2 (eLst (aCons (eTup (aNil)) (aNil)))) (sSeq (sFor (iRange1 (eVar 1)) (bN 3) paBody) (sRet (eVar 2))) := rfl
theorem ptD_nil (part : List Nat) : pEq (ptD part) (.tup []) = some (.bl part.isEmpty) := by
  have h1 : sh 9 (ptD part) = true := by simp [sh, natsD]
  have h2 : eqD (ptD part) (.tup []) = part.isEmpty := by
    cases part with
    | nil => simp [eqD, toPy, toPys, PyData.eqv, PyData.eqvAll, natsD]
    | cons c l => simp [eqD, toPy, toPys, PyData.eqv, PyData.eqvAll, natsD]
  unfold pEq
  rw [if_pos ⟨h1, rfl⟩, h2]
theorem ptD_last {part : List Nat} (h : part ≠ []) : pIx (ptD part) (.int (-1)) = some (.int (part.getLast?.getD 0 : Nat)) := by
  have hl : part.length ≠ 0 := fun z => h (List.length_eq_zero_iff.mp z)
  have e : atI (natsD part) (-1) = some (.int (part.getLast?.getD 0 : Nat)) := by
    have hn : (natsD part)[part.length - 1]? = some (.int (part.getLast?.getD 0 : Nat)) := by
      unfold natsD
      rw [List.getElem?_map, ← List.getLast?_eq_getElem?, List.getLast?_eq_some_getLast h]
      rfl
    refine atI_of hn (.inr ⟨by decide, ?_⟩)
    unfold natsD
    rw [List.length_map]
    omega
  exact e
theorem pa_in (x1 x3 : Option Val) (n : Nat) (hn : n ≤ 100) (T : Store) : ∀ (ls acc : List (List Nat)) (x2 x5 : Option Val), (∀ l ∈ ls, l.length ≤ 100) → acc.length + n * ls.length ≤ 1000000 →
    ∃ y5, sForL (bN 5) paIn (ls.map ptD) [some (.dat (.lst (natsD (List.range n)))), x1, x2, x3, some (.ptr T.length), x5, none] (T ++ [.lst (acc.map ptD)]) =
      .nx [some (.dat (.lst (natsD (List.range n)))), x1, x2, x3, some (.ptr T.length), y5, none] (T ++ [.lst ((acc ++ ls.flatMap fun part => ((List.range n).filter (okP part)).map fun p => part ++ [p]).map ptD)])
  | [], acc, x2, x5, _, _ => ⟨x5, by simp [sForL]⟩
  | l :: ls, acc, x2, x5, hl, hb => by
    have l1 := hl l List.mem_cons_self
    rw [List.length_cons, Nat.mul_add, Nat.mul_one] at hb
    have fl : ((List.range n).filter (okP l)).length ≤ n := by
      have := List.length_filter_le (okP l) (List.range n)
      rw [List.length_range] at this
      exact this
    obtain ⟨y5, ih⟩ := pa_in x1 x3 n hn T ls (acc ++ ((List.range n).filter (okP l)).map fun p => l ++ [p]) x2 (some (.dat (ptD l))) (fun q hq => hl q (List.mem_cons_of_mem _ hq)) (by simp; omega)
    refine ⟨y5, ?_⟩
    have cm := compL_filtF (B := bN 6) (mt := bOr (toB (eOp2 pEq (eVar 5) (eTup (aNil)))) (toB (eOp2 pGt (eVar 6) (eOp2 pIx (eVar 5) (eOp1 pNeg (eC (.int 1))))))) (me := eOp2 pAdd (eVar 5) (eTup (aCons (eVar 6) (aNil)))) (ρ := [some (.dat (.lst (natsD (List.range n)))), x1, x2, x3, some (.ptr T.length), some (.dat (ptD l)), none]) (S := T ++ [.lst (acc.map ptD)]) (h := fun (p : Nat) => D.int (p : Int)) (f := fun (p : Nat) => ptD (l ++ [p])) (g := okP l) (l := List.range n) fun p _ => by
      refine ⟨_, rfl, ?_, fun _ => ?_⟩
      · have e1 := ptD_nil l
        unfold okP
        by_cases c : l = []
        · subst c
          simp only [List.isEmpty_nil] at e1
          generalize ptD [] = LD at *
          generalize natsD (List.range n) = RN at *
          simp [setE, fnOf, env0, sSeq, SOut.bind, sRet, sRetN, sOf, sIf, sNil, sExpr, sSet, sRaise, eAnd, eOr, eNot, bAnd, bOr, bNot, eOp1, op1, eOp2, op2, eOpN, opN, eVar, eC, deref, derefs, Out.bind, asB, toB, ofB, cut_dat, cutS_self, cutS_head0, cutS_one, cutS_none, eChain, eTup, eLst, dats, aNil, aCons, eCall, eIf, pOne, pTwo, e1]
        · have e2 := ptD_last c
          have c' : l.isEmpty = false := by rw [List.isEmpty_eq_false_iff]; exact c
          rw [c'] at e1 ⊢
          have e3 : pGt (.int (p : Int)) (.int (l.getLast?.getD 0 : Nat)) = some (.bl (decide (l.getLast?.getD 0 < p))) := by
            have : decide ((p : Int) > ((l.getLast?.getD 0 : Nat) : Int)) = decide (l.getLast?.getD 0 < p) := decide_eq_decide.mpr (by omega)
            rw [← this]
            rfl
          have ng : pNeg (.int 1) = some (.int (-1)) := rfl
          generalize l.getLast?.getD 0 = q at *
          generalize ptD l = LD at *
          generalize natsD (List.range n) = RN at *
          simp [setE, fnOf, env0, sSeq, SOut.bind, sRet, sRetN, sOf, sIf, sNil, sExpr, sSet, sRaise, eAnd, eOr, eNot, bAnd, bOr, bNot, eOp1, op1, eOp2, op2, eOpN, opN, eVar, eC, deref, derefs, Out.bind, asB, toB, ofB, cut_dat, cutS_self, cutS_head0, cutS_one, cutS_none, eChain, eTup, eLst, dats, aNil, aCons, eCall, eIf, pOne, pTwo, e1, ng, e2, e3]
      · have e : pAdd (ptD l) (.tup [.int (p : Int)]) = some (ptD (l ++ [p])) := by
          simp only [pAdd, natsD, List.length_map, List.length_cons, List.length_nil]
          rw [if_pos (by omega)]
          simp [ptD, natsD]
        generalize ptD l = LD at *
        generalize ptD (l ++ [p]) = LD2 at *
        generalize natsD (List.range n) = RN at *
        simp [setE, fnOf, env0, sSeq, SOut.bind, sRet, sRetN, sOf, sIf, sNil, sExpr, sSet, sRaise, eAnd, eOr, eNot, bAnd, bOr, bNot, eOp1, op1, eOp2, op2, eOpN, opN, eVar, eC, deref, derefs, Out.bind, asB, toB, ofB, cut_dat, cutS_self, cutS_head0, cutS_one, cutS_none, eChain, eTup, eLst, dats, aNil, aCons, eCall, eIf, pOne, pTwo, e]
    have ex : mExtend (acc.map ptD) [.lst (((List.range n).filter (okP l)).map fun (p : Nat) => ptD (l ++ [p]))] = some (.non, (acc ++ ((List.range n).filter (okP l)).map fun p => l ++ [p]).map ptD) := by
      unfold mExtend
      simp only [List.length_map, List.map_append, List.map_map]
      rw [if_pos (by omega)]
      rfl
    have hr : natsD (List.range n) = (List.range n).map fun (p : Nat) => D.int (p : Int) := rfl
    have ll : (natsD (List.range n)).length ≤ 1000000 := by rw [hr, List.length_map, List.length_range]; omega
    rw [← hr] at cm
    have step : paIn [some (.dat (.lst (natsD (List.range n)))), x1, x2, x3, some (.ptr T.length), some (.dat (ptD l)), none] (T ++ [.lst (acc.map ptD)]) = .nx [some (.dat (.lst (natsD (List.range n)))), x1, x2, x3, some (.ptr T.length), some (.dat (ptD l)), none] (T ++ [.lst ((acc ++ ((List.range n).filter (okP l)).map fun p => l ++ [p]).map ptD)]) := by
      generalize acc.map ptD = AD at *
      generalize (List.map ptD (acc ++ ((List.range n).filter (okP l)).map fun p => l ++ [p])) = AE at *
      generalize ptD l = LD at *
      generalize natsD (List.range n) = RN at *
      simp [paIn, fnOf, env0, sSeq, SOut.bind, sRet, sRetN, sOf, sIf, sNil, sExpr, sSet, sRaise, eAnd, eOr, eNot, bAnd, bOr, bNot, eOp1, op1, eOp2, op2, eOpN, opN, eVar, eC, deref, derefs, Out.bind, asB, toB, ofB, cut_dat, cutS_self, cutS_head0, cutS_one, cutS_none, eChain, eTup, eLst, dats, aNil, aCons, eCall, eIf, pOne, pTwo, eMutL, mutL, argD, h10, t10, eComp, iOf, itemsD, ll, wipeE, cm, ex]
    have e2 : acc ++ (l :: ls).flatMap (fun part => ((List.range n).filter (okP part)).map fun p => part ++ [p]) = (acc ++ ((List.range n).filter (okP l)).map fun p => l ++ [p]) ++ ls.flatMap fun part => ((List.range n).filter (okP part)).map fun p => part ++ [p] := by
      rw [List.flatMap_cons, List.append_assoc]
    rw [e2, List.map_cons]
    simp only [sForL, bN, setE, List.set]
    rw [step]
    exact ih
theorem pa_loop (x1 : Option Val) (n : Nat) (hn : n ≤ 6) (S : Store) : ∀ (ds : List D) (s : Nat) (X : Store) (x3 x4 x5 : Option Val), s + ds.length ≤ 6 →
    ∃ (X' : Store) (y3 y4 y5 : Option Val), sForL (bN 3) paBody ds [some (.dat (.lst (natsD (List.range n)))), x1, some (.dat (.lst ((partsN n s).map ptD))), x3, x4, x5, none] (S ++ X) =
      .nx [some (.dat (.lst (natsD (List.range n)))), x1, some (.dat (.lst ((partsN n (s + ds.length)).map ptD))), y3, y4, y5, none] (S ++ X')
  | [], s, X, x3, x4, x5, _ => ⟨X, x3, x4, x5, rfl⟩
  | d :: ds, s, X, x3, x4, x5, hs => by
    rw [List.length_cons] at hs
    have pf := partsN_few hn s (by omega)
    obtain ⟨y5, e1⟩ := pa_in x1 (some (.dat d)) n (by omega) (S ++ X) (partsN n s) [] (some (.dat (.lst ((partsN n s).map ptD)))) x5 (fun l hl => by have := (mem_partsN.mp hl).1; omega) (by
      have : n * (partsN n s).length ≤ 6 * 100 := Nat.mul_le_mul hn pf
      simp
      omega)
    obtain ⟨X', z3, z4, z5, e2⟩ := pa_loop x1 n hn S ds (s + 1) (X ++ [.dead]) (some (.dat d)) (some (.ptr (S ++ X).length)) y5 (by omega)
    refine ⟨X', z3, z4, z5, ?_⟩
    have hal : (partsN n s).flatMap (fun part => ((List.range n).filter (okP part)).map fun p => part ++ [p]) = partsN n (s + 1) := rfl
    rw [List.nil_append, hal, List.map_nil] at e1
    have e3 : s + (d :: ds).length = s + 1 + ds.length := by rw [List.length_cons]; omega
    rw [e3, ← e2]
    have step : paBody [some (.dat (.lst (natsD (List.range n)))), x1, some (.dat (.lst ((partsN n s).map ptD))), some (.dat d), x4, x5, none] (S ++ X) = .nx [some (.dat (.lst (natsD (List.range n)))), x1, some (.dat (.lst ((partsN n (s + 1)).map ptD))), some (.dat d), some (.ptr (S ++ X).length), y5, none] ((S ++ X) ++ [.dead]) := by
      generalize (partsN n s).map ptD = A1 at *
      generalize (partsN n (s + 1)).map ptD = A2 at *
      generalize natsD (List.range n) = RN at *
      generalize S ++ X = T at *
      simp [paBody, fnOf, env0, sSeq, SOut.bind, sRet, sRetN, sOf, sIf, sNil, sExpr, sSet, sRaise, eAnd, eOr, eNot, bAnd, bOr, bNot, eOp1, op1, eOp2, op2, eOpN, opN, eVar, eC, deref, derefs, Out.bind, asB, toB, ofB, cut_dat, cutS_self, cutS_head0, cutS_one, cutS_none, eChain, eTup, eLst, dats, aNil, aCons, eCall, eIf, pOne, pTwo, eNew, cLst, sFor, iOf, itemsD, e1, eFin, h10, t10, cellD]
    simp only [sForL, bN, setE, List.set]
    rw [step, List.append_assoc]
theorem p_parts_of (n s : Nat) (hn : n ≤ 6) (hs : s ≤ 6) (S : Store) : d_parts_of [.dat (.lst (natsD (List.range n))), .dat (.int (s : Nat))] S = .ok (.dat (.lst ((partsN n s).map ptD))) S := by
  have hb : -1000000 ≤ (s : Int) ∧ (s : Int) ≤ 1000000 := by omega
  obtain ⟨X', y3, y4, y5, e⟩ := pa_loop (some (.dat (.int (s : Nat)))) n hn S (rangeD 0 s) 0 [] none none none (by rw [rangeD_len]; omega)
  have e0 : (partsN n 0).map ptD = [.tup []] := rfl
  rw [e0, List.append_nil, rangeD_len, Nat.zero_add] at e
  simp only [d_parts_of, fnOf, env0, m_parts_eq]
  generalize (partsN n s).map ptD = A2 at *
  generalize natsD (List.range n) = RN at *
  simp [fnOf, env0, sSeq, SOut.bind, sRet, sRetN, sOf, sIf, sNil, sExpr, sSet, sRaise, eAnd, eOr, eNot, bAnd, bOr, bNot, eOp1, op1, eOp2, op2, eOpN, opN, eVar, eC, deref, derefs, Out.bind, asB, toB, ofB, cut_dat, cutS_self, cutS_head0, cutS_one, cutS_none, eChain, eTup, eLst, dats, aNil, aCons, eCall, eIf, pOne, pTwo, sFor, iRange1, hb, e, cutS_more]
end PB

namespace PB
open PySem PySem.Spec PyProof.Rows L2 DL MP MB PN
def subW (ws : List (List Nat)) (pl : List Nat) : List (List Nat) := pl.map fun k => ws.getD k []
def subP (ps : List (Nat × Nat)) (pl : List Nat) : List (Nat × Nat) := pl.map fun k => ps.getD k (0, 0)
def subK (ks : List Int) (pl : List Nat) : List Int := pl.map (nmb ks)
theorem prs_sub2 {ws : List (List Nat)} {i j : Int} {pl : List Nat} (h : ∀ k ∈ pl, k < ws.length) : prs (subW ws pl) i j = subP (prs ws i j) pl := by
  unfold prs subW subP
  rw [List.map_map]
  refine List.map_congr_left fun k hk => ?_
  have hk' := h k hk
  simp [List.getD, List.getElem?_map, List.getElem?_eq_getElem hk']
theorem nmb_map {pl : List Nat} {q k : Nat} (g : Nat → Int) (h : pl[q]? = some k) : nmb (pl.map g) q = g k := by
  unfold nmb
  rw [List.getElem?_map, h]
  rfl
/-- whether some worths give words at some places their numbers -/
def freeN (ps : List (Nat × Nat)) (ks : List Int) (m : Int) (pl : List Nat) : Bool := (theBar (subP ps pl) (subK ks pl) m).isNone
theorem freeN_iff {ps : List (Nat × Nat)} {ks : List Int} {m : Int} {pl : List Nat} (hm : 0 < m) (nk : NOk ps m ks) (hpl : ∀ k ∈ pl, k < ps.length) (hlen : pl.length ≤ 20) : freeN ps ks m pl = true ↔ ∃ f, InR m f ∧ ∀ k ∈ pl, ∀ p, ps[k]? = some p → (f p.1 + f p.2) % m = nmb ks k := by
  unfold freeN
  rw [Option.isNone_iff_eq_none]
  have h1 : (subP ps pl).length = pl.length := List.length_map _
  have nk2 : NOk (subP ps pl) m (subK ks pl) := ⟨by unfold subK; rw [List.length_map, h1], fun x hx => by
    unfold subK at hx
    obtain ⟨k, hk, rfl⟩ := List.mem_map.mp hx
    exact nk.at k (hpl k hk)⟩
  have := bar_sol hm nk2 (groups_ok (ps := subP ps pl) (by omega))
  unfold theBar
  rw [this]
  refine exists_congr fun f => and_congr_right fun _ => ?_
  constructor
  · intro s k hk p e
    obtain ⟨q, hq, rfl⟩ := List.getElem_of_mem hk
    have e1 : (subP ps pl)[q]? = some p := by
      unfold subP
      rw [List.getElem?_map, List.getElem?_eq_getElem hq, Option.map_some, List.getD, e]
      rfl
    have := s q p e1
    rw [this]
    unfold subK
    exact nmb_map _ (List.getElem?_eq_getElem hq)
  · intro h q p e
    unfold subP at e
    rw [List.getElem?_map] at e
    cases hq : pl[q]? with
    | none =>
      rw [hq] at e
      cases e
    | some k =>
      have hk := List.mem_of_getElem? hq
      rw [hq, Option.map_some, Option.some.injEq, List.getD] at e
      have hk' := hpl k hk
      have e2 : ps[k]? = some p := by
        rw [List.getElem?_eq_getElem hk'] at e ⊢
        rw [← e]
        rfl
      have := h k hk p e2
      rw [this]
      exact (nmb_map _ hq).symm
theorem ix_ws {ws : List (List Nat)} {k : Nat} (h : k < ws.length) : pIx (wsD ws) (.int (k : Nat)) = some (.str (ws.getD k [])) := by
  refine atI_nat ?_
  rw [List.getElem?_map, List.getElem?_eq_getElem h]
  simp [List.getD, List.getElem?_eq_getElem h]
theorem ws_nil (ss : List (List Nat)) : pEq (wsD ss) (.tup []) = some (.bl ss.isEmpty) := by
  have h1 : sh 9 (wsD ss) = true := by simp [sh]
  have h2 : eqD (wsD ss) (.tup []) = ss.isEmpty := by
    cases ss with
    | nil => simp [eqD, toPy, toPys, PyData.eqv, PyData.eqvAll]
    | cons c l => simp [eqD, toPy, toPys, PyData.eqv, PyData.eqvAll]
  unfold pEq
  rw [if_pos ⟨h1, rfl⟩, h2]
theorem isN_barD (b : Option (Nat × List Nat)) : pIs (barD b) .non = some (.bl b.isNone) := by
  cases b <;> rfl
section
variable {ws : List (List Nat)} {i j m : Int} {ks : List Int}
theorem p_is_freeG (h1 : ∀ w ∈ ws, 1 ≤ w.length ∧ w.length ≤ 1000) (hn : ws.length ≤ 20) (hm : 0 < m) (hl : ks.length = ws.length) {pl : List Nat} (hpl : ∀ k ∈ pl, k < ws.length) (hlen : pl.length ≤ 20) (S : Store) {x : Val} {KS : D} (hx : deref S x = some KS) (hks : KS = nsD ks ∨ KS = .lst (ks.map .int)) :
    d_is_free [.dat (wsD ws), .dat (lkD i j), .dat (.int m), x, .dat (.lst (natsD pl))] S = .ok (.dat (.bl (freeN (prs ws i j) ks m pl))) S := by
  have hix : ∀ k, k < ks.length → pIx KS (.int (k : Nat)) = some (.int (nmb ks k)) := fun k hk => by
    rcases hks with e | e <;> subst e
    · exact ix_ns hk
    · refine atI_nat ?_
      unfold nmb
      rw [List.getElem?_map, List.getElem?_eq_getElem hk]
      rfl
  have c1 : ∀ r5 : Option Val, compL (bN 6) bYes (eOp2 pIx (eVar 0) (eVar 6)) [some (.dat (wsD ws)), some (.dat (lkD i j)), some (.dat (.int m)), some x, some (.dat (.lst (natsD pl))), r5, none] (natsD pl) S = .ok (pl.map fun k => D.str (ws.getD k [])) S := fun r5 => compL_mapF (fun k hk => by
    refine ⟨_, rfl, ?_⟩
    have q := ix_ws (hpl k hk)
    generalize wsD ws = WD at *
    simp [setE, fnOf, env0, sSeq, SOut.bind, sRet, sRetN, sOf, sIf, sNil, sExpr, sSet, sRaise, eAnd, eOr, eNot, bAnd, bOr, bNot, eOp1, op1, eOp2, op2, eOpN, opN, eVar, eC, deref, derefs, Out.bind, asB, toB, ofB, cut_dat, cutS_self, cutS_head0, cutS_one, cutS_none, eChain, eTup, eLst, dats, aNil, aCons, eCall, eIf, pOne, pTwo, q])
  have c2 : ∀ r5 : Option Val, compL (bN 6) bYes (eOp2 pIx (eVar 3) (eVar 6)) [some (.dat (wsD ws)), some (.dat (lkD i j)), some (.dat (.int m)), some x, some (.dat (.lst (natsD pl))), r5, none] (natsD pl) S = .ok (pl.map fun k => D.int (nmb ks k)) S := fun r5 => compL_mapF (fun k hk => by
    refine ⟨_, rfl, ?_⟩
    have q := hix k (by rw [hl]; exact hpl k hk)
    generalize wsD ws = WD at *
    have dk : ∀ d : D, deref S (.dat d) = some d := fun _ => rfl
    simp only [setE, List.set]
    simp [eOp2, eVar, op2, hx, dk, Out.bind, q])
  have t1 : pTupleA (.lst (pl.map fun k => D.str (ws.getD k []))) = some (wsD (subW ws pl)) := by
    show some (D.tup (pl.map fun k => D.str (ws.getD k []))) = _
    simp only [wsD, subW, List.map_map]
    rfl
  have t2 : pTupleA (.lst (pl.map fun k => D.int (nmb ks k))) = some (nsD (subK ks pl)) := by
    show some (D.tup (pl.map fun k => D.int (nmb ks k))) = _
    simp only [nsD, subK, List.map_map]
    rfl
  have nl := ws_nil (subW ws pl)
  have hsub : ∀ w ∈ subW ws pl, 1 ≤ w.length ∧ w.length ≤ 1000 := fun w hw => by
    unfold subW at hw
    obtain ⟨k, hk, rfl⟩ := List.mem_map.mp hw
    have hk' := hpl k hk
    have : ws.getD k [] = ws[k] := by simp [List.getD, List.getElem?_eq_getElem hk']
    rw [this]
    exact h1 _ (List.getElem_mem hk')
  have bi := p_bar_in (subW ws pl) i j (ks := subK ks pl) S hm hsub (by unfold subW; rw [List.length_map]; exact hlen) (by unfold subK subW; rw [List.length_map, List.length_map])
  rw [prs_sub2 hpl] at bi
  have bn := isN_barD (theBar (subP (prs ws i j) pl) (subK ks pl) m)
  have ll : (natsD pl).length ≤ 1000000 := by unfold natsD; rw [List.length_map]; omega
  by_cases c : pl = []
  · subst c
    have e0 : freeN (prs ws i j) ks m [] = true := by
      have : theBar (subP (prs ws i j) []) (subK ks []) m = none := rfl
      unfold freeN
      rw [this]
      rfl
    have nl0 : (subW ws []).isEmpty = true := rfl
    rw [e0]
    rw [nl0] at nl
    generalize wsD ws = WD at *
    generalize hW2 : wsD (subW ws []) = WD2 at *
    generalize ([].map fun k => D.str (ws.getD k [])) = L1 at *
    generalize natsD [] = L0 at *
    simp [d_is_free, m_is_free, fnOf, env0, sSeq, SOut.bind, sRet, sRetN, sOf, sIf, sNil, sExpr, sSet, sRaise, eAnd, eOr, eNot, bAnd, bOr, bNot, eOp1, op1, eOp2, op2, eOpN, opN, eVar, eC, deref, derefs, Out.bind, asB, toB, ofB, cut_dat, cutS_self, cutS_head0, cutS_one, cutS_none, eChain, eTup, eLst, dats, aNil, aCons, eCall, eIf, pOne, pTwo, eComp, iOf, itemsD, ll, wipeE, c1, t1, nl]
  · have nl0 : (subW ws pl).isEmpty = false := by
      rw [List.isEmpty_eq_false_iff]
      unfold subW
      intro z
      exact c (List.map_eq_nil_iff.mp z)
    rw [nl0] at nl
    unfold freeN
    generalize wsD ws = WD at *
    generalize wsD (subW ws pl) = WD2 at *
    generalize (pl.map fun k => D.str (ws.getD k [])) = L1 at *
    generalize (pl.map fun k => D.int (nmb ks k)) = L2 at *
    generalize natsD pl = L0 at *
    generalize nsD (subK ks pl) = KS2 at *
    simp [d_is_free, m_is_free, fnOf, env0, sSeq, SOut.bind, sRet, sRetN, sOf, sIf, sNil, sExpr, sSet, sRaise, eAnd, eOr, eNot, bAnd, bOr, bNot, eOp1, op1, eOp2, op2, eOpN, opN, eVar, eC, deref, derefs, Out.bind, asB, toB, ofB, cut_dat, cutS_self, cutS_head0, cutS_one, cutS_none, eChain, eTup, eLst, dats, aNil, aCons, eCall, eIf, pOne, pTwo, eComp, iOf, itemsD, ll, wipeE, c1, t1, nl, c2, t2, bi, bn]
def compl (n : Nat) (part : List Nat) : List Nat := (List.range n).filter fun a => decide (a ∉ part)
theorem notIn_pt (a : Nat) (part : List Nat) : pNotIn (.int (a : Nat)) (ptD part) = some (.bl (decide (a ∉ part))) := by
  have h1 : (natsD part).all (sh 0) = true := by
    unfold natsD
    rw [List.all_map, List.all_eq_true]
    exact fun _ _ => rfl
  have e : pIn (.int (a : Nat)) (ptD part) = some (.bl ((natsD part).any fun z => eqD z (.int (a : Nat)))) := by
    show (if sh 0 (.int (a : Nat)) = true ∧ (natsD part).all (sh 0) = true then some (D.bl ((natsD part).any fun z => eqD z (.int (a : Nat)))) else none) = _
    rw [if_pos ⟨rfl, h1⟩]
  unfold pNotIn
  rw [e]
  have : (natsD part).any (fun z => eqD z (.int (a : Nat))) = decide (a ∈ part) := by
    rw [Bool.eq_iff_iff, List.any_eq_true, decide_eq_true_iff]
    constructor
    · rintro ⟨x, hx, hy⟩
      obtain ⟨q, hq, rfl⟩ := List.mem_map.mp hx
      rw [eqD_int, decide_eq_true_eq] at hy
      have : q = a := by omega
      exact this ▸ hq
    · intro h
      exact ⟨.int (a : Nat), List.mem_map.mpr ⟨a, h, rfl⟩, by rw [eqD_int, decide_eq_true rfl]⟩
  rw [this]
  by_cases c : a ∈ part <;> simp [c]
def goodN (n : Nat) (free : List Nat → Bool) (s : Nat) : List (List Nat) := (partsN n s).filter fun part => free (compl n part)
def restsG (n : Nat) (free : List Nat → Bool) : List Nat → List (List Nat)
  | [] => []
  | s :: r => if goodN n free s = [] then restsG n free r else goodN n free s
def restsN (n : Nat) (free : List Nat → Bool) : List (List Nat) := restsG n free (List.range (n + 1))
noncomputable def reBody : SM := sSeq (sSet 6 (eCall 2 d_parts_of (aCons (eVar 4) (aCons (eVar 5) (aNil))))) (sSeq (sSet 7 (eComp [8] (iOf (eVar 6)) (bN 8) (toB (eCall 5 d_is_free (aCons (eVar 0) (aCons (eVar 1) (aCons (eVar 2) (aCons (eVar 3) (aCons (eComp [9] (iOf (eVar 4)) (bN 9) (toB (eOp2 pNotIn (eVar 9) (eVar 8))) (eVar 9)) (aNil)))))))) (eVar 8))) (sIf (toB (eOp2 pNe (eVar 7) (eLst (aNil)))) (sRet (eVar 7)) (sNil)))
theorem m_rests_eq : m_rests = sSeq (sSet 4 (eOp1 pRgL1 (eOpN (pOne pLen) (aCons (eVar 0) (aNil))))) (sSeq (sFor (iRange1 (eOp2 pAdd (eOpN (pOne pLen) (aCons (eVar 0) (aNil))) (eC (.int 1)))) (bN 5) reBody) (sRet (eLst (aNil)))) := rfl
theorem ne_pts (l : List (List Nat)) : pNe (.lst (l.map ptD)) (.lst []) = some (.bl (!l.isEmpty)) := by
  have h1 : sh 9 (.lst (l.map ptD)) = true := by simp [sh, natsD]
  have h2 : eqD (.lst (l.map ptD)) (.lst []) = l.isEmpty := by
    cases l with
    | nil => simp [eqD, toPy, toPys, PyData.eqv, PyData.eqvAll]
    | cons c l => simp [eqD, toPy, toPys, PyData.eqv, PyData.eqvAll]
  unfold pNe
  rw [if_pos ⟨h1, rfl⟩, h2]
abbrev ER5 (ws : List (List Nat)) (i j m : Int) (ks : List Int) (x5 x6 x7 : Option Val) : Ev := [some (.dat (wsD ws)), some (.dat (lkD i j)), some (.dat (.int m)), some (.dat (nsD ks)), some (.dat (.lst (natsD (List.range ws.length)))), x5, x6, x7, none, none]
theorem re_step (h1 : ∀ w ∈ ws, 1 ≤ w.length ∧ w.length ≤ 1000) (hn : ws.length ≤ 6) (hm : 0 < m) (hl : ks.length = ws.length) (S : Store) (s : Nat) (hs : s ≤ 6) (x6 x7 : Option Val) :
    reBody (ER5 ws i j m ks (some (.dat (.int (s : Nat)))) x6 x7) S = if goodN ws.length (freeN (prs ws i j) ks m) s = [] then .nx (ER5 ws i j m ks (some (.dat (.int (s : Nat)))) (some (.dat (.lst ((partsN ws.length s).map ptD)))) (some (.dat (.lst [])))) S else .rt (.dat (.lst ((goodN ws.length (freeN (prs ws i j) ks m) s).map ptD))) S := by
  have e1 := p_parts_of ws.length s hn hs S
  have hnat : natsD (List.range ws.length) = (List.range ws.length).map fun (k : Nat) => D.int (k : Int) := rfl
  have lr : (natsD (List.range ws.length)).length ≤ 1000000 := by rw [hnat, List.length_map, List.length_range]; omega
  have pf := partsN_few hn s hs
  have lp : ((partsN ws.length s).map ptD).length ≤ 1000000 := by rw [List.length_map]; omega
  have cm := compL_filtF (B := bN 8) (mt := toB (eCall 5 d_is_free (aCons (eVar 0) (aCons (eVar 1) (aCons (eVar 2) (aCons (eVar 3) (aCons (eComp [9] (iOf (eVar 4)) (bN 9) (toB (eOp2 pNotIn (eVar 9) (eVar 8))) (eVar 9)) (aNil)))))))) (me := eVar 8) (ρ := ER5 ws i j m ks (some (.dat (.int (s : Nat)))) (some (.dat (.lst ((partsN ws.length s).map ptD)))) x7) (S := S) (h := ptD) (f := ptD) (g := fun part => freeN (prs ws i j) ks m (compl ws.length part)) (l := partsN ws.length s) fun part hp => by
    refine ⟨_, rfl, ?_, fun _ => by simp [ER5, setE, fnOf, env0, sSeq, SOut.bind, sRet, sRetN, sOf, sIf, sNil, sExpr, sSet, sRaise, eAnd, eOr, eNot, bAnd, bOr, bNot, eOp1, op1, eOp2, op2, eOpN, opN, eVar, eC, deref, derefs, Out.bind, asB, toB, ofB, cut_dat, cutS_self, cutS_head0, cutS_one, cutS_none, eChain, eTup, eLst, dats, aNil, aCons, eCall, eIf, pOne, pTwo]⟩
    have ci := compL_filtF (B := bN 9) (mt := toB (eOp2 pNotIn (eVar 9) (eVar 8))) (me := eVar 9) (ρ := [some (.dat (wsD ws)), some (.dat (lkD i j)), some (.dat (.int m)), some (.dat (nsD ks)), some (.dat (.lst (natsD (List.range ws.length)))), some (.dat (.int (s : Nat))), some (.dat (.lst ((partsN ws.length s).map ptD))), x7, some (.dat (ptD part)), none]) (S := S) (h := fun (k : Nat) => D.int (k : Int)) (f := fun (k : Nat) => D.int (k : Int)) (g := fun a => decide (a ∉ part)) (l := List.range ws.length) fun k _ => by
      refine ⟨_, rfl, ?_, fun _ => by simp [setE, fnOf, env0, sSeq, SOut.bind, sRet, sRetN, sOf, sIf, sNil, sExpr, sSet, sRaise, eAnd, eOr, eNot, bAnd, bOr, bNot, eOp1, op1, eOp2, op2, eOpN, opN, eVar, eC, deref, derefs, Out.bind, asB, toB, ofB, cut_dat, cutS_self, cutS_head0, cutS_one, cutS_none, eChain, eTup, eLst, dats, aNil, aCons, eCall, eIf, pOne, pTwo]⟩
      have q := notIn_pt k part
      generalize ptD part = PD at *
      generalize wsD ws = WD at *
      generalize nsD ks = KS at *
      generalize natsD (List.range ws.length) = RN at *
      generalize List.map ptD (partsN ws.length s) = PP at *
      simp [setE, fnOf, env0, sSeq, SOut.bind, sRet, sRetN, sOf, sIf, sNil, sExpr, sSet, sRaise, eAnd, eOr, eNot, bAnd, bOr, bNot, eOp1, op1, eOp2, op2, eOpN, opN, eVar, eC, deref, derefs, Out.bind, asB, toB, ofB, cut_dat, cutS_self, cutS_head0, cutS_one, cutS_none, eChain, eTup, eLst, dats, aNil, aCons, eCall, eIf, pOne, pTwo, q]
    have fr := p_is_freeG (i := i) (j := j) h1 (by omega) hm hl (pl := compl ws.length part) (fun k hk => List.mem_range.mp (List.mem_filter.mp hk).1) (by
      have := List.length_filter_le (fun a => decide (a ∉ part)) (List.range ws.length)
      rw [List.length_range] at this
      show ((List.range ws.length).filter fun a => decide (a ∉ part)).length ≤ 20
      omega) S (x := .dat (nsD ks)) rfl (.inl rfl)
    have hc : ((List.range ws.length).filter fun a => decide (a ∉ part)).map (fun (k : Nat) => D.int (k : Int)) = natsD (compl ws.length part) := rfl
    rw [hc, ← hnat] at ci
    simp only [ER5]
    generalize natsD (compl ws.length part) = CN at *
    generalize ptD part = PD at *
    generalize wsD ws = WD at *
    generalize nsD ks = KS at *
    generalize natsD (List.range ws.length) = RN at *
    generalize List.map ptD (partsN ws.length s) = PP at *
    simp [ER5, setE, fnOf, env0, sSeq, SOut.bind, sRet, sRetN, sOf, sIf, sNil, sExpr, sSet, sRaise, eAnd, eOr, eNot, bAnd, bOr, bNot, eOp1, op1, eOp2, op2, eOpN, opN, eVar, eC, deref, derefs, Out.bind, asB, toB, ofB, cut_dat, cutS_self, cutS_head0, cutS_one, cutS_none, eChain, eTup, eLst, dats, aNil, aCons, eCall, eIf, pOne, pTwo, eComp, iOf, itemsD, lr, wipeE, ci, fr]
  have hg : (partsN ws.length s).filter (fun part => freeN (prs ws i j) ks m (compl ws.length part)) = goodN ws.length (freeN (prs ws i j) ks m) s := rfl
  rw [hg] at cm
  have ne := ne_pts (goodN ws.length (freeN (prs ws i j) ks m) s)
  by_cases c : goodN ws.length (freeN (prs ws i j) ks m) s = []
  · rw [if_pos c]
    rw [c] at cm ne
    simp only [List.map_nil, List.isEmpty_nil] at cm ne
    simp only [ER5] at cm ⊢
    generalize wsD ws = WD at *
    generalize nsD ks = KS at *
    generalize natsD (List.range ws.length) = RN at *
    generalize List.map ptD (partsN ws.length s) = PP at *
    simp [reBody, ER5, fnOf, env0, sSeq, SOut.bind, sRet, sRetN, sOf, sIf, sNil, sExpr, sSet, sRaise, eAnd, eOr, eNot, bAnd, bOr, bNot, eOp1, op1, eOp2, op2, eOpN, opN, eVar, eC, deref, derefs, Out.bind, asB, toB, ofB, cut_dat, cutS_self, cutS_head0, cutS_one, cutS_none, eChain, eTup, eLst, dats, aNil, aCons, eCall, eIf, pOne, pTwo, e1, eComp, iOf, itemsD, lp, wipeE, cm, ne]
  · rw [if_neg c]
    have c' : (goodN ws.length (freeN (prs ws i j) ks m) s).isEmpty = false := by rw [List.isEmpty_eq_false_iff]; exact c
    rw [c'] at ne
    simp only [ER5] at cm ⊢
    generalize (goodN ws.length (freeN (prs ws i j) ks m) s).map ptD = GD at *
    generalize wsD ws = WD at *
    generalize nsD ks = KS at *
    generalize natsD (List.range ws.length) = RN at *
    generalize List.map ptD (partsN ws.length s) = PP at *
    simp [reBody, ER5, fnOf, env0, sSeq, SOut.bind, sRet, sRetN, sOf, sIf, sNil, sExpr, sSet, sRaise, eAnd, eOr, eNot, bAnd, bOr, bNot, eOp1, op1, eOp2, op2, eOpN, opN, eVar, eC, deref, derefs, Out.bind, asB, toB, ofB, cut_dat, cutS_self, cutS_head0, cutS_one, cutS_none, eChain, eTup, eLst, dats, aNil, aCons, eCall, eIf, pOne, pTwo, e1, eComp, iOf, itemsD, lp, wipeE, cm, ne]
theorem re_loop (h1 : ∀ w ∈ ws, 1 ≤ w.length ∧ w.length ≤ 1000) (hn : ws.length ≤ 6) (hm : 0 < m) (hl : ks.length = ws.length) (S : Store) : ∀ (sz : List Nat) (x5 x6 x7 : Option Val), (∀ s ∈ sz, s ≤ 6) →
    (restsG ws.length (freeN (prs ws i j) ks m) sz ≠ [] → sForL (bN 5) reBody (natsD sz) (ER5 ws i j m ks x5 x6 x7) S = .rt (.dat (.lst ((restsG ws.length (freeN (prs ws i j) ks m) sz).map ptD))) S)
  | [], x5, x6, x7, _ => fun h => absurd rfl h
  | s :: sz, x5, x6, x7, hs => fun h => by
    have st := re_step (i := i) (j := j) h1 hn hm hl S s (hs s List.mem_cons_self) x6 x7
    have e : natsD (s :: sz) = .int (s : Nat) :: natsD sz := rfl
    unfold restsG at h ⊢
    rw [e]
    simp only [sForL, bN, setE, ER5, List.set]
    simp only [ER5] at st
    rw [st]
    by_cases c : goodN ws.length (freeN (prs ws i j) ks m) s = []
    · rw [if_pos c] at h ⊢
      rw [if_pos c]
      exact re_loop h1 hn hm hl S sz _ _ _ (fun t ht => hs t (List.mem_cons_of_mem _ ht)) h
    · rw [if_neg c, if_neg c]
theorem compl_full (n : Nat) : compl n (List.range n) = [] := by
  unfold compl
  rw [List.filter_eq_nil_iff]
  intro a ha
  simpa using ha
theorem restsG_ne {n : Nat} {free : List Nat → Bool} : ∀ {sz : List Nat}, (∃ s ∈ sz, goodN n free s ≠ []) → restsG n free sz ≠ []
  | [], h => by
    obtain ⟨_, h, _⟩ := h
    cases h
  | s :: sz, h => by
    unfold restsG
    by_cases c : goodN n free s = []
    · rw [if_pos c]
      obtain ⟨t, ht, e⟩ := h
      rcases List.mem_cons.mp ht with rfl | ht
      · exact absurd c e
      · exact restsG_ne ⟨t, ht, e⟩
    · rw [if_neg c]
      exact c
theorem rests_ne {n : Nat} {free : List Nat → Bool} (h : free [] = true) : restsN n free ≠ [] := by
  refine restsG_ne ⟨n, List.mem_range.mpr (Nat.lt_succ_self n), fun z => ?_⟩
  have : List.range n ∈ goodN n free n := List.mem_filter.mpr ⟨mem_partsN.mpr ⟨List.length_range, List.pairwise_lt_range, fun p hp => List.mem_range.mp hp⟩, by rw [compl_full]; exact h⟩
  rw [z] at this
  cases this
theorem free_nil : freeN (prs ws i j) ks m [] = true := rfl
end
end PB

namespace PB
open PySem PySem.Spec PyProof.Rows L2 DL MP MB PN
section
variable {ws : List (List Nat)} {i j m : Int} {ks : List Int}
theorem rg_range (n : Nat) (hn : n ≤ 6) : pRgL1 (.int (n : Nat)) = some (.lst (natsD (List.range n))) := by
  have h : (-1000000 ≤ (n : Int)) ∧ (n : Int) ≤ 1000000 := by omega
  have e : pRgL1 (.int (n : Nat)) = (if -1000000 ≤ (0 : Int) ∧ (0 : Int) ≤ 1000000 ∧ -1000000 ≤ (n : Int) ∧ (n : Int) ≤ 1000000 then some (rangeD 0 ((n : Int) - 0).toNat) else none).map .lst := rfl
  rw [e, if_pos ⟨by omega, by omega, h.1, h.2⟩, Option.map_some, Int.sub_zero, Int.toNat_natCast, range_map]
  rfl
theorem p_rests0 (h1 : ∀ w ∈ ws, 1 ≤ w.length ∧ w.length ≤ 1000) (hn : ws.length ≤ 6) (hm : 0 < m) (hl : ks.length = ws.length) (S : Store) : sForL (bN 5) reBody (natsD (List.range (ws.length + 1))) (ER5 ws i j m ks none none none) S = .rt (.dat (.lst ((restsN ws.length (freeN (prs ws i j) ks m)).map ptD))) S :=
  re_loop (i := i) (j := j) h1 hn hm hl S (List.range (ws.length + 1)) none none none (fun s hs => by have := List.mem_range.mp hs; omega) (rests_ne free_nil)
theorem p_rests1 (WD KS : D) (RN : List D) (n : Nat) (RD : List D) (S : Store) (N : Int) (ad : pAdd (.int (n : Nat)) (.int 1) = some (.int N)) (hb : -1000000 ≤ N ∧ N ≤ 1000000) (lw : pLen WD = some (.int (n : Nat))) (rg : pRgL1 (.int (n : Nat)) = some (.lst RN))
    (e : sForL (bN 5) reBody (rangeD 0 N.toNat) [some (.dat WD), some (.dat (lkD i j)), some (.dat (.int m)), some (.dat KS), some (.dat (.lst RN)), none, none, none, none, none] S = .rt (.dat (.lst RD)) S) : d_rests [.dat WD, .dat (lkD i j), .dat (.int m), .dat KS] S = .ok (.dat (.lst RD)) S := by
  simp only [d_rests, fnOf, env0, m_rests_eq]
  simp [fnOf, env0, sSeq, SOut.bind, sRet, sRetN, sOf, sIf, sNil, sExpr, sSet, sRaise, eAnd, eOr, eNot, bAnd, bOr, bNot, eOp1, op1, eOp2, op2, eOpN, opN, eVar, eC, deref, derefs, Out.bind, asB, toB, ofB, cut_dat, cutS_self, cutS_head0, cutS_one, cutS_none, eChain, eTup, eLst, dats, aNil, aCons, eCall, eIf, pOne, pTwo, lw, rg, sFor, iRange1, ad, hb, e]
theorem p_rests (h1 : ∀ w ∈ ws, 1 ≤ w.length ∧ w.length ≤ 1000) (hn : ws.length ≤ 6) (hm : 0 < m) (hl : ks.length = ws.length) (S : Store) : d_rests [.dat (wsD ws), .dat (lkD i j), .dat (.int m), .dat (nsD ks)] S = .ok (.dat (.lst ((restsN ws.length (freeN (prs ws i j) ks m)).map ptD))) S := by
  have lw : pLen (wsD ws) = some (.int (ws.length : Nat)) := by simp [pLen, wsD]
  refine p_rests1 _ _ _ ws.length _ S (ws.length + 1 : Nat) rfl (by omega) lw (rg_range _ hn) ?_
  rw [Int.toNat_natCast, range_map]
  exact p_rests0 h1 hn hm hl S
/-- the words that are left out -/
def leftN (n : Nat) (free : List Nat → Bool) : List Nat := (restsN n free).headD []
theorem p_left_out (h : Pb ws i j m ks) (S : Store) : d_left_out [.dat (wsD ws), .dat (lkD i j), .dat (.int m), .dat (nsD ks)] S = .ok (.dat (ptD (leftN ws.length (freeN (prs ws i j) ks m)))) S := by
  have e1 := need_ok h.w h.l S
  have e2 := room_ok h.m1 h.m99 S
  have e3 := need_nums_ok (i := i) (j := j) S h.n20 h.n
  have e4 := p_rests (i := i) (j := j) h.w.len h.w.n6 h.mp h.len S
  have ix : pIx (.lst ((restsN ws.length (freeN (prs ws i j) ks m)).map ptD)) (.int 0) = some (ptD (leftN ws.length (freeN (prs ws i j) ks m))) := by
    refine atI_nat (j := 0) ?_
    unfold leftN
    cases hr : restsN ws.length (freeN (prs ws i j) ks m) with
    | nil => exact absurd hr (rests_ne free_nil)
    | cons a r => rfl
  generalize (restsN ws.length (freeN (prs ws i j) ks m)).map ptD = RD at *
  generalize wsD ws = WD at *
  generalize nsD ks = KS at *
  simp [d_left_out, m_left_out, fnOf, env0, sSeq, SOut.bind, sRet, sRetN, sOf, sIf, sNil, sExpr, sSet, sRaise, eAnd, eOr, eNot, bAnd, bOr, bNot, eOp1, op1, eOp2, op2, eOpN, opN, eVar, eC, deref, derefs, Out.bind, asB, toB, ofB, cut_dat, cutS_self, cutS_head0, cutS_one, cutS_none, eChain, eTup, eLst, dats, aNil, aCons, eCall, eIf, pOne, pTwo, e1, e2, e3, e4, ix]
/-- what is left out: as few as can be -/
theorem left_mem {n : Nat} {free : List Nat → Bool} (h : free [] = true) : leftN n free ∈ goodN n free (leftN n free).length ∧ ∀ part : List Nat, part.Pairwise (· < ·) → (∀ p ∈ part, p < n) → free (compl n part) = true → (leftN n free).length ≤ part.length ∧ (part.length = (leftN n free).length → leftN n free = part ∨ NL (leftN n free) part) := by
  have key : ∀ (sz : List Nat), sz.Pairwise (· < ·) → restsG n free sz ≠ [] → ∃ s ∈ sz, restsG n free sz = goodN n free s ∧ goodN n free s ≠ [] ∧ ∀ t ∈ sz, t < s → goodN n free t = [] := by
    intro sz
    induction sz with
    | nil => exact fun _ z => absurd rfl z
    | cons s sz ih =>
      intro hp z
      obtain ⟨p1, p2⟩ := List.pairwise_cons.mp hp
      unfold restsG at z ⊢
      by_cases c : goodN n free s = []
      · rw [if_pos c] at z ⊢
        obtain ⟨t, h1, h2, h3, h4⟩ := ih p2 z
        refine ⟨t, List.mem_cons_of_mem _ h1, h2, h3, fun u hu hlt => ?_⟩
        rcases List.mem_cons.mp hu with rfl | hu
        · exact c
        · exact h4 u hu hlt
      · rw [if_neg c]
        refine ⟨s, List.mem_cons_self, rfl, c, fun u hu hlt => ?_⟩
        rcases List.mem_cons.mp hu with rfl | hu
        · omega
        · have := p1 u hu
          omega
  obtain ⟨s, h1, h2, h3, h4⟩ := key (List.range (n + 1)) List.pairwise_lt_range (rests_ne h)
  have hl : ∃ r, goodN n free s = leftN n free :: r := by
    unfold leftN restsN
    rw [h2]
    cases hg : goodN n free s with
    | nil => exact absurd hg h3
    | cons a r => exact ⟨r, rfl⟩
  obtain ⟨r, hl⟩ := hl
  have hm : leftN n free ∈ goodN n free s := by rw [hl]; exact List.mem_cons_self
  have hlen : (leftN n free).length = s := (mem_partsN.mp (List.mem_filter.mp hm).1).1
  rw [hlen]
  refine ⟨hm, fun part hp hlt hf => ?_⟩
  have hgood : part ∈ goodN n free part.length := List.mem_filter.mpr ⟨mem_partsN.mpr ⟨rfl, hp, hlt⟩, hf⟩
  have hle : s ≤ part.length := by
    by_cases c : part.length < s
    · have hn : part.length ∈ List.range (n + 1) := by
        have := List.mem_range.mp h1
        exact List.mem_range.mpr (by omega)
      have := h4 _ hn c
      rw [this] at hgood
      cases hgood
    · omega
  refine ⟨hle, fun e => ?_⟩
  rw [e, hl] at hgood
  rcases List.mem_cons.mp hgood with z | z
  · exact .inl z.symm
  · right
    have hw : (goodN n free s).Pairwise NL := (partsN_rise n s).filter _
    rw [hl] at hw
    exact (List.pairwise_cons.mp hw).1 part z
end
end PB

namespace PB
open PySem PySem.Spec PyProof.Rows L2 DL MP MB PN
section
variable {ws : List (List Nat)} {i j m : Int} {ks : List Int}
theorem toks_nil_cons (y : PyData) (ys : List PyData) : PyProof.Rows.lexLt PyProof.Rows.itemOrd (PySem.W.keyToksAll []) (PySem.W.keyToksAll (y :: ys)) = true := by
  simp only [PySem.W.keyToksAll]
  rw [PySem.W.lex_atom (by simp), PySem.W.lex_one]
  rfl
theorem toks_cons_nil (y : PyData) (ys : List PyData) : PyProof.Rows.lexLt PyProof.Rows.itemOrd (PySem.W.keyToksAll (y :: ys)) (PySem.W.keyToksAll []) = false := by
  simp only [PySem.W.keyToksAll]
  rw [PySem.W.lex_atom (by simp), PySem.W.lex_one]
  rfl
theorem toks_nats : ∀ a b : List Nat, PyProof.Rows.lexLt PyProof.Rows.itemOrd (PySem.W.keyToksAll (toPys (natsD a))) (PySem.W.keyToksAll (toPys (natsD b))) = decide (a < b)
  | [], [] => by
    rw [decide_eq_false (List.lt_irrefl _)]
    exact PyProof.Rows.lex_irrefl _
  | [], y :: b => by
    simp only [natsD, List.map_nil, List.map_cons, toPys]
    rw [toks_nil_cons, decide_eq_true (List.nil_lt_cons _ _)]
  | x :: a, [] => by
    simp only [natsD, List.map_nil, List.map_cons, toPys]
    rw [toks_cons_nil, decide_eq_false (List.not_lt_nil _)]
  | x :: a, y :: b => by
    have ih := toks_nats a b
    simp only [natsD] at ih
    simp only [natsD, List.map_cons, toPys, toPy]
    by_cases c : x = y
    · subst c
      rw [PySem.W.dataLt_all_yes rfl (by simp [PyData.eqv]), ih]
      refine decide_eq_decide.mpr ?_
      rw [List.cons_lt_cons_iff]
      exact ⟨fun h => .inr ⟨rfl, h⟩, fun h => h.elim (fun z => absurd z (Nat.lt_irrefl _)) (·.2)⟩
    · rw [PySem.W.dataLt_all_no rfl (by simp [PyData.eqv]; omega), PySem.W.dataLt_int]
      refine decide_eq_decide.mpr ?_
      rw [List.cons_lt_cons_iff]
      exact ⟨fun h => .inl (by omega), fun h => h.elim (fun z => by omega) (fun z => absurd z.1 c)⟩
theorem alike_nats : ∀ a b : List Nat, PySem.W.alikeAll (toPys (natsD a)) (toPys (natsD b)) = true
  | [], _ => by simp [natsD, toPys, PySem.W.alikeAll]
  | _ :: _, [] => by simp [natsD, toPys, PySem.W.alikeAll]
  | x :: a, y :: b => by
    have ih := alike_nats a b
    simp only [natsD] at ih
    simp only [natsD, List.map_cons, toPys, toPy, PySem.W.alikeAll, PySem.W.alike, ih, Bool.and_self]
def bstD (w : List Nat) : D := .tup [.int (w.length : Nat), ptD w]
theorem eqv_nats : ∀ a b : List Nat, PyData.eqvAll (toPys (natsD a)) (toPys (natsD b)) = decide (a = b)
  | [], [] => rfl
  | [], y :: b => by simp [natsD, toPys, PyData.eqvAll]
  | x :: a, [] => by simp [natsD, toPys, PyData.eqvAll]
  | x :: a, y :: b => by
    have ih := eqv_nats a b
    simp only [natsD] at ih
    simp only [natsD, List.map_cons, toPys, toPy, PyData.eqvAll, PyData.eqv, ih]
    rw [Bool.eq_iff_iff]
    simp
    intro _
    omega
theorem lt_bst (a b : List Nat) : pLtD (bstD a) (bstD b) = some (.bl (decide (a.length :: a < b.length :: b))) := by
  have hs : ∀ w : List Nat, sh 9 (bstD w) = true := fun w => by simp [sh, bstD, ptD, natsD]
  have ha : PySem.W.alike (toPy (bstD a)) (toPy (bstD b)) = true := by
    simp only [bstD, ptD, toPy, toPys, PySem.W.alike, PySem.W.alikeAll, alike_nats, Bool.and_self]
  have hl : PySem.W.dataLt (toPy (bstD a)) (toPy (bstD b)) = decide (a.length :: a < b.length :: b) := by
    simp only [bstD, toPy, toPys]
    rw [PySem.W.dataLt_tuple]
    by_cases c : a.length = b.length
    · rw [PySem.W.dataLt_all_yes rfl (by simp [PyData.eqv, c])]
      have e1 : decide (a.length :: a < b.length :: b) = decide (a < b) := decide_eq_decide.mpr (by
        rw [List.cons_lt_cons_iff]
        exact ⟨fun h => h.elim (fun z => by omega) (·.2), fun h => .inr ⟨c, h⟩⟩)
      rw [e1]
      by_cases d : a = b
      · subst d
        rw [PySem.W.dataLt_all_yes (by simp only [PySem.W.alike, alike_nats]) (by simp only [PyData.eqv, eqv_nats, decide_true])]
        rw [decide_eq_false (List.lt_irrefl _)]
        exact PyProof.Rows.lex_irrefl _
      · rw [PySem.W.dataLt_all_no (by simp only [PySem.W.alike, alike_nats]) (by simp only [PyData.eqv, eqv_nats, decide_eq_false d]), PySem.W.dataLt_tuple, toks_nats]
    · rw [PySem.W.dataLt_all_no rfl (by simp [PyData.eqv]; omega), PySem.W.dataLt_int]
      refine decide_eq_decide.mpr ?_
      rw [List.cons_lt_cons_iff]
      exact ⟨fun h => .inl (by omega), fun h => h.elim (fun z => by omega) (fun z => absurd z.1 c)⟩
  show (if sh 9 (bstD a) = true ∧ sh 9 (bstD b) = true ∧ PySem.W.alike (toPy (bstD a)) (toPy (bstD b)) = true then some (D.bl (PySem.W.dataLt (toPy (bstD a)) (toPy (bstD b)))) else none) = _
  rw [if_pos ⟨hs a, hs b, ha⟩, hl]
/-- the least, fewest first -/
def bst : List (List Nat) → Option (List Nat) → Option (List Nat)
  | [], b => b
  | w :: r, b => bst r (some (match b with | none => w | some x => if w.length :: w < x.length :: x then w else x))
theorem bst_spec : ∀ (l : List (List Nat)) (b : Option (List Nat)), (l ≠ [] ∨ b ≠ none) → ∃ x, bst l b = some x ∧ (x ∈ l ∨ b = some x) ∧ (∀ w ∈ l, ¬ (w.length :: w < x.length :: x)) ∧ ∀ y, b = some y → ¬ (y.length :: y < x.length :: x)
  | [], b, h => by
    cases b with
    | none => exact absurd rfl (h.elim id fun z => absurd rfl z)
    | some x => exact ⟨x, rfl, .inr rfl, (fun _ z => nomatch z), fun y e => by cases e; exact List.lt_irrefl _⟩
  | w :: r, b, h => by
    cases b with
    | none =>
      obtain ⟨x, h1, h2, h3, h4⟩ := bst_spec r (some w) (.inr (fun z => nomatch z))
      refine ⟨x, h1, .inl (h2.elim (fun z => List.mem_cons_of_mem _ z) fun z => by cases z; exact List.mem_cons_self), fun v hv => ?_, fun y e => nomatch e⟩
      rcases List.mem_cons.mp hv with e | e
      · subst e
        exact h4 _ rfl
      · exact h3 v e
    | some y =>
      by_cases c : w.length :: w < y.length :: y
      · obtain ⟨x, h1, h2, h3, h4⟩ := bst_spec r (some w) (.inr (fun z => nomatch z))
        have hw := h4 w rfl
        refine ⟨x, ?_, .inl (h2.elim (fun z => List.mem_cons_of_mem _ z) fun z => by cases z; exact List.mem_cons_self), fun v hv => ?_, fun z e => ?_⟩
        · simp only [bst, if_pos c]
          exact h1
        · rcases List.mem_cons.mp hv with e | e
          · subst e
            exact hw
          · exact h3 v e
        · cases e
          exact fun q => hw (List.lt_trans c q)
      · obtain ⟨x, h1, h2, h3, h4⟩ := bst_spec r (some y) (.inr (fun z => nomatch z))
        have hy := h4 y rfl
        refine ⟨x, ?_, h2.elim (fun z => .inl (List.mem_cons_of_mem _ z)) .inr, fun v hv => ?_, h4⟩
        · simp only [bst, if_neg c]
          exact h1
        · rcases List.mem_cons.mp hv with e | e
          · subst e
            exact fun q => by
              rw [List.not_lt] at c hy
              exact absurd q (List.not_lt.mpr (List.le_trans hy c))
          · exact h3 v e
/-- the places at which other numbers stand -/
def wrongN (ks hs : List Int) (n : Nat) : List Nat := (List.range n).filter fun a => !decide (nmb hs a = nmb ks a)
theorem wrong_rise (ks hs : List Int) (n : Nat) : (wrongN ks hs n).Pairwise (· < ·) := List.pairwise_lt_range.filter _
theorem mem_wrong {ks hs : List Int} {n a : Nat} : a ∈ wrongN ks hs n ↔ a < n ∧ nmb hs a ≠ nmb ks a := by
  unfold wrongN
  rw [List.mem_filter, List.mem_range]
  simp
theorem nmb_nums {ps : List (Nat × Nat)} {m : Int} {f : Nat → Int} {k : Nat} {p : Nat × Nat} (e : ps[k]? = some p) : nmb (nums ps m f) k = (f p.1 + f p.2) % m := by
  unfold nmb nums
  rw [List.getElem?_map, e]
  rfl
theorem NL_lt : ∀ {a b : List Nat}, NL a b → a < b
  | [], _, h => h.elim
  | _ :: _, [], h => h.elim
  | x :: a, y :: b, h => by
    rw [List.cons_lt_cons_iff]
    exact h.elim .inl fun z => .inr ⟨z.1, NL_lt z.2⟩
theorem best_left {ps : List (Nat × Nat)} (hm : 0 < m) (nk : NOk ps m ks) (h20 : ps.length ≤ 20) : bst ((allL m.toNat (ltrs ps).length).map fun l => wrongN ks (nums ps m (wI ((ltrs ps).zip l))) ps.length) none = some (leftN ps.length (freeN ps ks m)) := by
  obtain ⟨a1, a2⟩ := left_mem (n := ps.length) (free := freeN ps ks m) rfl
  obtain ⟨a3, a4⟩ := List.mem_filter.mp a1
  obtain ⟨_, a5, a6⟩ := mem_partsN.mp a3
  generalize hLN : leftN ps.length (freeN ps ks m) = N at *
  have cl : ∀ part, (∀ k ∈ compl ps.length part, k < ps.length) ∧ (compl ps.length part).length ≤ 20 := fun part => by
    refine ⟨fun k hk => List.mem_range.mp (List.mem_filter.mp hk).1, ?_⟩
    have := List.length_filter_le (fun a => decide (a ∉ part)) (List.range ps.length)
    rw [List.length_range] at this
    exact Nat.le_trans this h20
  have mcl : ∀ {part : List Nat} {k : Nat}, k ∈ compl ps.length part ↔ k < ps.length ∧ k ∉ part := fun {part k} => by
    unfold compl
    rw [List.mem_filter, List.mem_range, decide_eq_true_iff]
  -- each line's wrong places leave the others free
  have wf : ∀ l ∈ allL m.toNat (ltrs ps).length, freeN ps ks m (compl ps.length (wrongN ks (nums ps m (wI ((ltrs ps).zip l))) ps.length)) = true := fun l hl => by
    refine (freeN_iff hm nk (cl _).1 (cl _).2).mpr ⟨wI ((ltrs ps).zip l), wI_in hm (zip_dom fun x hx => ?_), fun k hk p e => ?_⟩
    · have := (mem_allL.mp hl).2 x hx
      omega
    · obtain ⟨k1, k2⟩ := mcl.mp hk
      rw [mem_wrong] at k2
      rw [← nmb_nums e]
      by_cases c : nmb (nums ps m (wI ((ltrs ps).zip l))) k = nmb ks k
      · exact c
      · exact absurd ⟨k1, c⟩ k2
  -- a line whose wrong places are the ones left out
  obtain ⟨f, f1, f2⟩ := (freeN_iff hm nk (cl _).1 (cl _).2).mp a4
  have hl1 : (ltrs ps).map f ∈ allL m.toNat (ltrs ps).length := by
    refine mem_allL.mpr ⟨by rw [List.length_map], fun x hx => ?_⟩
    obtain ⟨c, _, rfl⟩ := List.mem_map.mp hx
    have := f1 c
    omega
  have hwz : ∀ c ∈ ltrs ps, wI ((ltrs ps).zip ((ltrs ps).map f)) c = f c := fun c hc => by
    have := wI_zip (L := ltrs ps) (l := (ltrs ps).map f) (ltrs_nd ps) (by rw [List.length_map])
    exact List.map_inj_left.mp this c hc
  have hsub : ∀ a ∈ wrongN ks (nums ps m (wI ((ltrs ps).zip ((ltrs ps).map f)))) ps.length, a ∈ N := fun a ha => by
    obtain ⟨h1, h2⟩ := mem_wrong.mp ha
    by_cases c : a ∈ N
    · exact c
    · have e := List.getElem?_eq_getElem h1
      refine absurd ?_ h2
      rw [nmb_nums e, hwz _ (flat_ltrs e).1, hwz _ (flat_ltrs e).2]
      exact f2 a (mcl.mpr ⟨h1, c⟩) _ e
  have hw1 := a2 _ (wrong_rise ks (nums ps m (wI ((ltrs ps).zip ((ltrs ps).map f)))) ps.length) (fun p hp => (mem_wrong.mp hp).1) (wf _ hl1)
  have hlen : (wrongN ks (nums ps m (wI ((ltrs ps).zip ((ltrs ps).map f)))) ps.length).length ≤ N.length := nodup_sub_len ((wrong_rise _ _ _).imp fun {a b} h => Nat.ne_of_lt h) hsub
  have heq : wrongN ks (nums ps m (wI ((ltrs ps).zip ((ltrs ps).map f)))) ps.length = N := by
    refine pw_ext (wrong_rise _ _ _) a5 fun x => ⟨hsub x, fun hx => ?_⟩
    have h1 : (wrongN ks (nums ps m (wI ((ltrs ps).zip ((ltrs ps).map f)))) ps.length).length = N.length := Nat.le_antisymm hlen hw1.1
    by_cases c : x ∈ wrongN ks (nums ps m (wI ((ltrs ps).zip ((ltrs ps).map f)))) ps.length
    · exact c
    · have hnd : (x :: wrongN ks (nums ps m (wI ((ltrs ps).zip ((ltrs ps).map f)))) ps.length).Nodup := List.nodup_cons.mpr ⟨c, (wrong_rise _ _ _).imp fun {a b} h => Nat.ne_of_lt h⟩
      have := nodup_sub_len (m := N) hnd fun y hy => (List.mem_cons.mp hy).elim (fun e => e ▸ hx) (hsub y)
      rw [List.length_cons] at this
      omega
  obtain ⟨x, h1, h2, h3, h4⟩ := bst_spec ((allL m.toNat (ltrs ps).length).map fun l => wrongN ks (nums ps m (wI ((ltrs ps).zip l))) ps.length) none (.inl fun z => by
    have := List.map_eq_nil_iff.mp z
    rw [this] at hl1
    cases hl1)
  have hxm : x ∈ (allL m.toNat (ltrs ps).length).map fun l => wrongN ks (nums ps m (wI ((ltrs ps).zip l))) ps.length := h2.elim id fun z => nomatch z
  obtain ⟨l0, hl0, rfl⟩ := List.mem_map.mp hxm
  have hN := h3 N (List.mem_map.mpr ⟨_, hl1, heq⟩)
  obtain ⟨b1, b2⟩ := a2 _ (wrong_rise ks (nums ps m (wI ((ltrs ps).zip l0))) ps.length) (fun p hp => (mem_wrong.mp hp).1) (wf _ hl0)
  rw [h1]
  generalize wrongN ks (nums ps m (wI ((ltrs ps).zip l0))) ps.length = X at *
  have hle : X.length = N.length := by
    by_cases c : N.length < X.length
    · exact absurd (List.cons_lt_cons_iff.mpr (.inl c)) hN
    · omega
  rcases b2 hle with e | e
  · rw [e]
  · exact absurd (List.cons_lt_cons_iff.mpr (.inr ⟨hle.symm, NL_lt e⟩)) hN
theorem left_nil (h : Pb ws i j m ks) : leftN (prs ws i j).length (freeN (prs ws i j) ks m) = [] ↔ theBar (prs ws i j) ks m = none := by
  have hb := best_left (ps := prs ws i j) h.mp h.n h.p20
  have hm := h.mp
  rw [theBar_none h]
  obtain ⟨x, h1, h2, h3, h4⟩ := bst_spec ((allL m.toNat (ltrs (prs ws i j)).length).map fun l => wrongN ks (nums (prs ws i j) m (wI ((ltrs (prs ws i j)).zip l))) (prs ws i j).length) none (.inl fun z => by
    rw [z] at hb
    exact nomatch hb)
  have ex : x = leftN (prs ws i j).length (freeN (prs ws i j) ks m) := Option.some.inj (h1.symm.trans hb)
  rw [← ex]
  have hxm := h2.elim id fun z => nomatch z
  have hz : ∀ l, wrongN ks (nums (prs ws i j) m (wI ((ltrs (prs ws i j)).zip l))) (prs ws i j).length = [] ↔ nums (prs ws i j) m (wI ((ltrs (prs ws i j)).zip l)) = ks := fun l => by
    constructor
    · intro z
      apply List.ext_getElem?
      intro k
      have hl : (nums (prs ws i j) m (wI ((ltrs (prs ws i j)).zip l))).length = (prs ws i j).length := nums_len _ _ _
      by_cases c : k < (prs ws i j).length
      · have : k ∉ wrongN ks (nums (prs ws i j) m (wI ((ltrs (prs ws i j)).zip l))) (prs ws i j).length := by
          rw [z]
          exact fun q => nomatch q
        rw [mem_wrong] at this
        have e : nmb (nums (prs ws i j) m (wI ((ltrs (prs ws i j)).zip l))) k = nmb ks k := by
          by_cases q : nmb (nums (prs ws i j) m (wI ((ltrs (prs ws i j)).zip l))) k = nmb ks k
          · exact q
          · exact absurd ⟨c, q⟩ this
        have c1 : k < (nums (prs ws i j) m (wI ((ltrs (prs ws i j)).zip l))).length := by omega
        have c2 : k < ks.length := by rw [h.n.1]; exact c
        unfold nmb at e
        rw [List.getElem?_eq_getElem c1, List.getElem?_eq_getElem c2] at e ⊢
        simpa using e
      · rw [List.getElem?_eq_none (by omega), List.getElem?_eq_none (by rw [h.n.1]; omega)]
    · intro z
      rw [z]
      apply List.eq_nil_iff_forall_not_mem.mpr
      intro a ha
      exact (mem_wrong.mp ha).2 rfl
  constructor
  · intro z
    obtain ⟨l, hl, hw⟩ := List.mem_map.mp hxm
    rw [z, hz] at hw
    intro e
    have : l ∈ sols (prs ws i j) m ks := List.mem_filter.mpr ⟨hl, decide_eq_true hw⟩
    rw [e] at this
    cases this
  · intro z
    obtain ⟨l, hl⟩ := List.exists_mem_of_ne_nil _ z
    obtain ⟨l1, l2⟩ := List.mem_filter.mp hl
    have hw := (hz l).mpr (of_decide_eq_true l2)
    have := h3 [] (List.mem_map.mpr ⟨l, l1, hw⟩)
    by_cases c : x = []
    · exact c
    · have : 0 < x.length := List.length_pos_iff.mpr c
      exact absurd (List.cons_lt_cons_iff.mpr (.inl this)) ‹¬ _›
end
end PB

namespace LW
open PySem PySem.Spec PyProof.Rows L2 L2H DL MP MB
def topS (i : Nat) : Stmt := PySem.Challenge.pw_lookwords_k14_whole_left_out.main.body.getD i (.Pass ⟨0, 0, 0, 0⟩)
abbrev s_is_whole : Stmt := topS 12
abbrev s_is_word : Stmt := topS 13
abbrev s_are_words : Stmt := topS 14
abbrev s_is_look : Stmt := topS 15
abbrev s_need_both : Stmt := topS 16
abbrev s_need_room : Stmt := topS 17
abbrev s_letter_at : Stmt := topS 18
abbrev s_pair_of : Stmt := topS 19
abbrev s_pairs_of : Stmt := topS 20
abbrev s_letters_of : Stmt := topS 21
abbrev s_are_numbers : Stmt := topS 22
abbrev s_need_numbers : Stmt := topS 23
abbrev s_walk_from : Stmt := topS 25
abbrev s_groups : Stmt := topS 26
abbrev s_closed : Stmt := topS 27
abbrev s_alternate : Stmt := topS 28
abbrev s_bar_in : Stmt := topS 29
abbrev s_bar : Stmt := topS 30
abbrev s_parts_of : Stmt := topS 32
abbrev s_is_free : Stmt := topS 33
abbrev s_rests : Stmt := topS 34
abbrev s_left_out : Stmt := topS 35
abbrev s__law_cell_at : Stmt := topS 37
abbrev s__law_mixed : Stmt := topS 38
abbrev s__law_draw : Stmt := topS 39
abbrev s__law_pick : Stmt := topS 40
abbrev s__law_word : Stmt := topS 41
abbrev s__law_words : Stmt := topS 42
abbrev s__law_look : Stmt := topS 43
abbrev s__law_at : Stmt := topS 44
abbrev s__law_seen : Stmt := topS 45
abbrev s__law_letters : Stmt := topS 46
abbrev s__law_by : Stmt := topS 47
abbrev s__law_told : Stmt := topS 48
abbrev s__law_every : Stmt := topS 49
abbrev s__law_sets : Stmt := topS 50
abbrev s_law : Stmt := topS 51
structure TX (P : Program) (w : World) (K : PySem.W.Frag) (mg : Str → Option Value) (base : Heap) (cl : Nat → Addr) : Prop where
  n_all : mg "all" = none
  n_bool : mg "bool" = none
  n_dict : mg "dict" = none
  n_enumerate : mg "enumerate" = none
  n_int : mg "int" = none
  n_isinstance : mg "isinstance" = none
  n_len : mg "len" = none
  n_list : mg "list" = none
  n_max : mg "max" = none
  n_min : mg "min" = none
  n_range : mg "range" = none
  n_set : mg "set" = none
  n_sorted : mg "sorted" = none
  n_str : mg "str" = none
  n_tuple : mg "tuple" = none
  g_LETTERS : Glob mg "LETTERS" (.str [97, 98, 99, 100, 101, 102, 103, 104, 105, 106, 107, 108, 109, 110, 111, 112, 113, 114, 115, 116, 117, 118, 119, 120, 121, 122])
  g_LONG : Glob mg "LONG" (.int 6)
  g_MANY : Glob mg "MANY" (.int 6)
  g_FAR : Glob mg "FAR" (.int 2)
  g_ROOM : Glob mg "ROOM" (.int 99)
  e_NoWords : ExcAt K mg cl 0 "NoWords"
  e_NoLook : ExcAt K mg cl 1 "NoLook"
  e_NoNumbers : ExcAt K mg cl 2 "NoNumbers"
  e_NoRoom : ExcAt K mg cl 3 "NoRoom"
  f_is_whole : ∃ (a : Addr) (fd : FuncData), mg "is_whole" = some (.ref a) ∧ PySem.W.keepIn K (.ref a) = true ∧ FunD K "is_whole" "is_whole" (defArgs s_is_whole) (defBody s_is_whole) (defScope s_is_whole) [] [] a fd ∧ Binds K fd ["thing", "low", "most"] []
  f_is_word : ∃ (a : Addr) (fd : FuncData), mg "is_word" = some (.ref a) ∧ PySem.W.keepIn K (.ref a) = true ∧ FunD K "is_word" "is_word" (defArgs s_is_word) (defBody s_is_word) (defScope s_is_word) [] [] a fd ∧ Binds K fd ["thing"] []
  f_are_words : ∃ (a : Addr) (fd : FuncData), mg "are_words" = some (.ref a) ∧ PySem.W.keepIn K (.ref a) = true ∧ FunD K "are_words" "are_words" (defArgs s_are_words) (defBody s_are_words) (defScope s_are_words) [] [] a fd ∧ Binds K fd ["thing"] []
  f_is_look : ∃ (a : Addr) (fd : FuncData), mg "is_look" = some (.ref a) ∧ PySem.W.keepIn K (.ref a) = true ∧ FunD K "is_look" "is_look" (defArgs s_is_look) (defBody s_is_look) (defScope s_is_look) [] [] a fd ∧ Binds K fd ["thing"] []
  f_need_both : ∃ (a : Addr) (fd : FuncData), mg "need_both" = some (.ref a) ∧ PySem.W.keepIn K (.ref a) = true ∧ FunD K "need_both" "need_both" (defArgs s_need_both) (defBody s_need_both) (defScope s_need_both) [] [] a fd ∧ Binds K fd ["words", "look"] []
  f_need_room : ∃ (a : Addr) (fd : FuncData), mg "need_room" = some (.ref a) ∧ PySem.W.keepIn K (.ref a) = true ∧ FunD K "need_room" "need_room" (defArgs s_need_room) (defBody s_need_room) (defScope s_need_room) [] [] a fd ∧ Binds K fd ["room"] []
  f_letter_at : ∃ (a : Addr) (fd : FuncData), mg "letter_at" = some (.ref a) ∧ PySem.W.keepIn K (.ref a) = true ∧ FunD K "letter_at" "letter_at" (defArgs s_letter_at) (defBody s_letter_at) (defScope s_letter_at) [] [] a fd ∧ Binds K fd ["word", "place"] []
  f_pair_of : ∃ (a : Addr) (fd : FuncData), mg "pair_of" = some (.ref a) ∧ PySem.W.keepIn K (.ref a) = true ∧ FunD K "pair_of" "pair_of" (defArgs s_pair_of) (defBody s_pair_of) (defScope s_pair_of) [] [] a fd ∧ Binds K fd ["word", "look"] []
  f_pairs_of : ∃ (a : Addr) (fd : FuncData), mg "pairs_of" = some (.ref a) ∧ PySem.W.keepIn K (.ref a) = true ∧ FunD K "pairs_of" "pairs_of" (defArgs s_pairs_of) (defBody s_pairs_of) (defScope s_pairs_of) [] [] a fd ∧ Binds K fd ["words", "look"] []
  f_letters_of : ∃ (a : Addr) (fd : FuncData), mg "letters_of" = some (.ref a) ∧ PySem.W.keepIn K (.ref a) = true ∧ FunD K "letters_of" "letters_of" (defArgs s_letters_of) (defBody s_letters_of) (defScope s_letters_of) [] [] a fd ∧ Binds K fd ["words", "look"] []
  f_are_numbers : ∃ (a : Addr) (fd : FuncData), mg "are_numbers" = some (.ref a) ∧ PySem.W.keepIn K (.ref a) = true ∧ FunD K "are_numbers" "are_numbers" (defArgs s_are_numbers) (defBody s_are_numbers) (defScope s_are_numbers) [] [] a fd ∧ Binds K fd ["words", "room", "thing"] []
  f_need_numbers : ∃ (a : Addr) (fd : FuncData), mg "need_numbers" = some (.ref a) ∧ PySem.W.keepIn K (.ref a) = true ∧ FunD K "need_numbers" "need_numbers" (defArgs s_need_numbers) (defBody s_need_numbers) (defScope s_need_numbers) [] [] a fd ∧ Binds K fd ["words", "room", "thing"] []
  f_walk_from : ∃ (a : Addr) (fd : FuncData), mg "walk_from" = some (.ref a) ∧ PySem.W.keepIn K (.ref a) = true ∧ FunD K "walk_from" "walk_from" (defArgs s_walk_from) (defBody s_walk_from) (defScope s_walk_from) [] [] a fd ∧ Binds K fd ["words", "look", "start"] []
  f_groups : ∃ (a : Addr) (fd : FuncData), mg "groups" = some (.ref a) ∧ PySem.W.keepIn K (.ref a) = true ∧ FunD K "groups" "groups" (defArgs s_groups) (defBody s_groups) (defScope s_groups) [] [] a fd ∧ Binds K fd ["words", "look"] []
  f_closed : ∃ (a : Addr) (fd : FuncData), mg "closed" = some (.ref a) ∧ PySem.W.keepIn K (.ref a) = true ∧ FunD K "closed" "closed" (defArgs s_closed) (defBody s_closed) (defScope s_closed) [] [] a fd ∧ Binds K fd ["words", "look", "start", "found"] []
  f_alternate : ∃ (a : Addr) (fd : FuncData), mg "alternate" = some (.ref a) ∧ PySem.W.keepIn K (.ref a) = true ∧ FunD K "alternate" "alternate" (defArgs s_alternate) (defBody s_alternate) (defScope s_alternate) [] [] a fd ∧ Binds K fd ["numbers", "walk"] []
  f_bar_in : ∃ (a : Addr) (fd : FuncData), mg "bar_in" = some (.ref a) ∧ PySem.W.keepIn K (.ref a) = true ∧ FunD K "bar_in" "bar_in" (defArgs s_bar_in) (defBody s_bar_in) (defScope s_bar_in) [] [] a fd ∧ Binds K fd ["words", "look", "room", "numbers"] []
  f_bar : ∃ (a : Addr) (fd : FuncData), mg "bar" = some (.ref a) ∧ PySem.W.keepIn K (.ref a) = true ∧ FunD K "bar" "bar" (defArgs s_bar) (defBody s_bar) (defScope s_bar) [] [] a fd ∧ Binds K fd ["words", "look", "room", "numbers"] []
  f_parts_of : ∃ (a : Addr) (fd : FuncData), mg "parts_of" = some (.ref a) ∧ PySem.W.keepIn K (.ref a) = true ∧ FunD K "parts_of" "parts_of" (defArgs s_parts_of) (defBody s_parts_of) (defScope s_parts_of) [] [] a fd ∧ Binds K fd ["places", "size"] []
  f_is_free : ∃ (a : Addr) (fd : FuncData), mg "is_free" = some (.ref a) ∧ PySem.W.keepIn K (.ref a) = true ∧ FunD K "is_free" "is_free" (defArgs s_is_free) (defBody s_is_free) (defScope s_is_free) [] [] a fd ∧ Binds K fd ["words", "look", "room", "numbers", "places"] []
  f_rests : ∃ (a : Addr) (fd : FuncData), mg "rests" = some (.ref a) ∧ PySem.W.keepIn K (.ref a) = true ∧ FunD K "rests" "rests" (defArgs s_rests) (defBody s_rests) (defScope s_rests) [] [] a fd ∧ Binds K fd ["words", "look", "room", "numbers"] []
  f_left_out : ∃ (a : Addr) (fd : FuncData), mg "left_out" = some (.ref a) ∧ PySem.W.keepIn K (.ref a) = true ∧ FunD K "left_out" "left_out" (defArgs s_left_out) (defBody s_left_out) (defScope s_left_out) [] [] a fd ∧ Binds K fd ["words", "look", "room", "numbers"] []
  f__law_cell_at : ∃ (a : Addr) (fd : FuncData), mg "_law_cell_at" = some (.ref a) ∧ PySem.W.keepIn K (.ref a) = true ∧ FunD K "_law_cell_at" "_law_cell_at" (defArgs s__law_cell_at) (defBody s__law_cell_at) (defScope s__law_cell_at) [] [] a fd ∧ Binds K fd ["_law_script", "_law_k"] []
  f__law_mixed : ∃ (a : Addr) (fd : FuncData), mg "_law_mixed" = some (.ref a) ∧ PySem.W.keepIn K (.ref a) = true ∧ FunD K "_law_mixed" "_law_mixed" (defArgs s__law_mixed) (defBody s__law_mixed) (defScope s__law_mixed) [] [] a fd ∧ Binds K fd ["_law_script", "_law_k", "_law_many"] []
  f__law_draw : ∃ (a : Addr) (fd : FuncData), mg "_law_draw" = some (.ref a) ∧ PySem.W.keepIn K (.ref a) = true ∧ FunD K "_law_draw" "_law_draw" (defArgs s__law_draw) (defBody s__law_draw) (defScope s__law_draw) [] [] a fd ∧ Binds K fd ["_law_script", "_law_town", "_law_many"] []
  f__law_pick : ∃ (a : Addr) (fd : FuncData), mg "_law_pick" = some (.ref a) ∧ PySem.W.keepIn K (.ref a) = true ∧ FunD K "_law_pick" "_law_pick" (defArgs s__law_pick) (defBody s__law_pick) (defScope s__law_pick) [] [] a fd ∧ Binds K fd ["_law_script", "_law_town", "_law_some"] []
  f__law_word : ∃ (a : Addr) (fd : FuncData), mg "_law_word" = some (.ref a) ∧ PySem.W.keepIn K (.ref a) = true ∧ FunD K "_law_word" "_law_word" (defArgs s__law_word) (defBody s__law_word) (defScope s__law_word) [] [] a fd ∧ Binds K fd ["_law_script", "_law_town", "_law_letters_here", "_law_most"] []
  f__law_words : ∃ (a : Addr) (fd : FuncData), mg "_law_words" = some (.ref a) ∧ PySem.W.keepIn K (.ref a) = true ∧ FunD K "_law_words" "_law_words" (defArgs s__law_words) (defBody s__law_words) (defScope s__law_words) [] [] a fd ∧ Binds K fd ["_law_script", "_law_town", "_law_most"] []
  f__law_look : ∃ (a : Addr) (fd : FuncData), mg "_law_look" = some (.ref a) ∧ PySem.W.keepIn K (.ref a) = true ∧ FunD K "_law_look" "_law_look" (defArgs s__law_look) (defBody s__law_look) (defScope s__law_look) [] [] a fd ∧ Binds K fd ["_law_script", "_law_town"] []
  f__law_at : ∃ (a : Addr) (fd : FuncData), mg "_law_at" = some (.ref a) ∧ PySem.W.keepIn K (.ref a) = true ∧ FunD K "_law_at" "_law_at" (defArgs s__law_at) (defBody s__law_at) (defScope s__law_at) [] [] a fd ∧ Binds K fd ["_law_word_here", "_law_place"] []
  f__law_seen : ∃ (a : Addr) (fd : FuncData), mg "_law_seen" = some (.ref a) ∧ PySem.W.keepIn K (.ref a) = true ∧ FunD K "_law_seen" "_law_seen" (defArgs s__law_seen) (defBody s__law_seen) (defScope s__law_seen) [] [] a fd ∧ Binds K fd ["_law_words_here", "_law_look_here"] []
  f__law_letters : ∃ (a : Addr) (fd : FuncData), mg "_law_letters" = some (.ref a) ∧ PySem.W.keepIn K (.ref a) = true ∧ FunD K "_law_letters" "_law_letters" (defArgs s__law_letters) (defBody s__law_letters) (defScope s__law_letters) [] [] a fd ∧ Binds K fd ["_law_words_here", "_law_look_here"] []
  f__law_by : ∃ (a : Addr) (fd : FuncData), mg "_law_by" = some (.ref a) ∧ PySem.W.keepIn K (.ref a) = true ∧ FunD K "_law_by" "_law_by" (defArgs s__law_by) (defBody s__law_by) (defScope s__law_by) [] [] a fd ∧ Binds K fd ["_law_words_here", "_law_look_here", "_law_room", "_law_book"] []
  f__law_told : ∃ (a : Addr) (fd : FuncData), mg "_law_told" = some (.ref a) ∧ PySem.W.keepIn K (.ref a) = true ∧ FunD K "_law_told" "_law_told" (defArgs s__law_told) (defBody s__law_told) (defScope s__law_told) [] [] a fd ∧ Binds K fd ["_law_script", "_law_town", "_law_most", "_law_wide"] []
  f__law_every : ∃ (a : Addr) (fd : FuncData), mg "_law_every" = some (.ref a) ∧ PySem.W.keepIn K (.ref a) = true ∧ FunD K "_law_every" "_law_every" (defArgs s__law_every) (defBody s__law_every) (defScope s__law_every) [] [] a fd ∧ Binds K fd ["_law_words_here", "_law_look_here", "_law_room"] []
  f_law : ∃ (a : Addr) (fd : FuncData), mg "law" = some (.ref a) ∧ PySem.W.keepIn K (.ref a) = true ∧ FunD K "law" "law" (defArgs s_law) (defBody s_law) (defScope s_law) [] [] a fd ∧ Binds K fd ["_law_script"] []
section
variable {P : Program} {w : World} {K : PySem.W.Frag} {mg : Str → Option Value} {base : Heap} {cl : Nat → Addr}
abbrev N_is_whole : List Str := ["thing", "low", "most"]
theorem sc_is_whole : FnScope N_is_whole ["thing", "low", "most"] (defScope s_is_whole) := ⟨rfl, rfl, rfl, by decide +kernel, rfl, by decide +kernel, by decide +kernel⟩
theorem w_is_whole (T : TX P w K mg base cl) : Dfn P w K mg base cl 1 "is_whole" ["thing", "low", "most"] d_is_whole := by
  obtain ⟨a, fd, g1, g2, F, b⟩ := T.f_is_whole
  exact ⟨a, fd, g1, g2, b, fn_ok F sc_is_whole fun cdv A outer s H E hr => by
    exact ds_one (ds_ret (de_and (de_isi T.n_isinstance T.n_int bt_int (de_var 0)) (de_and (de_not (de_isi T.n_isinstance T.n_bool bt_bool (de_var 0))) (de_one (de_chain op_les gLe op_les gLe (de_var 1) (de_var 0) (de_var 2))))))⟩
abbrev N_is_word : List Str := ["thing"]
theorem sc_is_word : FnScope N_is_word ["thing"] (defScope s_is_word) := ⟨rfl, rfl, rfl, by decide +kernel, rfl, by decide +kernel, by decide +kernel⟩
theorem w_is_word (T : TX P w K mg base cl) : Dfn P w K mg base cl 1 "is_word" ["thing"] d_is_word := by
  obtain ⟨a, fd, g1, g2, F, b⟩ := T.f_is_word
  exact ⟨a, fd, g1, g2, b, fn_ok F sc_is_word fun cdv A outer s H E hr => by
    exact ds_one (ds_ret (de_and (de_isi T.n_isinstance T.n_str bt_str (de_var 0)) (de_and (de_chain op_les gLe op_les gLe (de_int) (de_callB call_len gLen T.n_len bt_len (da_cons (de_var 0) (da_nil))) (de_glob T.g_LONG)) (de_one (de_cmp (op_eqD (rm64 hr)) gEq (de_meth PySem.F.plainAttrs_str PySem.F.slot_str_strip PySem.F.type_str_strip mt_stripChars gStrip (de_var 0) (da_cons (de_glob T.g_LETTERS) (da_nil))) (de_str []))))))⟩
abbrev N_are_words : List Str := ["thing", "word"]
theorem sc_are_words : FnScope N_are_words ["thing"] (defScope s_are_words) := ⟨rfl, rfl, rfl, by decide +kernel, rfl, by decide +kernel, by decide +kernel⟩
theorem w_are_words (T : TX P w K mg base cl) : Dfn P w K mg base cl 2 "are_words" ["thing"] d_are_words := by
  obtain ⟨a, fd, g1, g2, F, b⟩ := T.f_are_words
  exact ⟨a, fd, g1, g2, b, fn_ok F sc_are_words fun cdv A outer s H E hr => by
    exact ds_cons (ds_if (dt_w (dw_or (dt_not (dt_val (de_isi T.n_isinstance T.n_tuple bt_tuple (de_var 0)))) (dw_or (dt_not (dt_chain op_les gLe op_les gLe (de_int) (de_callB call_len gLen T.n_len bt_len (da_cons (de_var 0) (da_nil))) (de_glob T.g_MANY))) (dw_one_or (dt_not (dt_val (de_callB (cr_all rfl) gAll T.n_all bt_all (da_cons (de_lc [("word", 1)] rfl sc_are_words.nd (di_of (de_var 0)) (blkOk_by (N := N_are_words) (sc := defScope s_are_words) (by decide +kernel)) (fun s' H' C ce fp => dg_name 1 sc_are_words.nd) (fun s' H' C ce fp => dps_nil) (fun s' H' C ce fp => de_call (w_is_word T) hr (da_cons (de_var 1) (da_nil))) (bin_name)) (da_nil))))))))) (ds_one (ds_ret (de_bl))) (ds_nil)) (ds_one (ds_ret (de_cmp (op_eqD (rm64 hr)) gEq (de_lenSet rfl T.n_len T.n_set (de_var 0)) (de_callB call_len gLen T.n_len bt_len (da_cons (de_var 0) (da_nil))))))⟩
abbrev N_is_look : List Str := ["thing", "one"]
theorem sc_is_look : FnScope N_is_look ["thing"] (defScope s_is_look) := ⟨rfl, rfl, rfl, by decide +kernel, rfl, by decide +kernel, by decide +kernel⟩
theorem w_is_look (T : TX P w K mg base cl) : Dfn P w K mg base cl 2 "is_look" ["thing"] d_is_look := by
  obtain ⟨a, fd, g1, g2, F, b⟩ := T.f_is_look
  exact ⟨a, fd, g1, g2, b, fn_ok F sc_is_look fun cdv A outer s H E hr => by
    exact ds_cons (ds_if (dt_w (dw_or (dt_not (dt_val (de_isi T.n_isinstance T.n_tuple bt_tuple (de_var 0)))) (dw_one_or (dt_cmp (op_neD (rm64 hr)) gNe (de_callB call_len gLen T.n_len bt_len (da_cons (de_var 0) (da_nil))) (de_int))))) (ds_one (ds_ret (de_bl))) (ds_nil)) (ds_one (ds_ret (de_callB (cr_all rfl) gAll T.n_all bt_all (da_cons (de_lc [("one", 1)] rfl sc_is_look.nd (di_of (de_var 0)) (blkOk_by (N := N_is_look) (sc := defScope s_is_look) (by decide +kernel)) (fun s' H' C ce fp => dg_name 1 sc_is_look.nd) (fun s' H' C ce fp => dps_nil) (fun s' H' C ce fp => de_call (w_is_whole T) hr (da_cons (de_var 1) (da_cons (de_op op_sub gSub (de_op op_sub gSub (de_int) (de_glob T.g_FAR)) (de_int)) (da_cons (de_glob T.g_FAR) (da_nil))))) (bin_name)) (da_nil)))))⟩
abbrev N_need_both : List Str := ["words", "look"]
theorem sc_need_both : FnScope N_need_both ["words", "look"] (defScope s_need_both) := ⟨rfl, rfl, rfl, by decide +kernel, rfl, by decide +kernel, by decide +kernel⟩
theorem w_need_both (T : TX P w K mg base cl) : Dfn P w K mg base cl 3 "need_both" ["words", "look"] d_need_both := by
  obtain ⟨a, fd, g1, g2, F, b⟩ := T.f_need_both
  exact ⟨a, fd, g1, g2, b, fn_ok F sc_need_both fun cdv A outer s H E hr => by
    exact ds_cons (ds_if (dt_not (dt_val (de_call (w_are_words T) hr (da_cons (de_var 0) (da_nil))))) (ds_one (ds_raise T.e_NoWords rfl)) (ds_nil)) (ds_one (ds_if (dt_not (dt_val (de_call (w_is_look T) hr (da_cons (de_var 1) (da_nil))))) (ds_one (ds_raise T.e_NoLook rfl)) (ds_nil)))⟩
abbrev N_need_room : List Str := ["room"]
theorem sc_need_room : FnScope N_need_room ["room"] (defScope s_need_room) := ⟨rfl, rfl, rfl, by decide +kernel, rfl, by decide +kernel, by decide +kernel⟩
theorem w_need_room (T : TX P w K mg base cl) : Dfn P w K mg base cl 2 "need_room" ["room"] d_need_room := by
  obtain ⟨a, fd, g1, g2, F, b⟩ := T.f_need_room
  exact ⟨a, fd, g1, g2, b, fn_ok F sc_need_room fun cdv A outer s H E hr => by
    exact ds_one (ds_if (dt_not (dt_val (de_call (w_is_whole T) hr (da_cons (de_var 0) (da_cons (de_int) (da_cons (de_glob T.g_ROOM) (da_nil))))))) (ds_one (ds_raise T.e_NoRoom rfl)) (ds_nil))⟩
abbrev N_letter_at : List Str := ["word", "place"]
theorem sc_letter_at : FnScope N_letter_at ["word", "place"] (defScope s_letter_at) := ⟨rfl, rfl, rfl, by decide +kernel, rfl, by decide +kernel, by decide +kernel⟩
theorem w_letter_at (T : TX P w K mg base cl) : Dfn P w K mg base cl 1 "letter_at" ["word", "place"] d_letter_at := by
  obtain ⟨a, fd, g1, g2, F, b⟩ := T.f_letter_at
  exact ⟨a, fd, g1, g2, b, fn_ok F sc_letter_at fun cdv A outer s H E hr => by
    exact ds_cons (ds_if (dt_cmp op_ge gGe (de_var 1) (de_int)) (ds_one (ds_ret (de_ix (ix_all (rm1 hr)) gIx (de_var 0) (de_callB (call_min2 rfl) gMin2 T.n_min bt_min (da_cons (de_var 1) (da_cons (de_op op_sub gSub (de_callB call_len gLen T.n_len bt_len (da_cons (de_var 0) (da_nil))) (de_int)) (da_nil))))))) (ds_nil)) (ds_one (ds_ret (de_ix (ix_all (rm1 hr)) gIx (de_var 0) (de_callB (call_max2 rfl) gMax2 T.n_max bt_max (da_cons (de_var 1) (da_cons (de_op op_sub gSub (de_int) (de_callB call_len gLen T.n_len bt_len (da_cons (de_var 0) (da_nil)))) (da_nil)))))))⟩
abbrev N_pair_of : List Str := ["word", "look"]
theorem sc_pair_of : FnScope N_pair_of ["word", "look"] (defScope s_pair_of) := ⟨rfl, rfl, rfl, by decide +kernel, rfl, by decide +kernel, by decide +kernel⟩
theorem w_pair_of (T : TX P w K mg base cl) : Dfn P w K mg base cl 2 "pair_of" ["word", "look"] d_pair_of := by
  obtain ⟨a, fd, g1, g2, F, b⟩ := T.f_pair_of
  exact ⟨a, fd, g1, g2, b, fn_ok F sc_pair_of fun cdv A outer s H E hr => by
    exact ds_one (ds_ret (de_tup (da_cons (de_call (w_letter_at T) hr (da_cons (de_var 0) (da_cons (de_ix (ix_all (rm1 hr)) gIx (de_var 1) (de_int)) (da_nil)))) (da_cons (de_call (w_letter_at T) hr (da_cons (de_var 0) (da_cons (de_ix (ix_all (rm1 hr)) gIx (de_var 1) (de_int)) (da_nil)))) (da_nil)))))⟩
abbrev N_pairs_of : List Str := ["words", "look", "word"]
theorem sc_pairs_of : FnScope N_pairs_of ["words", "look"] (defScope s_pairs_of) := ⟨rfl, rfl, rfl, by decide +kernel, rfl, by decide +kernel, by decide +kernel⟩
theorem w_pairs_of (T : TX P w K mg base cl) : Dfn P w K mg base cl 3 "pairs_of" ["words", "look"] d_pairs_of := by
  obtain ⟨a, fd, g1, g2, F, b⟩ := T.f_pairs_of
  exact ⟨a, fd, g1, g2, b, fn_ok F sc_pairs_of fun cdv A outer s H E hr => by
    exact ds_one (ds_ret (de_lc [("word", 2)] rfl sc_pairs_of.nd (di_of (de_var 0)) (blkOk_by (N := N_pairs_of) (sc := defScope s_pairs_of) (by decide +kernel)) (fun s' H' C ce fp => dg_name 2 sc_pairs_of.nd) (fun s' H' C ce fp => dps_nil) (fun s' H' C ce fp => de_call (w_pair_of T) hr (da_cons (de_var 2) (da_cons (de_var 1) (da_nil)))) (bin_name)))⟩
abbrev N_letters_of : List Str := ["words", "look", "made", "pair"]
theorem sc_letters_of : FnScope N_letters_of ["words", "look"] (defScope s_letters_of) := ⟨rfl, rfl, rfl, by decide +kernel, rfl, by decide +kernel, by decide +kernel⟩
theorem w_letters_of (T : TX P w K mg base cl) : Dfn P w K mg base cl 4 "letters_of" ["words", "look"] d_letters_of := by
  obtain ⟨a, fd, g1, g2, F, b⟩ := T.f_letters_of
  exact ⟨a, fd, g1, g2, b, fn_ok F sc_letters_of fun cdv A outer s H E hr => by
    exact ds_cons (ds_set (de_new (df_lst (da_nil))) 2 sc_letters_of.nd) (ds_cons (ds_for rfl (di_of (de_call (w_pairs_of T) hr (da_cons (de_var 0) (da_cons (de_var 1) (da_nil))))) (dg_name 3 sc_letters_of.nd) (ds_one (ds_expr (de_mutL PySem.F.slot_list_extend PySem.F.type_list_extend mt_extend gExtend (de_var 2) (da_cons (de_callTy (callr_or call_list_of (call_listT rfl)) gLists T.n_list bt_list (da_cons (de_var 3) (da_nil))) (da_nil)))))) (ds_one (ds_ret (de_sortSet rfl T.n_sorted T.n_set (de_var 2)))))⟩
abbrev N_are_numbers : List Str := ["words", "room", "thing", "one"]
theorem sc_are_numbers : FnScope N_are_numbers ["words", "room", "thing"] (defScope s_are_numbers) := ⟨rfl, rfl, rfl, by decide +kernel, rfl, by decide +kernel, by decide +kernel⟩
theorem w_are_numbers (T : TX P w K mg base cl) : Dfn P w K mg base cl 2 "are_numbers" ["words", "room", "thing"] d_are_numbers := by
  obtain ⟨a, fd, g1, g2, F, b⟩ := T.f_are_numbers
  exact ⟨a, fd, g1, g2, b, fn_ok F sc_are_numbers fun cdv A outer s H E hr => by
    exact ds_cons (ds_if (dt_w (dw_or (dt_not (dt_val (de_isi T.n_isinstance T.n_tuple bt_tuple (de_var 2)))) (dw_one_or (dt_cmp (op_neD (rm64 hr)) gNe (de_callB call_len gLen T.n_len bt_len (da_cons (de_var 2) (da_nil))) (de_callB call_len gLen T.n_len bt_len (da_cons (de_var 0) (da_nil))))))) (ds_one (ds_ret (de_bl))) (ds_nil)) (ds_one (ds_ret (de_callB (cr_all rfl) gAll T.n_all bt_all (da_cons (de_lc [("one", 3)] rfl sc_are_numbers.nd (di_of (de_var 2)) (blkOk_by (N := N_are_numbers) (sc := defScope s_are_numbers) (by decide +kernel)) (fun s' H' C ce fp => dg_name 3 sc_are_numbers.nd) (fun s' H' C ce fp => dps_nil) (fun s' H' C ce fp => de_call (w_is_whole T) hr (da_cons (de_var 3) (da_cons (de_int) (da_cons (de_op op_sub gSub (de_var 1) (de_int)) (da_nil))))) (bin_name)) (da_nil)))))⟩
abbrev N_need_numbers : List Str := ["words", "room", "thing"]
theorem sc_need_numbers : FnScope N_need_numbers ["words", "room", "thing"] (defScope s_need_numbers) := ⟨rfl, rfl, rfl, by decide +kernel, rfl, by decide +kernel, by decide +kernel⟩
theorem w_need_numbers (T : TX P w K mg base cl) : Dfn P w K mg base cl 3 "need_numbers" ["words", "room", "thing"] d_need_numbers := by
  obtain ⟨a, fd, g1, g2, F, b⟩ := T.f_need_numbers
  exact ⟨a, fd, g1, g2, b, fn_ok F sc_need_numbers fun cdv A outer s H E hr => by
    exact ds_one (ds_if (dt_not (dt_val (de_call (w_are_numbers T) hr (da_cons (de_var 0) (da_cons (de_var 1) (da_cons (de_var 2) (da_nil))))))) (ds_one (ds_raise T.e_NoNumbers rfl)) (ds_nil))⟩
abbrev N_walk_from : List Str := ["words", "look", "start", "some", "found", "row", "here", "place", "one", "other", "now", "later"]
theorem sc_walk_from : FnScope N_walk_from ["words", "look", "start"] (defScope s_walk_from) := ⟨rfl, rfl, rfl, by decide +kernel, rfl, by decide +kernel, by decide +kernel⟩
theorem w_walk_from (T : TX P w K mg base cl) : Dfn P w K mg base cl 4 "walk_from" ["words", "look", "start"] d_walk_from := by
  obtain ⟨a, fd, g1, g2, F, b⟩ := T.f_walk_from
  exact ⟨a, fd, g1, g2, b, fn_ok F sc_walk_from fun cdv A outer s H E hr => by
    exact ds_cons (ds_set (de_call (w_pairs_of T) hr (da_cons (de_var 0) (da_cons (de_var 1) (da_nil)))) 3 sc_walk_from.nd) (ds_cons (ds_set (de_disp1 (de_var 2) (de_lst (da_nil))) 4 sc_walk_from.nd) (ds_cons (ds_set (de_new (df_lst (da_cons (de_var 2) (da_nil)))) 5 sc_walk_from.nd) (ds_cons (ds_while (dt_cmp (op_neD (rm64 hr)) gNe (de_var 5) (de_lst (da_nil))) (ds_cons (ds_set (de_mutL PySem.F.slot_list_pop PySem.F.type_list_pop mt_popAt gPop0 (de_var 5) (da_cons (de_int) (da_nil))) 6 sc_walk_from.nd) (ds_one (ds_for rfl (di_enum T.n_enumerate (de_var 3)) (dg_tup rfl (dgs_cons (dg_name 7 sc_walk_from.nd) (dgs_cons (dg_tup rfl (dgs_cons (dg_name 8 sc_walk_from.nd) (dgs_cons (dg_name 9 sc_walk_from.nd) (dgs_nil)))) (dgs_nil)))) (ds_one (ds_for rfl (di_of (de_tup (da_cons (de_tup (da_cons (de_var 8) (da_cons (de_var 9) (da_nil)))) (da_cons (de_tup (da_cons (de_var 9) (da_cons (de_var 8) (da_nil)))) (da_nil))))) (dg_tup rfl (dgs_cons (dg_name 10 sc_walk_from.nd) (dgs_cons (dg_name 11 sc_walk_from.nd) (dgs_nil)))) (ds_one (ds_if (dt_w (dw_and (dt_cmp (op_eqD (rm64 hr)) gEq (de_var 10) (de_var 6)) (dw_one_and (dt_cmp (op_notIns (rm65 hr)) gNotIn (de_var 11) (de_var 4))))) (ds_cons (ds_put (rm1 hr) (de_op op_adds gAdd (de_ix (ix_all (rm1 hr)) gIx (de_var 4) (de_var 6)) (de_lst (da_cons (de_var 7) (da_nil)))) (de_var 4) (de_var 11)) (ds_one (ds_expr (de_mutL PySem.F.slot_list_append PySem.F.type_list_append mt_append gAppend (de_var 5) (da_cons (de_var 11) (da_nil)))))) (ds_nil))))))))) (ds_one (ds_ret (de_fin (de_var 4)))))))⟩
abbrev N_groups : List Str := ["words", "look", "left", "made", "found", "letter"]
theorem sc_groups : FnScope N_groups ["words", "look"] (defScope s_groups) := ⟨rfl, rfl, rfl, by decide +kernel, rfl, by decide +kernel, by decide +kernel⟩
theorem w_groups (T : TX P w K mg base cl) : Dfn P w K mg base cl 5 "groups" ["words", "look"] d_groups := by
  obtain ⟨a, fd, g1, g2, F, b⟩ := T.f_groups
  exact ⟨a, fd, g1, g2, b, fn_ok F sc_groups fun cdv A outer s H E hr => by
    exact ds_cons (ds_set (de_call (w_letters_of T) hr (da_cons (de_var 0) (da_cons (de_var 1) (da_nil)))) 2 sc_groups.nd) (ds_cons (ds_set (de_new (df_lst (da_nil))) 3 sc_groups.nd) (ds_cons (ds_while (dt_cmp (op_neD (rm64 hr)) gNe (de_var 2) (de_lst (da_nil))) (ds_cons (ds_set (de_call (w_walk_from T) hr (da_cons (de_var 0) (da_cons (de_var 1) (da_cons (de_ix (ix_all (rm1 hr)) gIx (de_var 2) (de_int)) (da_nil))))) 4 sc_groups.nd) (ds_cons (ds_expr (de_mutL PySem.F.slot_list_append PySem.F.type_list_append mt_append gAppend (de_var 3) (da_cons (de_tup (da_cons (de_ix (ix_all (rm1 hr)) gIx (de_var 2) (de_int)) (da_cons (de_var 4) (da_nil)))) (da_nil)))) (ds_one (ds_setLc [("letter", 5)] rfl sc_groups.nd (di_of (de_var 2)) (blkOk_by (N := N_groups) (sc := defScope s_groups) (by decide +kernel)) (fun s' H' C ce fp => dg_name 5 sc_groups.nd) (fun s' H' C ce fp => dps_one (dt_cmp (op_notIns (rm65 hr)) gNotIn (de_var 5) (de_var 4))) (fun s' H' C ce fp => de_var 5) (bin_name) (sw_true rfl rfl rfl (by decide +kernel))))))) (ds_one (ds_ret (de_fin (de_var 3))))))⟩
abbrev N_closed : List Str := ["words", "look", "start", "found", "made", "place", "one", "other"]
theorem sc_closed : FnScope N_closed ["words", "look", "start", "found"] (defScope s_closed) := ⟨rfl, rfl, rfl, by decide +kernel, rfl, by decide +kernel, by decide +kernel⟩
theorem w_closed (T : TX P w K mg base cl) : Dfn P w K mg base cl 4 "closed" ["words", "look", "start", "found"] d_closed := by
  obtain ⟨a, fd, g1, g2, F, b⟩ := T.f_closed
  exact ⟨a, fd, g1, g2, b, fn_ok F sc_closed fun cdv A outer s H E hr => by
    exact ds_cons (ds_set (de_new (df_lst (da_nil))) 4 sc_closed.nd) (ds_cons (ds_for rfl (di_enum T.n_enumerate (de_call (w_pairs_of T) hr (da_cons (de_var 0) (da_cons (de_var 1) (da_nil))))) (dg_tup rfl (dgs_cons (dg_name 5 sc_closed.nd) (dgs_cons (dg_tup rfl (dgs_cons (dg_name 6 sc_closed.nd) (dgs_cons (dg_name 7 sc_closed.nd) (dgs_nil)))) (dgs_nil)))) (ds_one (ds_if (dt_cmp (op_ins (rm65 hr)) gIn (de_var 6) (de_var 3)) (ds_one (ds_expr (de_mutL PySem.F.slot_list_append PySem.F.type_list_append mt_append gAppend (de_var 4) (da_cons (de_op op_adds gAdd (de_op op_adds gAdd (de_ix (ix_all (rm1 hr)) gIx (de_var 3) (de_var 6)) (de_lst (da_cons (de_var 5) (da_nil)))) (de_revL (de_ix (ix_all (rm1 hr)) gIx (de_var 3) (de_var 7)))) (da_nil))))) (ds_nil)))) (ds_one (ds_ret (de_fin (de_var 4)))))⟩
abbrev N_alternate : List Str := ["numbers", "walk", "total", "place"]
theorem sc_alternate : FnScope N_alternate ["numbers", "walk"] (defScope s_alternate) := ⟨rfl, rfl, rfl, by decide +kernel, rfl, by decide +kernel, by decide +kernel⟩
theorem w_alternate (T : TX P w K mg base cl) : Dfn P w K mg base cl 1 "alternate" ["numbers", "walk"] d_alternate := by
  obtain ⟨a, fd, g1, g2, F, b⟩ := T.f_alternate
  exact ⟨a, fd, g1, g2, b, fn_ok F sc_alternate fun cdv A outer s H E hr => by
    exact ds_cons (ds_set (de_int) 2 sc_alternate.nd) (ds_cons (ds_for rfl (di_of (de_var 1)) (dg_name 3 sc_alternate.nd) (ds_one (ds_set (de_op op_sub gSub (de_ix (ix_all (rm1 hr)) gIx (de_var 0) (de_var 3)) (de_var 2)) 2 sc_alternate.nd))) (ds_one (ds_ret (de_var 2))))⟩
abbrev N_bar_in : List Str := ["words", "look", "room", "numbers", "start", "found", "odd", "walk", "total"]
theorem sc_bar_in : FnScope N_bar_in ["words", "look", "room", "numbers"] (defScope s_bar_in) := ⟨rfl, rfl, rfl, by decide +kernel, rfl, by decide +kernel, by decide +kernel⟩
theorem w_bar_in (T : TX P w K mg base cl) : Dfn P w K mg base cl 6 "bar_in" ["words", "look", "room", "numbers"] d_bar_in := by
  obtain ⟨a, fd, g1, g2, F, b⟩ := T.f_bar_in
  exact ⟨a, fd, g1, g2, b, fn_ok F sc_bar_in fun cdv A outer s H E hr => by
    exact ds_cons (ds_for rfl (di_of (de_call (w_groups T) hr (da_cons (de_var 0) (da_cons (de_var 1) (da_nil))))) (dg_tup rfl (dgs_cons (dg_name 4 sc_bar_in.nd) (dgs_cons (dg_name 5 sc_bar_in.nd) (dgs_nil)))) (ds_cons (ds_set (de_non) 6 sc_bar_in.nd) (ds_one (ds_for rfl (di_of (de_call (w_closed T) hr (da_cons (de_var 0) (da_cons (de_var 1) (da_cons (de_var 4) (da_cons (de_var 5) (da_nil))))))) (dg_name 7 sc_bar_in.nd) (ds_cons (ds_set (de_op op_mod gMod (de_call (w_alternate T) hr (da_cons (de_var 3) (da_cons (de_var 7) (da_nil)))) (de_var 2)) 8 sc_bar_in.nd) (ds_cons (ds_if (dt_w (dw_and (dt_cmp (op_eqD (rm64 hr)) gEq (de_op op_mod gMod (de_callB call_len gLen T.n_len bt_len (da_cons (de_var 7) (da_nil))) (de_int)) (de_int)) (dw_one_and (dt_cmp (op_neD (rm64 hr)) gNe (de_var 8) (de_int))))) (ds_one (ds_ret (de_tup (da_cons (de_var 4) (da_cons (de_var 7) (da_nil)))))) (ds_nil)) (ds_one (ds_if (dt_cmp (op_eqD (rm64 hr)) gEq (de_op op_mod gMod (de_callB call_len gLen T.n_len bt_len (da_cons (de_var 7) (da_nil))) (de_int)) (de_int)) (ds_cons (ds_if (dt_w (dw_and (dt_cmp (op_eqD (rm64 hr)) gEq (de_op op_mod gMod (de_var 2) (de_int)) (de_int)) (dw_one_and (dt_cmp (op_eqD (rm64 hr)) gEq (de_op op_mod gMod (de_var 8) (de_int)) (de_int))))) (ds_one (ds_ret (de_tup (da_cons (de_var 4) (da_cons (de_var 7) (da_nil)))))) (ds_nil)) (ds_cons (ds_if (dt_w (dw_and (dt_cmp op_notN gIsNot (de_var 6) (de_non)) (dw_one_and (dt_cmp (op_neD (rm64 hr)) gNe (de_op op_mod gMod (de_op op_sub gSub (de_call (w_alternate T) hr (da_cons (de_var 3) (da_cons (de_var 6) (da_nil)))) (de_var 8)) (de_var 2)) (de_int))))) (ds_one (ds_ret (de_tup (da_cons (de_var 4) (da_cons (de_op op_adds gAdd (de_var 6) (de_var 7)) (da_nil)))))) (ds_nil)) (ds_one (ds_set (de_var 7) 6 sc_bar_in.nd)))) (ds_nil))))))))) (ds_one (ds_ret (de_non)))⟩
abbrev N_bar : List Str := ["words", "look", "room", "numbers"]
theorem sc_bar : FnScope N_bar ["words", "look", "room", "numbers"] (defScope s_bar) := ⟨rfl, rfl, rfl, by decide +kernel, rfl, by decide +kernel, by decide +kernel⟩
theorem w_bar (T : TX P w K mg base cl) : Dfn P w K mg base cl 7 "bar" ["words", "look", "room", "numbers"] d_bar := by
  obtain ⟨a, fd, g1, g2, F, b⟩ := T.f_bar
  exact ⟨a, fd, g1, g2, b, fn_ok F sc_bar fun cdv A outer s H E hr => by
    exact ds_cons (ds_expr (de_call (w_need_both T) hr (da_cons (de_var 0) (da_cons (de_var 1) (da_nil))))) (ds_cons (ds_expr (de_call (w_need_room T) hr (da_cons (de_var 2) (da_nil)))) (ds_cons (ds_expr (de_call (w_need_numbers T) hr (da_cons (de_var 0) (da_cons (de_var 2) (da_cons (de_var 3) (da_nil)))))) (ds_one (ds_ret (de_call (w_bar_in T) hr (da_cons (de_var 0) (da_cons (de_var 1) (da_cons (de_var 2) (da_cons (de_var 3) (da_nil))))))))))⟩
abbrev N_parts_of : List Str := ["places", "size", "made", "turn", "longer", "part", "place"]
theorem sc_parts_of : FnScope N_parts_of ["places", "size"] (defScope s_parts_of) := ⟨rfl, rfl, rfl, by decide +kernel, rfl, by decide +kernel, by decide +kernel⟩
theorem w_parts_of (T : TX P w K mg base cl) : Dfn P w K mg base cl 1 "parts_of" ["places", "size"] d_parts_of := by
  obtain ⟨a, fd, g1, g2, F, b⟩ := T.f_parts_of
  exact ⟨a, fd, g1, g2, b, fn_ok F sc_parts_of fun cdv A outer s H E hr => by
    exact ds_cons (ds_set (de_lst (da_cons (de_tup (da_nil)) (da_nil))) 2 sc_parts_of.nd) (ds_cons (ds_for rfl (di_range1 T.n_range (de_var 1)) (dg_name 3 sc_parts_of.nd) (ds_cons (ds_set (de_new (df_lst (da_nil))) 4 sc_parts_of.nd) (ds_cons (ds_for rfl (di_of (de_var 2)) (dg_name 5 sc_parts_of.nd) (ds_one (ds_expr (de_mutL PySem.F.slot_list_extend PySem.F.type_list_extend mt_extend gExtend (de_var 4) (da_cons (de_lc [("place", 6)] rfl sc_parts_of.nd (di_of (de_var 0)) (blkOk_by (N := N_parts_of) (sc := defScope s_parts_of) (by decide +kernel)) (fun s' H' C ce fp => dg_name 6 sc_parts_of.nd) (fun s' H' C ce fp => dps_one (dt_w (dw_or (dt_cmp (op_eqD (rm64 hr)) gEq (de_var 5) (de_tup (da_nil))) (dw_one_or (dt_cmp op_gt gGt (de_var 6) (de_ix (ix_all (rm1 hr)) gIx (de_var 5) (de_un un_neg gNeg (de_int)))))))) (fun s' H' C ce fp => de_op op_adds gAdd (de_var 5) (de_tup (da_cons (de_var 6) (da_nil)))) (bin_name)) (da_nil)))))) (ds_one (ds_set (de_fin (de_var 4)) 2 sc_parts_of.nd))))) (ds_one (ds_ret (de_var 2))))⟩
abbrev N_is_free : List Str := ["words", "look", "room", "numbers", "places", "some", "place"]
theorem sc_is_free : FnScope N_is_free ["words", "look", "room", "numbers", "places"] (defScope s_is_free) := ⟨rfl, rfl, rfl, by decide +kernel, rfl, by decide +kernel, by decide +kernel⟩
theorem w_is_free (T : TX P w K mg base cl) : Dfn P w K mg base cl 7 "is_free" ["words", "look", "room", "numbers", "places"] d_is_free := by
  obtain ⟨a, fd, g1, g2, F, b⟩ := T.f_is_free
  exact ⟨a, fd, g1, g2, b, fn_ok F sc_is_free fun cdv A outer s H E hr => by
    exact ds_cons (ds_set (de_callTy (callr_or call_tupleX (call_tupT rfl)) gTuples T.n_tuple bt_tuple (da_cons (de_lc [("place", 6)] rfl sc_is_free.nd (di_of (de_var 4)) (blkOk_by (N := N_is_free) (sc := defScope s_is_free) (by decide +kernel)) (fun s' H' C ce fp => dg_name 6 sc_is_free.nd) (fun s' H' C ce fp => dps_nil) (fun s' H' C ce fp => de_ix (ix_all (rm1 hr)) gIx (de_var 0) (de_var 6)) (bin_name)) (da_nil))) 5 sc_is_free.nd) (ds_cons (ds_if (dt_cmp (op_eqD (rm64 hr)) gEq (de_var 5) (de_tup (da_nil))) (ds_one (ds_ret (de_bl))) (ds_nil)) (ds_one (ds_ret (de_cmp op_isN gIs (de_call (w_bar_in T) hr (da_cons (de_var 5) (da_cons (de_var 1) (da_cons (de_var 2) (da_cons (de_callTy (callr_or call_tupleX (call_tupT rfl)) gTuples T.n_tuple bt_tuple (da_cons (de_lc [("place", 6)] rfl sc_is_free.nd (di_of (de_var 4)) (blkOk_by (N := N_is_free) (sc := defScope s_is_free) (by decide +kernel)) (fun s' H' C ce fp => dg_name 6 sc_is_free.nd) (fun s' H' C ce fp => dps_nil) (fun s' H' C ce fp => de_ix (ix_all (rm1 hr)) gIx (de_var 3) (de_var 6)) (bin_name)) (da_nil))) (da_nil)))))) (de_non)))))⟩
abbrev N_rests : List Str := ["words", "look", "room", "numbers", "every", "size", "some", "good", "part", "at"]
theorem sc_rests : FnScope N_rests ["words", "look", "room", "numbers"] (defScope s_rests) := ⟨rfl, rfl, rfl, by decide +kernel, rfl, by decide +kernel, by decide +kernel⟩
theorem w_rests (T : TX P w K mg base cl) : Dfn P w K mg base cl 8 "rests" ["words", "look", "room", "numbers"] d_rests := by
  obtain ⟨a, fd, g1, g2, F, b⟩ := T.f_rests
  exact ⟨a, fd, g1, g2, b, fn_ok F sc_rests fun cdv A outer s H E hr => by
    exact ds_cons (ds_set (de_listRg1 rfl T.n_list T.n_range (de_callB call_len gLen T.n_len bt_len (da_cons (de_var 0) (da_nil)))) 4 sc_rests.nd) (ds_cons (ds_for rfl (di_range1 T.n_range (de_op op_adds gAdd (de_callB call_len gLen T.n_len bt_len (da_cons (de_var 0) (da_nil))) (de_int))) (dg_name 5 sc_rests.nd) (ds_cons (ds_set (de_call (w_parts_of T) hr (da_cons (de_var 4) (da_cons (de_var 5) (da_nil)))) 6 sc_rests.nd) (ds_cons (ds_setLc [("part", 8)] rfl sc_rests.nd (di_of (de_var 6)) (blkOk_by (N := N_rests) (sc := defScope s_rests) (by decide +kernel)) (fun s' H' C ce fp => dg_name 8 sc_rests.nd) (fun s' H' C ce fp => dps_one (dt_val (de_call (w_is_free T) hr (da_cons (de_var 0) (da_cons (de_var 1) (da_cons (de_var 2) (da_cons (de_var 3) (da_cons (de_lc [("at", 9)] rfl sc_rests.nd (di_of (de_var 4)) (blkOk_by (by kernel_rfl)) (fun s' H' C ce fp => dg_name 9 sc_rests.nd) (fun s' H' C ce fp => dps_one (dt_cmp (op_notIns (rm65 hr)) gNotIn (de_var 9) (de_var 8))) (fun s' H' C ce fp => de_var 9) (bin_name)) (da_nil))))))))) (fun s' H' C ce fp => de_var 8) (bin_name) (sw_true rfl rfl rfl (by decide +kernel))) (ds_one (ds_if (dt_cmp (op_neD (rm64 hr)) gNe (de_var 7) (de_lst (da_nil))) (ds_one (ds_ret (de_var 7))) (ds_nil)))))) (ds_one (ds_ret (de_lst (da_nil)))))⟩
abbrev N_left_out : List Str := ["words", "look", "room", "numbers"]
theorem sc_left_out : FnScope N_left_out ["words", "look", "room", "numbers"] (defScope s_left_out) := ⟨rfl, rfl, rfl, by decide +kernel, rfl, by decide +kernel, by decide +kernel⟩
theorem w_left_out (T : TX P w K mg base cl) : Dfn P w K mg base cl 9 "left_out" ["words", "look", "room", "numbers"] d_left_out := by
  obtain ⟨a, fd, g1, g2, F, b⟩ := T.f_left_out
  exact ⟨a, fd, g1, g2, b, fn_ok F sc_left_out fun cdv A outer s H E hr => by
    exact ds_cons (ds_expr (de_call (w_need_both T) hr (da_cons (de_var 0) (da_cons (de_var 1) (da_nil))))) (ds_cons (ds_expr (de_call (w_need_room T) hr (da_cons (de_var 2) (da_nil)))) (ds_cons (ds_expr (de_call (w_need_numbers T) hr (da_cons (de_var 0) (da_cons (de_var 2) (da_cons (de_var 3) (da_nil)))))) (ds_one (ds_ret (de_ix (ix_all (rm1 hr)) gIx (de_call (w_rests T) hr (da_cons (de_var 0) (da_cons (de_var 1) (da_cons (de_var 2) (da_cons (de_var 3) (da_nil)))))) (de_int))))))⟩
abbrev N__law_cell_at : List Str := ["_law_script", "_law_k"]
theorem sc__law_cell_at : FnScope N__law_cell_at ["_law_script", "_law_k"] (defScope s__law_cell_at) := ⟨rfl, rfl, rfl, by decide +kernel, rfl, by decide +kernel, by decide +kernel⟩
theorem w__law_cell_at (T : TX P w K mg base cl) : Dfn P w K mg base cl 1 "_law_cell_at" ["_law_script", "_law_k"] d__law_cell_at := by
  obtain ⟨a, fd, g1, g2, F, b⟩ := T.f__law_cell_at
  exact ⟨a, fd, g1, g2, b, fn_ok F sc__law_cell_at fun cdv A outer s H E hr => by
    exact ds_cons (ds_if (dt_cmp op_lts gLt (de_var 1) (de_callB call_len gLen T.n_len bt_len (da_cons (de_var 0) (da_nil)))) (ds_one (ds_ret (de_ix (ix_all (rm1 hr)) gIx (de_var 0) (de_var 1)))) (ds_nil)) (ds_cons (ds_if (dt_cmp (op_eqD (rm64 hr)) gEq (de_var 0) (de_lst (da_nil))) (ds_one (ds_ret (de_int))) (ds_nil)) (ds_one (ds_ret (de_op op_adds gAdd (de_op op_muls gMul (de_ix (ix_all (rm1 hr)) gIx (de_var 0) (de_op op_mod gMod (de_var 1) (de_callB call_len gLen T.n_len bt_len (da_cons (de_var 0) (da_nil))))) (de_int)) (de_var 1)))))⟩
abbrev N__law_mixed : List Str := ["_law_script", "_law_k", "_law_many", "_law_drawn"]
theorem sc__law_mixed : FnScope N__law_mixed ["_law_script", "_law_k", "_law_many"] (defScope s__law_mixed) := ⟨rfl, rfl, rfl, by decide +kernel, rfl, by decide +kernel, by decide +kernel⟩
theorem w__law_mixed (T : TX P w K mg base cl) : Dfn P w K mg base cl 2 "_law_mixed" ["_law_script", "_law_k", "_law_many"] d__law_mixed := by
  obtain ⟨a, fd, g1, g2, F, b⟩ := T.f__law_mixed
  exact ⟨a, fd, g1, g2, b, fn_ok F sc__law_mixed fun cdv A outer s H E hr => by
    exact ds_cons (ds_set (de_op op_mod gMod (de_op op_adds gAdd (de_op op_adds gAdd (de_op op_muls gMul (de_call (w__law_cell_at T) hr (da_cons (de_var 0) (da_cons (de_var 1) (da_nil)))) (de_int)) (de_op op_muls gMul (de_int) (de_var 1))) (de_int)) (de_int)) 3 sc__law_mixed.nd) (ds_one (ds_ret (de_op op_mod gMod (de_op op_mod gMod (de_op op_mod gMod (de_op op_pow gPow (de_var 3) (de_int)) (de_int)) (de_int)) (de_var 2))))⟩
abbrev N__law_draw : List Str := ["_law_script", "_law_town", "_law_many"]
theorem sc__law_draw : FnScope N__law_draw ["_law_script", "_law_town", "_law_many"] (defScope s__law_draw) := ⟨rfl, rfl, rfl, by decide +kernel, rfl, by decide +kernel, by decide +kernel⟩
theorem w__law_draw (T : TX P w K mg base cl) : Dfn P w K mg base cl 3 "_law_draw" ["_law_script", "_law_town", "_law_many"] d__law_draw := by
  obtain ⟨a, fd, g1, g2, F, b⟩ := T.f__law_draw
  exact ⟨a, fd, g1, g2, b, fn_ok F sc__law_draw fun cdv A outer s H E hr => by
    exact ds_cons (ds_expr (de_mutL PySem.F.slot_list_append PySem.F.type_list_append mt_append gAppend (de_var 1) (da_cons (de_int) (da_nil)))) (ds_one (ds_ret (de_call (w__law_mixed T) hr (da_cons (de_var 0) (da_cons (de_callB call_len gLen T.n_len bt_len (da_cons (de_var 1) (da_nil))) (da_cons (de_var 2) (da_nil)))))))⟩
abbrev N__law_pick : List Str := ["_law_script", "_law_town", "_law_some"]
theorem sc__law_pick : FnScope N__law_pick ["_law_script", "_law_town", "_law_some"] (defScope s__law_pick) := ⟨rfl, rfl, rfl, by decide +kernel, rfl, by decide +kernel, by decide +kernel⟩
theorem w__law_pick (T : TX P w K mg base cl) : Dfn P w K mg base cl 4 "_law_pick" ["_law_script", "_law_town", "_law_some"] d__law_pick := by
  obtain ⟨a, fd, g1, g2, F, b⟩ := T.f__law_pick
  exact ⟨a, fd, g1, g2, b, fn_ok F sc__law_pick fun cdv A outer s H E hr => by
    exact ds_one (ds_ret (de_ix (ix_all (rm1 hr)) gIx (de_var 2) (de_call (w__law_draw T) hr (da_cons (de_var 0) (da_cons (de_var 1) (da_cons (de_callB call_len gLen T.n_len bt_len (da_cons (de_var 2) (da_nil))) (da_nil)))))))⟩
abbrev N__law_word : List Str := ["_law_script", "_law_town", "_law_letters_here", "_law_most", "_law_k"]
theorem sc__law_word : FnScope N__law_word ["_law_script", "_law_town", "_law_letters_here", "_law_most"] (defScope s__law_word) := ⟨rfl, rfl, rfl, by decide +kernel, rfl, by decide +kernel, by decide +kernel⟩
theorem w__law_word (T : TX P w K mg base cl) : Dfn P w K mg base cl 5 "_law_word" ["_law_script", "_law_town", "_law_letters_here", "_law_most"] d__law_word := by
  obtain ⟨a, fd, g1, g2, F, b⟩ := T.f__law_word
  exact ⟨a, fd, g1, g2, b, fn_ok F sc__law_word fun cdv A outer s H E hr => by
    exact ds_one (ds_ret (de_meth PySem.F.plainAttrs_str PySem.F.slot_str_join PySem.F.type_str_join mt_join gJoin (de_str []) (da_cons (de_lc [("_law_k", 4)] rfl sc__law_word.nd (di_range1 T.n_range (de_op op_adds gAdd (de_int) (de_call (w__law_draw T) hr (da_cons (de_var 0) (da_cons (de_var 1) (da_cons (de_var 3) (da_nil))))))) (blkOk_by (N := N__law_word) (sc := defScope s__law_word) (by decide +kernel)) (fun s' H' C ce fp => dg_name 4 sc__law_word.nd) (fun s' H' C ce fp => dps_nil) (fun s' H' C ce fp => de_call (w__law_pick T) hr (da_cons (de_var 0) (da_cons (de_var 1) (da_cons (de_var 2) (da_nil))))) (bin_name)) (da_nil))))⟩
abbrev N__law_words : List Str := ["_law_script", "_law_town", "_law_most", "_law_letters_here", "_law_made", "_law_k", "_law_word_here"]
theorem sc__law_words : FnScope N__law_words ["_law_script", "_law_town", "_law_most"] (defScope s__law_words) := ⟨rfl, rfl, rfl, by decide +kernel, rfl, by decide +kernel, by decide +kernel⟩
theorem w__law_words (T : TX P w K mg base cl) : Dfn P w K mg base cl 6 "_law_words" ["_law_script", "_law_town", "_law_most"] d__law_words := by
  obtain ⟨a, fd, g1, g2, F, b⟩ := T.f__law_words
  exact ⟨a, fd, g1, g2, b, fn_ok F sc__law_words fun cdv A outer s H E hr => by
    exact ds_cons (ds_set (de_call (w__law_pick T) hr (da_cons (de_var 0) (da_cons (de_var 1) (da_cons (de_lst (da_cons (de_lst (da_cons (de_str [97]) (da_cons (de_str [98]) (da_nil)))) (da_cons (de_lst (da_cons (de_str [97]) (da_cons (de_str [98]) (da_cons (de_str [99]) (da_nil))))) (da_cons (de_lst (da_cons (de_str [97]) (da_cons (de_str [98]) (da_cons (de_str [99]) (da_cons (de_str [100]) (da_nil)))))) (da_cons (de_lst (da_cons (de_str [107]) (da_cons (de_str [109]) (da_cons (de_str [122]) (da_cons (de_str [97]) (da_cons (de_str [101]) (da_nil))))))) (da_nil)))))) (da_nil))))) 3 sc__law_words.nd) (ds_cons (ds_set (de_new (df_lst (da_nil))) 4 sc__law_words.nd) (ds_cons (ds_for rfl (di_range1 T.n_range (de_op op_adds gAdd (de_int) (de_call (w__law_draw T) hr (da_cons (de_var 0) (da_cons (de_var 1) (da_cons (de_var 2) (da_nil))))))) (dg_name 5 sc__law_words.nd) (ds_cons (ds_set (de_call (w__law_word T) hr (da_cons (de_var 0) (da_cons (de_var 1) (da_cons (de_var 3) (da_cons (de_int) (da_nil)))))) 6 sc__law_words.nd) (ds_one (ds_if (dt_cmp (op_notIns (rm65 hr)) gNotIn (de_var 6) (de_var 4)) (ds_one (ds_expr (de_mutL PySem.F.slot_list_append PySem.F.type_list_append mt_append gAppend (de_var 4) (da_cons (de_var 6) (da_nil))))) (ds_nil))))) (ds_one (ds_ret (de_callTy (callr_or call_tupleX (call_tupT rfl)) gTuples T.n_tuple bt_tuple (da_cons (de_var 4) (da_nil)))))))⟩
abbrev N__law_look : List Str := ["_law_script", "_law_town"]
theorem sc__law_look : FnScope N__law_look ["_law_script", "_law_town"] (defScope s__law_look) := ⟨rfl, rfl, rfl, by decide +kernel, rfl, by decide +kernel, by decide +kernel⟩
theorem w__law_look (T : TX P w K mg base cl) : Dfn P w K mg base cl 4 "_law_look" ["_law_script", "_law_town"] d__law_look := by
  obtain ⟨a, fd, g1, g2, F, b⟩ := T.f__law_look
  exact ⟨a, fd, g1, g2, b, fn_ok F sc__law_look fun cdv A outer s H E hr => by
    exact ds_one (ds_ret (de_tup (da_cons (de_op op_sub gSub (de_call (w__law_draw T) hr (da_cons (de_var 0) (da_cons (de_var 1) (da_cons (de_int) (da_nil))))) (de_int)) (da_cons (de_op op_sub gSub (de_call (w__law_draw T) hr (da_cons (de_var 0) (da_cons (de_var 1) (da_cons (de_int) (da_nil))))) (de_int)) (da_nil)))))⟩
abbrev N__law_at : List Str := ["_law_word_here", "_law_place", "_law_spots", "_law_at_here"]
theorem sc__law_at : FnScope N__law_at ["_law_word_here", "_law_place"] (defScope s__law_at) := ⟨rfl, rfl, rfl, by decide +kernel, rfl, by decide +kernel, by decide +kernel⟩
theorem w__law_at (T : TX P w K mg base cl) : Dfn P w K mg base cl 1 "_law_at" ["_law_word_here", "_law_place"] d__law_at := by
  obtain ⟨a, fd, g1, g2, F, b⟩ := T.f__law_at
  exact ⟨a, fd, g1, g2, b, fn_ok F sc__law_at fun cdv A outer s H E hr => by
    exact ds_cons (ds_setLc [("_law_at_here", 3)] rfl sc__law_at.nd (di_range1 T.n_range (de_callB call_len gLen T.n_len bt_len (da_cons (de_var 0) (da_nil)))) (blkOk_by (N := N__law_at) (sc := defScope s__law_at) (by decide +kernel)) (fun s' H' C ce fp => dg_name 3 sc__law_at.nd) (fun s' H' C ce fp => dps_one (dt_w (dw_or (dt_cmp (op_eqD (rm64 hr)) gEq (de_var 3) (de_var 1)) (dw_one_or (dt_cmp (op_eqD (rm64 hr)) gEq (de_var 3) (de_op op_adds gAdd (de_var 1) (de_callB call_len gLen T.n_len bt_len (da_cons (de_var 0) (da_nil))))))))) (fun s' H' C ce fp => de_var 3) (bin_name) (sw_true rfl rfl rfl (by decide +kernel))) (ds_cons (ds_if (dt_cmp (op_neD (rm64 hr)) gNe (de_var 2) (de_lst (da_nil))) (ds_one (ds_ret (de_ix (ix_all (rm1 hr)) gIx (de_var 0) (de_ix (ix_all (rm1 hr)) gIx (de_var 2) (de_int))))) (ds_nil)) (ds_one (ds_ret (de_if (dt_cmp op_ge gGe (de_var 1) (de_int)) (de_ix (ix_all (rm1 hr)) gIx (de_var 0) (de_un un_neg gNeg (de_int))) (de_ix (ix_all (rm1 hr)) gIx (de_var 0) (de_int))))))⟩
abbrev N__law_seen : List Str := ["_law_words_here", "_law_look_here", "_law_word_here"]
theorem sc__law_seen : FnScope N__law_seen ["_law_words_here", "_law_look_here"] (defScope s__law_seen) := ⟨rfl, rfl, rfl, by decide +kernel, rfl, by decide +kernel, by decide +kernel⟩
theorem w__law_seen (T : TX P w K mg base cl) : Dfn P w K mg base cl 2 "_law_seen" ["_law_words_here", "_law_look_here"] d__law_seen := by
  obtain ⟨a, fd, g1, g2, F, b⟩ := T.f__law_seen
  exact ⟨a, fd, g1, g2, b, fn_ok F sc__law_seen fun cdv A outer s H E hr => by
    exact ds_one (ds_ret (de_lc [("_law_word_here", 2)] rfl sc__law_seen.nd (di_of (de_var 0)) (blkOk_by (N := N__law_seen) (sc := defScope s__law_seen) (by decide +kernel)) (fun s' H' C ce fp => dg_name 2 sc__law_seen.nd) (fun s' H' C ce fp => dps_nil) (fun s' H' C ce fp => de_tup (da_cons (de_call (w__law_at T) hr (da_cons (de_var 2) (da_cons (de_ix (ix_all (rm1 hr)) gIx (de_var 1) (de_int)) (da_nil)))) (da_cons (de_call (w__law_at T) hr (da_cons (de_var 2) (da_cons (de_ix (ix_all (rm1 hr)) gIx (de_var 1) (de_int)) (da_nil)))) (da_nil)))) (bin_name)))⟩
abbrev N__law_letters : List Str := ["_law_words_here", "_law_look_here", "_law_made", "_law_pair"]
theorem sc__law_letters : FnScope N__law_letters ["_law_words_here", "_law_look_here"] (defScope s__law_letters) := ⟨rfl, rfl, rfl, by decide +kernel, rfl, by decide +kernel, by decide +kernel⟩
theorem w__law_letters (T : TX P w K mg base cl) : Dfn P w K mg base cl 3 "_law_letters" ["_law_words_here", "_law_look_here"] d__law_letters := by
  obtain ⟨a, fd, g1, g2, F, b⟩ := T.f__law_letters
  exact ⟨a, fd, g1, g2, b, fn_ok F sc__law_letters fun cdv A outer s H E hr => by
    exact ds_cons (ds_set (de_new (df_lst (da_nil))) 2 sc__law_letters.nd) (ds_cons (ds_for rfl (di_of (de_call (w__law_seen T) hr (da_cons (de_var 0) (da_cons (de_var 1) (da_nil))))) (dg_name 3 sc__law_letters.nd) (ds_one (ds_expr (de_mutL PySem.F.slot_list_extend PySem.F.type_list_extend mt_extend gExtend (de_var 2) (da_cons (de_callTy (callr_or call_list_of (call_listT rfl)) gLists T.n_list bt_list (da_cons (de_var 3) (da_nil))) (da_nil)))))) (ds_one (ds_ret (de_sortSet rfl T.n_sorted T.n_set (de_var 2)))))⟩
abbrev N__law_by : List Str := ["_law_words_here", "_law_look_here", "_law_room", "_law_book", "_law_one", "_law_other"]
theorem sc__law_by : FnScope N__law_by ["_law_words_here", "_law_look_here", "_law_room", "_law_book"] (defScope s__law_by) := ⟨rfl, rfl, rfl, by decide +kernel, rfl, by decide +kernel, by decide +kernel⟩
theorem w__law_by (T : TX P w K mg base cl) : Dfn P w K mg base cl 3 "_law_by" ["_law_words_here", "_law_look_here", "_law_room", "_law_book"] d__law_by := by
  obtain ⟨a, fd, g1, g2, F, b⟩ := T.f__law_by
  exact ⟨a, fd, g1, g2, b, fn_ok F sc__law_by fun cdv A outer s H E hr => by
    exact ds_one (ds_ret (de_callTy (callr_or call_tupleX (call_tupT rfl)) gTuples T.n_tuple bt_tuple (da_cons (de_lc [("_law_one", 4), ("_law_other", 5)] rfl sc__law_by.nd (di_of (de_call (w__law_seen T) hr (da_cons (de_var 0) (da_cons (de_var 1) (da_nil))))) (blkOk_by (N := N__law_by) (sc := defScope s__law_by) (by decide +kernel)) (fun s' H' C ce fp => dg_tup rfl (dgs_cons (dg_name 4 sc__law_by.nd) (dgs_cons (dg_name 5 sc__law_by.nd) (dgs_nil)))) (fun s' H' C ce fp => dps_nil) (fun s' H' C ce fp => de_op op_mod gMod (de_op op_adds gAdd (de_ix (ix_all (rm1 hr)) gIx (de_var 3) (de_var 4)) (de_ix (ix_all (rm1 hr)) gIx (de_var 3) (de_var 5))) (de_var 2)) (bin_tup (bin_cons (bin_name) (bin_cons (bin_name) (bin_nil))))) (da_nil))))⟩
abbrev N__law_told : List Str := ["_law_script", "_law_town", "_law_most", "_law_wide", "_law_spoil", "_law_room", "_law_look_here", "_law_names", "_law_book", "_law_numbers", "_law_k", "_law_letter"]
theorem sc__law_told : FnScope N__law_told ["_law_script", "_law_town", "_law_most", "_law_wide"] (defScope s__law_told) := ⟨rfl, rfl, rfl, by decide +kernel, rfl, by decide +kernel, by decide +kernel⟩
theorem w__law_told (T : TX P w K mg base cl) : Dfn P w K mg base cl 7 "_law_told" ["_law_script", "_law_town", "_law_most", "_law_wide"] d__law_told := by
  obtain ⟨a, fd, g1, g2, F, b⟩ := T.f__law_told
  exact ⟨a, fd, g1, g2, b, fn_ok F sc__law_told fun cdv A outer s H E hr => by
    exact ds_cons (ds_set (de_call (w__law_draw T) hr (da_cons (de_var 0) (da_cons (de_var 1) (da_cons (de_int) (da_nil))))) 4 sc__law_told.nd) (ds_cons (ds_set (de_op op_adds gAdd (de_int) (de_call (w__law_draw T) hr (da_cons (de_var 0) (da_cons (de_var 1) (da_cons (de_var 3) (da_nil)))))) 5 sc__law_told.nd) (ds_cons (ds_set (de_call (w__law_look T) hr (da_cons (de_var 0) (da_cons (de_var 1) (da_nil)))) 6 sc__law_told.nd) (ds_cons (ds_set (de_call (w__law_words T) hr (da_cons (de_var 0) (da_cons (de_var 1) (da_cons (de_var 2) (da_nil))))) 7 sc__law_told.nd) (ds_cons (ds_set (de_frz (df_dict rfl T.n_dict (de_lc [("_law_letter", 11)] rfl sc__law_told.nd (di_of (de_call (w__law_letters T) hr (da_cons (de_var 7) (da_cons (de_var 6) (da_nil))))) (blkOk_by (N := N__law_told) (sc := defScope s__law_told) (by decide +kernel)) (fun s' H' C ce fp => dg_name 11 sc__law_told.nd) (fun s' H' C ce fp => dps_nil) (fun s' H' C ce fp => de_tup (da_cons (de_var 11) (da_cons (de_call (w__law_draw T) hr (da_cons (de_var 0) (da_cons (de_var 1) (da_cons (de_var 5) (da_nil))))) (da_nil)))) (bin_name)))) 8 sc__law_told.nd) (ds_cons (ds_set (de_new (df_listOf T.n_list (de_call (w__law_by T) hr (da_cons (de_var 7) (da_cons (de_var 6) (da_cons (de_var 5) (da_cons (de_var 8) (da_nil)))))))) 9 sc__law_told.nd) (ds_cons (ds_for rfl (di_range1 T.n_range (de_op op_muls gMul (de_op op_fdiv gDiv (de_var 4) (de_int)) (de_op op_adds gAdd (de_int) (de_op op_mod gMod (de_var 4) (de_int))))) (dg_name 10 sc__law_told.nd) (ds_one (ds_put (rm1 hr) (de_call (w__law_draw T) hr (da_cons (de_var 0) (da_cons (de_var 1) (da_cons (de_var 5) (da_nil))))) (de_var 9) (de_call (w__law_draw T) hr (da_cons (de_var 0) (da_cons (de_var 1) (da_cons (de_callB call_len gLen T.n_len bt_len (da_cons (de_var 9) (da_nil))) (da_nil)))))))) (ds_one (ds_ret (de_tup (da_cons (de_var 7) (da_cons (de_var 6) (da_cons (de_var 5) (da_cons (de_callTy (callr_or call_tupleX (call_tupT rfl)) gTuples T.n_tuple bt_tuple (da_cons (de_var 9) (da_nil))) (da_nil))))))))))))))⟩
abbrev N__law_every : List Str := ["_law_words_here", "_law_look_here", "_law_room", "_law_rows", "_law_letter", "_law_longer", "_law_line", "_law_worth"]
theorem sc__law_every : FnScope N__law_every ["_law_words_here", "_law_look_here", "_law_room"] (defScope s__law_every) := ⟨rfl, rfl, rfl, by decide +kernel, rfl, by decide +kernel, by decide +kernel⟩
theorem w__law_every (T : TX P w K mg base cl) : Dfn P w K mg base cl 4 "_law_every" ["_law_words_here", "_law_look_here", "_law_room"] d__law_every := by
  obtain ⟨a, fd, g1, g2, F, b⟩ := T.f__law_every
  exact ⟨a, fd, g1, g2, b, fn_ok F sc__law_every fun cdv A outer s H E hr => by
    exact ds_cons (ds_set (de_lst (da_cons (de_tup (da_nil)) (da_nil))) 3 sc__law_every.nd) (ds_cons (ds_for rfl (di_of (de_call (w__law_letters T) hr (da_cons (de_var 0) (da_cons (de_var 1) (da_nil))))) (dg_name 4 sc__law_every.nd) (ds_cons (ds_set (de_new (df_lst (da_nil))) 5 sc__law_every.nd) (ds_cons (ds_for rfl (di_of (de_var 3)) (dg_name 6 sc__law_every.nd) (ds_one (ds_expr (de_mutL PySem.F.slot_list_extend PySem.F.type_list_extend mt_extend gExtend (de_var 5) (da_cons (de_lc [("_law_worth", 7)] rfl sc__law_every.nd (di_range1 T.n_range (de_var 2)) (blkOk_by (N := N__law_every) (sc := defScope s__law_every) (by decide +kernel)) (fun s' H' C ce fp => dg_name 7 sc__law_every.nd) (fun s' H' C ce fp => dps_nil) (fun s' H' C ce fp => de_op op_adds gAdd (de_var 6) (de_tup (da_cons (de_tup (da_cons (de_var 4) (da_cons (de_var 7) (da_nil)))) (da_nil)))) (bin_name)) (da_nil)))))) (ds_one (ds_set (de_fin (de_var 5)) 3 sc__law_every.nd))))) (ds_one (ds_ret (de_var 3))))⟩
abbrev N_law : List Str := ["_law_script", "_law_town", "_law_names", "_law_look_here", "_law_room", "_law_numbers", "_law_best", "_law_line", "_law_here", "_law_wrong", "_law_at_here"]
noncomputable def st_0 : SM := sSet 1 (eNew (cLst (aNil)))
noncomputable def st_1 : SM := sAsg (bTup (bCons (bN 2) (bCons (bN 3) (bCons (bN 4) (bCons (bN 5) (bNil)))))) (eCall 4 d__law_told (aCons (eVar 0) (aCons (eVar 1) (aCons (eC (.int 5)) (aCons (eC (.int 4)) (aNil))))))
noncomputable def st_2 : SM := sSet 6 (eC .non)
noncomputable def st_3_0 : SM := sSet 8 (eCall 4 d__law_by (aCons (eVar 2) (aCons (eVar 3) (aCons (eVar 4) (aCons (eFrz (cDict (eVar 7))) (aNil))))))
noncomputable def st_3_1 : SM := sSet 9 (eOpN (pOne pTupleA) (aCons (eComp [10] (iRange1 (eOpN (pOne pLen) (aCons (eVar 2) (aNil)))) (bN 10) (toB (eOp2 pNe (eOp2 pIx (eVar 8) (eVar 10)) (eOp2 pIx (eVar 5) (eVar 10)))) (eVar 10)) (aNil)))
noncomputable def st_3_2 : SM := sIf (bOr (toB (eOp2 pIs (eVar 6) (eC .non))) (toB (eOp2 pLtD (eTup (aCons (eOpN (pOne pLen) (aCons (eVar 9) (aNil))) (aCons (eVar 9) (aNil)))) (eVar 6)))) (sSet 6 (eTup (aCons (eOpN (pOne pLen) (aCons (eVar 9) (aNil))) (aCons (eVar 9) (aNil))))) (sNil)
noncomputable def st_3_b : SM := sSeq st_3_0 (sSeq st_3_1 (st_3_2))
noncomputable def st_3 : SM := sFor (iOf (eCall 3 d__law_every (aCons (eVar 2) (aCons (eVar 3) (aCons (eVar 4) (aNil)))))) (bN 7) st_3_b
noncomputable def st_4 : SM := sIf (toB (eOp2 pNe (eCall 4 d_left_out (aCons (eVar 2) (aCons (eVar 3) (aCons (eVar 4) (aCons (eVar 5) (aNil)))))) (eOp2 pIx (eVar 6) (eC (.int 1))))) (sRet (eC (.bl false))) (sNil)
noncomputable def st_5 : SM := sRet (eOp2 pEq (eOp2 pEq (eOp2 pIx (eVar 6) (eC (.int 1))) (eTup (aNil))) (eOp2 pIs (eCall 4 d_bar (aCons (eVar 2) (aCons (eVar 3) (aCons (eVar 4) (aCons (eVar 5) (aNil)))))) (eC .non)))
noncomputable def m_law : SM := sSeq st_0 (sSeq st_1 (sSeq st_2 (sSeq st_3 (sSeq st_4 (st_5)))))
noncomputable def d_law : Fn := fnOf 11 m_law
theorem sc_law : FnScope N_law ["_law_script"] (defScope s_law) := ⟨rfl, rfl, rfl, by decide +kernel, rfl, by decide +kernel, by decide +kernel⟩
theorem v_law (T : TX P w K mg base cl) {a : Addr} {fd : FuncData} (F : FunD K "law" "law" (defArgs s_law) (defBody s_law) (defScope s_law) [] [] a fd) : FnOk P w K mg base (L2N.CX P w) 10 a fd ["_law_script"] (spD K cl 1 d_law) := by
  exact fn_ok F sc_law fun cdv A outer s H E hr => by
    exact ds_cons (ds_set (de_new (df_lst (da_nil))) 1 sc_law.nd) (ds_cons (ds_asg (de_call (w__law_told T) hr (da_cons (de_var 0) (da_cons (de_var 1) (da_cons (de_int) (da_cons (de_int) (da_nil)))))) (dg_tup rfl (dgs_cons (dg_name 2 sc_law.nd) (dgs_cons (dg_name 3 sc_law.nd) (dgs_cons (dg_name 4 sc_law.nd) (dgs_cons (dg_name 5 sc_law.nd) (dgs_nil))))))) (ds_cons (ds_set (de_non) 6 sc_law.nd) (ds_cons (ds_for rfl (di_of (de_call (w__law_every T) hr (da_cons (de_var 2) (da_cons (de_var 3) (da_cons (de_var 4) (da_nil)))))) (dg_name 7 sc_law.nd) (ds_cons (ds_set (de_call (w__law_by T) hr (da_cons (de_var 2) (da_cons (de_var 3) (da_cons (de_var 4) (da_cons (de_frz (df_dict rfl T.n_dict (de_var 7))) (da_nil)))))) 8 sc_law.nd) (ds_cons (ds_set (de_callTy (callr_or call_tupleX (call_tupT rfl)) gTuples T.n_tuple bt_tuple (da_cons (de_lc [("_law_at_here", 10)] rfl sc_law.nd (di_range1 T.n_range (de_callB call_len gLen T.n_len bt_len (da_cons (de_var 2) (da_nil)))) (blkOk_by (N := N_law) (sc := defScope s_law) (by decide +kernel)) (fun s' H' C ce fp => dg_name 10 sc_law.nd) (fun s' H' C ce fp => dps_one (dt_cmp (op_neD (rm64 hr)) gNe (de_ix (ix_all (rm1 hr)) gIx (de_var 8) (de_var 10)) (de_ix (ix_all (rm1 hr)) gIx (de_var 5) (de_var 10)))) (fun s' H' C ce fp => de_var 10) (bin_name)) (da_nil))) 9 sc_law.nd) (ds_one (ds_if (dt_w (dw_or (dt_cmp op_isN gIs (de_var 6) (de_non)) (dw_one_or (dt_cmp (op_ltD (rm64 hr)) gLtD (de_tup (da_cons (de_callB call_len gLen T.n_len bt_len (da_cons (de_var 9) (da_nil))) (da_cons (de_var 9) (da_nil)))) (de_var 6))))) (ds_one (ds_set (de_tup (da_cons (de_callB call_len gLen T.n_len bt_len (da_cons (de_var 9) (da_nil))) (da_cons (de_var 9) (da_nil)))) 6 sc_law.nd)) (ds_nil)))))) (ds_cons (ds_if (dt_cmp (op_neD (rm64 hr)) gNe (de_call (w_left_out T) hr (da_cons (de_var 2) (da_cons (de_var 3) (da_cons (de_var 4) (da_cons (de_var 5) (da_nil)))))) (de_ix (ix_all (rm1 hr)) gIx (de_var 6) (de_int))) (ds_one (ds_ret (de_bl))) (ds_nil)) (ds_one (ds_ret (de_cmp (op_eqD (rm64 hr)) gEq (de_cmp (op_eqD (rm64 hr)) gEq (de_ix (ix_all (rm1 hr)) gIx (de_var 6) (de_int)) (de_tup (da_nil))) (de_cmp op_isN gIs (de_call (w_bar T) hr (da_cons (de_var 2) (da_cons (de_var 3) (da_cons (de_var 4) (da_cons (de_var 5) (da_nil)))))) (de_non)))))))))
end
end LW


namespace LW
open PySem PySem.Spec PyProof.Rows L2 DL MP MB PN PB
theorem seq_nx4 {a b : SM} {ρ ρ' : Ev} {S S' : Store} (h : a ρ S = .nx ρ' S') : sSeq a b ρ S = b ρ' S' := by
  simp only [sSeq, h, SOut.bind]
abbrev EL (ns : List Int) (x2 x3 x4 x5 x6 x7 x8 x9 x10 : Option Val) : Ev := [o (.scr ns), some (.ptr 0), x2, x3, x4, x5, x6, x7, x8, x9, x10]
theorem pNe_ints (a b : Int) : pNe (.int a) (.int b) = some (.bl (!decide (a = b))) := by
  unfold pNe
  rw [if_pos ⟨rfl, rfl⟩, eqD_int]
def optB : Option (List Nat) → D
  | none => .non
  | some w => bstD w
theorem ne_pt (a b : List Nat) : pNe (ptD a) (ptD b) = some (.bl (!decide (a = b))) := by
  have h1 : ∀ w : List Nat, sh 9 (ptD w) = true := fun w => by simp [sh, ptD, natsD]
  have h2 : eqD (ptD a) (ptD b) = decide (a = b) := by
    simp only [eqD, ptD, toPy, PyData.eqv, eqv_nats]
  unfold pNe
  rw [if_pos ⟨h1 a, h1 b⟩, h2]
theorem ix_nmb {hs : List Int} {k : Nat} (h : k < hs.length) : pIx (nsD hs) (.int (k : Nat)) = some (.int (nmb hs k)) := by
  refine atI_nat ?_
  rw [List.getElem?_map]
  unfold nmb
  rw [List.getElem?_eq_getElem h]
  rfl
section
variable {ws : List (List Nat)} {i j m : Int} {ks : List Int}
theorem body_step (P : Pb ws i j m ks) (ns : List Int) (S : Store) {l : List Int} (hl : l ∈ allL m.toNat (ltrs (prs ws i j)).length) (b : Option (List Nat)) (x8 x9 x10 : Option Val) : ∃ y8 y9,
    st_3_b (EL ns (o (wsD ws)) (o (lkD i j)) (o (.int m)) (o (nsD ks)) (o (optB b)) (o (lineD (ltrs (prs ws i j)) l)) x8 x9 x10) S =
      .nx (EL ns (o (wsD ws)) (o (lkD i j)) (o (.int m)) (o (nsD ks)) (o (optB (bst [wrongN ks (nums (prs ws i j) m (wI ((ltrs (prs ws i j)).zip l))) ws.length] b))) (o (lineD (ltrs (prs ws i j)) l)) y8 y9 x10) S := by
  have hpl := prs_len ws i j
  have hnl : (nums (prs ws i j) m (wI ((ltrs (prs ws i j)).zip l))).length = ws.length := by rw [nums_len, hpl]
  have u0 : st_3_0 (EL ns (o (wsD ws)) (o (lkD i j)) (o (.int m)) (o (nsD ks)) (o (optB b)) (o (lineD (ltrs (prs ws i j)) l)) x8 x9 x10) S = .nx (EL ns (o (wsD ws)) (o (lkD i j)) (o (.int m)) (o (nsD ks)) (o (optB b)) (o (lineD (ltrs (prs ws i j)) l)) (o (nsD (nums (prs ws i j) m (wI ((ltrs (prs ws i j)).zip l))))) x9 x10) S := by
    have d := line_dict P hl (e := eVar 7) (ρ := EL ns (o (wsD ws)) (o (lkD i j)) (o (.int m)) (o (nsD ks)) (o (optB b)) (o (lineD (ltrs (prs ws i j)) l)) x8 x9 x10) (S := S) rfl
    have e := line_by P hl S
    simp only [EL, o] at d
    generalize nsD (nums (prs ws i j) m (wI ((ltrs (prs ws i j)).zip l))) = N1 at *
    generalize nsD ks = KS at *
    generalize wsD ws = WD at *
    generalize lineD (ltrs (prs ws i j)) l = LD at *
    generalize optB b = OB at *
    simp [st_3_0, EL, fnOf, env0, sSeq, SOut.bind, sRet, sRetN, sOf, sIf, sNil, sExpr, sSet, sRaise, eAnd, eOr, eNot, bAnd, bOr, bNot, eOp1, op1, eOp2, op2, eOpN, opN, eVar, eC, deref, derefs, Out.bind, asB, toB, ofB, cut_dat, cutS_self, cutS_head0, cutS_one, cutS_none, eChain, eTup, eLst, dats, aNil, aCons, eCall, eIf, pOne, pTwo, d, e]
  generalize hH : nums (prs ws i j) m (wI ((ltrs (prs ws i j)).zip l)) = H at *
  have kl := P.len
  have u1 : st_3_1 (EL ns (o (wsD ws)) (o (lkD i j)) (o (.int m)) (o (nsD ks)) (o (optB b)) (o (lineD (ltrs (prs ws i j)) l)) (o (nsD H)) x9 x10) S = .nx (EL ns (o (wsD ws)) (o (lkD i j)) (o (.int m)) (o (nsD ks)) (o (optB b)) (o (lineD (ltrs (prs ws i j)) l)) (o (nsD H)) (o (ptD (wrongN ks H ws.length))) x10) S := by
    have cm := compL_filtF (B := bN 10) (mt := toB (eOp2 pNe (eOp2 pIx (eVar 8) (eVar 10)) (eOp2 pIx (eVar 5) (eVar 10)))) (me := eVar 10) (ρ := EL ns (o (wsD ws)) (o (lkD i j)) (o (.int m)) (o (nsD ks)) (o (optB b)) (o (lineD (ltrs (prs ws i j)) l)) (o (nsD H)) x9 none) (S := S) (h := fun (a : Nat) => D.int (a : Int)) (f := fun (a : Nat) => D.int (a : Int)) (g := fun a => !decide (nmb H a = nmb ks a)) (l := List.range ws.length) fun a ha => by
      have ha' := List.mem_range.mp ha
      have i1 := ix_nmb (hs := H) (k := a) (by omega)
      have i2 := ix_nmb (hs := ks) (k := a) (by omega)
      have q := pNe_ints (nmb H a) (nmb ks a)
      refine ⟨_, rfl, ?_, fun _ => by simp [EL, setE, fnOf, env0, sSeq, SOut.bind, sRet, sRetN, sOf, sIf, sNil, sExpr, sSet, sRaise, eAnd, eOr, eNot, bAnd, bOr, bNot, eOp1, op1, eOp2, op2, eOpN, opN, eVar, eC, deref, derefs, Out.bind, asB, toB, ofB, cut_dat, cutS_self, cutS_head0, cutS_one, cutS_none, eChain, eTup, eLst, dats, aNil, aCons, eCall, eIf, pOne, pTwo]⟩
      generalize nsD H = H1 at *
      generalize nsD ks = KS at *
      simp [EL, setE, fnOf, env0, sSeq, SOut.bind, sRet, sRetN, sOf, sIf, sNil, sExpr, sSet, sRaise, eAnd, eOr, eNot, bAnd, bOr, bNot, eOp1, op1, eOp2, op2, eOpN, opN, eVar, eC, deref, derefs, Out.bind, asB, toB, ofB, cut_dat, cutS_self, cutS_head0, cutS_one, cutS_none, eChain, eTup, eLst, dats, aNil, aCons, eCall, eIf, pOne, pTwo, i1, i2, q]
    rw [← PB.range_map] at cm
    have lw : pLen (wsD ws) = some (.int (ws.length : Nat)) := by simp [pLen, wsD]
    have hb : -1000000 ≤ (ws.length : Int) ∧ (ws.length : Int) ≤ 1000000 := by
      have := P.w.n6
      omega
    have hrl : (rangeD 0 ws.length).length ≤ 1000000 := by
      rw [rangeD_len]
      have := P.w.n6
      omega
    have pt : pTupleA (.lst ((List.filter (fun a => !decide (nmb H a = nmb ks a)) (List.range ws.length)).map fun (a : Nat) => D.int (a : Int))) = some (ptD (wrongN ks H ws.length)) := rfl
    simp only [EL, o] at cm
    generalize ptD (wrongN ks H ws.length) = PT at *
    generalize (List.filter (fun a => !decide (nmb H a = nmb ks a)) (List.range ws.length)).map (fun (a : Nat) => D.int (a : Int)) = FL at *
    generalize nsD H = H1 at *
    generalize nsD ks = KS at *
    generalize wsD ws = WD at *
    generalize lineD (ltrs (prs ws i j)) l = LD at *
    generalize optB b = OB at *
    simp [st_3_1, EL, fnOf, env0, sSeq, SOut.bind, sRet, sRetN, sOf, sIf, sNil, sExpr, sSet, sRaise, eAnd, eOr, eNot, bAnd, bOr, bNot, eOp1, op1, eOp2, op2, eOpN, opN, eVar, eC, deref, derefs, Out.bind, asB, toB, ofB, cut_dat, cutS_self, cutS_head0, cutS_one, cutS_none, eChain, eTup, eLst, dats, aNil, aCons, eCall, eIf, pOne, pTwo, eComp, iRange1, lw, hb, wipeE, cm, pt, hrl]
  have lL : pLen (ptD (wrongN ks H ws.length)) = some (.int ((wrongN ks H ws.length).length : Nat)) := by simp [pLen, natsD]
  refine ⟨o (nsD H), o (ptD (wrongN ks H ws.length)), ?_⟩
  · unfold st_3_b
    rw [seq_nx4 u0, seq_nx4 u1]
    generalize wrongN ks H ws.length = W at *
    have eb : D.tup [.int (W.length : Nat), ptD W] = bstD W := rfl
    cases b with
    | none =>
      have i1 : pIs (optB none) .non = some (.bl true) := rfl
      have e2 : optB (bst [W] none) = bstD W := rfl
      rw [e2]
      generalize ptD W = PW at *
      generalize bstD W = BW at *
      generalize nsD H = H1 at *
      generalize nsD ks = KS at *
      generalize wsD ws = WD at *
      generalize lineD (ltrs (prs ws i j)) l = LD at *
      generalize optB none = OB at *
      simp [st_3_2, EL, fnOf, env0, sSeq, SOut.bind, sRet, sRetN, sOf, sIf, sNil, sExpr, sSet, sRaise, eAnd, eOr, eNot, bAnd, bOr, bNot, eOp1, op1, eOp2, op2, eOpN, opN, eVar, eC, deref, derefs, Out.bind, asB, toB, ofB, cut_dat, cutS_self, cutS_head0, cutS_one, cutS_none, eChain, eTup, eLst, dats, aNil, aCons, eCall, eIf, pOne, pTwo, i1, lL, eb]
    | some x =>
      have i1 : pIs (optB (some x)) .non = some (.bl false) := rfl
      have q := lt_bst W x
      have e2 : optB (bst [W] (some x)) = if W.length :: W < x.length :: x then bstD W else bstD x := by
        simp only [bst, optB]
        split <;> rfl
      have e3 : optB (some x) = bstD x := rfl
      rw [e2]
      rw [e3] at i1 ⊢
      by_cases c : W.length :: W < x.length :: x
      · rw [decide_eq_true c] at q
        rw [if_pos c]
        generalize ptD W = PW at *
        generalize bstD W = BW at *
        generalize bstD x = BX at *
        generalize nsD H = H1 at *
        generalize nsD ks = KS at *
        generalize wsD ws = WD at *
        generalize lineD (ltrs (prs ws i j)) l = LD at *
        simp [st_3_2, EL, fnOf, env0, sSeq, SOut.bind, sRet, sRetN, sOf, sIf, sNil, sExpr, sSet, sRaise, eAnd, eOr, eNot, bAnd, bOr, bNot, eOp1, op1, eOp2, op2, eOpN, opN, eVar, eC, deref, derefs, Out.bind, asB, toB, ofB, cut_dat, cutS_self, cutS_head0, cutS_one, cutS_none, eChain, eTup, eLst, dats, aNil, aCons, eCall, eIf, pOne, pTwo, i1, lL, eb, q]
      · rw [decide_eq_false c] at q
        rw [if_neg c]
        generalize ptD W = PW at *
        generalize bstD W = BW at *
        generalize bstD x = BX at *
        generalize nsD H = H1 at *
        generalize nsD ks = KS at *
        generalize wsD ws = WD at *
        generalize lineD (ltrs (prs ws i j)) l = LD at *
        simp [st_3_2, EL, fnOf, env0, sSeq, SOut.bind, sRet, sRetN, sOf, sIf, sNil, sExpr, sSet, sRaise, eAnd, eOr, eNot, bAnd, bOr, bNot, eOp1, op1, eOp2, op2, eOpN, opN, eVar, eC, deref, derefs, Out.bind, asB, toB, ofB, cut_dat, cutS_self, cutS_head0, cutS_one, cutS_none, eChain, eTup, eLst, dats, aNil, aCons, eCall, eIf, pOne, pTwo, i1, lL, eb, q]
theorem bst_app (w : List Nat) (r : List (List Nat)) (b : Option (List Nat)) : bst (w :: r) b = bst r (bst [w] b) := rfl
theorem for_loop (P : Pb ws i j m ks) (ns : List Int) (S : Store) (x10 : Option Val) : ∀ (ls : List (List Int)) (b : Option (List Nat)) (x7 x8 x9 : Option Val), (∀ l ∈ ls, l ∈ allL m.toNat (ltrs (prs ws i j)).length) → ∃ y7 y8 y9,
    sForL (bN 7) st_3_b (ls.map (lineD (ltrs (prs ws i j)))) (EL ns (o (wsD ws)) (o (lkD i j)) (o (.int m)) (o (nsD ks)) (o (optB b)) x7 x8 x9 x10) S =
      .nx (EL ns (o (wsD ws)) (o (lkD i j)) (o (.int m)) (o (nsD ks)) (o (optB (bst (ls.map fun l => wrongN ks (nums (prs ws i j) m (wI ((ltrs (prs ws i j)).zip l))) ws.length) b))) y7 y8 y9 x10) S
  | [], b, x7, x8, x9, _ => ⟨x7, x8, x9, rfl⟩
  | l :: ls, b, x7, x8, x9, h => by
    obtain ⟨y8, y9, hb⟩ := body_step P ns S (h l List.mem_cons_self) b x8 x9 x10
    obtain ⟨z7, z8, z9, hr⟩ := for_loop P ns S x10 ls (bst [wrongN ks (nums (prs ws i j) m (wI ((ltrs (prs ws i j)).zip l))) ws.length] b) (o (lineD (ltrs (prs ws i j)) l)) y8 y9 (fun x hx => h x (List.mem_cons_of_mem _ hx))
    refine ⟨z7, z8, z9, ?_⟩
    rw [List.map_cons, List.map_cons, bst_app]
    simp only [sForL, bN, setE, EL, List.set] at hb hr ⊢
    rw [hb]
    exact hr
end
theorem law_true (ns : List Int) (hns : ns.length ≤ 63) : ∃ S, d_law [.dat (.scr ns)] [] = .ok (.dat (.bl true)) S := by
  obtain ⟨ws, i, j, m, ks, n', hn, hmost, h4, P, few, ht⟩ := p_law_told ns 0 5 4 [] (by decide) (by decide) (by decide) (by decide) (by decide)
  have hpow := pow_few P.mp h4 few
  have hev := p_law_every ws i j m [.lst (zs n')] P.w.len P.n20 P.mp P.m99 hpow
  have hpl := prs_len ws i j
  have hbl := best_left (ps := prs ws i j) P.mp P.n P.p20
  have hln := left_nil P
  rw [hpl] at hbl hln
  have e1 := p_left_out P [.lst (zs n')]
  have e2 := p_bar P [.lst (zs n')]
  obtain ⟨y7, y8, y9, hloop⟩ := for_loop P ns [.lst (zs n')] none (allL m.toNat (ltrs (prs ws i j)).length) none none none none (fun _ h => h)
  rw [hbl] at hloop
  generalize leftN ws.length (freeN (prs ws i j) ks m) = L at *
  have u0 : st_0 [o (.scr ns), none, none, none, none, none, none, none, none, none, none] [] = .nx (EL ns none none none none none none none none none) [.lst (zs 0)] := by
    simp [st_0, EL, fnOf, env0, sSeq, SOut.bind, sRet, sRetN, sOf, sIf, sNil, sExpr, sSet, sRaise, eAnd, eOr, eNot, bAnd, bOr, bNot, eOp1, op1, eOp2, op2, eOpN, opN, eVar, eC, deref, derefs, Out.bind, asB, toB, ofB, cut_dat, cutS_self, cutS_head0, cutS_one, cutS_none, eChain, eTup, eLst, dats, aNil, aCons, eCall, eIf, pOne, pTwo, eNew, cLst, zs]
  have u1 : st_1 (EL ns none none none none none none none none none) [.lst (zs 0)] = .nx (EL ns (o (wsD ws)) (o (lkD i j)) (o (.int m)) (o (nsD ks)) none none none none none) [.lst (zs n')] := by
    generalize nsD ks = KS at *
    generalize wsD ws = WD at *
    simp [st_1, EL, fnOf, env0, sSeq, SOut.bind, sRet, sRetN, sOf, sIf, sNil, sExpr, sSet, sRaise, eAnd, eOr, eNot, bAnd, bOr, bNot, eOp1, op1, eOp2, op2, eOpN, opN, eVar, eC, deref, derefs, Out.bind, asB, toB, ofB, cut_dat, cutS_self, cutS_head0, cutS_one, cutS_none, eChain, eTup, eLst, dats, aNil, aCons, eCall, eIf, pOne, pTwo, ht, sAsg, b_tup4, setE]
  have u2 : st_2 (EL ns (o (wsD ws)) (o (lkD i j)) (o (.int m)) (o (nsD ks)) none none none none none) [.lst (zs n')] = .nx (EL ns (o (wsD ws)) (o (lkD i j)) (o (.int m)) (o (nsD ks)) (o (optB none)) none none none none) [.lst (zs n')] := by
    simp [st_2, EL, fnOf, env0, sSeq, SOut.bind, sRet, sRetN, sOf, sIf, sNil, sExpr, sSet, sRaise, eAnd, eOr, eNot, bAnd, bOr, bNot, eOp1, op1, eOp2, op2, eOpN, opN, eVar, eC, deref, derefs, Out.bind, asB, toB, ofB, cut_dat, cutS_self, cutS_head0, cutS_one, cutS_none, eChain, eTup, eLst, dats, aNil, aCons, eCall, eIf, pOne, pTwo, optB]
  have u3 : st_3 (EL ns (o (wsD ws)) (o (lkD i j)) (o (.int m)) (o (nsD ks)) (o (optB none)) none none none none) [.lst (zs n')] = .nx (EL ns (o (wsD ws)) (o (lkD i j)) (o (.int m)) (o (nsD ks)) (o (bstD L)) y7 y8 y9 none) [.lst (zs n')] := by
    have hI : ∀ x : List D, itemsD (.lst x) = some x := fun _ => rfl
    have eo : optB (some L) = bstD L := rfl
    rw [eo] at hloop
    simp only [EL, o] at hloop ⊢
    generalize hbd : st_3_b = BD at *
    generalize nsD ks = KS at *
    generalize wsD ws = WD at *
    generalize (allL m.toNat (ltrs (prs ws i j)).length).map (lineD (ltrs (prs ws i j))) = LS at *
    simp [st_3, fnOf, env0, sSeq, SOut.bind, sRet, sRetN, sOf, sIf, sNil, sExpr, sSet, sRaise, eAnd, eOr, eNot, bAnd, bOr, bNot, eOp1, op1, eOp2, op2, eOpN, opN, eVar, eC, deref, derefs, Out.bind, asB, toB, ofB, cut_dat, cutS_self, cutS_head0, cutS_one, cutS_none, eChain, eTup, eLst, dats, aNil, aCons, eCall, eIf, pOne, pTwo, sFor, iOf, hev, hI, hbd, hloop]
  have x1 : pIx (bstD L) (.int 1) = some (ptD L) := atI_nat (j := 1) rfl
  have q4 := ne_pt L L
  rw [decide_eq_true rfl] at q4
  have u4 : st_4 (EL ns (o (wsD ws)) (o (lkD i j)) (o (.int m)) (o (nsD ks)) (o (bstD L)) y7 y8 y9 none) [.lst (zs n')] = .nx (EL ns (o (wsD ws)) (o (lkD i j)) (o (.int m)) (o (nsD ks)) (o (bstD L)) y7 y8 y9 none) [.lst (zs n')] := by
    generalize ptD L = PL at *
    generalize bstD L = BL at *
    generalize nsD ks = KS at *
    generalize wsD ws = WD at *
    simp [st_4, EL, fnOf, env0, sSeq, SOut.bind, sRet, sRetN, sOf, sIf, sNil, sExpr, sSet, sRaise, eAnd, eOr, eNot, bAnd, bOr, bNot, eOp1, op1, eOp2, op2, eOpN, opN, eVar, eC, deref, derefs, Out.bind, asB, toB, ofB, cut_dat, cutS_self, cutS_head0, cutS_one, cutS_none, eChain, eTup, eLst, dats, aNil, aCons, eCall, eIf, pOne, pTwo, e1, x1, q4]
  have q5 : pEq (ptD L) (.tup []) = some (.bl (decide (L = []))) := by
    rw [ptD_nil]
    cases L <;> simp
  have q6 := isN_barD (theBar (prs ws i j) ks m)
  have q7 : pEq (.bl (decide (L = []))) (.bl (theBar (prs ws i j) ks m).isNone) = some (.bl true) := by
    have : decide (L = []) = (theBar (prs ws i j) ks m).isNone := by
      rw [Bool.eq_iff_iff, decide_eq_true_iff, hln]
      cases theBar (prs ws i j) ks m <;> simp
    rw [this]
    cases (theBar (prs ws i j) ks m).isNone <;> rfl
  have u5 : st_5 (EL ns (o (wsD ws)) (o (lkD i j)) (o (.int m)) (o (nsD ks)) (o (bstD L)) y7 y8 y9 none) [.lst (zs n')] = .rt (.dat (.bl true)) [.lst (zs n')] := by
    generalize barD (theBar (prs ws i j) ks m) = BB at *
    generalize ptD L = PL at *
    generalize bstD L = BL at *
    generalize nsD ks = KS at *
    generalize wsD ws = WD at *
    generalize decide (L = []) = dL at *
    generalize (theBar (prs ws i j) ks m).isNone = dB at *
    simp [st_5, EL, fnOf, env0, sSeq, SOut.bind, sRet, sRetN, sOf, sIf, sNil, sExpr, sSet, sRaise, eAnd, eOr, eNot, bAnd, bOr, bNot, eOp1, op1, eOp2, op2, eOpN, opN, eVar, eC, deref, derefs, Out.bind, asB, toB, ofB, cut_dat, cutS_self, cutS_head0, cutS_one, cutS_none, eChain, eTup, eLst, dats, aNil, aCons, eCall, eIf, pOne, pTwo, e2, x1, q5, q6, q7]
  refine ⟨[], ?_⟩
  simp only [d_law, fnOf, env0, m_law, List.map_cons, List.map_nil, List.length_cons, List.length_nil, Nat.reduceAdd, Nat.reduceSub, List.replicate, List.cons_append, List.nil_append]
  rw [seq_nx4 u0, seq_nx4 u1, seq_nx4 u2, seq_nx4 u3, seq_nx4 u4, u5]
  simp [cut_dat, cutS_none]
end LW

namespace LW
open PySem PySem.Spec PyProof.Rows L2 L2H DL
def fn : List He.DefD := [⟨("is_whole", none), "is_whole", "is_whole", defArgs s_is_whole, defBody s_is_whole, defScope s_is_whole, [], []⟩,
  ⟨("is_word", none), "is_word", "is_word", defArgs s_is_word, defBody s_is_word, defScope s_is_word, [], []⟩,
  ⟨("are_words", none), "are_words", "are_words", defArgs s_are_words, defBody s_are_words, defScope s_are_words, [], []⟩,
  ⟨("is_look", none), "is_look", "is_look", defArgs s_is_look, defBody s_is_look, defScope s_is_look, [], []⟩,
  ⟨("need_both", none), "need_both", "need_both", defArgs s_need_both, defBody s_need_both, defScope s_need_both, [], []⟩,
  ⟨("need_room", none), "need_room", "need_room", defArgs s_need_room, defBody s_need_room, defScope s_need_room, [], []⟩,
  ⟨("letter_at", none), "letter_at", "letter_at", defArgs s_letter_at, defBody s_letter_at, defScope s_letter_at, [], []⟩,
  ⟨("pair_of", none), "pair_of", "pair_of", defArgs s_pair_of, defBody s_pair_of, defScope s_pair_of, [], []⟩,
  ⟨("pairs_of", none), "pairs_of", "pairs_of", defArgs s_pairs_of, defBody s_pairs_of, defScope s_pairs_of, [], []⟩,
  ⟨("letters_of", none), "letters_of", "letters_of", defArgs s_letters_of, defBody s_letters_of, defScope s_letters_of, [], []⟩,
  ⟨("are_numbers", none), "are_numbers", "are_numbers", defArgs s_are_numbers, defBody s_are_numbers, defScope s_are_numbers, [], []⟩,
  ⟨("need_numbers", none), "need_numbers", "need_numbers", defArgs s_need_numbers, defBody s_need_numbers, defScope s_need_numbers, [], []⟩,
  ⟨("walk_from", none), "walk_from", "walk_from", defArgs s_walk_from, defBody s_walk_from, defScope s_walk_from, [], []⟩,
  ⟨("groups", none), "groups", "groups", defArgs s_groups, defBody s_groups, defScope s_groups, [], []⟩,
  ⟨("closed", none), "closed", "closed", defArgs s_closed, defBody s_closed, defScope s_closed, [], []⟩,
  ⟨("alternate", none), "alternate", "alternate", defArgs s_alternate, defBody s_alternate, defScope s_alternate, [], []⟩,
  ⟨("bar_in", none), "bar_in", "bar_in", defArgs s_bar_in, defBody s_bar_in, defScope s_bar_in, [], []⟩,
  ⟨("bar", none), "bar", "bar", defArgs s_bar, defBody s_bar, defScope s_bar, [], []⟩,
  ⟨("parts_of", none), "parts_of", "parts_of", defArgs s_parts_of, defBody s_parts_of, defScope s_parts_of, [], []⟩,
  ⟨("is_free", none), "is_free", "is_free", defArgs s_is_free, defBody s_is_free, defScope s_is_free, [], []⟩,
  ⟨("rests", none), "rests", "rests", defArgs s_rests, defBody s_rests, defScope s_rests, [], []⟩,
  ⟨("left_out", none), "left_out", "left_out", defArgs s_left_out, defBody s_left_out, defScope s_left_out, [], []⟩,
  ⟨("_law_cell_at", none), "_law_cell_at", "_law_cell_at", defArgs s__law_cell_at, defBody s__law_cell_at, defScope s__law_cell_at, [], []⟩,
  ⟨("_law_mixed", none), "_law_mixed", "_law_mixed", defArgs s__law_mixed, defBody s__law_mixed, defScope s__law_mixed, [], []⟩,
  ⟨("_law_draw", none), "_law_draw", "_law_draw", defArgs s__law_draw, defBody s__law_draw, defScope s__law_draw, [], []⟩,
  ⟨("_law_pick", none), "_law_pick", "_law_pick", defArgs s__law_pick, defBody s__law_pick, defScope s__law_pick, [], []⟩,
  ⟨("_law_word", none), "_law_word", "_law_word", defArgs s__law_word, defBody s__law_word, defScope s__law_word, [], []⟩,
  ⟨("_law_words", none), "_law_words", "_law_words", defArgs s__law_words, defBody s__law_words, defScope s__law_words, [], []⟩,
  ⟨("_law_look", none), "_law_look", "_law_look", defArgs s__law_look, defBody s__law_look, defScope s__law_look, [], []⟩,
  ⟨("_law_at", none), "_law_at", "_law_at", defArgs s__law_at, defBody s__law_at, defScope s__law_at, [], []⟩,
  ⟨("_law_seen", none), "_law_seen", "_law_seen", defArgs s__law_seen, defBody s__law_seen, defScope s__law_seen, [], []⟩,
  ⟨("_law_letters", none), "_law_letters", "_law_letters", defArgs s__law_letters, defBody s__law_letters, defScope s__law_letters, [], []⟩,
  ⟨("_law_by", none), "_law_by", "_law_by", defArgs s__law_by, defBody s__law_by, defScope s__law_by, [], []⟩,
  ⟨("_law_told", none), "_law_told", "_law_told", defArgs s__law_told, defBody s__law_told, defScope s__law_told, [], []⟩,
  ⟨("_law_every", none), "_law_every", "_law_every", defArgs s__law_every, defBody s__law_every, defScope s__law_every, [], []⟩,
  ⟨("law", none), "law", "law", defArgs s_law, defBody s_law, defScope s_law, [], []⟩]
def fa : List He.Fa := [.glo "is_whole", .glo "is_word", .glo "are_words", .glo "is_look", .glo "need_both", .glo "need_room", .glo "letter_at", .glo "pair_of", .glo "pairs_of", .glo "letters_of", .glo "are_numbers", .glo "need_numbers", .glo "walk_from", .glo "groups", .glo "closed", .glo "alternate", .glo "bar_in", .glo "bar", .glo "parts_of", .glo "is_free", .glo "rests", .glo "left_out", .glo "_law_cell_at", .glo "_law_mixed", .glo "_law_draw", .glo "_law_pick", .glo "_law_word", .glo "_law_words", .glo "_law_look", .glo "_law_at", .glo "_law_seen", .glo "_law_letters", .glo "_law_by", .glo "_law_told", .glo "_law_every", .glo "law", .glo "NoWords", .glo "NoLook", .glo "NoNumbers", .glo "NoRoom", .str "LETTERS" "abcdefghijklmnopqrstuvwxyz", .int "LONG" 6, .int "MANY" 6, .int "FAR" 2, .int "ROOM" 99, .free "all", .free "bool", .free "dict", .free "enumerate", .free "int", .free "isinstance", .free "len", .free "list", .free "max", .free "min", .free "range", .free "set", .free "sorted", .free "str", .free "tuple", .exc "NoWords", .exc "NoLook", .exc "NoNumbers", .exc "NoRoom"]
abbrev R : PySem.W.OpenRow := PySem.W.OpenLaw.row PySem.Challenge.rw_lookwords_k14_whole_left_out
def exq (K : PySem.W.Frag) : Bool := true
abbrev hk : PySem.W.Hook := He.hookX 6 fa fn [] [] exq
def ob (s : PySem.W.SharedT) : He.AlX := He.obsX 6 fa fn [] [] exq (HandSHeadRun.getT s)
theorem ob_eq (s : PySem.W.SharedT) : ob s = hk.obs s.abs := He.obsX_eq (HandSHeadRun.getT_eq s)
def loose : List PySem.Str := (["WordError", "NoWords", "NoLook", "NoNumbers", "NoRoom", "LETTERS", "LONG", "MANY", "FAR", "ROOM", "is_whole", "is_word", "are_words", "is_look", "need_both", "need_room", "letter_at", "pair_of", "pairs_of", "letters_of", "are_numbers", "need_numbers", "walk_from", "groups", "closed", "alternate", "bar_in", "bar", "parts_of", "is_free"] : List PySem.Str) ++ (["rests", "left_out", "_law_cell_at", "_law_mixed", "_law_draw", "_law_pick", "_law_word", "_law_words", "_law_look", "_law_at", "_law_seen", "_law_letters", "_law_by", "_law_told", "_law_every", "_law_sets"] : List PySem.Str)
set_option maxHeartbeats 0 in
theorem run (w : World) : HandSHeadRun.RunEq R (PySem.W.view R.prog [51]) hk ob 12000 loose w := by
  intro os
  kernel_rfl
set_option maxHeartbeats 0 in
theorem tx_of {P : Program} {w : World} {K : PySem.W.Frag} {h h0 : Heap} {mg : Str → Option Value} {base : Heap} (X : K.In h) (G : h.Ns mainGlobals mg) (c : He.SaysX fa fn [] [] exq w h0 K) : TX P w K mg base (exCl K) := by
  have d := c.t.d
  exact {
    n_all := He.free_ok X G (d.fact 45 (f := .free "all") rfl)
    n_bool := He.free_ok X G (d.fact 46 (f := .free "bool") rfl)
    n_dict := He.free_ok X G (d.fact 47 (f := .free "dict") rfl)
    n_enumerate := He.free_ok X G (d.fact 48 (f := .free "enumerate") rfl)
    n_int := He.free_ok X G (d.fact 49 (f := .free "int") rfl)
    n_isinstance := He.free_ok X G (d.fact 50 (f := .free "isinstance") rfl)
    n_len := He.free_ok X G (d.fact 51 (f := .free "len") rfl)
    n_list := He.free_ok X G (d.fact 52 (f := .free "list") rfl)
    n_max := He.free_ok X G (d.fact 53 (f := .free "max") rfl)
    n_min := He.free_ok X G (d.fact 54 (f := .free "min") rfl)
    n_range := He.free_ok X G (d.fact 55 (f := .free "range") rfl)
    n_set := He.free_ok X G (d.fact 56 (f := .free "set") rfl)
    n_sorted := He.free_ok X G (d.fact 57 (f := .free "sorted") rfl)
    n_str := He.free_ok X G (d.fact 58 (f := .free "str") rfl)
    n_tuple := He.free_ok X G (d.fact 59 (f := .free "tuple") rfl)
    g_LETTERS := globS_of X G (d.fact 40 (f := .str "LETTERS" "abcdefghijklmnopqrstuvwxyz") rfl) (by decide +kernel) (by decide +kernel)
    g_LONG := globI_of X G (d.fact 41 (f := .int "LONG" 6) rfl)
    g_MANY := globI_of X G (d.fact 42 (f := .int "MANY" 6) rfl)
    g_FAR := globI_of X G (d.fact 43 (f := .int "FAR" 2) rfl)
    g_ROOM := globI_of X G (d.fact 44 (f := .int "ROOM" 99) rfl)
    e_NoWords := excAt_of X G 0 (by decide +kernel) (d.fact 36 (f := .glo "NoWords") rfl) (d.fact 60 (f := .exc "NoWords") rfl)
    e_NoLook := excAt_of X G 1 (by decide +kernel) (d.fact 37 (f := .glo "NoLook") rfl) (d.fact 61 (f := .exc "NoLook") rfl)
    e_NoNumbers := excAt_of X G 2 (by decide +kernel) (d.fact 38 (f := .glo "NoNumbers") rfl) (d.fact 62 (f := .exc "NoNumbers") rfl)
    e_NoRoom := excAt_of X G 3 (by decide +kernel) (d.fact 39 (f := .glo "NoRoom") rfl) (d.fact 63 (f := .exc "NoRoom") rfl)
    f_is_whole := by
      obtain ⟨fd, F⟩ := d.def_ 0 (d := ⟨("is_whole", none), "is_whole", "is_whole", defArgs s_is_whole, defBody s_is_whole, defScope s_is_whole, [], []⟩) rfl
      exact ⟨_, fd, He.glo_ok X G (d.fact 0 (f := .glo "is_whole") rfl), F.kp, F, F.bindsN fun _ _ _ _ _ _ us hl => match us, hl with | [_, _, _], _ => rfl⟩
    f_is_word := by
      obtain ⟨fd, F⟩ := d.def_ 1 (d := ⟨("is_word", none), "is_word", "is_word", defArgs s_is_word, defBody s_is_word, defScope s_is_word, [], []⟩) rfl
      exact ⟨_, fd, He.glo_ok X G (d.fact 1 (f := .glo "is_word") rfl), F.kp, F, F.bindsN fun _ _ _ _ _ _ us hl => match us, hl with | [_], _ => rfl⟩
    f_are_words := by
      obtain ⟨fd, F⟩ := d.def_ 2 (d := ⟨("are_words", none), "are_words", "are_words", defArgs s_are_words, defBody s_are_words, defScope s_are_words, [], []⟩) rfl
      exact ⟨_, fd, He.glo_ok X G (d.fact 2 (f := .glo "are_words") rfl), F.kp, F, F.bindsN fun _ _ _ _ _ _ us hl => match us, hl with | [_], _ => rfl⟩
    f_is_look := by
      obtain ⟨fd, F⟩ := d.def_ 3 (d := ⟨("is_look", none), "is_look", "is_look", defArgs s_is_look, defBody s_is_look, defScope s_is_look, [], []⟩) rfl
      exact ⟨_, fd, He.glo_ok X G (d.fact 3 (f := .glo "is_look") rfl), F.kp, F, F.bindsN fun _ _ _ _ _ _ us hl => match us, hl with | [_], _ => rfl⟩
    f_need_both := by
      obtain ⟨fd, F⟩ := d.def_ 4 (d := ⟨("need_both", none), "need_both", "need_both", defArgs s_need_both, defBody s_need_both, defScope s_need_both, [], []⟩) rfl
      exact ⟨_, fd, He.glo_ok X G (d.fact 4 (f := .glo "need_both") rfl), F.kp, F, F.bindsN fun _ _ _ _ _ _ us hl => match us, hl with | [_, _], _ => rfl⟩
    f_need_room := by
      obtain ⟨fd, F⟩ := d.def_ 5 (d := ⟨("need_room", none), "need_room", "need_room", defArgs s_need_room, defBody s_need_room, defScope s_need_room, [], []⟩) rfl
      exact ⟨_, fd, He.glo_ok X G (d.fact 5 (f := .glo "need_room") rfl), F.kp, F, F.bindsN fun _ _ _ _ _ _ us hl => match us, hl with | [_], _ => rfl⟩
    f_letter_at := by
      obtain ⟨fd, F⟩ := d.def_ 6 (d := ⟨("letter_at", none), "letter_at", "letter_at", defArgs s_letter_at, defBody s_letter_at, defScope s_letter_at, [], []⟩) rfl
      exact ⟨_, fd, He.glo_ok X G (d.fact 6 (f := .glo "letter_at") rfl), F.kp, F, F.bindsN fun _ _ _ _ _ _ us hl => match us, hl with | [_, _], _ => rfl⟩
    f_pair_of := by
      obtain ⟨fd, F⟩ := d.def_ 7 (d := ⟨("pair_of", none), "pair_of", "pair_of", defArgs s_pair_of, defBody s_pair_of, defScope s_pair_of, [], []⟩) rfl
      exact ⟨_, fd, He.glo_ok X G (d.fact 7 (f := .glo "pair_of") rfl), F.kp, F, F.bindsN fun _ _ _ _ _ _ us hl => match us, hl with | [_, _], _ => rfl⟩
    f_pairs_of := by
      obtain ⟨fd, F⟩ := d.def_ 8 (d := ⟨("pairs_of", none), "pairs_of", "pairs_of", defArgs s_pairs_of, defBody s_pairs_of, defScope s_pairs_of, [], []⟩) rfl
      exact ⟨_, fd, He.glo_ok X G (d.fact 8 (f := .glo "pairs_of") rfl), F.kp, F, F.bindsN fun _ _ _ _ _ _ us hl => match us, hl with | [_, _], _ => rfl⟩
    f_letters_of := by
      obtain ⟨fd, F⟩ := d.def_ 9 (d := ⟨("letters_of", none), "letters_of", "letters_of", defArgs s_letters_of, defBody s_letters_of, defScope s_letters_of, [], []⟩) rfl
      exact ⟨_, fd, He.glo_ok X G (d.fact 9 (f := .glo "letters_of") rfl), F.kp, F, F.bindsN fun _ _ _ _ _ _ us hl => match us, hl with | [_, _], _ => rfl⟩
    f_are_numbers := by
      obtain ⟨fd, F⟩ := d.def_ 10 (d := ⟨("are_numbers", none), "are_numbers", "are_numbers", defArgs s_are_numbers, defBody s_are_numbers, defScope s_are_numbers, [], []⟩) rfl
      exact ⟨_, fd, He.glo_ok X G (d.fact 10 (f := .glo "are_numbers") rfl), F.kp, F, F.bindsN fun _ _ _ _ _ _ us hl => match us, hl with | [_, _, _], _ => rfl⟩
    f_need_numbers := by
      obtain ⟨fd, F⟩ := d.def_ 11 (d := ⟨("need_numbers", none), "need_numbers", "need_numbers", defArgs s_need_numbers, defBody s_need_numbers, defScope s_need_numbers, [], []⟩) rfl
      exact ⟨_, fd, He.glo_ok X G (d.fact 11 (f := .glo "need_numbers") rfl), F.kp, F, F.bindsN fun _ _ _ _ _ _ us hl => match us, hl with | [_, _, _], _ => rfl⟩
    f_walk_from := by
      obtain ⟨fd, F⟩ := d.def_ 12 (d := ⟨("walk_from", none), "walk_from", "walk_from", defArgs s_walk_from, defBody s_walk_from, defScope s_walk_from, [], []⟩) rfl
      exact ⟨_, fd, He.glo_ok X G (d.fact 12 (f := .glo "walk_from") rfl), F.kp, F, F.bindsN fun _ _ _ _ _ _ us hl => match us, hl with | [_, _, _], _ => rfl⟩
    f_groups := by
      obtain ⟨fd, F⟩ := d.def_ 13 (d := ⟨("groups", none), "groups", "groups", defArgs s_groups, defBody s_groups, defScope s_groups, [], []⟩) rfl
      exact ⟨_, fd, He.glo_ok X G (d.fact 13 (f := .glo "groups") rfl), F.kp, F, F.bindsN fun _ _ _ _ _ _ us hl => match us, hl with | [_, _], _ => rfl⟩
    f_closed := by
      obtain ⟨fd, F⟩ := d.def_ 14 (d := ⟨("closed", none), "closed", "closed", defArgs s_closed, defBody s_closed, defScope s_closed, [], []⟩) rfl
      exact ⟨_, fd, He.glo_ok X G (d.fact 14 (f := .glo "closed") rfl), F.kp, F, F.bindsN fun _ _ _ _ _ _ us hl => match us, hl with | [_, _, _, _], _ => rfl⟩
    f_alternate := by
      obtain ⟨fd, F⟩ := d.def_ 15 (d := ⟨("alternate", none), "alternate", "alternate", defArgs s_alternate, defBody s_alternate, defScope s_alternate, [], []⟩) rfl
      exact ⟨_, fd, He.glo_ok X G (d.fact 15 (f := .glo "alternate") rfl), F.kp, F, F.bindsN fun _ _ _ _ _ _ us hl => match us, hl with | [_, _], _ => rfl⟩
    f_bar_in := by
      obtain ⟨fd, F⟩ := d.def_ 16 (d := ⟨("bar_in", none), "bar_in", "bar_in", defArgs s_bar_in, defBody s_bar_in, defScope s_bar_in, [], []⟩) rfl
      exact ⟨_, fd, He.glo_ok X G (d.fact 16 (f := .glo "bar_in") rfl), F.kp, F, F.bindsN fun _ _ _ _ _ _ us hl => match us, hl with | [_, _, _, _], _ => rfl⟩
    f_bar := by
      obtain ⟨fd, F⟩ := d.def_ 17 (d := ⟨("bar", none), "bar", "bar", defArgs s_bar, defBody s_bar, defScope s_bar, [], []⟩) rfl
      exact ⟨_, fd, He.glo_ok X G (d.fact 17 (f := .glo "bar") rfl), F.kp, F, F.bindsN fun _ _ _ _ _ _ us hl => match us, hl with | [_, _, _, _], _ => rfl⟩
    f_parts_of := by
      obtain ⟨fd, F⟩ := d.def_ 18 (d := ⟨("parts_of", none), "parts_of", "parts_of", defArgs s_parts_of, defBody s_parts_of, defScope s_parts_of, [], []⟩) rfl
      exact ⟨_, fd, He.glo_ok X G (d.fact 18 (f := .glo "parts_of") rfl), F.kp, F, F.bindsN fun _ _ _ _ _ _ us hl => match us, hl with | [_, _], _ => rfl⟩
    f_is_free := by
      obtain ⟨fd, F⟩ := d.def_ 19 (d := ⟨("is_free", none), "is_free", "is_free", defArgs s_is_free, defBody s_is_free, defScope s_is_free, [], []⟩) rfl
      exact ⟨_, fd, He.glo_ok X G (d.fact 19 (f := .glo "is_free") rfl), F.kp, F, F.bindsN fun _ _ _ _ _ _ us hl => match us, hl with | [_, _, _, _, _], _ => rfl⟩
    f_rests := by
      obtain ⟨fd, F⟩ := d.def_ 20 (d := ⟨("rests", none), "rests", "rests", defArgs s_rests, defBody s_rests, defScope s_rests, [], []⟩) rfl
      exact ⟨_, fd, He.glo_ok X G (d.fact 20 (f := .glo "rests") rfl), F.kp, F, F.bindsN fun _ _ _ _ _ _ us hl => match us, hl with | [_, _, _, _], _ => rfl⟩
    f_left_out := by
      obtain ⟨fd, F⟩ := d.def_ 21 (d := ⟨("left_out", none), "left_out", "left_out", defArgs s_left_out, defBody s_left_out, defScope s_left_out, [], []⟩) rfl
      exact ⟨_, fd, He.glo_ok X G (d.fact 21 (f := .glo "left_out") rfl), F.kp, F, F.bindsN fun _ _ _ _ _ _ us hl => match us, hl with | [_, _, _, _], _ => rfl⟩
    f__law_cell_at := by
      obtain ⟨fd, F⟩ := d.def_ 22 (d := ⟨("_law_cell_at", none), "_law_cell_at", "_law_cell_at", defArgs s__law_cell_at, defBody s__law_cell_at, defScope s__law_cell_at, [], []⟩) rfl
      exact ⟨_, fd, He.glo_ok X G (d.fact 22 (f := .glo "_law_cell_at") rfl), F.kp, F, F.bindsN fun _ _ _ _ _ _ us hl => match us, hl with | [_, _], _ => rfl⟩
    f__law_mixed := by
      obtain ⟨fd, F⟩ := d.def_ 23 (d := ⟨("_law_mixed", none), "_law_mixed", "_law_mixed", defArgs s__law_mixed, defBody s__law_mixed, defScope s__law_mixed, [], []⟩) rfl
      exact ⟨_, fd, He.glo_ok X G (d.fact 23 (f := .glo "_law_mixed") rfl), F.kp, F, F.bindsN fun _ _ _ _ _ _ us hl => match us, hl with | [_, _, _], _ => rfl⟩
    f__law_draw := by
      obtain ⟨fd, F⟩ := d.def_ 24 (d := ⟨("_law_draw", none), "_law_draw", "_law_draw", defArgs s__law_draw, defBody s__law_draw, defScope s__law_draw, [], []⟩) rfl
      exact ⟨_, fd, He.glo_ok X G (d.fact 24 (f := .glo "_law_draw") rfl), F.kp, F, F.bindsN fun _ _ _ _ _ _ us hl => match us, hl with | [_, _, _], _ => rfl⟩
    f__law_pick := by
      obtain ⟨fd, F⟩ := d.def_ 25 (d := ⟨("_law_pick", none), "_law_pick", "_law_pick", defArgs s__law_pick, defBody s__law_pick, defScope s__law_pick, [], []⟩) rfl
      exact ⟨_, fd, He.glo_ok X G (d.fact 25 (f := .glo "_law_pick") rfl), F.kp, F, F.bindsN fun _ _ _ _ _ _ us hl => match us, hl with | [_, _, _], _ => rfl⟩
    f__law_word := by
      obtain ⟨fd, F⟩ := d.def_ 26 (d := ⟨("_law_word", none), "_law_word", "_law_word", defArgs s__law_word, defBody s__law_word, defScope s__law_word, [], []⟩) rfl
      exact ⟨_, fd, He.glo_ok X G (d.fact 26 (f := .glo "_law_word") rfl), F.kp, F, F.bindsN fun _ _ _ _ _ _ us hl => match us, hl with | [_, _, _, _], _ => rfl⟩
    f__law_words := by
      obtain ⟨fd, F⟩ := d.def_ 27 (d := ⟨("_law_words", none), "_law_words", "_law_words", defArgs s__law_words, defBody s__law_words, defScope s__law_words, [], []⟩) rfl
      exact ⟨_, fd, He.glo_ok X G (d.fact 27 (f := .glo "_law_words") rfl), F.kp, F, F.bindsN fun _ _ _ _ _ _ us hl => match us, hl with | [_, _, _], _ => rfl⟩
    f__law_look := by
      obtain ⟨fd, F⟩ := d.def_ 28 (d := ⟨("_law_look", none), "_law_look", "_law_look", defArgs s__law_look, defBody s__law_look, defScope s__law_look, [], []⟩) rfl
      exact ⟨_, fd, He.glo_ok X G (d.fact 28 (f := .glo "_law_look") rfl), F.kp, F, F.bindsN fun _ _ _ _ _ _ us hl => match us, hl with | [_, _], _ => rfl⟩
    f__law_at := by
      obtain ⟨fd, F⟩ := d.def_ 29 (d := ⟨("_law_at", none), "_law_at", "_law_at", defArgs s__law_at, defBody s__law_at, defScope s__law_at, [], []⟩) rfl
      exact ⟨_, fd, He.glo_ok X G (d.fact 29 (f := .glo "_law_at") rfl), F.kp, F, F.bindsN fun _ _ _ _ _ _ us hl => match us, hl with | [_, _], _ => rfl⟩
    f__law_seen := by
      obtain ⟨fd, F⟩ := d.def_ 30 (d := ⟨("_law_seen", none), "_law_seen", "_law_seen", defArgs s__law_seen, defBody s__law_seen, defScope s__law_seen, [], []⟩) rfl
      exact ⟨_, fd, He.glo_ok X G (d.fact 30 (f := .glo "_law_seen") rfl), F.kp, F, F.bindsN fun _ _ _ _ _ _ us hl => match us, hl with | [_, _], _ => rfl⟩
    f__law_letters := by
      obtain ⟨fd, F⟩ := d.def_ 31 (d := ⟨("_law_letters", none), "_law_letters", "_law_letters", defArgs s__law_letters, defBody s__law_letters, defScope s__law_letters, [], []⟩) rfl
      exact ⟨_, fd, He.glo_ok X G (d.fact 31 (f := .glo "_law_letters") rfl), F.kp, F, F.bindsN fun _ _ _ _ _ _ us hl => match us, hl with | [_, _], _ => rfl⟩
    f__law_by := by
      obtain ⟨fd, F⟩ := d.def_ 32 (d := ⟨("_law_by", none), "_law_by", "_law_by", defArgs s__law_by, defBody s__law_by, defScope s__law_by, [], []⟩) rfl
      exact ⟨_, fd, He.glo_ok X G (d.fact 32 (f := .glo "_law_by") rfl), F.kp, F, F.bindsN fun _ _ _ _ _ _ us hl => match us, hl with | [_, _, _, _], _ => rfl⟩
    f__law_told := by
      obtain ⟨fd, F⟩ := d.def_ 33 (d := ⟨("_law_told", none), "_law_told", "_law_told", defArgs s__law_told, defBody s__law_told, defScope s__law_told, [], []⟩) rfl
      exact ⟨_, fd, He.glo_ok X G (d.fact 33 (f := .glo "_law_told") rfl), F.kp, F, F.bindsN fun _ _ _ _ _ _ us hl => match us, hl with | [_, _, _, _], _ => rfl⟩
    f__law_every := by
      obtain ⟨fd, F⟩ := d.def_ 34 (d := ⟨("_law_every", none), "_law_every", "_law_every", defArgs s__law_every, defBody s__law_every, defScope s__law_every, [], []⟩) rfl
      exact ⟨_, fd, He.glo_ok X G (d.fact 34 (f := .glo "_law_every") rfl), F.kp, F, F.bindsN fun _ _ _ _ _ _ us hl => match us, hl with | [_, _, _], _ => rfl⟩
    f_law := by
      obtain ⟨fd, F⟩ := d.def_ 35 (d := ⟨("law", none), "law", "law", defArgs s_law, defBody s_law, defScope s_law, [], []⟩) rfl
      exact ⟨_, fd, He.glo_ok X G (d.fact 35 (f := .glo "law") rfl), F.kp, F, F.bindsN fun _ _ _ _ _ _ us hl => match us, hl with | [_], _ => rfl⟩ }
end LW
set_option maxHeartbeats 0
open PySem PySem.W PySem.Calls PyProof.Rows
theorem PySem.Challenge.cw_lookwords_k14_whole_left_out_holds : PySem.Challenge.rw_lookwords_k14_whole_left_out.Holds := by
  w_on; o_law
  refine HandSHeadRun.head_any (r := OpenLaw.row PySem.Challenge.rw_lookwords_k14_whole_left_out) (q := view (OpenLaw.row PySem.Challenge.rw_lookwords_k14_whole_left_out).prog [51]) (H := LW.hk) (ob := LW.ob) (M := 12000) (loose := LW.loose) (d := HandSHeadRun.topDef (OpenLaw.row PySem.Challenge.rw_lookwords_k14_whole_left_out).prog 51) (kwd := []) LW.ob_eq
    (by kernel_rfl) (fun s => by kernel_rfl) LW.run (by kernel_rfl) (by kernel_rfl) (by kernel_rfl) (by rfl) (by first | assumption | decide +kernel) (by decide +kernel) ⟨rfl, rfl, rfl, rfl, rfl, by decide +kernel⟩ ?hw ?hc
  case hw => w_witness2
  case hc =>
    refine L2.walk_ofE (l := PySem.Challenge.rw_lookwords_k14_whole_left_out) (n := 63) (k := 10) (x := "_law_script") (CX := DL.CXe (PySem.Challenge.rw_lookwords_k14_whole_left_out).prog) rfl (by decide) (by kernel_rfl) ⟨rfl, by decide, by decide⟩ ?F (fun _ _ _ _ z => DL.cxeNo _ _ _ _ z)
    intro w mg fa h Y G hmg0
    obtain ⟨K, KX, c⟩ := Y
    have hmg : mg ("law" : PySem.Str) = some (.ref fa) := by
      have e : (HandSHeadRun.topDef (OpenLaw.row PySem.Challenge.rw_lookwords_k14_whole_left_out).prog 51).name = ("law" : PySem.Str) := by kernel_rfl
      rw [← e]
      exact hmg0
    have T0 := LW.tx_of (P := (PySem.Challenge.rw_lookwords_k14_whole_left_out).prog) (base := h) KX G c
    obtain ⟨a, fd, g1, g2, F, b⟩ := T0.f_law
    have ea := hmg.symm.trans g1
    cases ea
    exact ⟨K, fd, _, KX, fun s u => (L2.FunD.bindsA (ps := ["_law_script"]) F fun _ _ _ _ _ _ us hl => match us, hl with | [_], _ => rfl) s [u] rfl, fun H a ns hl _ hS => (LW.law_true ns hl).elim fun S e => DL.spD_script e hS,
      fun base KB GB => DL.fnOk_e (LW.v_law (LW.tx_of (P := (PySem.Challenge.rw_lookwords_k14_whole_left_out).prog) (base := base) KB GB c) F)⟩
