import PyProof.Rows.All
import Wide.All
import OpenK.AllK
import Wide.FinOn
import OpenK.AllK
import HandS.ForMost
import HandS.TupAny
import HandS.TupMul
import HandS.Conv
import HandS.Walk
import KE.KDictKeyed
import KE.KDictWalk
import HandS.Exc
import HandS.ExcOwn
import HandS.WordsExc
import HandS.Deep
import HandS.IsInst
import HandS.Flow
import HandS.Style
import HandS.ExcInit
import HandS.ExcField
import HandS.ExcValue
import KE.KExcIs
import HandS.NoneIn
import KE.GoesMore
import HandS.More
import HandS.SetKeys
import HandS.Strs
import HandS.TryOnly
import HandS.RaiseMore
import HandS.SortOrd
import HandS.TupLe
import HandS.NamedTupSort
import HandS.SortRule
import KE.KDictPairs
import HandS.Rev
import HandS.SortInts
import KE.KDictZip
import HandS.TupSets
import HandS.RevTup
import PySem.Challenge.RW_graftsay_k11_plans_known
set_option Elab.async false
set_option linter.all false
set_option maxRecDepth 100000
set_option maxHeartbeats 4000000
namespace L2
open PySem PySem.W PySem.Calls PySem.Spec PyProof.Rows
/-- a tuple whose object has no dict -/
def XT (H : Hp) (a : Addr) (xs : List V) : Prop := ∃ o : Obj, H a = some (.frz o (.tup xs)) ∧ o.dict = none
theorem XT.sq {K : PySem.W.Frag} {H : Hp} {a : Addr} {xs : List V} (h : XT H a xs) : SqT K H a xs := by
  obtain ⟨o, e, _⟩ := h
  exact .inl (.inr ⟨o, e⟩)
theorem XT.new {H : Hp} {a : Addr} {xs : List V} {o : Obj} (h : o.dict = none) : XT (upd H a (.frz o (.tup xs))) a xs := ⟨o, upd_same, h⟩
section
variable {X : Cx} {es : List Expr} {t : TA} {pos : Pos} {pins : List (Addr × Obj)} {s : Shared} {σ : St} {H : Hp}
/-- a new tuple laid, told exactly -/
theorem laidX {ys : List V} {us : List Value} {h1 : Heap} {tk : Nat} (J : Inv X pins σ H { s with heap := h1 }) (rv : Vals ys us) (hz : ys.length ≤ sizeLine) :
    Inv X pins σ (upd H h1.objs.size (.frz { cls := .type "tuple", data := .seq us.toArray } (.tup ys))) { s with heap := h1.push { cls := .type "tuple", data := .seq us.toArray }, toks := tk } :=
  J.laid (t' := tk) (fun _ _ z => Heap.get?_push_of_some _ z) (Nat.le_refl _) ⟨Heap.get?_push_size _ rfl, hz, us, rv, IsTup.new _ _⟩
def tTupX (t : TA) : TE := fun σ H Q => t σ H fun ys H1 => ys.length ≤ sizeLine ∧ ∀ p o, H1 p = none → o.dict = none → Q (.ref p) (upd H1 p (.frz o (.tup ys)))
theorem pe_tupX {x1} (h : PA X es t) : PE X (.Tuple es x1 pos) (tTupX t) := ⟨fun pins s σ H Q I hq => by
  refine wpAny_Tuple_spliced (thn (h.run pos pins s σ H _ I hq) ?_)
  rintro us s1 ⟨ys, H1, J, rv, z, q⟩
  refine ⟨by rw [← rv.length]; exact z, .ref s1.heap.objs.size, _, laidX (s := s1) (tk := s1.toks) J rv z, rfl, q _ _ (J.hok.fresh (Nat.le_refl _)) rfl⟩⟩
/-- a slice of a tuple -/
def rSlX (K : PySem.W.Frag) : V → Option Int → Option Int → Hp → VK → Prop := fun x lo hi H Q => ∃ a ys, x = .ref a ∧ SqT K H a ys ∧
  ((HT.sIx ys.length 0 lo = 0 ∧ HT.sIx ys.length ys.length hi = ys.length) → Q (.ref a) H) ∧ (¬ (HT.sIx ys.length 0 lo = 0 ∧ HT.sIx ys.length ys.length hi = ys.length) → ∀ p o, H p = none → o.dict = none → Q (.ref p) (upd H p (.frz o (.tup (cutV ys lo hi)))))
theorem sl_tupX : SlR X (rSlX X.K) := by
  rintro pins s σ H x v vl vu lo hi sl Q J rx hs pl pu ⟨a, ys, rfl, hy, q1, q2⟩
  by_cases w : HT.sIx ys.length 0 lo = 0 ∧ HT.sIx ys.length ys.length hi = ys.length
  · exact sl_tupA pins s σ H _ v vl vu lo hi sl Q J rx hs pl pu ⟨a, ys, rfl, hy, q1, fun n => absurd w n⟩
  · cases rx
    obtain ⟨us, rv, ht, hz⟩ := J.tuple hy
    have hl : us.toArray.size = ys.length := by rw [List.size_toArray, rv.length]
    refine ⟨"tuple", _, PyProof.Rows.slot_tuple_getitem.lookup, ht.typeIs, HT.getItem_tuple_cut ht hs pl pu (by rw [hl]; exact w) ?_ (by rw [hl]; exact hz)⟩
    rw [hl]
    refine ⟨.ref s.heap.objs.size, _, laidX (ys := cutV ys lo hi) (tk := s.toks) J ?_ (Nat.le_trans (cutV_length ys lo hi) hz), rfl, q2 w _ _ (J.hok.fresh (Nat.le_refl _)) rfl⟩
    exact (rv.drop _).take _
/-- tuples joined -/
def rCatX (K : PySem.W.Frag) : R2 := fun x y H Q => ∃ a b xs ys, x = .ref a ∧ y = .ref b ∧ SqT K H a xs ∧ SqT K H b ys ∧ xs.length + ys.length ≤ sizeLine ∧
  ((xs = [] → Q (.ref b) H) ∧ (xs ≠ [] → ys = [] → Q (.ref a) H) ∧ (xs ≠ [] → ys ≠ [] → ∀ p o, H p = none → o.dict = none → Q (.ref p) (upd H p (.frz o (.tup (xs ++ ys))))))
theorem op_catX : OpR X (binaryOp .Add) (rCatX X.K) := by
  rintro pins s σ H x y v u Q J rx ry ⟨a, b, xs, ys, rfl, rfl, ha, hb, hz, q0, q1, q2⟩
  by_cases hx : xs = []
  · exact op_catA pins s σ H _ _ v u Q J rx ry ⟨a, b, xs, ys, rfl, rfl, ha, hb, hz, q0, q1, fun n => absurd hx n⟩
  · cases rx
    cases ry
    obtain ⟨us, r1, p1, _⟩ := J.tuple ha
    obtain ⟨ws, r2, p2, _⟩ := J.tuple hb
    refine HT.cat_tup p1 p2 (fun n => hx (r1.nil_iff.mp n)) (fun n => ⟨.ref a, H, J, rfl, q1 hx (r2.nil_iff.mp n)⟩) (fun n => ?_) (by rw [← r1.length, ← r2.length]; exact hz)
    exact ⟨.ref s.heap.objs.size, _, laidX (ys := xs ++ ys) (tk := s.toks) J (r1.append r2) (by rw [List.length_append]; exact hz), rfl, q2 hx (fun e => n (r2.nil_iff.mpr e)) _ _ (J.hok.fresh (Nat.le_refl _)) rfl⟩
/-- tuple(..) of a list or a tuple -/
def rTupX (K : PySem.W.Frag) : List V → Hp → VK → Prop := fun xs H Q => ∃ p ys, xs = [.ref p] ∧ ((SqL K H p ys ∧ ∀ l o, H l = none → o.dict = none → Q (.ref l) (upd H l (.frz o (.tup ys)))) ∨ (SqT K H p ys ∧ Q (.ref p) H))
theorem call_tupX : CallR X (.type "tuple") (rTupX X.K) := by
  rintro pins s σ H xs us Q J r ⟨p, ys, rfl, h⟩
  rcases h with ⟨hq, q⟩ | ⟨hq, q⟩
  · obtain ⟨u, rfl, rx⟩ := vals1 r
    cases rx
    obtain ⟨ws, rv, pl, hz⟩ := J.list hq
    have hl := rv.length
    refine call_tuple_list pl.isList (fun h1 kp => ?_) (by simp only [List.size_toArray] <;> omega)
    have J1 : Inv X pins σ H { s with heap := h1 } := J.kept (t' := s.toks) kp
    exact ⟨.ref h1.objs.size, _, laidX (tk := s.toks) J1 rv hz, rfl, q _ _ (J1.hok.fresh (Nat.le_refl _)) rfl⟩
  · exact call_tuple_of pins s σ H _ us Q J r ⟨p, ys, rfl, .inr ⟨hq, q⟩⟩
end
mutual
/-- a value that is such a key, by what is tracked -/
inductive NK (H : Hp) : V → NestedKey → Prop
  | non : NK H .non .none
  | bl (b : Bool) : NK H (.bl b) (.num (if b then 1 else 0))
  | int (i : Int) : NK H (.int i) (.num i)
  | str (x : Str) : NK H (.str x) (.text x)
  | tup {a : Addr} {xs : List V} {ks : List NestedKey} : XT H a xs → NKs H xs ks → NK H (.ref a) (.tup ks)
inductive NKs (H : Hp) : List V → List NestedKey → Prop
  | nil : NKs H [] []
  | cons {x : V} {xs : List V} {k : NestedKey} {ks : List NestedKey} : NK H x k → NKs H xs ks → NKs H (x :: xs) (k :: ks)
end
section
variable {P : Program} {w : World} {H : Hp} {h : Heap}
mutual
theorem NK.is (ok : HOk P w H h) : ∀ {v : V} {k : NestedKey} {u : Value}, NK H v k → RelV v u → NestedIs h k u
  | _, _, u, .non, r => by cases (show u = .none from r); exact .none
  | _, _, u, .bl b, r => by cases (show u = .bool b from r); exact .bool rfl
  | _, _, u, .int i, r => by obtain ⟨t, e⟩ := (show ∃ t, u = .int i t from r); subst e; exact .int _ _
  | _, _, u, .str i, r => by obtain ⟨t, e⟩ := (show ∃ t, u = .str i t from r); subst e; exact .text _ _
  | _, _, u, .tup (a := a) q qs, r => by
    cases (show u = .ref a from r)
    obtain ⟨o, e, _⟩ := q
    obtain ⟨e1, _, its, rv, o', e2, c, n, d⟩ := ok _ _ e
    exact .tup e2 c d (by simpa using NKs.is ok qs rv)
theorem NKs.is (ok : HOk P w H h) : ∀ {vs : List V} {ks : List NestedKey} {us : List Value}, NKs H vs ks → Vals vs us → NestedAll h ks us
  | _, _, _, .nil, .nil => .nil
  | _, _, _, .cons q qs, .cons r rs => .cons (NK.is ok q r) (NKs.is ok qs rs)
end
end
/-- a dict, by its object: each key, its value, what stands there -/
def dX (w : World) (a : Addr) (ep : Nat) (xs : List (NestedKey × Value × Value)) : HO := .ext fun h => ∃ o es, h.get? a = some o ∧ o.ExactDict ∧ o.data = .dict es ep ∧ es.toList = xs.map (fun x => (⟨x.1.hash w, x.2.1, x.2.2⟩ : DictEntry)) ∧
  (xs.map (·.1)).Nodup ∧ xs.length ≤ sizeLine ∧ (a == sysModules) = false
/-- keys that are tuples -/
def refK (y : NestedKey × Addr × Value) : NestedKey × Value × Value := (y.1, .ref y.2.1, y.2.2)
def KOk (H : Hp) (ys : List (NestedKey × Addr × Value)) : Prop := ∀ y ∈ ys, NK H (.ref y.2.1) y.1 ∧ y.1.depth ≤ 8
/-- keys that are ints and texts -/
def nkK : Key → NestedKey
  | .inl i => .num i
  | .inr x => .text x
theorem nkK_inj {a b : Key} (h : nkK a = nkK b) : a = b := by cases a <;> cases b <;> simp [nkK] at h <;> rw [h]
def valK (y : Key × Value × Value) : NestedKey × Value × Value := (nkK y.1, y.2.1, y.2.2)
def SOk (ys : List (Key × Value × Value)) : Prop := ∀ y ∈ ys, keyIs y.1 y.2.1 = true
def pairK (ys : List (Key × Value × Value)) : List (Key × Value) := ys.map fun y => (y.1, y.2.2)
section
variable {P : Program} {w : World} {H : Hp} {h : Heap} {a : Addr} {ep : Nat}
theorem dX_raw {xs : List (NestedKey × Value × Value)} (ok : HOk P w H h) (e : H a = some (dX w a ep xs)) : ∃ es, h.DictRaw a es ep ∧ es.toList = xs.map (fun x => (⟨x.1.hash w, x.2.1, x.2.2⟩ : DictEntry)) ∧ xs.length ≤ sizeLine ∧ (a == sysModules) = false := by
  obtain ⟨⟨o, es, h1, h2, h3, h4, h5, h6, h7⟩, _⟩ := ok _ _ e
  exact ⟨es, ⟨o, h1, h2, h3⟩, h4, h6, h7⟩
theorem dX_mk {xs : List (NestedKey × Value × Value)} {o : Obj} {es : Array DictEntry} (h1 : h.get? a = some o) (h2 : o.ExactDict) (h3 : o.data = .dict es ep) (h4 : es.toList = xs.map (fun x => (⟨x.1.hash w, x.2.1, x.2.2⟩ : DictEntry)))
    (h5 : (xs.map (·.1)).Nodup) (h6 : xs.length ≤ sizeLine) (h7 : (a == sysModules) = false) : ObjOk P w H h a (dX w a ep xs) :=
  ⟨⟨o, es, h1, h2, h3, h4, h5, h6, h7⟩, ⟨o, h1⟩, fun g1 g2 ⟨o', es', q1, q2⟩ k => ⟨o', es', k _ q1, q2⟩⟩
theorem dX_ofT {ys : List (NestedKey × Addr × Value)} (ok : HOk P w H h) (e : H a = some (dX w a ep (ys.map refK))) (hk : KOk H ys) : h.DictOfH (nestedKind P w) a ys ∧ ys.length ≤ sizeLine ∧ (a == sysModules) = false := by
  obtain ⟨⟨o, es, h1, h2, h3, h4, h5, h6, h7⟩, _⟩ := ok _ _ e
  rw [List.map_map] at h4 h5
  rw [List.length_map] at h6
  exact ⟨⟨o, es, ep, h1, h2, h3, h4, fun x m => ⟨(hk x m).1.is ok rfl, (hk x m).2⟩, h5⟩, h6, h7⟩
theorem dX_okT {ys : List (NestedKey × Addr × Value)} (hd : h.DictOfH (nestedKind P w) a ys) (hz : ys.length ≤ sizeLine) (hs : (a == sysModules) = false) : ∃ ep, ∀ H, ObjOk P w H h a (dX w a ep (ys.map refK)) := by
  obtain ⟨o, es, ep, h1, h2, h3, h4, _, h5⟩ := hd
  exact ⟨ep, fun H => dX_mk h1 h2 h3 (by rw [List.map_map]; exact h4) (by rw [List.map_map]; exact h5) (by rw [List.length_map]; exact hz) hs⟩
theorem pairs_valK (P : Program) (w : World) : ∀ {ys : List (Key × Value × Value)}, SOk ys → Pairs (mixKind P w) (ys.map fun y => (⟨(nkK y.1).hash w, y.2.1, y.2.2⟩ : DictEntry)) (pairK ys)
  | [], _ => .nil
  | y :: ys, h => .cons (h y (by simp)) rfl (pairs_valK P w fun z m => h z (by simp [m]))
theorem hash_nkK (w : World) (k : Key) : (nkK k).hash w = keyH w k := by cases k <;> rfl
theorem dX_ofS {ys : List (Key × Value × Value)} (ok : HOk P w H h) (e : H a = some (dX w a ep (ys.map valK))) (hk : SOk ys) : h.DictOf (mixKind P w) a (pairK ys) ∧ (pairK ys).length ≤ sizeLine ∧ (a == sysModules) = false := by
  obtain ⟨⟨o, es, h1, h2, h3, h4, h5, h6, h7⟩, _⟩ := ok _ _ e
  rw [List.map_map] at h4 h5
  rw [List.length_map] at h6
  have h4 : es.toList = ys.map fun y => (⟨(nkK y.1).hash w, y.2.1, y.2.2⟩ : DictEntry) := h4
  refine ⟨⟨o, es, ep, h1, h2, h3, fun x m => ?_, by rw [h4]; exact pairs_valK P w hk, ?_⟩, by unfold pairK; rw [List.length_map]; exact h6, h7⟩
  · have m' : x ∈ es.toList := by simpa using m
    rw [h4] at m'
    obtain ⟨y, my, rfl⟩ := List.mem_map.mp m'
    exact ⟨y.1, hk y my, hash_nkK w y.1⟩
  · have h5 : (ys.map fun y => nkK y.1).Nodup := h5
    unfold pairK
    rw [List.map_map]
    have h6 : ((ys.map fun y => y.1).map nkK).Nodup := by rw [List.map_map]; exact h5
    exact (List.pairwise_map.mp h6).imp fun n e => n (by rw [e])
theorem pairs_back : ∀ {es : List DictEntry} {vs : List (Key × Value)}, Pairs (mixKind P w) es vs → (∀ e ∈ es, ∃ k, keyIs k e.key = true ∧ e.hash = keyH w k) → ∃ ys, SOk ys ∧ pairK ys = vs ∧ es = ys.map fun y => (⟨(nkK y.1).hash w, y.2.1, y.2.2⟩ : DictEntry)
  | _, _, .nil, _ => ⟨[], fun _ m => (by cases m), rfl, rfl⟩
  | _, _, .cons (e := e) (kv := kv) h1 h2 t, hk => by
    obtain ⟨ys, q1, q2, q3⟩ := pairs_back t fun e m => hk e (by simp [m])
    obtain ⟨k, r1, r2⟩ := hk e (by simp)
    have ek : k = kv.1 := (mixKind P w).inj _ _ _ r1 h1
    subst ek
    refine ⟨(kv.1, e.key, kv.2) :: ys, fun y m => ?_, by simp [pairK] at q2 ⊢; exact q2, ?_⟩
    · cases m with
      | head => exact h1
      | tail _ m => exact q1 y m
    · rw [List.map_cons, ← q3]
      congr 1
      cases e
      simp only at h2 r2
      simp [hash_nkK, r2, h2]
theorem dX_okS {vs : List (Key × Value)} (hd : h.DictOf (mixKind P w) a vs) (hz : vs.length ≤ sizeLine) (hs : (a == sysModules) = false) : ∃ ep ys, SOk ys ∧ pairK ys = vs ∧ ∀ H, ObjOk P w H h a (dX w a ep (ys.map valK)) := by
  obtain ⟨o, es, ep, h1, h2, h3, hk, hp, hn⟩ := hd
  obtain ⟨ys, q1, q2, q3⟩ := pairs_back hp fun e m => hk e (by simpa using m)
  refine ⟨ep, ys, q1, q2, fun H => dX_mk h1 h2 h3 (by rw [List.map_map]; exact q3) ?_ ?_ hs⟩
  · rw [List.map_map]
    have e : ys.map ((fun x => x.1) ∘ valK) = (vs.map (·.1)).map nkK := by rw [← q2]; unfold pairK; rw [List.map_map, List.map_map]; rfl
    rw [e]
    exact List.Pairwise.map nkK (fun a b n e => n (nkK_inj e)) hn
  · rw [List.length_map]
    have : (pairK ys).length = ys.length := by simp [pairK]
    rw [← this, q2]
    exact hz
end
def look (xs : List (NestedKey × Value × Value)) (k : NestedKey) : Option Value := (xs.find? fun x => decide (x.1 = k)).map (·.2.2)
theorem look_T (ys : List (NestedKey × Addr × Value)) (k : NestedKey) : look (ys.map refK) k = valueAt (pairsH ys) k := by
  induction ys with
  | nil => rfl
  | cons y ys ih =>
    by_cases e : y.1 = k
    · simp [look, refK, pairsH, valueAt, e]
    · simpa [look, refK, pairsH, valueAt, e] using ih
theorem look_S (ys : List (Key × Value × Value)) (k : Key) : look (ys.map valK) (nkK k) = valueAt (pairK ys) k := by
  induction ys with
  | nil => rfl
  | cons y ys ih =>
    by_cases e : y.1 = k
    · simp [look, valK, pairK, valueAt, e]
    · have n : ¬ nkK y.1 = nkK k := fun q => e (nkK_inj q)
      simpa [look, valK, pairK, valueAt, e, n] using ih
/-- a key that may be asked for -/
def KeyAt (H : Hp) (v : V) (b : Addr) (k : NestedKey) : Prop := v = .ref b ∧ NK H (.ref b) k ∧ k.depth ≤ 8
/-- y asked of the dict at a -/
def LookX (w : World) (H : Hp) (a : Addr) (y : V) (r : Option Value) : Prop := ∃ ep xs k, H a = some (dX w a ep xs) ∧ r = look xs k ∧ ((∃ b ys, xs = ys.map refK ∧ KOk H ys ∧ KeyAt H y b k) ∨ (∃ ys kk, xs = ys.map valK ∧ SOk ys ∧ y = kV kk ∧ k = nkK kk))
section
variable {X : Cx}
theorem KeyAt.is {P : Program} {w : World} {H : Hp} {h : Heap} {v : V} {b : Addr} {k : NestedKey} (ok : HOk P w H h) (q : KeyAt H v b k) : (nestedKind P w).is h k b := ⟨q.2.1.is ok rfl, q.2.2⟩
theorem roomX (hu : X.A.units + 65 < cLine) : (nestedKind X.prog X.w).room X.A.in1 := by
  show X.A.units + 1 + 8 < cLine
  omega
/-- the two sorts of asking -/
theorem LookX.cases {pins : List (Addr × Obj)} {σ : St} {H : Hp} {s : Shared} {a : Addr} {y : V} {u : Value} {r : Option Value} (g : LookX X.w H a y r) (J : Inv X pins σ H s) (ry : RelV y u) :
    (a == sysModules) = false ∧ ((∃ b ys k, u = .ref b ∧ s.heap.DictOfH (nestedKind X.prog X.w) a ys ∧ (nestedKind X.prog X.w).is s.heap k b ∧ r = valueAt (pairsH ys) k) ∨ ∃ vs kk, s.heap.DictOf (mixKind X.prog X.w) a vs ∧ (mixKind X.prog X.w).is kk u = true ∧ r = valueAt vs kk) := by
  obtain ⟨ep, xs, k, e, er, g⟩ := g
  rcases g with ⟨b, ys, rfl, hk, hy⟩ | ⟨ys, kk, rfl, hk, rfl, rfl⟩
  · obtain ⟨hm, hz, hs⟩ := dX_ofT J.hok e hk
    refine ⟨hs, .inl ⟨b, ys, k, ?_, hm, hy.is J.hok, by rw [er, look_T]⟩⟩
    obtain ⟨rfl, _⟩ := hy
    exact ry
  · obtain ⟨hm, hz, hs⟩ := dX_ofS J.hok e hk
    exact ⟨hs, .inr ⟨_, kk, hm, kV_is ry, by rw [er, look_S]⟩⟩
def rXG (w : World) : R2 := fun x y H Q => ∃ a u v, x = .ref a ∧ LookX w H a y (some u) ∧ RelV v u ∧ Q v H
theorem ix_dX (hu : X.A.units + 65 < cLine) : IxR X (rXG X.w) := by
  rintro value slice pins s σ H x y v u Q I rx ry ⟨a, uu, vv, rfl, g, rv, q⟩ hs
  obtain rfl : v = Value.ref a := rx
  obtain ⟨hsm, g⟩ := g.cases I ry
  have hT : s.TypeIs (.ref a) "dict" := by
    rcases g with ⟨b, ys, k, _, hm, _⟩ | ⟨vs, kk, hm, _⟩
    · exact hm.typeIs
    · exact hm.typeIs
  unfold subscriptTail
  refine wpAny_bind ?_
  rw [getitemInPython_of_ne hT.not_modules]
  refine wpAny_bind (wpAny_specialOf hT PySem.F.slot_dict_getitem.lookup ?_)
  have fin : wpAny (model X.prog X.w) X.A (subscripted slice false (Value.ref a) u) (fun r s₃ => wpAny (model X.prog X.w) X.A (letTemporaryGo value (Value.ref a) r >>= fun _ => pure r) (EP X pins σ Q) X.xe s₃) X.xe s := by
    rw [hs]
    refine wpAny_operating (wpAny_mono (Q := EP X pins σ Q) (E := X.xe) ?_ (fun r s₃ h₃ => wpAny_bind (wpAny_letTemporaryGo (wpAny_pure h₃))) fun _ _ x => x)
    rcases g with ⟨b, ys, k, rfl, hm, hk, e⟩ | ⟨vs, kk, hm, hk, e⟩
    · exact getItem_keyed (roomX hu) hk ⟨ys, hm, rfl⟩ e.symm ⟨vv, H, I.tok _, rv, q⟩
    · exact wpAny_getItem_of hk hm.mapOf e.symm ⟨vv, H, I.tok _, rv, q⟩
  exact wpAny_pure (wpAny_bind fin)
def rXin (neg : Bool) (w : World) : R2 := fun y x H Q => ∃ a r, x = .ref a ∧ LookX w H a y r ∧ Q (.bl (neg ^^ r.isSome)) H
theorem op_Xin (hu : X.A.units + 65 < cLine) : OpR X (compareOp .In) (rXin false X.w) := by
  rintro pins s σ H y x v u Q I ry rx ⟨a, r, rfl, g, q⟩
  obtain rfl : u = Value.ref a := rx
  obtain ⟨hsm, g⟩ := g.cases I ry
  rw [Bool.false_xor] at q
  rcases g with ⟨b, ys, k, rfl, hm, hk, rfl⟩ | ⟨vs, kk, hm, hk, rfl⟩
  · exact in_keyed (roomX hu) hk hsm ⟨ys, hm, rfl⟩ ⟨.bl _, H, I.tok _, rfl, q⟩
  · exact wpAny_in_of hk hsm hm.mapOf ⟨.bl _, H, I.tok _, rfl, q⟩
theorem op_Xni (hu : X.A.units + 65 < cLine) : OpR X (compareOp .NotIn) (rXin true X.w) := by
  rintro pins s σ H y x v u Q I ry rx ⟨a, r, rfl, g, q⟩
  obtain rfl : u = Value.ref a := rx
  obtain ⟨hsm, g⟩ := g.cases I ry
  rw [Bool.true_xor] at q
  rcases g with ⟨b, ys, k, rfl, hm, hk, rfl⟩ | ⟨vs, kk, hm, hk, rfl⟩
  · exact notIn_keyed (roomX hu) hk hsm ⟨ys, hm, rfl⟩ ⟨.bl _, H, I.tok _, rfl, q⟩
  · exact wpAny_notIn_of hk hsm hm.mapOf ⟨.bl _, H, I.tok _, rfl, q⟩
/-- d[k] = v -/
def rXS (w : World) : TSet := fun o i v H Q => ∃ a ep xs, o = .ref a ∧ H a = some (dX w a ep xs) ∧ xs.length < sizeLine ∧ ((∃ b ys k, xs = ys.map refK ∧ KOk H ys ∧ KeyAt H i b k ∧ ∀ ep u, RelV v u → Q (upd H a (dX w a ep ((storedH ys k b u).map refK)))) ∨
  (∃ ys k, xs = ys.map valK ∧ SOk ys ∧ i = kV k ∧ ∀ ep u zs, RelV v u → SOk zs → pairK zs = stored (pairK ys) k u → Q (upd H a (dX w a ep (zs.map valK)))))
theorem storedH_len (xs : List (NestedKey × Addr × Value)) (k : NestedKey) (b : Addr) (u : Value) : (storedH xs k b u).length ≤ xs.length + 1 := by
  unfold storedH
  split <;> simp
theorem stored_len (xs : List (Key × Value)) (k : Key) (u : Value) : (stored xs k u).length ≤ xs.length + 1 := by
  unfold stored
  split <;> simp
theorem set_dX (hu : X.A.units + 65 < cLine) : PSet X (rXS X.w) := by
  rintro pins s σ H o i v ov iv u Q I ro ri rv ⟨a, ep, xs, rfl, e, hz, h⟩
  obtain rfl : ov = Value.ref a := ro
  have mu : Mut (H a) := by rw [e]; exact True.intro
  rcases h with ⟨b, ys, k, rfl, hk, hi, q⟩ | ⟨ys, k, rfl, hk, rfl, q⟩
  · obtain rfl : iv = Value.ref b := by obtain ⟨rfl, _⟩ := hi; exact ri
    obtain ⟨hm, _, hsm⟩ := dX_ofT I.hok e hk
    rw [List.length_map] at hz
    refine wpAny_setItem_heap (hsz := Nat.le_of_lt hz) (roomX hu) (hi.is I.hok) hm fun h' hm' hs => ?_
    obtain ⟨ep, ok⟩ := dX_okT hm' (Nat.le_trans (storedH_len ys k b u) hz) hsm
    exact ⟨_, I.write (t' := s.toks + (nestedKind X.prog X.w).draws k) mu (.inl rfl) (fun c o nc e => (hs.2 c nc).trans e) (let ⟨o, _, _, e, _⟩ := hm'; ⟨o, e⟩) (ok _), q ep u rv⟩
  · obtain ⟨hm, hz2, hsm⟩ := dX_ofS I.hok e hk
    have lz : (pairK ys).length = ys.length := by simp [pairK]
    rw [List.length_map, ← lz] at hz
    refine wpAny_setItem_pairs (hsz := hz2) (kV_is ri) hm fun h' hm' hs => ?_
    obtain ⟨ep, zs, z1, z2, ok⟩ := dX_okS hm' (Nat.le_trans (stored_len _ _ _) hz) hsm
    exact ⟨_, I.write (t' := s.toks + 1) mu (.inl rfl) (fun c o nc e => (hs.2 c nc).trans e) (let ⟨o, _, _, e, _⟩ := hm'; ⟨o, e⟩) (ok _), q ep u zs rv z1 z2⟩
end
section
variable {X : Cx} {o e f : Expr} {apos cpos : Pos} {td ty tx : TE}
end
def tRe (w : World) (t : TE) : TE := fun σ H Q => t σ H fun v H1 => ∃ p kvs, v = .ref p ∧ H1 p = some (.dK kvs) ∧ ∀ ep ys, SOk ys → KV kvs (pairK ys) → Q v (upd H1 p (dX w p ep (ys.map valK)))
theorem pe_re {X : Cx} {e : Expr} {t : TE} (h : PE X e t) : PE X e (tRe X.w t) := ⟨fun pins s σ H Q J q => by
  refine thn (h.run pins s σ H _ J q) ?_
  rintro u s1 ⟨x, H1, J1, rx, p, kvs, rfl, e, q1⟩
  obtain ⟨hz, hs, vs, rel, hd⟩ := J1.hok _ _ e
  have hz2 : vs.length ≤ sizeLine := by rw [← rel.length]; exact hz
  obtain ⟨ep, ys, y1, y2, ok⟩ := dX_okS hd hz2 hs
  refine ⟨.ref p, _, J1.write (t' := s1.toks) (by rw [e]; exact True.intro) (.inl rfl) (fun c o _ z => z) (let ⟨o, _, _, z, _⟩ := hd; ⟨o, z⟩) (ok _), rx, q1 ep ys y1 (by rw [y2]; exact rel)⟩⟩
def Itx (w : World) (d : Addr) (ep : Nat) (xs : List (NestedKey × Value × Value)) (vs : List V) : It :=
  ⟨fun i H => H d = some (dX w d ep xs) ∧ i < vs.length, fun i H x H' => H' = H ∧ vs[i]? = some x, fun i H => H d = some (dX w d ep xs) ∧ vs.length ≤ i⟩
theorem turn_dX {P : Program} {w : World} {K : PySem.W.Frag} {tg : Expr} {d : Addr} {ep : Nat} {xs : List (NestedKey × Value × Value)} {vs : List V} (it : Addr) (rv : Vals vs (xs.map (·.2.1))) :
    Turn P w K tg (Itx w d ep xs vs) [it] it (fun i h => h.IsKeyIter it d i vs.length ep) where
  mem := List.mem_singleton.mpr rfl
  obj := fun i h st b hb => by
    obtain rfl := List.mem_singleton.mp hb
    obtain ⟨oi, e, c, dd⟩ := st
    exact ⟨oi, e, fun v z => by rw [dd] at z; cases z⟩
  keep := fun i h h' st k => st.at fun oi e => k it (List.mem_singleton.mpr rfl) oi e
  item := by
    rintro X rfl rfl rfl hc i pins s σ H E J hf st ⟨hd, hi⟩
    obtain ⟨f0, f1, f2, f3, f4, f5⟩ := hf it (List.mem_singleton.mpr rfl)
    obtain ⟨es, hm, he, _, _⟩ := dX_raw J.hok hd
    have ls : es.size = vs.length := by rw [← Array.length_toList, he, List.length_map, rv.length, List.length_map]
    obtain ⟨x, hx⟩ : ∃ x, vs[i]? = some x := ⟨vs[i], List.getElem?_eq_getElem hi⟩
    obtain ⟨u, hu, ru⟩ := rv.get hx
    rw [← ls] at st hi
    refine wpAny_pyNext_keys_item_raw st hm hi fun h' st' sb => ?_
    have ek : es[i].key = u := by
      rw [List.getElem?_map] at hu
      obtain ⟨y, hy, rfl⟩ := Option.map_eq_some_iff.mp hu
      have h1 : es.toList[i]? = some es[i] := by rw [Array.getElem?_toList, Array.getElem?_eq_getElem hi]
      rw [he, List.getElem?_map, hy] at h1
      exact (congrArg DictEntry.key (Option.some.inj h1)).symm
    have J1 : Inv X pins σ H { s with heap := h' } := J.turned (t' := s.toks) (fun b ob nb e => (sb.2 b nb).trans e) f0 f1 f3 f4 f5
    obtain ⟨oi, e, c, dd⟩ := id st'
    refine ⟨_, rfl, go_of (s := { s with heap := h' }) e c dd (by decide) ⟨x, H, J1, by rw [ek]; exact ru, ⟨rfl, hx⟩, ?_, fun b hb => (hf b hb).1⟩⟩
    show h'.IsKeyIter it d (i + 1) vs.length ep
    rw [← ls]
    exact st'
  done := by
    rintro X rfl rfl rfl hc i pins s σ H E J hf st ⟨hd, hi⟩
    obtain ⟨f0, f1, f2, f3, f4, f5⟩ := hf it (List.mem_singleton.mpr rfl)
    obtain ⟨es, hm, he, _, _⟩ := dX_raw J.hok hd
    have ls : es.size = vs.length := by rw [← Array.length_toList, he, List.length_map, rv.length, List.length_map]
    rw [← ls] at st hi
    exact wpAny_pyNext_keys_end_raw (J.ok.hd hc) st hm hi fun h' eb => ⟨rfl, J.turned (t' := s.toks) (fun b ob nb e => eb b ob nb e) f0 f1 f3 f4 f5⟩
  self := fun A i s Q E st h => wpAny_pyIter_keyiter st h
theorem walk_dX {w : World} {d : Addr} {ep : Nat} {xs : List (NestedKey × Value × Value)} {vs : List V} : Walk (Itx w d ep xs vs) vs.length (fun H => H d = some (dX w d ep xs)) (YAt vs) :=
  ⟨fun i _ hi q => ⟨q, hi⟩, fun _ q => ⟨q, Nat.le_refl _⟩, fun i H v H' _ q y => y⟩
end L2
namespace GS
open PySem L2
abbrev D := PyData
/-- the written part and the world -/
structure KW where
  fr : PySem.W.Frag
  w : World
instance : CoeOut KW PySem.W.Frag := ⟨KW.fr⟩
/-- how a slot holds its datum: shared (never changed any more), owned (the slot's own list or dict), lent by the caller -/
inductive Fl where | sh | ow | io
  deriving DecidableEq
structure Cel where
  d : D
  fl : Fl
abbrev Rho := List (Option Cel)
/-- what an expression gives: a shared datum, a new list or dict that nobody else holds, what stands in a slot -/
inductive Hd where | sh (d : D) | fr (d : D) | bw (i : Nat)
/-- an exception: its class's name, its fields -/
structure Xc where
  cls : Str
  fs : List (Str × D)
inductive RE where | stuck | ok (h : Hd) (ρ : Rho) | exc (x : Xc) (ρ : Rho)
inductive RS where | stuck | nx (ρ : Rho) | rt (h : Hd) (ρ : Rho) | bk (ρ : Rho) | ct (ρ : Rho) | exc (x : Xc) (ρ : Rho)
abbrev EF := Rho → RE
abbrev SF := Rho → RS
mutual
/-- a datum as a key -/
def nkD : D → Option NestedKey
  | .none => some .none
  | .bool b => some (.num (if b then 1 else 0))
  | .int i => some (.num i)
  | .str x => some (.text x)
  | .tuple ds => (nkL ds).map .tup
  | .list _ => none
  | .dict _ => none
def nkL : List D → Option (List NestedKey)
  | [] => some []
  | d :: ds => (nkD d).bind fun k => (nkL ds).map fun ks => k :: ks
end
/-- a tuple as a key -/
def tkD (ds : List D) : Option NestedKey := (nkL ds).bind fun ks => if (NestedKey.tup ks).depth ≤ 8 then some (.tup ks) else none
def tupB : D → Bool
  | .tuple _ => true
  | _ => false
/-- what may be a key -/
def keyD : D → Option NestedKey
  | .int i => some (.num i)
  | .str x => some (.text x)
  | .tuple ds => tkD ds
  | _ => none
def kD : Key → D
  | .inl i => .int i
  | .inr x => .str x
/-- the class of that name in the written part -/
def cvK (K : PySem.W.Frag) (c : Str) : Value := match K.find? (fun p => match p.2.data with | .cls cd => cd.name == c | _ => false) with
  | some p => .ref p.1
  | none => .none
/-- an exception object -/
def exV (a : Addr) (cls : Value) (d : Option Addr) : HO := .ext fun h => ∃ (oe : Obj) (vs : Array Value), h.get? a = some oe ∧ Zc cls d oe ∧ oe.data = .fields vs
/-- what the written part says of an own exception class -/
def xcB (K : PySem.W.Frag) (cls : Value) : Bool := match cls with
  | .ref D => (PySem.W.clsIn K D).isSome && (decide (PySem.W.findIn K (.ref D) "__getattribute__" = some (some (.builtin "BaseException.__getattribute__"))) && (decide (PySem.W.findIn K (.ref D) "__getattr__" = some none) && (decide (PySem.W.subIn K (.ref D) (.type "BaseException") = some true) &&
      (PySem.W.hasDictIn K D && (decide (PySem.W.findIn K (.ref D) "__class__" = some (some (.builtin "object.__class__"))) && (decide (PySem.W.specialIn K (.builtin "object.__class__") "__get__" = some (some (.builtin "getset_descriptor.__get__"))) &&
      (decide (PySem.W.takesIn K (.builtin "object.__class__") = some true) && (decide (PySem.W.mroIn K D (.type "object") = some true) && ["tuple", "str", "bool", "int", "list", "dict"].all fun T => decide (PySem.W.kitOne K (.ref D) (.type T) = some false)))))))))
  | _ => false
/-- an exception as a datum: its class's name, its fields' names, what they hold -/
abbrev xnD (c : Str) (ns : List Str) (ds : List D) : D := .dict [(.none, .tuple (.str c :: .tuple (ns.map PyData.str) :: ds))]
def xnB : List (D × D) → Bool
  | (.none, _) :: _ => true
  | _ => false
/-- an exception's dict -/
def XdB (B : Hp) (d : Option Addr) (fs : List (Str × V)) : Prop := (d = none ∧ fs = []) ∨ ∃ dd, d = some dd ∧ B dd = some (.xd fs)
mutual
inductive Rp (K : KW) (B : Hp) : V → D → Prop
  | non : Rp K B .non .none
  | bl (b : Bool) : Rp K B (.bl b) (.bool b)
  | int (i : Int) : Rp K B (.int i) (.int i)
  | str (x : Str) : Rp K B (.str x) (.str x)
  | lst {a : Addr} {xs : List V} {ds : List D} : SqL K B a xs → RpL K B xs ds → Rp K B (.ref a) (.list ds)
  | tup {a : Addr} {xs : List V} {ds : List D} : XT B a xs → RpL K B xs ds → Rp K B (.ref a) (.tuple ds)
  | dct {a : Addr} {ep : Nat} {b : Bool} {xs : List (NestedKey × Value × Value)} {ps : List (D × D)} : B a = some (dX K.w a ep xs) → RpX K B b xs ps → Rp K B (.ref a) (.dict ps)
  | exn {a : Addr} {c : Str} {d : Option Addr} {fs : List (Str × V)} {ds : List D} : B a = some (exV a (cvK K c) d) → xcB K (cvK K c) = true → XdB B d fs → RpL K B (fs.map (·.2)) ds → Rp K B (.ref a) (xnD c (fs.map (·.1)) ds)
inductive RpL (K : KW) (B : Hp) : List V → List D → Prop
  | nil : RpL K B [] []
  | cons {v : V} {vs : List V} {d : D} {ds : List D} : Rp K B v d → RpL K B vs ds → RpL K B (v :: vs) (d :: ds)
inductive RpK (K : KW) (B : Hp) : List (Key × V) → List (D × D) → Prop
  | nil : RpK K B [] []
  | cons {k : Key} {v : V} {kvs : List (Key × V)} {d : D} {ps : List (D × D)} : Rp K B v d → RpK K B kvs ps → RpK K B ((k, v) :: kvs) ((kD k, d) :: ps)
inductive RpX (K : KW) (B : Hp) : Bool → List (NestedKey × Value × Value) → List (D × D) → Prop
  | nil {b : Bool} : RpX K B b [] []
  | cons {b : Bool} {k : NestedKey} {kv v : V} {ku u : Value} {xs : List (NestedKey × Value × Value)} {kd d : D} {ps : List (D × D)} : keyD kd = some k → tupB kd = b → Rp K B kv kd → RelV kv ku → RelV v u → Rp K B v d → RpX K B b xs ps → RpX K B b ((k, ku, u) :: xs) ((kd, d) :: ps)
end
theorem same_rd {H H' : Hp} {a : Addr} {u : HO} (e : Same H H') (h : Rd H a u) : Rd H' a u := by
  rcases h with h | ⟨o, h⟩
  · exact .inl (e _ _ h)
  · exact .inr ⟨o, e _ _ h⟩
theorem same_l {K : KW} {H H' : Hp} {a : Addr} {xs : List V} (e : Same H H') (h : SqL K H a xs) : SqL K H' a xs := h.elim (fun h => .inl (same_rd e h)) .inr
theorem same_t {K : KW} {H H' : Hp} {a : Addr} {xs : List V} (e : Same H H') (h : SqT K H a xs) : SqT K H' a xs := h.elim (fun h => .inl (same_rd e h)) .inr
theorem same_x {H H' : Hp} {a : Addr} {xs : List V} (e : Same H H') (h : XT H a xs) : XT H' a xs := let ⟨o, h1, h2⟩ := h; ⟨o, e _ _ h1, h2⟩
theorem XdB.mono {B B' : Hp} {d : Option Addr} {fs : List (Str × V)} (e : Same B B') (h : XdB B d fs) : XdB B' d fs := h.imp id fun ⟨dd, e1, e2⟩ => ⟨dd, e1, e _ _ e2⟩
section
variable {K : KW} {B B' : Hp}
mutual
theorem Rp.mono (e : Same B B') : ∀ {v : V} {d : D}, Rp K B v d → Rp K B' v d
  | _, _, .non => .non
  | _, _, .bl b => .bl b
  | _, _, .int i => .int i
  | _, _, .str x => .str x
  | _, _, .lst h t => .lst (same_l e h) (RpL.mono e t)
  | _, _, .tup h t => .tup (same_x e h) (RpL.mono e t)
  | _, _, .dct h t => .dct (e _ _ h) (RpX.mono e t)
  | _, _, .exn h q x t => .exn (e _ _ h) q (x.mono e) (RpL.mono e t)
theorem RpL.mono (e : Same B B') : ∀ {v : List V} {d : List D}, RpL K B v d → RpL K B' v d
  | _, _, .nil => .nil
  | _, _, .cons h t => .cons (Rp.mono e h) (RpL.mono e t)
theorem RpK.mono (e : Same B B') : ∀ {v : List (Key × V)} {d : List (D × D)}, RpK K B v d → RpK K B' v d
  | _, _, .nil => .nil
  | _, _, .cons h t => .cons (Rp.mono e h) (RpK.mono e t)
theorem RpX.mono (e : Same B B') : ∀ {b : Bool} {v : List (NestedKey × Value × Value)} {d : List (D × D)}, RpX K B b v d → RpX K B' b v d
  | _, _, _, .nil => .nil
  | _, _, _, .cons h1 h2 h3 h4 h5 h6 m => .cons h1 h2 (Rp.mono e h3) h4 h5 (Rp.mono e h6) (RpX.mono e m)
end
theorem RpL.length : ∀ {vs : List V} {ds : List D}, RpL K B vs ds → vs.length = ds.length
  | _, _, .nil => rfl
  | _, _, .cons _ t => by rw [List.length_cons, List.length_cons, RpL.length t]
theorem RpL.get : ∀ {vs : List V} {ds : List D} {i : Nat} {d : D}, RpL K B vs ds → ds[i]? = some d → ∃ v, vs[i]? = some v ∧ Rp K B v d
  | _, _, _, _, .nil, e => by simp at e
  | _, _, 0, _, .cons h _, e => by simp at e; subst e; exact ⟨_, rfl, h⟩
  | _, _, i + 1, d, .cons _ t, e => by
    obtain ⟨v, h1, h2⟩ := RpL.get (i := i) (d := d) t (by simpa using e)
    exact ⟨v, by simpa using h1, h2⟩
theorem RpL.getV : ∀ {vs : List V} {ds : List D} {i : Nat} {v : V}, RpL K B vs ds → vs[i]? = some v → ∃ d, ds[i]? = some d ∧ Rp K B v d
  | _, _, _, _, .nil, e => by simp at e
  | _, _, 0, _, .cons h _, e => by simp at e; subst e; exact ⟨_, rfl, h⟩
  | _, _, i + 1, d, .cons _ t, e => by
    obtain ⟨v, h1, h2⟩ := RpL.getV (i := i) (v := d) t (by simpa using e)
    exact ⟨v, by simpa using h1, h2⟩
theorem RpL.append : ∀ {vs ws : List V} {ds es : List D}, RpL K B vs ds → RpL K B ws es → RpL K B (vs ++ ws) (ds ++ es)
  | _, _, _, _, .nil, s => s
  | _, _, _, _, .cons h t, s => .cons h (RpL.append t s)
theorem RpL.take : ∀ {vs : List V} {ds : List D} (n : Nat), RpL K B vs ds → RpL K B (vs.take n) (ds.take n)
  | _, _, 0, _ => .nil
  | _, _, _ + 1, .nil => .nil
  | _, _, n + 1, .cons h t => .cons h (RpL.take n t)
theorem RpL.drop : ∀ {vs : List V} {ds : List D} (n : Nat), RpL K B vs ds → RpL K B (vs.drop n) (ds.drop n)
  | _, _, 0, r => r
  | _, _, _ + 1, .nil => .nil
  | _, _, n + 1, .cons _ t => RpL.drop n t
theorem RpL.set {x : V} {e : D} (r : Rp K B x e) : ∀ {vs : List V} {ds : List D} (i : Nat), RpL K B vs ds → RpL K B (vs.set i x) (ds.set i e)
  | _, _, _, .nil => .nil
  | _, _, 0, .cons _ t => .cons r t
  | _, _, i + 1, .cons q t => .cons q (RpL.set r i t)
theorem RpL.reverse {vs : List V} {ds : List D} (h : RpL K B vs ds) : RpL K B vs.reverse ds.reverse := by
  induction vs generalizing ds with
  | nil => cases h; exact .nil
  | cons v vs ih =>
    cases h with
    | cons h1 h2 =>
      rw [List.reverse_cons, List.reverse_cons]
      exact (ih h2).append (.cons h1 .nil)
mutual
def plain : D → Bool
  | .none => true
  | .bool _ => true
  | .int _ => true
  | .str _ => true
  | .list ds => plainL ds
  | .tuple ds => plainL ds
  | .dict _ => false
def plainL : List D → Bool
  | [] => true
  | d :: ds => plain d && plainL ds
end
mutual
theorem Rp.dp : ∀ {v : V} (d : D), Rp K B v d → plain d = true → Dp K B v d
  | _, .none, .non, _ => .non
  | _, .bool _, .bl b, _ => .bl b
  | _, .int _, .int i, _ => .int i
  | _, .str _, .str x, _ => .str x
  | _, .list ds, .lst h t, e => .lst h (RpL.dp ds t (by unfold plain at e; exact e))
  | _, .tuple ds, .tup h t, e => .tup h.sq (RpL.dp ds t (by unfold plain at e; exact e))
  | _, .dict _, .dct h t, e => by unfold plain at e; cases e
  | _, .dict _, .exn _ _ _ _, e => by unfold plain at e; cases e
theorem RpL.dp : ∀ {vs : List V} (ds : List D), RpL K B vs ds → plainL ds = true → DpAll K B vs ds
  | _, [], .nil, _ => .nil
  | _, d :: ds, .cons h t, e => by
    unfold plainL at e
    rw [Bool.and_eq_true] at e
    exact .cons (Rp.dp d h e.1) (RpL.dp ds t e.2)
end
end
/-- the object of an owned slot -/
def Ow (K : KW) (B : Hp) (a : Addr) (o : Option HO) : D → Prop
  | .list ds => ∃ vs, o = some (.lst vs) ∧ RpL K B vs ds
  | .dict ps => ∃ ep b xs, o = some (dX K.w a ep xs) ∧ RpX K B b xs ps
  | _ => False
theorem Ow.mono {K : KW} {B B' : Hp} {a : Addr} {o : Option HO} (e : Same B B') : ∀ {d : D}, Ow K B a o d → Ow K B' a o d
  | .list _, ⟨vs, h1, h2⟩ => ⟨vs, h1, h2.mono e⟩
  | .dict _, ⟨ep, b, xs, h1, h2⟩ => ⟨ep, b, xs, h1, h2.mono e⟩
theorem Ow.some {K : KW} {B : Hp} {a : Addr} {o : Option HO} : ∀ {d : D}, Ow K B a o d → ∃ u, o = Option.some u
  | .list _, ⟨vs, h1, _⟩ => ⟨_, h1⟩
  | .dict _, ⟨_, _, _, h1, _⟩ => ⟨_, h1⟩
/-- slot i holds v by c -/
def COk (K : KW) (B H : Hp) (c : Cel) (v : V) : Prop :=
  (c.fl = .sh ∧ Rp K B v c.d) ∨ (c.fl ≠ .sh ∧ ∃ a, v = .ref a ∧ B a = none ∧ Ow K B a (H a) c.d)
def OwnA (ρ : Rho) (σ : St) (a : Addr) : Prop := ∃ (i : Nat) (c : Cel), ρ[i]? = some (some c) ∧ c.fl ≠ .sh ∧ σ[i]? = some (some (.ref a))
structure Sim (K : KW) (ρ : Rho) (σ : St) (B H : Hp) : Prop where
  bh : Same B H
  len : ρ.length = σ.length
  sl : ∀ (i : Nat) (c : Cel), ρ[i]? = some (some c) → ∃ v, σ[i]? = some (some v) ∧ COk K B H c v
  dj : ∀ (i j : Nat) (ci cj : Cel) (a : Addr), ρ[i]? = some (some ci) → ρ[j]? = some (some cj) → ci.fl ≠ .sh → cj.fl ≠ .sh → σ[i]? = some (some (.ref a)) → σ[j]? = some (some (.ref a)) → i = j
/-- what may become shared or owned: a new address, or an owned one -/
def New (ρ : Rho) (σ : St) (H : Hp) (a : Addr) : Prop := H a = none ∨ OwnA ρ σ a
/-- from one state to a later one: what is shared stays and grows by new objects (and owned ones that are given up); what was neither shared nor owned stays -/
structure Ext (ρ : Rho) (σ : St) (B H : Hp) (ρ' : Rho) (σ' : St) (B' H' : Hp) : Prop where
  bb : Same B B'
  nw : ∀ a o, B' a = some o → B a = some o ∨ New ρ σ H a
  kp : ∀ a o, H a = some o → ¬ OwnA ρ σ a → H' a = some o
  sub : ∀ a, OwnA ρ' σ' a → New ρ σ H a
  io : ∀ (i : Nat) (c : Cel), ρ[i]? = some (some c) → c.fl = .io → σ'[i]? = σ[i]? ∧ ∃ c', ρ'[i]? = some (some c') ∧ c'.fl = .io
  oi : ∀ (i : Nat) (c : Cel), ρ'[i]? = some (some c) → c.fl = .io → ∃ c', ρ[i]? = some (some c') ∧ c'.fl = .io
section
variable {K : KW} {ρ ρ1 ρ2 : Rho} {σ σ1 σ2 : St} {B B1 B2 H H1 H2 : Hp}
theorem Ext.refl : Ext ρ σ B H ρ σ B H :=
  ⟨Same.refl B, fun _ _ h => .inl h, fun _ _ h _ => h, fun _ h => .inr h, fun i c h1 h2 => ⟨rfl, c, h1, h2⟩, fun i c h1 h2 => ⟨c, h1, h2⟩⟩
/-- what is new later is new from the start -/
theorem Ext.back (a : Ext ρ σ B H ρ1 σ1 B1 H1) {x : Addr} (h : New ρ1 σ1 H1 x) : New ρ σ H x := by
  rcases h with h | h
  · by_cases ho : OwnA ρ σ x
    · exact .inr ho
    · cases e : H x with
      | none => exact .inl e
      | some u =>
        rw [a.kp x u e ho] at h
        cases h
  · exact a.sub x h
theorem Ext.trans (a : Ext ρ σ B H ρ1 σ1 B1 H1) (b : Ext ρ1 σ1 B1 H1 ρ2 σ2 B2 H2) : Ext ρ σ B H ρ2 σ2 B2 H2 where
  bb := a.bb.trans b.bb
  nw := fun x o h => (b.nw x o h).elim (fun h => a.nw x o h) fun h => .inr (a.back h)
  kp := fun x o h n => b.kp x o (a.kp x o h n) fun q => (a.sub x q).elim (fun z => by rw [h] at z; cases z) n
  sub := fun x h => a.back (b.sub x h)
  io := fun i c h1 h2 => by
    obtain ⟨e1, c1, q1, q2⟩ := a.io i c h1 h2
    obtain ⟨e2, c2, q3, q4⟩ := b.io i c1 q1 q2
    exact ⟨e2.trans e1, c2, q3, q4⟩
  oi := fun i c h1 h2 => by
    obtain ⟨c1, q1, q2⟩ := b.oi i c h1 h2
    exact a.oi i c1 q1 q2
/-- an address that is tracked, not shared and nobody's stays so -/
theorem Ext.keepN (a : Ext ρ σ B H ρ1 σ1 B1 H1) {x : Addr} {o : HO} (h : H x = some o) (hb : B x = none) (n : ¬ OwnA ρ σ x) : H1 x = some o ∧ B1 x = none ∧ ¬ OwnA ρ1 σ1 x := by
  have nn : ¬ New ρ σ H x := fun q => q.elim (fun z => by rw [h] at z; cases z) n
  refine ⟨a.kp x o h n, ?_, fun q => nn (a.sub x q)⟩
  cases e : B1 x with
  | none => rfl
  | some u =>
    rcases a.nw x u e with q | q
    · rw [hb] at q; cases q
    · exact absurd q nn
theorem Sim.ownH (S : Sim K ρ σ B H) {a : Addr} (h : OwnA ρ σ a) : B a = none ∧ ∃ o, H a = some o := by
  obtain ⟨i, c, h1, h2, h3⟩ := h
  obtain ⟨v, e, q⟩ := S.sl i c h1
  rw [h3] at e
  cases e
  rcases q with ⟨z, _⟩ | ⟨_, b, e, q1, q2⟩
  · exact absurd z h2
  · cases e
    exact ⟨q1, q2.some⟩
theorem Sim.free (S : Sim K ρ σ B H) {p : Addr} (h : H p = none) : B p = none ∧ ¬ OwnA ρ σ p :=
  ⟨S.bh.free h, fun q => by obtain ⟨_, o, e⟩ := S.ownH q; rw [h] at e; cases e⟩
theorem COk.mono {c : Cel} {v : V} (h : COk K B H c v) (e : Same B B1) (hf : ∀ a, v = .ref a → B a = none → (∃ o, H a = some o) → c.fl ≠ .sh → B1 a = none ∧ H1 a = H a) : COk K B1 H1 c v := by
  rcases h with ⟨h1, h2⟩ | ⟨h1, a, rfl, h2, h3⟩
  · exact .inl ⟨h1, h2.mono e⟩
  · obtain ⟨q1, q2⟩ := hf a rfl h2 h3.some h1
    exact .inr ⟨h1, a, rfl, q1, by rw [q2]; exact h3.mono e⟩
/-- a new object, shared -/
theorem Sim.newB (S : Sim K ρ σ B H) {p : Addr} (hp : H p = none) (o : HO) : Sim K ρ σ (upd B p o) (upd H p o) ∧ Ext ρ σ B H ρ σ (upd B p o) (upd H p o) := by
  obtain ⟨bp, np⟩ := S.free hp
  have sB : Same B (upd B p o) := fun b u e => by rw [upd_ne (ne_of_none e bp)]; exact e
  have sH : Same H (upd H p o) := fun b u e => by rw [upd_ne (ne_of_none e hp)]; exact e
  refine ⟨⟨fun b u e => ?_, S.len, fun i c h => ?_, S.dj⟩, ⟨sB, fun a u e => ?_, fun a u e _ => sH a u e, fun _ h => .inr h, fun i c h1 h2 => ⟨rfl, c, h1, h2⟩, fun i c h1 h2 => ⟨c, h1, h2⟩⟩⟩
  · by_cases hb : b = p
    · subst hb; rw [upd_same] at e ⊢; exact e
    · rw [upd_ne hb] at e ⊢; exact S.bh _ _ e
  · obtain ⟨v, e, q⟩ := S.sl i c h
    refine ⟨v, e, q.mono sB fun a hv ha ho hf => ?_⟩
    have ne : a ≠ p := fun z => by subst z; obtain ⟨_, w⟩ := ho; rw [hp] at w; cases w
    exact ⟨by rw [upd_ne ne]; exact ha, by rw [upd_ne ne]⟩
  · by_cases hb : a = p
    · subst hb; exact .inr (.inl hp)
    · rw [upd_ne hb] at e; exact .inl e
/-- a new object that nobody holds yet -/
theorem Sim.newH (S : Sim K ρ σ B H) {p : Addr} (hp : H p = none) (o : HO) : Sim K ρ σ B (upd H p o) ∧ Ext ρ σ B H ρ σ B (upd H p o) := by
  obtain ⟨bp, np⟩ := S.free hp
  have sH : Same H (upd H p o) := fun b u e => by rw [upd_ne (ne_of_none e hp)]; exact e
  refine ⟨⟨S.bh.trans sH, S.len, fun i c h => ?_, S.dj⟩, ⟨Same.refl B, fun a u e => .inl e, fun a u e _ => sH a u e, fun _ h => .inr h, fun i c h1 h2 => ⟨rfl, c, h1, h2⟩, fun i c h1 h2 => ⟨c, h1, h2⟩⟩⟩
  obtain ⟨v, e, q⟩ := S.sl i c h
  refine ⟨v, e, q.mono (Same.refl B) fun a hv ha ho hf => ?_⟩
  have ne : a ≠ p := fun z => by subst z; obtain ⟨_, w⟩ := ho; rw [hp] at w; cases w
  exact ⟨ha, by rw [upd_ne ne]⟩
/-- an object that nobody holds becomes shared -/
theorem Sim.share (S : Sim K ρ σ B H) {p : Addr} {o : HO} (hb : B p = none) (hp : H p = some o) (n : ¬ OwnA ρ σ p) : Sim K ρ σ (upd B p o) H := by
  have sB : Same B (upd B p o) := fun b u e => by rw [upd_ne (ne_of_none e hb)]; exact e
  refine ⟨fun b u e => ?_, S.len, fun i c h => ?_, S.dj⟩
  · by_cases h : b = p
    · subst h; rw [upd_same] at e; cases e; exact hp
    · rw [upd_ne h] at e; exact S.bh _ _ e
  · obtain ⟨v, e, q⟩ := S.sl i c h
    refine ⟨v, e, q.mono sB fun a hv ha ho hf => ⟨?_, rfl⟩⟩
    have ne : a ≠ p := fun z => by subst z; subst hv; exact n ⟨i, c, h, hf, e⟩
    rw [upd_ne ne]; exact ha
end
end GS
namespace GS
open PySem L2
def HdOk (K : KW) (N : Addr → Prop) (ρ : Rho) (σ : St) (B H : Hp) (v : V) : Hd → Prop
  | .sh d => Rp K B v d
  | .fr d => ∃ a, v = .ref a ∧ B a = none ∧ Ow K B a (H a) d ∧ ¬ OwnA ρ σ a ∧ N a
  | .bw i => σ[i]? = some (some v)
/-- the context of a reading: the written part, the classes' values by name, what is wanted of an exception -/
structure Ct where
  K : KW
  cv : Str → Value
  W : WX
def XcOk (C : Ct) (B : Hp) (x : Xc) (cls : Value) (dct : Option Addr) : Prop :=
  cls = C.cv x.cls ∧ ((x.fs = [] ∧ dct = none) ∨ ∃ a fs, dct = some a ∧ B a = some (.xd fs) ∧ fs.map (·.1) = x.fs.map (·.1) ∧ RpL C.K B (fs.map (·.2)) (x.fs.map (·.2)))
def GoodE (C : Ct) (ρ : Rho) (σ : St) (B H : Hp) (Q : VK) : RE → Prop
  | .stuck => False
  | .ok h ρ' => ∀ v B' H', Sim C.K ρ' σ B' H' → Ext ρ σ B H ρ' σ B' H' → HdOk C.K (New ρ σ H) ρ' σ B' H' v h → Q v H'
  | .exc x ρ' => ∀ cls dct B' H', Sim C.K ρ' σ B' H' → Ext ρ σ B H ρ' σ B' H' → XcOk C B' x cls dct → C.W cls dct σ H'
def LkE (C : Ct) (t : TE) (f : EF) : Prop := ∀ ρ σ B H Q, Sim C.K ρ σ B H → GoodE C ρ σ B H Q (f ρ) → t σ H Q
structure SE (X : Cx) (C : Ct) (e : Expr) (t : TE) (f : EF) : Prop where
  pe : PE X e t
  lk : LkE C t f
def bindE (r : RE) (k : Hd → Rho → RE) : RE := match r with
  | .stuck => .stuck
  | .ok h ρ => k h ρ
  | .exc x ρ => .exc x ρ
/-- what a slot holds -/
def slot (ρ : Rho) (i : Nat) : Option Cel := match ρ[i]? with
  | some (some c) => some c
  | _ => none
theorem slot_some {ρ : Rho} {i : Nat} {c : Cel} (h : slot ρ i = some c) : ρ[i]? = some (some c) := by
  unfold slot at h
  split at h
  · rename_i c' e; cases h; exact e
  · cases h
def getH (ρ : Rho) : Hd → Option D
  | .sh d => some d
  | .fr d => some d
  | .bw i => (slot ρ i).map (·.d)
def capH (ρ : Rho) : Hd → Option D
  | .sh d => some d
  | .fr d => some d
  | .bw i => match slot ρ i with
    | some ⟨d, .sh⟩ => some d
    | _ => none
def setl : Hd → Hd
  | .fr d => .sh d
  | h => h
/-- captured: a shared datum -/
def eCap (f : EF) : EF := fun ρ => bindE (f ρ) fun h ρ' => match capH ρ' h with
  | some d => .ok (.sh d) ρ'
  | none => .stuck
/-- looked at: what is new is shared -/
def eSet (f : EF) : EF := fun ρ => bindE (f ρ) fun h ρ' => .ok (setl h) ρ'
section
variable {C : Ct} {ρ ρ' ρ1 : Rho} {σ : St} {B B' H H' B1 H1 : Hp} {Q : VK} {t ta tb : TE} {f fa fb : EF} {N N' : Addr → Prop} {v : V}
theorem HdOk.mono {K : KW} (k : ∀ a, N a → N' a) : ∀ {h : Hd}, HdOk K N ρ σ B H v h → HdOk K N' ρ σ B H v h
  | .sh _, q => q
  | .fr _, ⟨a, h1, h2, h3, h4, h5⟩ => ⟨a, h1, h2, h3, h4, k a h5⟩
  | .bw _, q => q
/-- a step in the middle: what is good behind is good ahead -/
theorem GoodE.ext (e : Ext ρ σ B H ρ1 σ B1 H1) : ∀ {r : RE}, GoodE C ρ σ B H Q r → GoodE C ρ1 σ B1 H1 Q r
  | .stuck, h => h
  | .ok _ _, h => fun v B' H' s x y => h v B' H' s (e.trans x) (y.mono fun _ z => e.back z)
  | .exc _ _, h => fun c d B' H' s x => h c d B' H' s (e.trans x)
theorem GoodE.imp {Q' : VK} (k : ∀ v H, Q v H → Q' v H) : ∀ {r : RE}, GoodE C ρ σ B H Q r → GoodE C ρ σ B H Q' r
  | .stuck, h => h
  | .ok _ _, h => fun v B' H' s x y => k _ _ (h v B' H' s x y)
  | .exc _ _, h => h
/-- THE RULE: an expression, then what follows -/
theorem LkE.bind (l : LkE C t f) (S : Sim C.K ρ σ B H) {k : Hd → Rho → RE} {Q' : VK} (g : GoodE C ρ σ B H Q (bindE (f ρ) k))
    (h : ∀ hd ρ1 v B1 H1, Sim C.K ρ1 σ B1 H1 → Ext ρ σ B H ρ1 σ B1 H1 → HdOk C.K (New ρ σ H) ρ1 σ B1 H1 v hd → GoodE C ρ σ B H Q (k hd ρ1) → Q' v H1) : t σ H Q' := by
  refine l ρ σ B H Q' S ?_
  cases e : f ρ with
  | stuck => rw [e] at g; exact g
  | ok hd ρ1 =>
    rw [e] at g
    exact fun v B1 H1 s x y => h hd ρ1 v B1 H1 s x y g
  | exc x ρ1 =>
    rw [e] at g
    exact g
/-- a new datum that nobody holds is shared from here on -/
theorem Sim.cap (S : Sim C.K ρ1 σ B1 H1) (x : Ext ρ σ B H ρ1 σ B1 H1) {d : D} (h : HdOk C.K (New ρ σ H) ρ1 σ B1 H1 v (.fr d)) : ∃ B2, Sim C.K ρ1 σ B2 H1 ∧ Ext ρ σ B H ρ1 σ B2 H1 ∧ Rp C.K B2 v d := by
  obtain ⟨a, rfl, hb, ho, hn, hN⟩ := h
  obtain ⟨o, e⟩ := ho.some
  have sB : Same B1 (upd B1 a o) := fun b u e => by rw [upd_ne (ne_of_none e hb)]; exact e
  refine ⟨upd B1 a o, S.share hb e hn, ⟨x.bb.trans sB, fun b u e => ?_, x.kp, x.sub, x.io, x.oi⟩, ?_⟩
  · by_cases hb : b = a
    · subst hb; exact .inr hN
    · rw [upd_ne hb] at e; exact x.nw b u e
  · rw [e] at ho
    have ho := ho.mono sB
    cases d with
    | list ds =>
      obtain ⟨vs, e1, e2⟩ := ho
      cases e1
      exact .lst (.inl (.inl upd_same)) e2
    | dict ps =>
      obtain ⟨ep, b, xs, e1, e2⟩ := ho
      cases e1
      exact .dct upd_same e2
    | _ => exact ho.elim
theorem LkE.cap (l : LkE C t f) : LkE C t (eCap f) := fun ρ σ B H Q S g => by
  refine l.bind S g fun hd ρ1 v B1 H1 S1 x y g => ?_
  cases hd with
  | sh d => exact g v B1 H1 S1 x y
  | fr d =>
    obtain ⟨B2, S2, x2, r⟩ := S1.cap x y
    exact g v B2 H1 S2 x2 r
  | bw i =>
    unfold capH at g
    dsimp only at g
    split at g
    · rename_i d e
      split at e
      · rename_i d' e'
        cases e
        have e' := slot_some e'
        obtain ⟨v', q1, q2⟩ := S1.sl i _ e'
        have y' : σ[i]? = some (some v) := y
        rw [y'] at q1
        cases q1
        rcases q2 with ⟨_, q2⟩ | ⟨q, _⟩
        · exact g v B1 H1 S1 x q2
        · exact absurd rfl q
      · cases e
    · exact g.elim
theorem LkE.set (l : LkE C t f) : LkE C t (eSet f) := fun ρ σ B H Q S g => by
  refine l.bind S g fun hd ρ1 v B1 H1 S1 x y g => ?_
  cases hd with
  | sh d => exact g v B1 H1 S1 x y
  | fr d =>
    obtain ⟨B2, S2, x2, r⟩ := S1.cap x y
    exact g v B2 H1 S2 x2 r
  | bw i => exact g v B1 H1 S1 x y
theorem SE.cap {X : Cx} {e : Expr} (h : SE X C e t f) : SE X C e t (eCap f) := ⟨h.pe, h.lk.cap⟩
theorem SE.set {X : Cx} {e : Expr} (h : SE X C e t f) : SE X C e t (eSet f) := ⟨h.pe, h.lk.set⟩
def Tp (K : KW) (B H : Hp) (v : V) : D → Prop
  | .list ds => ∃ a vs, v = .ref a ∧ SqL K H a vs ∧ RpL K B vs ds
  | .dict ps => (∃ a ep b xs, v = .ref a ∧ H a = some (dX K.w a ep xs) ∧ RpX K B b xs ps) ∨ (xnB ps = true ∧ Rp K B v (.dict ps))
  | d => Rp K B v d
theorem Tp.of {K : KW} (s : Same B H) : ∀ {d : D}, Rp K B v d → Tp K B H v d
  | .list _, .lst h t => ⟨_, _, rfl, same_l s h, t⟩
  | .dict _, .dct h t => .inl ⟨_, _, _, _, rfl, s _ _ h, t⟩
  | .dict _, .exn h q x t => .inr ⟨rfl, .exn h q x t⟩
  | .none, h => h
  | .bool _, h => h
  | .int _, h => h
  | .str _, h => h
  | .tuple _, h => h
theorem Tp.rp {K : KW} (s : Same B H) : ∀ {d : D}, Tp K B H v d → Rp K H v d
  | .list _, ⟨_, _, e, h, t⟩ => by subst e; exact .lst h (t.mono s)
  | .dict _, .inl ⟨_, _, _, _, e, h, t⟩ => by subst e; exact .dct h (t.mono s)
  | .dict _, .inr ⟨_, h⟩ => Rp.mono s h
  | .none, h => Rp.mono s h
  | .bool _, h => Rp.mono s h
  | .int _, h => Rp.mono s h
  | .str _, h => Rp.mono s h
  | .tuple _, h => Rp.mono s h
theorem Sim.tp (S : Sim C.K ρ σ B H) {h : Hd} {d : D} (y : HdOk C.K N ρ σ B H v h) (g : getH ρ h = some d) : Tp C.K B H v d := by
  cases h with
  | sh e =>
    cases g
    exact Tp.of S.bh y
  | fr e =>
    cases g
    obtain ⟨a, rfl, hb, ho, _⟩ := y
    cases d with
    | list ds =>
      obtain ⟨vs, e1, e2⟩ := ho
      exact ⟨a, vs, rfl, .inl (.inl e1), e2⟩
    | dict ds =>
      obtain ⟨ep, b, xs, e1, e2⟩ := ho
      exact .inl ⟨a, ep, b, xs, rfl, e1, e2⟩
    | _ => exact ho.elim
  | bw i =>
    replace g : (slot ρ i).map (·.d) = some d := g
    cases e : slot ρ i with
    | none => rw [e] at g; cases g
    | some c =>
      rw [e] at g
      cases g
      obtain ⟨v', q1, q2⟩ := S.sl i c (slot_some e)
      have y' : σ[i]? = some (some v) := y
      rw [y'] at q1
      cases q1
      rcases q2 with ⟨_, q2⟩ | ⟨_, a, rfl, hb, ho⟩
      · exact Tp.of S.bh q2
      · obtain ⟨d, fl⟩ := c
        cases d with
        | list ds =>
          obtain ⟨vs, e1, e2⟩ := ho
          exact ⟨a, vs, rfl, .inl (.inl e1), e2⟩
        | dict ds =>
          obtain ⟨ep, b, xs, e1, e2⟩ := ho
          exact .inl ⟨a, ep, b, xs, rfl, e1, e2⟩
        | _ => exact ho.elim
/-- a looked-at operand stays good -/
theorem HdOk.ext (x : Ext ρ σ B H ρ1 σ B1 H1) {h : Hd} (y : HdOk C.K N ρ σ B H v (setl h)) : HdOk C.K N' ρ1 σ B1 H1 v (setl h) := by
  cases h with
  | sh d => exact Rp.mono x.bb y
  | fr d => exact Rp.mono x.bb y
  | bw i => exact y
def OpL (K : KW) (r : R2) (o : D → D → Option Hd) : Prop := ∀ ρ σ B H x y dx dy h Q, Sim K ρ σ B H → Tp K B H x dx → Tp K B H y dy → o dx dy = some h →
  (∀ v B' H', Sim K ρ σ B' H' → Ext ρ σ B H ρ σ B' H' → HdOk K (New ρ σ H) ρ σ B' H' v h → Q v H') → r x y H Q
def eBin (o : D → D → Option Hd) (fa fb : EF) : EF := fun ρ => bindE (eSet fa ρ) fun ha ρ1 => bindE (eSet fb ρ1) fun hb ρ2 => match getH ρ2 ha, getH ρ2 hb with
  | some da, some db => match o da db with
    | some h => .ok h ρ2
    | none => .stuck
  | _, _ => .stuck
theorem LkE.setBind (l : LkE C t f) (S : Sim C.K ρ σ B H) {k : Hd → Rho → RE} {Q' : VK} (g : GoodE C ρ σ B H Q (bindE (eSet f ρ) k))
    (h : ∀ hd ρ1 v B1 H1, Sim C.K ρ1 σ B1 H1 → Ext ρ σ B H ρ1 σ B1 H1 → HdOk C.K (New ρ σ H) ρ1 σ B1 H1 v (setl hd) → GoodE C ρ1 σ B1 H1 Q (k (setl hd) ρ1) → Q' v H1) : t σ H Q' := by
  refine l.set ρ σ B H Q' S ?_
  unfold eSet at g ⊢
  cases e : f ρ with
  | stuck => rw [e] at g; exact g
  | ok hd ρ1 =>
    rw [e] at g
    exact fun v B1 H1 s x y => h hd ρ1 v B1 H1 s x y (GoodE.ext x g)
  | exc x ρ1 =>
    rw [e] at g
    exact g
theorem lk_op {r : R2} {o : D → D → Option Hd} (hr : OpL C.K r o) (la : LkE C ta fa) (lb : LkE C tb fb) : LkE C (tOp r ta tb) (eBin o fa fb) := fun ρ σ B H Q S g => by
  refine la.setBind S g fun ha ρ1 x B1 H1 S1 e1 y1 g1 => ?_
  refine lb.setBind S1 g1 fun hb ρ2 y B2 H2 S2 e2 y2 g2 => ?_
  split at g2
  · rename_i da db ea eb
    split at g2
    · rename_i h eh
      exact hr ρ2 σ B2 H2 x y da db h Q S2 (S2.tp (N := fun _ => True) (HdOk.ext e2 y1) ea) (S2.tp y2 eb) eh g2
    · exact g2.elim
  · exact g2.elim
theorem se_bin {X : Cx} {r : R2} {o : D → D → Option Hd} {op : Operator} {a b : Expr} {pos : Pos} (hr : OpL C.K r o) (ho : OpR X (binaryOp op) r) (la : SE X C a ta fa) (lb : SE X C b tb fb) : SE X C (.BinOp a op b pos) (tOp r ta tb) (eBin o fa fb) :=
  ⟨pe_op ho la.pe lb.pe, lk_op hr la.lk lb.lk⟩
/-- two ways of one operator -/
def orO (o o' : D → D → Option Hd) : D → D → Option Hd := fun x y => match o x y with
  | some h => some h
  | none => o' x y
theorem OpL.or {K : KW} {r r' : R2} {o o' : D → D → Option Hd} (a : OpL K r o) (b : OpL K r' o') : OpL K (fun x y H Q => r x y H Q ∨ r' x y H Q) (orO o o') := fun ρ σ B H x y dx dy h Q S tx ty e k => by
  unfold orO at e
  cases q : o dx dy with
  | some h' =>
    rw [q] at e
    cases e
    exact .inl (a ρ σ B H x y dx dy _ Q S tx ty q k)
  | none =>
    rw [q] at e
    exact .inr (b ρ σ B H x y dx dy _ Q S tx ty e k)
end
end GS
namespace GS
open PySem L2 PySem.Calls
section
variable {K : KW} {ρ : Rho} {σ : St} {B H : Hp} {v x y : V} {Q : VK}
theorem Tp.int {i : Int} (h : Tp K B H v (.int i)) : v = .int i := by cases h; rfl
theorem Tp.str {i : Str} (h : Tp K B H v (.str i)) : v = .str i := by cases h; rfl
theorem Tp.bl {i : Bool} (h : Tp K B H v (.bool i)) : v = .bl i := by cases h; rfl
theorem Tp.non (h : Tp K B H v .none) : v = .non := by cases h; rfl
theorem Rp.tupE {ds : List D} (h : Rp K B v (.tuple ds)) : ∃ a vs, v = .ref a ∧ SqT K B a vs ∧ RpL K B vs ds := by
  cases h with
  | tup h t => exact ⟨_, _, rfl, h.sq, t⟩
theorem Rp.tupX {ds : List D} (h : Rp K B v (.tuple ds)) : ∃ a vs, v = .ref a ∧ XT B a vs ∧ RpL K B vs ds := by
  cases h with
  | tup h t => exact ⟨_, _, rfl, h, t⟩
theorem Rp.lstE {ds : List D} (h : Rp K B v (.list ds)) : ∃ a vs, v = .ref a ∧ SqL K B a vs ∧ RpL K B vs ds := by
  cases h with
  | lst h t => exact ⟨_, _, rfl, h, t⟩
theorem Tp.tup {ds : List D} (h : Tp K B H v (.tuple ds)) : ∃ a vs, v = .ref a ∧ SqT K B a vs ∧ RpL K B vs ds := Rp.tupE h
theorem Tp.tupX {ds : List D} (h : Tp K B H v (.tuple ds)) : ∃ a vs, v = .ref a ∧ XT B a vs ∧ RpL K B vs ds := Rp.tupX h
/-- the state as it is, a shared value -/
theorem now (S : Sim K ρ σ B H) {d : D} (h : Rp K B v d) (k : ∀ v B' H', Sim K ρ σ B' H' → Ext ρ σ B H ρ σ B' H' → HdOk K (New ρ σ H) ρ σ B' H' v (.sh d) → Q v H') : Q v H := k v B H S Ext.refl h
/-- a new tuple, shared -/
theorem newT (S : Sim K ρ σ B H) {vs : List V} {ds : List D} (h : RpL K B vs ds) (k : ∀ v B' H', Sim K ρ σ B' H' → Ext ρ σ B H ρ σ B' H' → HdOk K (New ρ σ H) ρ σ B' H' v (.sh (.tuple ds)) → Q v H') :
    ∀ p o, H p = none → o.dict = none → Q (.ref p) (upd H p (.frz o (.tup vs))) := fun p o hp ho => by
  obtain ⟨S', x⟩ := S.newB hp (.frz o (.tup vs))
  exact k _ _ _ S' x (.tup (XT.new ho) (h.mono x.bb))
/-- a new list that nobody holds -/
theorem newL (S : Sim K ρ σ B H) {vs : List V} {ds : List D} (h : RpL K B vs ds) (k : ∀ v B' H', Sim K ρ σ B' H' → Ext ρ σ B H ρ σ B' H' → HdOk K (New ρ σ H) ρ σ B' H' v (.fr (.list ds)) → Q v H') :
    ∀ p, H p = none → Q (.ref p) (upd H p (.lst vs)) := fun p hp => by
  obtain ⟨S', x⟩ := S.newH hp (.lst vs)
  obtain ⟨b, n⟩ := S.free hp
  exact k _ _ _ S' x ⟨p, rfl, b, ⟨vs, upd_same, h⟩, n, .inl hp⟩
end
section
variable {X : Cx}
def rCatL (K : PySem.W.Frag) : R2 := fun x y H Q => ∃ l b xs zs, x = .ref l ∧ y = .ref b ∧ SqL K H l xs ∧ SqL K H b zs ∧ xs.length + zs.length ≤ sizeLine ∧ ∀ p, H p = none → Q (.ref p) (upd H p (.lst (xs ++ zs)))
theorem op_catL : OpR X (binaryOp .Add) (rCatL X.K) := by
  intro pins s σ H x y v u Q I rx ry h
  obtain ⟨l, b, xs, zs, rfl, rfl, hH, hB, hz, q⟩ := h
  cases rx
  cases ry
  obtain ⟨its, r, p1, _⟩ := I.list hH
  obtain ⟨its2, r2, p2, _⟩ := I.list hB
  have l1 := r.length
  have l2 := r2.length
  obtain ⟨⟨cls, dd, data, sl⟩, ho, hc, n, hd⟩ := p1.isList
  obtain ⟨⟨cls2, dd2, data2, sl2⟩, ho2, hc2, n2, hd2⟩ := p2.isList
  simp only at hc hd hc2 hd2
  subst hc hd hc2 hd2
  refine concat_meets ⟨_, ho, rfl⟩ ⟨_, ho2, rfl⟩ noFill_list_add seq_list_add PySem.F.slot_list_add PySem.F.entry_list_add (PySem.F.args_list_add_2 _ _) (PyProof.Rows.list_addW l b its.toArray its2.toArray n n2 dd dd2 sl sl2 (by simp; omega)) ⟨ho, ho2, ?_⟩
  have e : its.toArray ++ its2.toArray = (its ++ its2).toArray := by simp
  rw [e]
  exact ⟨.ref _, _, I.lnew (t' := s.toks) (r.append r2) (by rw [List.length_append]; omega), rfl, q _ I.fresh⟩
end
theorem if_some {c : Prop} [Decidable c] {α : Type} {a h : α} (e : (if c then some a else none) = some h) : c ∧ a = h := by
  split at e
  · cases e; exact ⟨by assumption, rfl⟩
  · cases e
/-- + -/
def addD : D → D → Option Hd
  | .int i, .int j => some (.sh (.int (i + j)))
  | .str i, .str j => if i.length + j.length ≤ sizeLine then some (.sh (.str (i ++ j))) else none
  | .tuple xs, .tuple ys => if xs.length + ys.length ≤ sizeLine then some (.sh (.tuple (xs ++ ys))) else none
  | .list xs, .list ys => if xs.length + ys.length ≤ sizeLine then some (.fr (.list (xs ++ ys))) else none
  | _, _ => none
def rAddA (K : PySem.W.Frag) : R2 := fun x y H Q => (rI0 fun i j => .int (i + j)) x y H Q ∨ ((∃ i j, x = .str i ∧ y = .str j ∧ i.length + j.length ≤ sizeLine ∧ Q (.str (i ++ j)) H) ∨ (rCatX K x y H Q ∨ rCatL K x y H Q))
theorem op_addA {X : Cx} : OpR X (binaryOp .Add) (rAddA X.K) := OpR.or op_add (OpR.or op_add_str (OpR.or op_catX op_catL))
theorem ol_add {K : KW} : OpL K (rAddA K) addD := fun ρ σ B H x y dx dy h Q S tx ty e k => by
  cases dx <;> cases dy <;> first | (cases (show none = some h from e); done) | skip
  · cases e
    rw [tx.int, ty.int]
    exact .inl ⟨_, _, rfl, rfl, now S (.int _) k⟩
  · obtain ⟨c, rfl⟩ := if_some e
    rw [tx.str, ty.str]
    exact .inr (.inl ⟨_, _, rfl, rfl, c, now S (.str _) k⟩)
  · obtain ⟨c, rfl⟩ := if_some e
    obtain ⟨a, vs, rfl, ha, ra⟩ := tx
    obtain ⟨b, ws, rfl, hb, rb⟩ := ty
    exact .inr (.inr (.inr ⟨a, b, vs, ws, rfl, rfl, ha, hb, by rw [ra.length, rb.length]; exact c, newL S (ra.append rb) k⟩))
  · obtain ⟨c, rfl⟩ := if_some e
    obtain ⟨a, vs, rfl, ha, ra⟩ := tx.tupX
    obtain ⟨b, ws, rfl, hb, rb⟩ := ty.tupX
    have l1 := ra.length
    have l2 := rb.length
    refine .inr (.inr (.inl ⟨a, b, vs, ws, rfl, rfl, (same_x S.bh ha).sq, (same_x S.bh hb).sq, by omega, fun e => ?_, fun _ e => ?_, fun _ _ => newT S (ra.append rb) k⟩))
    · subst e
      cases ra
      exact now S (.tup hb rb) k
    · subst e
      cases rb
      rw [List.append_nil] at k
      exact now S (.tup ha ra) k
/-- int operators -/
def intD (c : Int → Int → Bool) (f : Int → Int → D) : D → D → Option Hd
  | .int i, .int j => if c i j then some (.sh (f i j)) else none
  | _, _ => none
theorem ol_int {K : KW} {c : Int → Int → Bool} {P : Int → Int → Prop} {f : Int → Int → D} {g : Int → Int → V} (hc : ∀ i j, c i j = true → P i j) (hg : ∀ B i j, Rp K B (g i j) (f i j)) : OpL K (rI P g) (intD c f) := fun ρ σ B H x y dx dy h Q S tx ty e k => by
  cases dx <;> cases dy <;> first | (cases (show none = some h from e); done) | skip
  obtain ⟨c, rfl⟩ := if_some e
  rw [tx.int, ty.int]
  exact ⟨_, _, rfl, rfl, hc _ _ c, now S (hg B _ _) k⟩
theorem ol_int0 {K : KW} {f : Int → Int → D} {g : Int → Int → V} (hg : ∀ B i j, Rp K B (g i j) (f i j)) : OpL K (rI0 g) (intD (fun _ _ => true) f) := fun ρ σ B H x y dx dy h Q S tx ty e k => by
  cases dx <;> cases dy <;> first | (cases (show none = some h from e); done) | skip
  cases e
  rw [tx.int, ty.int]
  exact ⟨_, _, rfl, rfl, now S (hg B _ _) k⟩
def subD : D → D → Option Hd := intD (fun _ _ => true) fun i j => .int (i - j)
theorem e64 : (2 : Int) ^ 64 = 18446744073709551616 := by decide +kernel
theorem e64n : (2 : Nat) ^ 64 = 18446744073709551616 := by decide +kernel
def cMul (i j : Int) : Bool := Nat.ble i.natAbs 18446744073709551615 || Nat.ble j.natAbs 18446744073709551615
def mulD : D → D → Option Hd := intD cMul fun i j => .int (i * j)
def divD : D → D → Option Hd := intD (fun _ j => decide (0 < j) && Nat.ble j.natAbs 1073741823) fun i j => .int (i / j)
def modD : D → D → Option Hd := intD (fun _ j => decide (0 < j)) fun i j => .int (i % j)
def powD : D → D → Option Hd := intD (fun i j => decide (0 ≤ j) && Nat.ble j.natAbs 1000000 && Nat.ble i.natAbs 18446744073709551615) fun i j => .int (i ^ j.toNat)
theorem ol_sub {K : KW} : OpL K (rI0 fun i j => .int (i - j)) subD := ol_int0 fun _ _ _ => .int _
theorem ol_mul {K : KW} : OpL K (rI CMul fun i j => .int (i * j)) mulD := ol_int (fun i j h => by
  unfold CMul
  rw [e64]
  unfold cMul at h
  rw [Bool.or_eq_true] at h
  rcases h with h | h
  · have := Nat.le_of_ble_eq_true h; exact .inl ⟨by omega, by omega⟩
  · have := Nat.le_of_ble_eq_true h; exact .inr ⟨by omega, by omega⟩) fun _ _ _ => .int _
theorem ol_div {K : KW} : OpL K (rI CDiv fun i j => .int (i / j)) divD := ol_int (fun i j h => by
  simp only [Bool.and_eq_true, decide_eq_true_eq] at h
  have := Nat.le_of_ble_eq_true h.2
  exact ⟨h.1, by omega⟩) fun _ _ _ => .int _
theorem ol_mod {K : KW} : OpL K (rI (fun _ j => 0 < j) fun i j => .int (i % j)) modD := ol_int (fun i j h => by simpa using h) fun _ _ _ => .int _
theorem ol_pow {K : KW} : OpL K (rI CPow fun i j => .int (i ^ j.toNat)) powD := ol_int (fun i j h => by
  unfold CPow
  rw [e64n]
  simp only [Bool.and_eq_true, decide_eq_true_eq] at h
  have h1 := Nat.le_of_ble_eq_true h.1.2
  have h2 := Nat.le_of_ble_eq_true h.2
  exact ⟨h.1.1, by omega, by omega⟩) fun _ _ _ => .int _
def intsT : List D → Option (List Int)
  | [] => some []
  | .int i :: r => (intsT r).map fun l => i :: l
  | _ => none
/-- < of ints, and of tuples of ints -/
def ltI (f : Int → Int → Bool) : D → D → Option Hd
  | .int i, .int j => some (.sh (.bool (f i j)))
  | .tuple xs, .tuple ys => if f 0 1 && !f 0 0 then (intsT xs).bind fun a => (intsT ys).map fun b => .sh (.bool (HT.lexLt a b)) else none
  | _, _ => none
theorem intsT_ok {K : KW} {B : Hp} : ∀ {vs : List V} {ds : List D} {ns : List Int}, RpL K B vs ds → intsT ds = some ns → vs = ns.map V.int
  | _, [], _, .nil, e => by cases e; rfl
  | _, d :: ds, ns, .cons h t, e => by
    match d, h, e with
    | .int i, h, e =>
      obtain ⟨l, e1, rfl⟩ := Option.map_eq_some_iff.mp (show (intsT ds).map (fun l => i :: l) = some ns from e)
      cases h
      rw [intsT_ok t e1, List.map_cons]
theorem ol_cmp {K : KW} {f : Int → Int → Bool} (hf : (f 0 1 && !f 0 0) = false := by rfl) : OpL K (rI0 fun i j => .bl (f i j)) (ltI f) := fun ρ σ B H x y dx dy h Q S tx ty e k => by
  cases dx <;> cases dy <;> first | (cases (show none = some h from e); done) | skip
  · cases e
    rw [tx.int, ty.int]
    exact ⟨_, _, rfl, rfl, now S (.bl _) k⟩
  · rename_i xs ys
    have e : (if f 0 1 && !f 0 0 then (intsT xs).bind fun a => (intsT ys).map fun b => Hd.sh (.bool (HT.lexLt a b)) else none) = some h := e
    rw [hf] at e
    cases e
def rLtA (K : PySem.W.Frag) : R2 := fun x y H Q => (rI0 fun i j => .bl (decide (i < j))) x y H Q ∨ rLtT K x y H Q
theorem op_ltA {X : Cx} (hu : X.A.units + 65 < cLine) : OpR X (compareOp .Lt) (rLtA X.K) := OpR.or op_lt (op_ltT (by omega))
theorem ol_ltA {K : KW} : OpL K (rLtA K) (ltI fun i j => decide (i < j)) := fun ρ σ B H x y dx dy h Q S tx ty e k => by
  cases dx <;> cases dy <;> first | (cases (show none = some h from e); done) | skip
  · cases e
    rw [tx.int, ty.int]
    exact .inl ⟨_, _, rfl, rfl, now S (.bl _) k⟩
  · rename_i xs ys
    have e : ((intsT xs).bind fun a => (intsT ys).map fun b => Hd.sh (.bool (HT.lexLt a b))) = some h := e
    obtain ⟨as, e1, e2⟩ := Option.bind_eq_some_iff.mp e
    obtain ⟨bs, e3, rfl⟩ := Option.map_eq_some_iff.mp e2
    obtain ⟨a, vs, rfl, ha, ra⟩ := tx.tup
    obtain ⟨b, ws, rfl, hb, rb⟩ := ty.tup
    have ea := intsT_ok ra e1
    have eb := intsT_ok rb e3
    subst ea eb
    exact .inr ⟨a, b, as, bs, rfl, rfl, same_t S.bh ha, same_t S.bh hb, now S (.bl _) k⟩
/-- == of data without dicts, at most 64 deep -/
def okEq (d : D) : Bool := plain d && SeqAt.shaped d
/-- is None, is True -/
def isD (neg : Bool) : D → D → Option Hd
  | .none, .none => some (.sh (.bool (!neg)))
  | .bool a, .bool b => some (.sh (.bool (neg ^^ decide (a = b))))
  | _, .none => some (.sh (.bool neg))
  | _, _ => none
def rIsA : R2 := fun x y H Q => (y = .non ∧ Q (.bl (decide (x = .non))) H) ∨ (∃ a b, x = .bl a ∧ y = .bl b ∧ Q (.bl (decide (a = b))) H)
def rNotA : R2 := fun x y H Q => (y = .non ∧ Q (.bl (!decide (x = .non))) H) ∨ (∃ a b, x = .bl a ∧ y = .bl b ∧ Q (.bl (!decide (a = b))) H)
theorem op_isA {X : Cx} : OpR X (compareOp .Is) rIsA := OpR.or op_isN op_isBl
theorem op_notA {X : Cx} : OpR X (compareOp .IsNot) rNotA := OpR.or op_notN op_notBl
theorem Tp.ne_non {K : KW} {B H : Hp} {v : V} {d : D} (h : Tp K B H v d) (hd : d ≠ .none) : v ≠ .non := by
  intro e
  subst e
  cases d with
  | none => exact hd rfl
  | bool _ => cases h
  | int _ => cases h
  | str _ => cases h
  | list _ => obtain ⟨_, _, e, _⟩ := h; cases e
  | tuple _ => cases h
  | dict _ =>
    rcases h with ⟨_, _, _, _, e, _⟩ | ⟨_, h⟩
    · cases e
    · cases h
theorem ol_is {K : KW} : OpL K rIsA (isD false) := fun ρ σ B H x y dx dy h Q S tx ty e k => by
  cases dy with
  | none =>
    rw [ty.non]
    refine .inl ⟨rfl, ?_⟩
    by_cases hn : dx = .none
    · subst hn
      cases e
      rw [tx.non]
      exact now S (.bl _) k
    · have q := tx.ne_non hn
      have e' : h = .sh (.bool false) := by cases dx <;> simp [isD] at e hn ⊢ <;> exact e.symm
      subst e'
      rw [decide_eq_false q]
      exact now S (.bl _) k
  | bool b =>
    cases dx with
    | bool a =>
      cases e
      rw [tx.bl, ty.bl]
      refine .inr ⟨a, b, rfl, rfl, ?_⟩
      have := now (v := .bl (false ^^ decide (a = b))) S (.bl _) k
      rwa [Bool.false_xor] at this
    | _ => simp [isD] at e
  | _ => cases dx <;> simp [isD] at e
theorem ol_not {K : KW} : OpL K rNotA (isD true) := fun ρ σ B H x y dx dy h Q S tx ty e k => by
  cases dy with
  | none =>
    rw [ty.non]
    refine .inl ⟨rfl, ?_⟩
    by_cases hn : dx = .none
    · subst hn
      cases e
      rw [tx.non]
      exact now S (.bl _) k
    · have q := tx.ne_non hn
      have e' : h = .sh (.bool true) := by cases dx <;> simp [isD] at e hn ⊢ <;> exact e.symm
      subst e'
      rw [decide_eq_false q]
      exact now S (.bl _) k
  | bool b =>
    cases dx with
    | bool a =>
      cases e
      rw [tx.bl, ty.bl]
      refine .inr ⟨a, b, rfl, rfl, ?_⟩
      have := now (v := .bl (true ^^ decide (a = b))) S (.bl _) k
      rwa [Bool.true_xor] at this
    | _ => simp [isD] at e
  | _ => cases dx <;> simp [isD] at e
def flatD : D → Bool
  | .none => true
  | .bool _ => true
  | .int _ => true
  | .str _ => true
  | _ => false
def inD (neg : Bool) : D → D → Option Hd
  | .str x, .str z => match x.cps.toList with
    | [c] => some (.sh (.bool (neg ^^ decide (c ∈ z.cps.toList))))
    | _ => none
  | d, .tuple ds => if flatD d && ds.all flatD then some (.sh (.bool (neg ^^ ds.any fun z => PyData.eqv z d))) else none
  | d, .list ds => if okEq d && okEq (.list ds) then some (.sh (.bool (neg ^^ ds.any fun z => PyData.eqv z d))) else none
  | _, _ => none
end GS
namespace GS
open PySem L2
def rInA (K : PySem.W.Frag) : R2 := fun x y H Q => (∃ (c : Nat) (z : Str), x = .str ⟨#[c]⟩ ∧ y = .str z ∧ Q (.bl (decide (c ∈ z.cps.toList))) H) ∨ (rIn K false x y H Q ∨ rInD K x y H Q)
def rNotInA (K : PySem.W.Frag) : R2 := fun x y H Q => (∃ (c : Nat) (z : Str), x = .str ⟨#[c]⟩ ∧ y = .str z ∧ Q (.bl (!decide (c ∈ z.cps.toList))) H) ∨ (rIn K true x y H Q ∨ rNotInD K x y H Q)
theorem op_inA {X : Cx} (hu : X.A.units + 65 < cLine) : OpR X (compareOp .In) (rInA X.K) := OpR.or op_in_sign (OpR.or op_in_seq (op_inD hu))
theorem op_notInA {X : Cx} (hu : X.A.units + 65 < cLine) : OpR X (compareOp .NotIn) (rNotInA X.K) := OpR.or op_notIn_sign (OpR.or op_notIn_seq (op_notInD hu))
section
variable {K : KW} {ρ : Rho} {σ : St} {B H : Hp} {v x y : V} {Q : VK}
theorem flat_of {d : D} (h : Rp K B v d) (f : flatD d = true) : flatV v = true := by
  cases h <;> first | rfl | cases f
theorem eqV_of {d e : D} (h : Rp K B x d) (g : Rp K B y e) (f : flatD d = true) (k : flatD e = true) : eqV x y = PyData.eqv d e := by
  cases h <;> first | (cases f; done) | (cases g <;> first | (cases k; done) | rfl | (simp [eqV, PyData.eqv]))
theorem any_of {e : D} (g : Rp K B y e) (k : flatD e = true) : ∀ {vs : List V} {ds : List D}, RpL K B vs ds → ds.all flatD = true → vs.all flatV = true ∧ inV y vs = ds.any fun z => PyData.eqv z e
  | _, _, .nil, _ => ⟨rfl, rfl⟩
  | _, _, .cons h t, a => by
    rw [List.all_cons, Bool.and_eq_true] at a
    obtain ⟨q1, q2⟩ := any_of g k t a.2
    refine ⟨by rw [List.all_cons, Bool.and_eq_true]; exact ⟨flat_of h a.1, q1⟩, ?_⟩
    show ((eqV _ y) || inV y _) = _
    rw [q2, eqV_of h g a.1 k, List.any_cons]
theorem str1 {x : Str} {c : Nat} (h : x.cps.toList = [c]) : x = ⟨#[c]⟩ := by
  obtain ⟨a⟩ := x
  congr
  exact Array.ext' (by simpa using h)
theorem ol_in : OpL K (rInA K) (inD false) := fun ρ σ B H x y dx dy h Q S tx ty e k => by
  cases dy with
  | str z =>
    cases dx with
    | str w =>
      replace e : (match w.cps.toList with | [c] => some (Hd.sh (.bool (false ^^ decide (c ∈ z.cps.toList)))) | _ => none) = some h := e
      split at e
      · rename_i c ec
        cases e
        rw [tx.str, ty.str, str1 ec]
        refine .inl ⟨c, z, rfl, rfl, ?_⟩
        have := now (v := .bl (false ^^ decide (c ∈ z.cps.toList))) S (.bl _) k
        rwa [Bool.false_xor] at this
      · cases e
    | _ => cases e
  | tuple ds =>
    have e' : (if flatD dx && ds.all flatD then some (.sh (.bool (false ^^ ds.any fun z => PyData.eqv z dx))) else none) = some h := by cases dx <;> exact e
    obtain ⟨c, rfl⟩ := if_some e'
    rw [Bool.and_eq_true] at c
    obtain ⟨a, vs, rfl, ha, ra⟩ := ty.tup
    have tx' : Rp K B x dx := by cases dx <;> first | exact tx | (cases c.1; done)
    obtain ⟨q1, q2⟩ := any_of tx' c.1 ra c.2
    refine .inr (.inl ⟨a, vs, rfl, .inr (same_t S.bh ha), flat_of tx' c.1, q1, ?_⟩)
    rw [if_neg Bool.false_ne_true, q2]
    have := now (v := .bl (false ^^ ds.any fun z => PyData.eqv z dx)) S (.bl _) k
    rwa [Bool.false_xor] at this
  | list ds =>
    have e' : (if okEq dx && okEq (.list ds) then some (.sh (.bool (false ^^ ds.any fun z => PyData.eqv z dx))) else none) = some h := by cases dx <;> exact e
    obtain ⟨c, rfl⟩ := if_some e'
    unfold okEq at c
    simp only [Bool.and_eq_true] at c
    refine .inr (.inr ⟨dx, ds, (tx.rp S.bh).dp _ c.1.1, (ty.rp S.bh).dp _ c.2.1, c.1.2, c.2.2, ?_⟩)
    have := now (v := .bl (false ^^ ds.any fun z => PyData.eqv z dx)) S (.bl _) k
    rwa [Bool.false_xor] at this
  | _ => cases dx <;> cases (show none = some h from e)
theorem ol_notIn : OpL K (rNotInA K) (inD true) := fun ρ σ B H x y dx dy h Q S tx ty e k => by
  cases dy with
  | str z =>
    cases dx with
    | str w =>
      replace e : (match w.cps.toList with | [c] => some (Hd.sh (.bool (true ^^ decide (c ∈ z.cps.toList)))) | _ => none) = some h := e
      split at e
      · rename_i c ec
        cases e
        rw [tx.str, ty.str, str1 ec]
        refine .inl ⟨c, z, rfl, rfl, ?_⟩
        have := now (v := .bl (true ^^ decide (c ∈ z.cps.toList))) S (.bl _) k
        rwa [Bool.true_xor] at this
      · cases e
    | _ => cases e
  | tuple ds =>
    have e' : (if flatD dx && ds.all flatD then some (.sh (.bool (true ^^ ds.any fun z => PyData.eqv z dx))) else none) = some h := by cases dx <;> exact e
    obtain ⟨c, rfl⟩ := if_some e'
    rw [Bool.and_eq_true] at c
    obtain ⟨a, vs, rfl, ha, ra⟩ := ty.tup
    have tx' : Rp K B x dx := by cases dx <;> first | exact tx | (cases c.1; done)
    obtain ⟨q1, q2⟩ := any_of tx' c.1 ra c.2
    refine .inr (.inl ⟨a, vs, rfl, .inr (same_t S.bh ha), flat_of tx' c.1, q1, ?_⟩)
    rw [if_pos rfl, q2]
    have := now (v := .bl (true ^^ ds.any fun z => PyData.eqv z dx)) S (.bl _) k
    rwa [Bool.true_xor] at this
  | list ds =>
    have e' : (if okEq dx && okEq (.list ds) then some (.sh (.bool (true ^^ ds.any fun z => PyData.eqv z dx))) else none) = some h := by cases dx <;> exact e
    obtain ⟨c, rfl⟩ := if_some e'
    unfold okEq at c
    simp only [Bool.and_eq_true] at c
    refine .inr (.inr ⟨dx, ds, (tx.rp S.bh).dp _ c.1.1, (ty.rp S.bh).dp _ c.2.1, c.1.2, c.2.2, ?_⟩)
    have := now (v := .bl (true ^^ ds.any fun z => PyData.eqv z dx)) S (.bl _) k
    rwa [Bool.true_xor] at this
  | _ => cases dx <;> cases (show none = some h from e)
def ixD : D → D → Option Hd
  | .list ds, .int i => (atI ds i).map Hd.sh
  | .tuple ds, .int i => (atI ds i).map Hd.sh
  | .str z, .int i => if z.length ≤ sizeLine then (atI z.cps.toList i).map fun c => Hd.sh (.str ⟨#[c]⟩) else none
  | _, _ => none
theorem RpL.atI {vs : List V} {ds : List D} (h : RpL K B vs ds) {i : Int} {d : D} (e : atI ds i = some d) : ∃ v, atI vs i = some v ∧ Rp K B v d := by
  unfold L2.atI at e ⊢
  rw [h.length]
  cases q : ixN ds.length i with
  | none => rw [q] at e; cases e
  | some j =>
    rw [q] at e
    exact h.get e
theorem ol_ix : OpL K (rIx K) ixD := fun ρ σ B H x y dx dy h Q S tx ty e k => by
  cases dy with
  | int i =>
    rw [ty.int]
    cases dx with
    | list ds =>
      obtain ⟨d, e1, rfl⟩ := Option.map_eq_some_iff.mp e
      obtain ⟨a, vs, rfl, ha, ra⟩ := tx
      obtain ⟨v, q1, q2⟩ := ra.atI e1
      exact .inl ⟨a, vs, i, v, rfl, rfl, ha, q1, now S q2 k⟩
    | tuple ds =>
      obtain ⟨d, e1, rfl⟩ := Option.map_eq_some_iff.mp e
      obtain ⟨a, vs, rfl, ha, ra⟩ := tx.tup
      obtain ⟨v, q1, q2⟩ := ra.atI e1
      exact .inr (.inl ⟨a, vs, i, v, rfl, rfl, same_t S.bh ha, q1, now S q2 k⟩)
    | str z =>
      have e' : (if z.length ≤ sizeLine then (L2.atI z.cps.toList i).map fun c => Hd.sh (.str ⟨#[c]⟩) else none) = some h := e
      split at e'
      · obtain ⟨c, e1, rfl⟩ := Option.map_eq_some_iff.mp e'
        rw [tx.str]
        exact .inr (.inr ⟨z, i, c, rfl, rfl, by assumption, e1, now S (.str _) k⟩)
      · cases e'
    | _ => cases e
  | _ => cases dx <;> cases (show none = some h from e)
end
section
variable {X : Cx} {C : Ct} {a b c e : Expr} {ta tb tc te : TE} {fa fb fc fe : EF} {pos p2 : Pos}
def cutD (ds : List D) (lo hi : Option Int) : List D := (ds.drop (HT.sIx ds.length 0 lo)).take (HT.sIx ds.length ds.length hi - HT.sIx ds.length 0 lo)
def slD (lo hi : Option Int) : D → Option Hd
  | .list ds => some (.fr (.list (cutD ds lo hi)))
  | .tuple ds => some (.sh (.tuple (cutD ds lo hi)))
  | .str z => if z.length ≤ sizeLine then some (.sh (.str (cutS z lo hi))) else none
  | _ => none
def rSlAll (K : PySem.W.Frag) : V → Option Int → Option Int → Hp → VK → Prop := fun x lo hi H Q => rSlL K x lo hi H Q ∨ (rSlX K x lo hi H Q ∨ rSlS x lo hi H Q)
theorem sl_all : SlR X (rSlAll X.K) := SlR.or sl_list (SlR.or sl_tupX sl_str)
theorem RpL.cut {K : KW} {B : Hp} {vs : List V} {ds : List D} (h : RpL K B vs ds) (lo hi : Option Int) : RpL K B (cutV vs lo hi) (cutD ds lo hi) := by
  unfold cutV cutD
  rw [h.length]
  exact (h.drop _).take _
theorem ls_all {K : KW} {ρ : Rho} {σ : St} {B H : Hp} {x : V} {Q : VK} {d : D} {h : Hd} {lo hi : Option Int} (S : Sim K ρ σ B H) (tx : Tp K B H x d) (e : slD lo hi d = some h)
    (k : ∀ v B' H', Sim K ρ σ B' H' → Ext ρ σ B H ρ σ B' H' → HdOk K (New ρ σ H) ρ σ B' H' v h → Q v H') : rSlAll K x lo hi H Q := by
  cases d with
  | list ds =>
    cases e
    obtain ⟨a, vs, rfl, ha, ra⟩ := tx
    exact .inl ⟨a, vs, rfl, ha, newL S (ra.cut lo hi) k⟩
  | tuple ds =>
    cases e
    obtain ⟨a, vs, rfl, ha, ra⟩ := tx.tupX
    refine .inr (.inl ⟨a, vs, rfl, (same_x S.bh ha).sq, fun w => ?_, fun _ => newT S (ra.cut lo hi) k⟩)
    have ec : cutD ds lo hi = ds := by
      unfold cutD
      rw [← ra.length, w.1, w.2, List.drop_zero, Nat.sub_zero, ra.length, List.take_length]
    rw [ec] at k
    exact now S (.tup ha ra) k
  | str z =>
    obtain ⟨c, rfl⟩ := if_some e
    rw [tx.str]
    exact .inr (.inr ⟨z, rfl, c, now S (.str _) k⟩)
  | _ => cases e
/-- a part of a slice: nothing, or an int -/
inductive PartOk (X : Cx) (C : Ct) : Option Expr → TO → Option EF → Prop
  | non : PartOk X C none tNoPart none
  | some {e : Expr} {t : TE} {f : EF} : SE X C e t f → PartOk X C (some e) (tPart t) (some f)
def ePart (f : Option EF) (ρ : Rho) (k : Option Int → Rho → RE) : RE := match f with
  | none => k none ρ
  | some g => bindE (eSet g ρ) fun h ρ1 => match getH ρ1 h with
    | some (.int i) => k (some i) ρ1
    | _ => .stuck
def eSl (fe : EF) (fl fh : Option EF) : EF := fun ρ => bindE (eSet fe ρ) fun h ρ1 => ePart fl ρ1 fun lo ρ2 => ePart fh ρ2 fun hi ρ3 => match (getH ρ3 h).bind (slD lo hi) with
  | some r => .ok r ρ3
  | none => .stuck
theorem PartOk.pe {o : Option Expr} {t : TO} {f : Option EF} (h : PartOk X C o t f) : PO X o t := by
  cases h with
  | non => exact po_none
  | some s => exact po_some s.pe
theorem PartOk.bind {o : Option Expr} {t : TO} {f : Option EF} (h : PartOk X C o t f) {ρ : Rho} {σ : St} {B H : Hp} {Q : VK} (S : Sim C.K ρ σ B H) {k : Option Int → Rho → RE} {Q' : Option Int → Hp → Prop} (g : GoodE C ρ σ B H Q (ePart f ρ k))
    (q : ∀ i ρ1 B1 H1, Sim C.K ρ1 σ B1 H1 → Ext ρ σ B H ρ1 σ B1 H1 → GoodE C ρ1 σ B1 H1 Q (k i ρ1) → Q' i H1) : t σ H Q' := by
  cases h with
  | non => exact q none ρ B H S Ext.refl g
  | some s =>
    refine s.lk.setBind S g fun hd ρ1 x B1 H1 S1 e1 y1 g1 => ?_
    split at g1
    · rename_i i ei
      exact ⟨i, (S1.tp y1 ei).int, q (Option.some i) ρ1 B1 H1 S1 e1 g1⟩
    · exact g1.elim
theorem se_slice {lo hi : Option Expr} {tl th : TO} {fl fh : Option EF} (le : SE X C e te fe) (hl : PartOk X C lo tl fl) (hh : PartOk X C hi th fh) (hk : X.K = C.K := by rfl) :
    SE X C (.Subscript e (.Slice lo hi none p2) pos) (tSl (rSlAll C.K) te tl th) (eSl fe fl fh) := by
  refine ⟨by rw [← hk]; exact pe_slice sl_all le.pe hl.pe hh.pe, fun ρ σ B H Q S g => ?_⟩
  refine le.lk.setBind S g fun hd ρ1 x B1 H1 S1 e1 y1 g1 => ?_
  refine hl.bind S1 g1 fun i ρ2 B2 H2 S2 e2 g2 => ?_
  refine hh.bind S2 g2 fun j ρ3 B3 H3 S3 e3 g3 => ?_
  split at g3
  · rename_i r er
    obtain ⟨d, ed, es⟩ := Option.bind_eq_some_iff.mp er
    exact ls_all S3 (S3.tp (N := fun _ => True) (HdOk.ext (e2.trans e3) y1) ed) es g3
  · exact g3.elim
def GoodT (C : Ct) (ρ : Rho) (σ : St) (B H : Hp) (Q : Bool → Hp → Prop) : RE → Prop
  | .ok (.sh (.bool b)) ρ' => ∀ B' H', Sim C.K ρ' σ B' H' → Ext ρ σ B H ρ' σ B' H' → Q b H'
  | .exc x ρ' => ∀ cls dct B' H', Sim C.K ρ' σ B' H' → Ext ρ σ B H ρ' σ B' H' → XcOk C B' x cls dct → C.W cls dct σ H'
  | _ => False
def LkT (C : Ct) (t : TT) (f : EF) : Prop := ∀ ρ σ B H Q, Sim C.K ρ σ B H → GoodT C ρ σ B H Q (f ρ) → t σ H Q
structure ST (X : Cx) (C : Ct) (e : Expr) (t : TT) (f : EF) : Prop where
  pt : PT X e t
  lk : LkT C t f
structure SW (X : Cx) (C : Ct) (e : Expr) (t : TT) (f : EF) : Prop where
  pw : PW X e t
  lk : LkT C t f
theorem SW.st {t : TT} {f : EF} (h : SW X C e t f) : ST X C e t f := ⟨h.pw.pt, h.lk⟩
theorem GoodT.ext {ρ ρ1 : Rho} {σ : St} {B H B1 H1 : Hp} {Q : Bool → Hp → Prop} (x : Ext ρ σ B H ρ1 σ B1 H1) : ∀ {r : RE}, GoodT C ρ σ B H Q r → GoodT C ρ1 σ B1 H1 Q r := fun {r} g => by
  cases r with
  | stuck => exact g
  | exc c ρ2 => exact fun cls dct B' H' s y => g cls dct B' H' s (x.trans y)
  | ok h ρ2 =>
    cases h with
    | sh d =>
      cases d with
      | bool b => exact fun B' H' s y => g B' H' s (x.trans y)
      | _ => exact g
    | _ => exact g
/-- a bool: looked at -/
def eB (f : EF) : EF := fun ρ => bindE (eSet f ρ) fun h ρ1 => match getH ρ1 h with
  | some (.bool b) => .ok (.sh (.bool b)) ρ1
  | _ => .stuck
theorem lk_B {t : TE} {f : EF} (l : LkE C t f) : LkT C (tB t) (eB f) := fun ρ σ B H Q S g => by
  refine l.set ρ σ B H _ S ?_
  unfold eB at g
  cases e : eSet f ρ with
  | stuck => rw [e] at g; exact g
  | exc c ρ1 => rw [e] at g; exact g
  | ok h ρ1 =>
    rw [e] at g
    replace g : GoodT C ρ σ B H Q (match getH ρ1 h with | some (.bool b) => .ok (.sh (.bool b)) ρ1 | _ => .stuck) := g
    intro v B1 H1 S1 x y
    split at g
    · rename_i b eb
      exact ⟨b, (S1.tp y eb).bl, g B1 H1 S1 x⟩
    · exact g.elim
theorem st_val {t : TE} {f : EF} (h : SE X C e t f) (he : ∀ whole, isTrue e X.env whole = (do let v ← whole; standAt e.pos; holding [v] (truthy v)) := by intro _; rfl) : ST X C e (tB t) (eB f) := ⟨pt_val h.pe he, lk_B h.lk⟩
theorem se_cmp {op : CmpOp} {r : R2} {o : D → D → Option Hd} (hr : OpL C.K r o) (ho : OpR X (compareOp op) r) (la : SE X C a ta fa) (lb : SE X C b tb fb) (hm : behindInMarks op b = false := by first | exact nomark _ | rfl) : SE X C (.Compare a [op] [b] pos) (tOp r ta tb) (eBin o fa fb) :=
  ⟨pe_cmpR ho la.pe lb.pe hm, lk_op hr la.lk lb.lk⟩
theorem st_cmp {op : CmpOp} {r : R2} {o : D → D → Option Hd} (hr : OpL C.K r o) (ho : OpR X (compareOp op) r) (la : SE X C a ta fa) (lb : SE X C b tb fb) (hm : behindInMarks op b = false := by first | exact nomark _ | rfl) : ST X C (.Compare a [op] [b] pos) (tTest (tOp r ta tb)) (eB (eBin o fa fb)) :=
  ⟨pt_cmpR ho la.pe lb.pe hm, lk_B (lk_op hr la.lk lb.lk)⟩
/-- a test, then what follows -/
theorem LkT.bind {t : TT} {f : EF} (l : LkT C t f) {ρ : Rho} {σ : St} {B H : Hp} (S : Sim C.K ρ σ B H) {Q' : Bool → Hp → Prop}
    (hx : ∀ x ρ1, f ρ = .exc x ρ1 → ∀ cls dct B' H', Sim C.K ρ1 σ B' H' → Ext ρ σ B H ρ1 σ B' H' → XcOk C B' x cls dct → C.W cls dct σ H')
    (h : ∀ b ρ1, f ρ = .ok (.sh (.bool b)) ρ1 → ∀ B1 H1, Sim C.K ρ1 σ B1 H1 → Ext ρ σ B H ρ1 σ B1 H1 → Q' b H1) (hs : (∃ b ρ1, f ρ = .ok (.sh (.bool b)) ρ1) ∨ ∃ x ρ1, f ρ = .exc x ρ1) : t σ H Q' := by
  refine l ρ σ B H Q' S ?_
  rcases hs with ⟨b, ρ1, e⟩ | ⟨x, ρ1, e⟩
  · rw [e]; exact h b ρ1 e
  · rw [e]; exact hx x ρ1 e
def bindB (r : RE) (k : Bool → Rho → RE) : RE := match r with
  | .ok (.sh (.bool b)) ρ => k b ρ
  | .exc x ρ => .exc x ρ
  | _ => .stuck
theorem LkT.bindE {t : TT} {f : EF} (l : LkT C t f) {ρ : Rho} {σ : St} {B H : Hp} (S : Sim C.K ρ σ B H) {Q : VK} {k : Bool → Rho → RE} {Q' : Bool → Hp → Prop} (g : GoodE C ρ σ B H Q (bindB (f ρ) k))
    (h : ∀ b ρ1 B1 H1, Sim C.K ρ1 σ B1 H1 → Ext ρ σ B H ρ1 σ B1 H1 → GoodE C ρ1 σ B1 H1 Q (k b ρ1) → Q' b H1) : t σ H Q' := by
  refine l ρ σ B H Q' S ?_
  cases e : f ρ with
  | stuck => rw [e] at g; exact g
  | exc x ρ1 => rw [e] at g; exact g
  | ok hd ρ1 =>
    rw [e] at g
    cases hd with
    | sh d =>
      cases d with
      | bool b => exact fun B1 H1 s x => h b ρ1 B1 H1 s x (GoodE.ext x g)
      | _ => exact g
    | _ => exact g
theorem LkT.bindT {t : TT} {f : EF} (l : LkT C t f) {ρ : Rho} {σ : St} {B H : Hp} (S : Sim C.K ρ σ B H) {Q : Bool → Hp → Prop} {k : Bool → Rho → RE} {Q' : Bool → Hp → Prop} (g : GoodT C ρ σ B H Q (bindB (f ρ) k))
    (h : ∀ b ρ1 B1 H1, Sim C.K ρ1 σ B1 H1 → Ext ρ σ B H ρ1 σ B1 H1 → GoodT C ρ1 σ B1 H1 Q (k b ρ1) → Q' b H1) : t σ H Q' := by
  refine l ρ σ B H Q' S ?_
  cases e : f ρ with
  | stuck => rw [e] at g; exact g
  | exc x ρ1 => rw [e] at g; exact g
  | ok hd ρ1 =>
    rw [e] at g
    cases hd with
    | sh d =>
      cases d with
      | bool b => exact fun B1 H1 s x => h b ρ1 B1 H1 s x (GoodT.ext x g)
      | _ => exact g
    | _ => exact g
def eNot (f : EF) : EF := fun ρ => bindB (f ρ) fun b ρ1 => .ok (.sh (.bool (!b))) ρ1
def eAnd (f g : EF) : EF := fun ρ => bindB (f ρ) fun b ρ1 => if b then g ρ1 else .ok (.sh (.bool false)) ρ1
def eOr (f g : EF) : EF := fun ρ => bindB (f ρ) fun b ρ1 => if b then .ok (.sh (.bool true)) ρ1 else g ρ1
def eIf (f g h : EF) : EF := fun ρ => bindB (f ρ) fun b ρ1 => if b then g ρ1 else h ρ1
variable {t u w : TT} {f g h : EF}
theorem st_not (l : ST X C a t f) : ST X C (.UnaryOp .Not a pos) (tNot t) (eNot f) := ⟨pt_not l.pt, fun ρ σ B H Q S g => l.lk.bindT S g fun b ρ1 B1 H1 S1 e1 g1 => g1 B1 H1 S1 Ext.refl⟩
theorem sw_one {op : BoolOp} (l : ST X C a t f) : SW X C (.BoolOp op [a] pos) t f := by
  cases op
  · exact ⟨pw_and1 l.pt, l.lk⟩
  · exact ⟨pw_or1 l.pt, l.lk⟩
theorem sw_and {rest : List Expr} (l : ST X C a t f) (m : SW X C (.BoolOp .And (b :: rest) pos) u g) : SW X C (.BoolOp .And (a :: b :: rest) pos) (tAnd t u) (eAnd f g) :=
  ⟨pw_and l.pt m.pw, fun ρ σ B H Q S gd => l.lk.bindT S gd fun b ρ1 B1 H1 S1 e1 g1 => by
    cases b with
    | true => exact m.lk ρ1 σ B1 H1 Q S1 g1
    | false => exact g1 B1 H1 S1 Ext.refl⟩
theorem sw_or {rest : List Expr} (l : ST X C a t f) (m : SW X C (.BoolOp .Or (b :: rest) pos) u g) : SW X C (.BoolOp .Or (a :: b :: rest) pos) (tOr t u) (eOr f g) :=
  ⟨pw_or l.pt m.pw, fun ρ σ B H Q S gd => l.lk.bindT S gd fun b ρ1 B1 H1 S1 e1 g1 => by
    cases b with
    | false => exact m.lk ρ1 σ B1 H1 Q S1 g1
    | true => exact g1 B1 H1 S1 Ext.refl⟩
theorem se_one {op : BoolOp} (l : SE X C a ta fa) : SE X C (.BoolOp op [a] pos) ta fa := ⟨pe_one l.pe, l.lk⟩
theorem se_and {rest : List Expr} (l : SE X C a ta fa) (m : SE X C (.BoolOp .And (b :: rest) pos) tb fb) : SE X C (.BoolOp .And (a :: b :: rest) pos) (tAndV ta tb) (eAnd (eB fa) fb) := ⟨pe_and l.pe m.pe, fun ρ σ B H Q S g => by
  have q : tB ta σ H fun b H1 => if b = true then tb σ H1 Q else Q (.bl false) H1 := (lk_B l.lk).bindE S g fun b ρ1 B1 H1 S1 e1 g1 => by
    cases b with
    | true => exact m.lk ρ1 σ B1 H1 Q S1 g1
    | false => exact g1 (.bl false) B1 H1 S1 Ext.refl (.bl _)
  exact q⟩
theorem se_or {rest : List Expr} (l : SE X C a ta fa) (m : SE X C (.BoolOp .Or (b :: rest) pos) tb fb) : SE X C (.BoolOp .Or (a :: b :: rest) pos) (tOrV ta tb) (eOr (eB fa) fb) := ⟨pe_or l.pe m.pe, fun ρ σ B H Q S g => by
  have q : tB ta σ H fun b H1 => if b = true then Q (.bl true) H1 else tb σ H1 Q := (lk_B l.lk).bindE S g fun b ρ1 B1 H1 S1 e1 g1 => by
    cases b with
    | false => exact m.lk ρ1 σ B1 H1 Q S1 g1
    | true => exact g1 (.bl true) B1 H1 S1 Ext.refl (.bl _)
  exact q⟩
theorem se_if (l : ST X C c t f) (la : SE X C a ta fa) (lb : SE X C b tb fb) : SE X C (.IfExp c a b pos) (tIf t ta tb) (eIf f fa fb) := ⟨pe_ifExp l.pt la.pe lb.pe, fun ρ σ B H Q S g => l.lk.bindE S g fun b ρ1 B1 H1 S1 e1 g1 => by
  cases b with
  | true => exact la.lk ρ1 σ B1 H1 Q S1 g1
  | false => exact lb.lk ρ1 σ B1 H1 Q S1 g1⟩
def eChain (o o' : D → D → Option Hd) (fa fb fc : EF) : EF := fun ρ => bindE (eSet fa ρ) fun ha ρ1 => bindE (eSet fb ρ1) fun hb ρ2 => match getH ρ2 ha, getH ρ2 hb with
  | some da, some db => match o da db with
    | some (.sh (.bool b)) => if b then bindE (eSet fc ρ2) (fun hc ρ3 => match getH ρ3 hb, getH ρ3 hc with
      | some db', some dc => match o' db' dc with
        | some h => .ok h ρ3
        | none => .stuck
      | _, _ => .stuck) else .ok (.sh (.bool false)) ρ2
    | _ => .stuck
  | _, _ => .stuck
theorem lk_chain {r r' : R2} {o o' : D → D → Option Hd} (hr : OpL C.K r o) (hr' : OpL C.K r' o') (la : LkE C ta fa) (lb : LkE C tb fb) (lc : LkE C tc fc) : LkE C (tChain r r' ta tb tc) (eChain o o' fa fb fc) := fun ρ σ B H Q S g => by
  refine la.setBind S g fun ha ρ1 x B1 H1 S1 e1 y1 g1 => ?_
  refine lb.setBind S1 g1 fun hb ρ2 y B2 H2 S2 e2 y2 g2 => ?_
  split at g2
  · rename_i da db ea eb
    split at g2
    · rename_i b eh
      refine hr ρ2 σ B2 H2 x y da db _ _ S2 (S2.tp (N := fun _ => True) (HdOk.ext e2 y1) ea) (S2.tp y2 eb) eh fun v B3 H3 S3 e3 y3 => ?_
      cases (show Rp C.K B3 v (.bool b) from y3)
      refine ⟨b, rfl, ?_⟩
      cases b with
      | true =>
        rw [if_pos rfl] at g2 ⊢
        refine lc.setBind S3 (GoodE.ext e3 g2) fun hc ρ4 z B4 H4 S4 e4 y4 g4 => ?_
        split at g4
        · rename_i db' dc eb' ec
          split at g4
          · rename_i h eh'
            exact hr' ρ4 σ B4 H4 y z db' dc h Q S4 (S4.tp (N := fun _ => True) (HdOk.ext (e3.trans e4) y2) eb') (S4.tp y4 ec) eh' g4
          · exact g4.elim
        · exact g4.elim
      | false =>
        rw [if_neg Bool.false_ne_true] at g2 ⊢
        exact g2 (.bl false) B3 H3 S3 e3 (.bl _)
    · exact g2.elim
  · exact g2.elim
theorem st_chain {op op' : CmpOp} {r r' : R2} {o o' : D → D → Option Hd} (hr : OpL C.K r o) (ho : OpR X (compareOp op) r) (hr' : OpL C.K r' o') (ho' : OpR X (compareOp op') r') (la : SE X C a ta fa) (lb : SE X C b tb fb) (lc : SE X C c tc fc)
    (hm : lastMarks [op, op'] [b, c] = false := by with_unfolding_all rfl) : ST X C (.Compare a [op, op'] [b, c] pos) (tTest (tChain r r' ta tb tc)) (eB (eChain o o' fa fb fc)) := ⟨pt_chain ho ho' la.pe lb.pe lc.pe hm, lk_B (lk_chain hr hr' la.lk lb.lk lc.lk)⟩
end
end GS
namespace GS
open PySem L2
section
variable {X : Cx} {C : Ct} {e : Expr} {es : List Expr} {te : TE} {fe : EF} {pos : Pos}
/-- a name, looked at -/
def eVb (i : Nat) : EF := fun ρ => match slot ρ i with
  | some _ => .ok (.bw i) ρ
  | none => .stuck
/-- a name whose datum is shared from here on -/
def eMv (i : Nat) : EF := fun ρ => match slot ρ i with
  | some ⟨d, .sh⟩ => .ok (.sh d) ρ
  | some ⟨d, .ow⟩ => .ok (.sh d) (ρ.set i (some ⟨d, .sh⟩))
  | _ => .stuck
def eC (d : D) : EF := fun ρ => .ok (.sh d) ρ
theorem lk_vb {i : Nat} : LkE C (tVar i) (eVb i) := fun ρ σ B H Q S g => by
  unfold eVb at g
  cases h : slot ρ i with
  | none => rw [h] at g; exact g.elim
  | some c =>
    rw [h] at g
    obtain ⟨v, e, q⟩ := S.sl i c (slot_some h)
    exact ⟨v, e, g v B H S Ext.refl e⟩
theorem set_get {ρ : Rho} {i j : Nat} {c : Option Cel} {x : Option Cel} (h : (ρ.set i c)[j]? = some x) : (i = j ∧ x = c) ∨ (i ≠ j ∧ ρ[j]? = some x) := by
  rw [List.getElem?_set] at h
  by_cases e : i = j
  · rw [if_pos e] at h
    split at h
    · cases h; exact .inl ⟨e, rfl⟩
    · cases h
  · rw [if_neg e] at h
    exact .inr ⟨e, h⟩
theorem set_at {ρ : Rho} {i : Nat} {c : Option Cel} (h : i < ρ.length) : (ρ.set i c)[i]? = some c := by
  rw [List.getElem?_set, if_pos rfl, if_pos h]
theorem set_other {ρ : Rho} {i j : Nat} {c : Option Cel} (h : i ≠ j) : (ρ.set i c)[j]? = ρ[j]? := by
  rw [List.getElem?_set, if_neg h]
theorem lt_of {ρ : Rho} {i : Nat} {x : Option Cel} (h : ρ[i]? = some x) : i < ρ.length := (List.getElem?_eq_some_iff.mp h).1
/-- an owned slot is given up: the datum is shared from here on -/
theorem Sim.freeze {K : KW} {ρ : Rho} {σ : St} {B H : Hp} (S : Sim K ρ σ B H) {i : Nat} {d : D} (hi : ρ[i]? = some (some ⟨d, .ow⟩)) :
    ∃ v B1, σ[i]? = some (some v) ∧ Sim K (ρ.set i (some ⟨d, .sh⟩)) σ B1 H ∧ Ext ρ σ B H (ρ.set i (some ⟨d, .sh⟩)) σ B1 H ∧ Rp K B1 v d := by
  obtain ⟨v, e, q⟩ := S.sl i _ hi
  rcases q with ⟨q, _⟩ | ⟨_, a, rfl, hb, ho⟩
  · cases q
  obtain ⟨o, eo⟩ := ho.some
  have own : OwnA ρ σ a := ⟨i, _, hi, by simp, e⟩
  have sB : Same B (upd B a o) := fun b u e => by rw [upd_ne (ne_of_none e hb)]; exact e
  have rp : Rp K (upd B a o) (.ref a) d := by
    rw [eo] at ho
    have ho := ho.mono sB
    cases d with
    | list ds =>
      obtain ⟨vs, e1, e2⟩ := ho
      cases e1
      exact .lst (.inl (.inl upd_same)) e2
    | dict ps =>
      obtain ⟨ep, b, xs, e1, e2⟩ := ho
      cases e1
      exact .dct upd_same e2
    | _ => exact ho.elim
  refine ⟨.ref a, upd B a o, e, ⟨fun b u z => ?_, by rw [List.length_set]; exact S.len, fun j c hj => ?_, fun j k cj ck b hj hk nj nk ej ek => ?_⟩, ⟨sB, fun b u z => ?_, fun b u z _ => z, fun b z => ?_, fun j c hj hc => ?_, fun j c hj hc => ?_⟩, rp⟩
  · by_cases h : b = a
    · subst h; rw [upd_same] at z; cases z; exact eo
    · rw [upd_ne h] at z; exact S.bh _ _ z
  · rcases set_get hj with ⟨rfl, ec⟩ | ⟨ne, hj⟩
    · cases ec
      exact ⟨.ref a, e, .inl ⟨rfl, rp⟩⟩
    · obtain ⟨v, ev, q⟩ := S.sl j c hj
      refine ⟨v, ev, q.mono sB fun b hv hb' ho' hf => ⟨?_, rfl⟩⟩
      have nb : b ≠ a := fun z => by
        subst z hv
        exact ne (S.dj i j _ c b hi hj (by simp) hf e ev)
      rw [upd_ne nb]; exact hb'
  · rcases set_get hj with ⟨rfl, ec⟩ | ⟨_, hj⟩
    · cases ec; exact absurd rfl nj
    · rcases set_get hk with ⟨rfl, ec⟩ | ⟨_, hk⟩
      · cases ec; exact absurd rfl nk
      · exact S.dj j k cj ck b hj hk nj nk ej ek
  · by_cases h : b = a
    · subst h; exact .inr (.inr own)
    · rw [upd_ne h] at z; exact .inl z
  · obtain ⟨j, c, hj, hc, ej⟩ := z
    rcases set_get hj with ⟨rfl, ec⟩ | ⟨_, hj⟩
    · cases ec; exact absurd rfl hc
    · exact .inr ⟨j, c, hj, hc, ej⟩
  · have ne : i ≠ j := fun z => by
      subst z
      rw [hi] at hj
      cases hj
      cases hc
    exact ⟨rfl, c, by rw [set_other ne]; exact hj, hc⟩
  · rcases set_get hj with ⟨rfl, ec⟩ | ⟨_, hj⟩
    · cases ec; cases hc
    · exact ⟨c, hj, hc⟩
/-- .. it is nobody's from here on -/
theorem Sim.give {K : KW} {ρ : Rho} {σ : St} {B H : Hp} (S : Sim K ρ σ B H) {i : Nat} {d : D} (hi : ρ[i]? = some (some ⟨d, .ow⟩)) :
    ∃ a, σ[i]? = some (some (.ref a)) ∧ Sim K (ρ.set i none) σ B H ∧ Ext ρ σ B H (ρ.set i none) σ B H ∧ HdOk K (New ρ σ H) (ρ.set i none) σ B H (.ref a) (.fr d) := by
  obtain ⟨v, e, q⟩ := S.sl i _ hi
  rcases q with ⟨q, _⟩ | ⟨_, a, rfl, hb, ho⟩
  · cases q
  have own : OwnA ρ σ a := ⟨i, _, hi, by simp, e⟩
  refine ⟨a, e, ⟨S.bh, by rw [List.length_set]; exact S.len, fun j c hj => ?_, fun j k cj ck b hj hk nj nk ej ek => ?_⟩, ⟨Same.refl B, fun b u z => .inl z, fun b u z _ => z, fun b z => ?_, fun j c hj hc => ?_, fun j c hj hc => ?_⟩, a, rfl, hb, ho, fun z => ?_, .inr own⟩
  · rcases set_get hj with ⟨rfl, ec⟩ | ⟨ne, hj⟩
    · cases ec
    · exact S.sl j c hj
  · rcases set_get hj with ⟨rfl, ec⟩ | ⟨_, hj⟩
    · cases ec
    · rcases set_get hk with ⟨rfl, ec⟩ | ⟨_, hk⟩
      · cases ec
      · exact S.dj j k cj ck b hj hk nj nk ej ek
  · obtain ⟨j, c, hj, hc, ej⟩ := z
    rcases set_get hj with ⟨rfl, ec⟩ | ⟨_, hj⟩
    · cases ec
    · exact .inr ⟨j, c, hj, hc, ej⟩
  · have ne : i ≠ j := fun z => by
      subst z
      rw [hi] at hj
      cases hj
      cases hc
    exact ⟨rfl, c, by rw [set_other ne]; exact hj, hc⟩
  · rcases set_get hj with ⟨rfl, ec⟩ | ⟨_, hj⟩
    · cases ec
    · exact ⟨c, hj, hc⟩
  · obtain ⟨j, c, hj, hc, ej⟩ := z
    rcases set_get hj with ⟨rfl, ec⟩ | ⟨ne, hj⟩
    · cases ec
    · exact ne (S.dj i j _ c a hi hj (by simp) hc e ej)
theorem lk_mv {i : Nat} : LkE C (tVar i) (eMv i) := fun ρ σ B H Q S g => by
  unfold eMv at g
  cases h : slot ρ i with
  | none => rw [h] at g; exact g.elim
  | some c =>
    rw [h] at g
    obtain ⟨d, fl⟩ := c
    have hi := slot_some h
    cases fl with
    | sh =>
      obtain ⟨v, e, q⟩ := S.sl i _ hi
      rcases q with ⟨_, q⟩ | ⟨q, _⟩
      · exact ⟨v, e, g v B H S Ext.refl q⟩
      · exact absurd rfl q
    | ow =>
      obtain ⟨v, B1, e, S1, x1, r⟩ := S.freeze hi
      exact ⟨v, e, g v B1 H S1 x1 r⟩
    | io => exact g.elim
theorem se_vb (i : Nat) {x : Str} (hN : X.N[i]? = some x := by rfl) (hv : Vis X.env.scope x := by first | exact Or.inl rfl | exact Or.inr (Or.inl rfl) | exact Or.inr (Or.inr rfl)) (hd : (x == ("__debug__" : Str)) = false := by decide)
    (hcd : (x == ("__classdict__" : Str)) = false := by decide) : SE X C (.Name x pos) (tVar i) (eVb i) := ⟨pe_var hN hv hd hcd, lk_vb⟩
theorem se_mv (i : Nat) {x : Str} (hN : X.N[i]? = some x := by rfl) (hv : Vis X.env.scope x := by first | exact Or.inl rfl | exact Or.inr (Or.inl rfl) | exact Or.inr (Or.inr rfl)) (hd : (x == ("__debug__" : Str)) = false := by decide)
    (hcd : (x == ("__classdict__" : Str)) = false := by decide) : SE X C (.Name x pos) (tVar i) (eMv i) := ⟨pe_var hN hv hd hcd, lk_mv⟩
theorem lk_c {v : V} {d : D} (h : ∀ B, Rp C.K B v d) : LkE C (tC v) (eC d) := fun ρ σ B H Q S g => g v B H S Ext.refl (h B)
theorem se_int {i : Int} {j : Nat} : SE X C (.Constant (.int i) j pos) (tC (.int i)) (eC (.int i)) := ⟨pe_int, lk_c fun _ => .int i⟩
theorem se_str {i : Str} {j : Nat} : SE X C (.Constant (.str i) j pos) (tC (.str i)) (eC (.str i)) := ⟨pe_str, lk_c fun _ => .str i⟩
theorem se_bl {i : Bool} {j : Nat} : SE X C (.Constant (.bool i) j pos) (tC (.bl i)) (eC (.bool i)) := ⟨pe_bl, lk_c fun _ => .bl i⟩
theorem se_non {j : Nat} : SE X C (.Constant .none j pos) (tC .non) (eC .none) := ⟨pe_non, lk_c fun _ => .non⟩
def eNeg (f : EF) : EF := fun ρ => bindE (eSet f ρ) fun h ρ1 => match getH ρ1 h with
  | some (.int i) => .ok (.sh (.int (-i))) ρ1
  | _ => .stuck
theorem se_neg (l : SE X C e te fe) : SE X C (.UnaryOp .USub e pos) (tUn (rU fun i => .int (-i)) te) (eNeg fe) := ⟨pe_un un_neg l.pe, fun ρ σ B H Q S g => by
  refine l.lk.setBind S g fun hd ρ1 x B1 H1 S1 e1 y1 g1 => ?_
  split at g1
  · rename_i i ei
    exact ⟨i, (S1.tp y1 ei).int, g1 _ B1 H1 S1 Ext.refl (.int _)⟩
  · exact g1.elim⟩
inductive RA where | stuck | ok (hs : List Hd) (ρ : Rho) | exc (x : Xc) (ρ : Rho)
abbrev AF := Rho → RA
def HsOk (K : KW) (σ : St) (B : Hp) (v : V) : Hd → Prop
  | .sh d => Rp K B v d
  | .fr _ => False
  | .bw i => σ[i]? = some (some v)
inductive HdL (K : KW) (σ : St) (B : Hp) : List V → List Hd → Prop
  | nil : HdL K σ B [] []
  | cons {v : V} {vs : List V} {h : Hd} {hs : List Hd} : HsOk K σ B v h → HdL K σ B vs hs → HdL K σ B (v :: vs) (h :: hs)
theorem HsOk.mono {K : KW} {σ : St} {B B1 : Hp} (e : Same B B1) {v : V} : ∀ {h : Hd}, HsOk K σ B v h → HsOk K σ B1 v h
  | .sh _, q => Rp.mono e q
  | .fr _, q => q
  | .bw _, q => q
theorem HdL.mono {K : KW} {σ : St} {B B1 : Hp} (e : Same B B1) : ∀ {vs : List V} {hs : List Hd}, HdL K σ B vs hs → HdL K σ B1 vs hs
  | _, _, .nil => .nil
  | _, _, .cons h t => .cons (h.mono e) (HdL.mono e t)
theorem HdL.length {K : KW} {σ : St} {B : Hp} : ∀ {vs : List V} {hs : List Hd}, HdL K σ B vs hs → vs.length = hs.length
  | _, _, .nil => rfl
  | _, _, .cons h t => by rw [List.length_cons, List.length_cons, HdL.length t]
def GoodA (C : Ct) (ρ : Rho) (σ : St) (B H : Hp) (Q : List V → Hp → Prop) : RA → Prop
  | .stuck => False
  | .ok hs ρ' => ∀ vs B' H', Sim C.K ρ' σ B' H' → Ext ρ σ B H ρ' σ B' H' → HdL C.K σ B' vs hs → Q vs H'
  | .exc x ρ' => ∀ cls dct B' H', Sim C.K ρ' σ B' H' → Ext ρ σ B H ρ' σ B' H' → XcOk C B' x cls dct → C.W cls dct σ H'
def LkA (C : Ct) (t : TA) (f : AF) : Prop := ∀ ρ σ B H Q, Sim C.K ρ σ B H → GoodA C ρ σ B H Q (f ρ) → t σ H Q
structure SA (X : Cx) (C : Ct) (es : List Expr) (t : TA) (f : AF) : Prop where
  pa : PA X es t
  lk : LkA C t f
def aNil : AF := fun ρ => .ok [] ρ
def aCons (f : EF) (g : AF) : AF := fun ρ => match eSet f ρ with
  | .stuck => .stuck
  | .exc x ρ1 => .exc x ρ1
  | .ok h ρ1 => match g ρ1 with
    | .stuck => .stuck
    | .exc x ρ2 => .exc x ρ2
    | .ok hs ρ2 => .ok (h :: hs) ρ2
theorem GoodA.ext {ρ ρ1 : Rho} {σ : St} {B H B1 H1 : Hp} {Q : List V → Hp → Prop} (x : Ext ρ σ B H ρ1 σ B1 H1) : ∀ {r : RA}, GoodA C ρ σ B H Q r → GoodA C ρ1 σ B1 H1 Q r
  | .stuck, g => g
  | .ok _ _, g => fun vs B' H' s y z => g vs B' H' s (x.trans y) z
  | .exc _ _, g => fun c d B' H' s y z => g c d B' H' s (x.trans y) z
theorem hs_of {K : KW} {N : Addr → Prop} {ρ : Rho} {σ : St} {B H : Hp} {v : V} {h : Hd} (y : HdOk K N ρ σ B H v (setl h)) : HsOk K σ B v (setl h) := by
  cases h <;> exact y
theorem sa_nil : SA X C [] tNil aNil := ⟨pa_nil, fun ρ σ B H Q S g => g [] B H S Ext.refl .nil⟩
theorem sa_cons {t : TA} {g : AF} (l : SE X C e te fe) (m : SA X C es t g) (hs : starEach (e :: es) X.env = (false, eval e X.env) :: starEach es X.env := by rfl) : SA X C (e :: es) (tCons te t) (aCons fe g) := ⟨pa_cons l.pe m.pa hs, fun ρ σ B H Q S gd => by
  refine l.lk.set ρ σ B H _ S ?_
  unfold aCons at gd
  cases e : eSet fe ρ with
  | stuck => rw [e] at gd; exact gd
  | exc x ρ1 => rw [e] at gd; exact gd
  | ok h ρ1 =>
    rw [e] at gd
    intro v B1 H1 S1 x1 y1
    have y2 : HsOk C.K σ B1 v h := by
      unfold eSet bindE at e
      split at e
      · cases e
      · rename_i h' ρ' e'
        cases e
        exact hs_of y1
      · cases e
    refine m.lk ρ1 σ B1 H1 _ S1 ?_
    cases e2 : g ρ1 with
    | stuck => simp only [e2] at gd; exact gd
    | exc x ρ2 => simp only [e2] at gd; exact GoodA.ext x1 (r := .exc x ρ2) gd
    | ok hs ρ2 =>
      simp only [e2] at gd
      exact fun vs B2 H2 S2 x2 y3 => gd (v :: vs) B2 H2 S2 (x1.trans x2) (.cons (y2.mono x2.bb) y3)⟩
def bindA (r : RA) (k : List Hd → Rho → RE) : RE := match r with
  | .stuck => .stuck
  | .ok hs ρ => k hs ρ
  | .exc x ρ => .exc x ρ
theorem LkA.bind {t : TA} {f : AF} (l : LkA C t f) {ρ : Rho} {σ : St} {B H : Hp} (S : Sim C.K ρ σ B H) {Q : VK} {k : List Hd → Rho → RE} {Q' : List V → Hp → Prop} (g : GoodE C ρ σ B H Q (bindA (f ρ) k))
    (h : ∀ hs ρ1 vs B1 H1, Sim C.K ρ1 σ B1 H1 → Ext ρ σ B H ρ1 σ B1 H1 → HdL C.K σ B1 vs hs → GoodE C ρ1 σ B1 H1 Q (k hs ρ1) → Q' vs H1) : t σ H Q' := by
  refine l ρ σ B H Q' S ?_
  cases e : f ρ with
  | stuck => rw [e] at g; exact g
  | exc x ρ1 => rw [e] at g; exact g
  | ok hs ρ1 =>
    rw [e] at g
    exact fun vs B1 H1 s x y => h hs ρ1 vs B1 H1 s x y (GoodE.ext x g)
/-- all are data of their own -/
def shs : List Hd → Option (List D)
  | [] => some []
  | .sh d :: hs => (shs hs).map (d :: ·)
  | _ :: _ => none
theorem shs_ok {K : KW} {σ : St} {B : Hp} : ∀ {vs : List V} {hs : List Hd} {ds : List D}, HdL K σ B vs hs → shs hs = some ds → RpL K B vs ds
  | _, _, _, .nil, e => by cases e; exact .nil
  | _, .sh d :: hs, _, .cons h t, e => by
    obtain ⟨r, er, rfl⟩ := Option.map_eq_some_iff.mp (show (shs hs).map (d :: ·) = some _ from e)
    exact .cons h (shs_ok t er)
/-- what they are, looked at -/
def gets (ρ : Rho) : List Hd → Option (List D)
  | [] => some []
  | h :: hs => match getH ρ h, gets ρ hs with
    | some d, some ds => some (d :: ds)
    | _, _ => none
inductive TpL (K : KW) (B H : Hp) : List V → List D → Prop
  | nil : TpL K B H [] []
  | cons {v : V} {vs : List V} {d : D} {ds : List D} : Tp K B H v d → TpL K B H vs ds → TpL K B H (v :: vs) (d :: ds)
theorem hd_hs {K : KW} {N : Addr → Prop} {ρ : Rho} {σ : St} {B H : Hp} {v : V} : ∀ {h : Hd}, HsOk K σ B v h → HdOk K N ρ σ B H v h
  | .sh _, q => q
  | .bw _, q => q
theorem gets_ok {ρ : Rho} {σ : St} {B H : Hp} (S : Sim C.K ρ σ B H) : ∀ {vs : List V} {hs : List Hd} {ds : List D}, HdL C.K σ B vs hs → gets ρ hs = some ds → TpL C.K B H vs ds
  | _, _, _, .nil, e => by cases e; exact .nil
  | _, h :: hs, _, .cons y t, e => by
    unfold gets at e
    split at e
    · rename_i d ds e1 e2
      cases e
      exact .cons (S.tp (N := fun _ => True) (hd_hs y) e1) (gets_ok S t e2)
    · cases e
def eTup (f : AF) : EF := fun ρ => bindA (f ρ) fun hs ρ1 => match shs hs with
  | some ds => if ds.length ≤ 1000 then .ok (.sh (.tuple ds)) ρ1 else .stuck
  | none => .stuck
def eLst (f : AF) : EF := fun ρ => bindA (f ρ) fun hs ρ1 => match shs hs with
  | some ds => if ds.length ≤ 1000 then .ok (.fr (.list ds)) ρ1 else .stuck
  | none => .stuck
theorem small {n : Nat} (h : n ≤ 1000) : n ≤ sizeLine := Nat.le_of_lt (small1000 h)
theorem se_tup {t : TA} {f : AF} {k : Nat} (l : SA X C es t f) : SE X C (.Tuple es k pos) (tTupX t) (eTup f) := ⟨pe_tupX l.pa, fun ρ σ B H Q S g => by
  refine l.lk.bind S g fun hs ρ1 vs B1 H1 S1 x1 y1 g1 => ?_
  split at g1
  · rename_i ds e
    split at g1
    · have r := shs_ok y1 e
      exact ⟨by rw [r.length]; exact small (by assumption), newT S1 r g1⟩
    · exact g1.elim
  · exact g1.elim⟩
theorem se_lst {t : TA} {f : AF} (l : SA X C es t f) : SE X C (.List es pos) (tLst t) (eLst f) := ⟨pe_lst l.pa, fun ρ σ B H Q S g => by
  refine l.lk.bind S g fun hs ρ1 vs B1 H1 S1 x1 y1 g1 => ?_
  split at g1
  · rename_i ds e
    split at g1
    · have r := shs_ok y1 e
      exact ⟨by rw [r.length]; exact small (by assumption), newL S1 r g1⟩
    · exact g1.elim
  · exact g1.elim⟩
def CalL (K : KW) (r : List V → Hp → VK → Prop) (o : List D → Option Hd) : Prop := ∀ ρ σ B H xs ds h Q, Sim K ρ σ B H → TpL K B H xs ds → o ds = some h →
  (∀ v B' H', Sim K ρ σ B' H' → Ext ρ σ B H ρ σ B' H' → HdOk K (New ρ σ H) ρ σ B' H' v h → Q v H') → r xs H Q
def eCB (o : List D → Option Hd) (f : AF) : EF := fun ρ => bindA (f ρ) fun hs ρ1 => match (gets ρ1 hs).bind o with
  | some h => .ok h ρ1
  | none => .stuck
theorem lk_cb {t : TA} {f : AF} {r : List V → Hp → VK → Prop} {o : List D → Option Hd} (hr : CalL C.K r o) (l : LkA C t f) : LkE C (tCB r t) (eCB o f) := fun ρ σ B H Q S g => by
  refine l.bind S g fun hs ρ1 vs B1 H1 S1 x1 y1 g1 => ?_
  split at g1
  · rename_i h e
    obtain ⟨ds, e1, e2⟩ := Option.bind_eq_some_iff.mp e
    exact hr ρ1 σ B1 H1 vs ds h Q S1 (gets_ok S1 y1 e1) e2 g1
  · exact g1.elim
theorem se_cb {x : Str} {id : String} {p : Pos} {t : TA} {f : AF} {r : List V → Hp → VK → Prop} {o : List D → Option Hd} (hr : CalL C.K r o) (hc : CallR X (.builtin id) r) (hm : X.mg x = none) (l : SA X C (e :: es) t f) (hv : bootBuiltins x = some (.builtin id) := by decide +kernel) (hg : Gl X x := by rfl)
    (hn : x ≠ "__name__" := by decide) (hdb : (x == ("__debug__" : Str)) = false := by decide) (he : starEach (e :: es) X.env = (false, eval e X.env) :: starEach es X.env := by rfl) (hpl : (backTo pos (starEach es X.env)).any (·.1) = false := by rfl) :
    SE X C (.Call (.Name x p) (e :: es) [] pos) (tCB r t) (eCB o f) := ⟨pe_callB hc hg hm hv l.pa hn hdb he hpl, lk_cb hr l.lk⟩
theorem se_ct {x : Str} {T : String} {p : Pos} {t : TA} {f : AF} {r : List V → Hp → VK → Prop} {o : List D → Option Hd} (hr : CalL C.K r o) (hc : CallR X (.type T) r) (hm : X.mg x = none) (l : SA X C (e :: es) t f) (hv : bootBuiltins x = some (.type T) := by decide +kernel) (hg : Gl X x := by rfl)
    (hn : x ≠ "__name__" := by decide) (hdb : (x == ("__debug__" : Str)) = false := by decide) (he : starEach (e :: es) X.env = (false, eval e X.env) :: starEach es X.env := by rfl) (hpl : (backTo pos (starEach es X.env)).any (·.1) = false := by rfl) :
    SE X C (.Call (.Name x p) (e :: es) [] pos) (tCB r t) (eCB o f) := ⟨pe_callTy hc hg hm hv l.pa hn hdb he hpl, lk_cb hr l.lk⟩
end
section
variable {K : KW}
/-- one argument, two -/
def un1 (o : D → Option Hd) : List D → Option Hd
  | [d] => o d
  | _ => none
def un2 (o : D → D → Option Hd) : List D → Option Hd
  | [d, e] => o d e
  | _ => none
theorem CalL.one {r : List V → Hp → VK → Prop} {o : D → Option Hd} (k : ∀ ρ σ B H x d h Q, Sim K ρ σ B H → Tp K B H x d → o d = some h →
    (∀ v B' H', Sim K ρ σ B' H' → Ext ρ σ B H ρ σ B' H' → HdOk K (New ρ σ H) ρ σ B' H' v h → Q v H') → r [x] H Q) : CalL K r (un1 o) := fun ρ σ B H xs ds h Q S y e q => by
  cases y with
  | nil => cases e
  | cons t u =>
    cases u with
    | nil => exact k ρ σ B H _ _ h Q S t e q
    | cons _ _ => cases e
theorem CalL.two {r : List V → Hp → VK → Prop} {o : D → D → Option Hd} (k : ∀ ρ σ B H x y d d' h Q, Sim K ρ σ B H → Tp K B H x d → Tp K B H y d' → o d d' = some h →
    (∀ v B' H', Sim K ρ σ B' H' → Ext ρ σ B H ρ σ B' H' → HdOk K (New ρ σ H) ρ σ B' H' v h → Q v H') → r [x, y] H Q) : CalL K r (un2 o) := fun ρ σ B H xs ds h Q S y e q => by
  cases y with
  | nil => cases e
  | cons t u =>
    cases u with
    | nil => cases e
    | cons u w =>
      cases w with
      | nil => exact k ρ σ B H _ _ _ _ h Q S t u e q
      | cons _ _ => cases e
def lenD : D → Option Hd
  | .list ds => some (.sh (.int ds.length))
  | .tuple ds => some (.sh (.int ds.length))
  | .str z => if z.length ≤ sizeLine then some (.sh (.int z.length)) else none
  | _ => none
def rLen (K : PySem.W.Frag) : List V → Hp → VK → Prop := fun xs H Q => ∃ x n, xs = [x] ∧ LenV K x H n ∧ Q (.int n) H
theorem cl_len : CalL K (rLen K) (un1 lenD) := CalL.one fun ρ σ B H x d h Q S t e k => by
  cases d with
  | list ds =>
    cases e
    obtain ⟨a, vs, rfl, ha, ra⟩ := t
    refine ⟨_, vs.length, rfl, .inl ⟨vs, ha, rfl⟩, ?_⟩
    rw [ra.length]
    exact now S (.int _) k
  | tuple ds =>
    cases e
    obtain ⟨a, vs, rfl, ha, ra⟩ := Tp.tup t
    refine ⟨_, vs.length, rfl, .inr ⟨vs, same_t S.bh ha, rfl⟩, ?_⟩
    rw [ra.length]
    exact now S (.int _) k
  | str z =>
    obtain ⟨c, rfl⟩ := if_some e
    rw [Tp.str t]
    exact ⟨_, z.length, rfl, ⟨c, rfl⟩, now S (.int _) k⟩
  | _ => cases e
def listD : D → Option Hd
  | .list ds => some (.fr (.list ds))
  | .tuple ds => some (.fr (.list ds))
  | _ => none
def rListA (K : PySem.W.Frag) : List V → Hp → VK → Prop := fun xs H Q => ∃ p ys, xs = [.ref p] ∧ (SqL K H p ys ∨ SqT K H p ys) ∧ ∀ l, H l = none → Q (.ref l) (upd H l (.lst ys))
theorem cl_list : CalL K (rListA K) (un1 listD) := CalL.one fun ρ σ B H x d h Q S t e k => by
  cases d with
  | list ds =>
    cases e
    obtain ⟨a, vs, rfl, ha, ra⟩ := t
    exact ⟨a, vs, rfl, .inl ha, newL S ra k⟩
  | tuple ds =>
    cases e
    obtain ⟨a, vs, rfl, ha, ra⟩ := Tp.tup t
    exact ⟨a, vs, rfl, .inr (same_t S.bh ha), newL S ra k⟩
  | _ => cases e
def tupleD : D → Option Hd
  | .list ds => some (.sh (.tuple ds))
  | .tuple ds => some (.sh (.tuple ds))
  | _ => none
abbrev rTupleA := rTupX
theorem cl_tuple : CalL K (rTupleA K) (un1 tupleD) := CalL.one fun ρ σ B H x d h Q S t e k => by
  cases d with
  | list ds =>
    cases e
    obtain ⟨a, vs, rfl, ha, ra⟩ := t
    exact ⟨a, vs, rfl, .inl ⟨ha, newT S ra k⟩⟩
  | tuple ds =>
    cases e
    obtain ⟨a, vs, rfl, ha, ra⟩ := Tp.tupX t
    exact ⟨a, vs, rfl, .inr ⟨(same_x S.bh ha).sq, now S (.tup ha ra) k⟩⟩
  | _ => cases e
def maxD : D → D → Option Hd
  | .int i, .int j => some (.sh (.int (if j > i then j else i)))
  | _, _ => none
theorem cl_max2 : CalL K (fun xs H Q => ∃ i j, xs = [.int i, .int j] ∧ Q (.int (if j > i then j else i)) H) (un2 maxD) := CalL.two fun ρ σ B H x y d d' h Q S t u e k => by
  cases d <;> cases d' <;> first | (cases (show none = some h from e); done) | skip
  cases e
  rw [Tp.int t, Tp.int u]
  exact ⟨_, _, rfl, now S (.int _) k⟩
def strD : D → Option Hd
  | .int i => if i.natAbs.log2 < 1920 then some (.sh (.str (toString i))) else none
  | _ => none
/-- isinstance of a built-in type -/
def tyOf : D → String
  | .none => "NoneType"
  | .bool _ => "bool"
  | .int _ => "int"
  | .str _ => "str"
  | .list _ => "list"
  | .tuple _ => "tuple"
  | .dict ps => if xnB ps then "Exception" else "dict"
def isXn : D → Bool | .dict ps => xnB ps | _ => false
theorem tyX {B H : Hp} (s : Same B H) {v : V} {d : D} (h : Tp K B H v d) (hx : isXn d = false) : TyX K H v (.type (tyOf d)) ∨ ∃ a w ep xs, v = .ref a ∧ H a = some (dX w a ep xs) ∧ tyOf d = "dict" := by
  cases d with
  | none => rw [h.non]; exact .inl (.base .non)
  | bool b => rw [h.bl]; exact .inl (.base (.bl b))
  | int i => rw [h.int]; exact .inl (.base (.int i))
  | str z => rw [h.str]; exact .inl (.base (.str z))
  | list ds =>
    obtain ⟨a, vs, rfl, ha, _⟩ := h
    rcases ha with (ha | ⟨o, ha⟩) | ⟨o, its, n, e, c, _⟩
    · exact .inl (.base (.lst ha))
    · exact .inl (.base (.frz ha))
    · exact .inl (.kList e c)
  | tuple ds =>
    obtain ⟨a, vs, rfl, ha, _⟩ := h.tup
    rcases same_t s ha with (ha | ⟨o, ha⟩) | ⟨o, its, n, e, c, _⟩
    · exact .inl (.base (.tup ha))
    · exact .inl (.fTuple ha)
    · exact .inl (.kTuple e c)
  | dict ps =>
    have hx : xnB ps = false := hx
    have et : tyOf (.dict ps) = "dict" := by show (if xnB ps then "Exception" else "dict") = _; rw [hx]; rfl
    rcases h with ⟨a, ep, b, xs, rfl, ha, _⟩ | ⟨z, _⟩
    · exact .inr ⟨a, K.w, ep, xs, rfl, ha, et⟩
    · rw [hx] at z; cases z
end
theorem xcB_ok {K : PySem.W.Frag} {cls : Value} (h : xcB K cls = true) : ∃ D, cls = .ref D ∧ (PySem.W.clsIn K D).isSome = true ∧ PySem.W.findIn K (.ref D) "__getattribute__" = some (some (.builtin "BaseException.__getattribute__")) ∧ PySem.W.findIn K (.ref D) "__getattr__" = some none ∧
    PySem.W.subIn K (.ref D) (.type "BaseException") = some true ∧ PySem.W.hasDictIn K D = true ∧ PySem.W.findIn K (.ref D) "__class__" = some (some (.builtin "object.__class__")) ∧ PySem.W.specialIn K (.builtin "object.__class__") "__get__" = some (some (.builtin "getset_descriptor.__get__")) ∧
    PySem.W.takesIn K (.builtin "object.__class__") = some true ∧ PySem.W.mroIn K D (.type "object") = some true ∧ ∀ T ∈ ["tuple", "str", "bool", "int", "list", "dict"], PySem.W.kitOne K (.ref D) (.type T) = some false := by
  unfold xcB at h
  split at h
  · rename_i D
    simp only [Bool.and_eq_true, decide_eq_true_eq] at h
    obtain ⟨h1, h2, h3, h4, h5, h6, h7, h8, h9, h10⟩ := h
    exact ⟨D, rfl, h1, h2, h3, h4, h5, h6, h7, h8, h9, fun T hT => of_decide_eq_true (List.all_eq_true.mp h10 T hT)⟩
  · cases h
theorem exV_at {P : Program} {w : World} {H : Hp} {h : Heap} {a : Addr} {cls : Value} {d : Option Addr} (hok : HOk P w H h) (e : H a = some (exV a cls d)) : ∃ (oe : Obj) (vs : Array Value), h.get? a = some oe ∧ Zc cls d oe ∧ oe.data = .fields vs := by
  have x : ObjOk P w H h a (.ext fun h => ∃ (oe : Obj) (vs : Array Value), h.get? a = some oe ∧ Zc cls d oe ∧ oe.data = .fields vs) := hok a _ e
  exact x.1
theorem exV_inst {X : Cx} {pins : List (Addr × Obj)} {σ : St} {H : Hp} {s : Shared} {a D : Addr} {d : Option Addr} {fs : List (Str × V)} (I : Inv X pins σ H s) (e : H a = some (exV a (.ref D) d)) (x : XdB H d fs) :
    ∃ (oe : Obj) (od : Option Obj), PySem.W.InstAt s.heap a oe D od := by
  obtain ⟨oe, vs, ha, hz, hd⟩ := exV_at I.hok e
  rcases x with ⟨rfl, _⟩ | ⟨dd, rfl, ed⟩
  · exact ⟨oe, none, ha, hz.1, by unfold PySem.W.notCls; rw [hd] <;> rfl, by rw [hz.2]; trivial⟩
  · have hx : ObjOk X.prog X.w H s.heap dd (.xd fs) := I.hok dd _ ed
    obtain ⟨mA, hns, hr⟩ := hx
    obtain ⟨od, ho, hl⟩ := lookIn_ns hns
    exact ⟨oe, some od, ha, hz.1, by unfold PySem.W.notCls; rw [hd] <;> rfl, by rw [hz.2]; exact ho⟩
def rIsX (K : PySem.W.Frag) : List V → Hp → VK → Prop := fun xs H Q => ∃ (a : Addr) (c : V) (D : Addr) (d : Option Addr) (fs : List (Str × V)) (u : Value) (b : Bool), xs = [.ref a, c] ∧ ClsV c u ∧ H a = some (exV a (.ref D) d) ∧ XdB H d fs ∧ xcB K (.ref D) = true ∧ PySem.W.kitOne K (.ref D) u = some b ∧ Q (.bl b) H
theorem call_isX {X : Cx} : CallR X (.builtin "isinstance") (rIsX X.K) := by
  intro pins s σ H xs us Q I r h
  obtain ⟨a, c, D, d, fs, u, b, rfl, k, ea, xd, xb, e, q⟩ := h
  obtain ⟨u1, u2, rfl, r1, r2⟩ := vals2 r
  have e2 := k.eq r2
  subst e2
  obtain rfl : u1 = Value.ref a := r1
  obtain ⟨oe, od, J⟩ := exV_inst I ea xd
  obtain ⟨D', eD, h1, h2, h3, h4, h5, h6, h7, h8, h9, _⟩ := xcB_ok xb
  cases eD
  exact PySem.W.kia_one (PySem.W.kitx_exc h1 h2 h3 h4 h6 h7 h8 h9) I.kIn J e (fun z => nomatch z) fun tk => ⟨.bl b, H, I.tok tk, rfl, q⟩
/-- of a dict whose keys are tuples -/
def rIsD (K : PySem.W.Frag) : List V → Hp → VK → Prop := fun xs H Q => ∃ (a : Addr) (c : V) (w : World) (ep : Nat) (es : List (NestedKey × Value × Value)) (u : Value) (b : Bool), xs = [.ref a, c] ∧ ClsV c u ∧ H a = some (dX w a ep es) ∧ PySem.W.kitOne K (.type "dict") u = some b ∧ Q (.bl b) H
theorem call_isD {X : Cx} : CallR X (.builtin "isinstance") (rIsD X.K) := by
  rintro pins s σ H xs us Q I r ⟨a, c, w, ep, es, u, b, rfl, k, ea, e, q⟩
  obtain ⟨u1, u2, rfl, r1, r2⟩ := vals2 r
  obtain rfl := k.eq r2
  obtain rfl : u1 = Value.ref a := r1
  obtain ⟨⟨o, _, h1, h2, _⟩, _⟩ := I.hok a _ ea
  exact PySem.W.kia_one PySem.W.kitx_dict I.kIn ⟨o, h1, h2.1⟩ e (fun z => nomatch z) fun tk => ⟨.bl b, H, I.tok tk, rfl, q⟩
def rIsiA (K : PySem.W.Frag) : List V → Hp → VK → Prop := fun xs H Q => rIsi K xs H Q ∨ (rIsX K xs H Q ∨ rIsD K xs H Q)
theorem call_isiA {X : Cx} : CallR X (.builtin "isinstance") (rIsiA X.K) := by
  intro pins s σ H xs us Q I r h
  rcases h with h | h | h
  · exact call_isi pins s σ H xs us Q I r h
  · exact call_isX pins s σ H xs us Q I r h
  · exact call_isD pins s σ H xs us Q I r h
/-- what is kept of an exception's datum -/
theorem Tp.xn {K : KW} {B H : Hp} {v : V} {d : D} (s : Same B H) (h : Tp K B H v d) (hx : isXn d = true) : ∃ (a : Addr) (c : Str) (dd : Option Addr) (fs : List (Str × V)) (ds : List D), v = .ref a ∧ d = xnD c (fs.map (·.1)) ds ∧ H a = some (exV a (cvK K c) dd) ∧ xcB K (cvK K c) = true ∧ XdB H dd fs ∧ RpL K B (fs.map (·.2)) ds := by
  cases d with
  | dict ps =>
    have hx : xnB ps = true := hx
    have no : ∀ {b xs}, RpX K B b xs ps → False := fun r => by
      cases r with
      | nil => cases hx
      | @cons _ _ _ _ _ _ _ kd _ _ h1 _ _ _ _ _ _ =>
        cases kd <;> first | (cases hx; done) | cases h1
    rcases h with ⟨_, _, _, _, _, _, r⟩ | ⟨_, h⟩
    · exact (no r).elim
    · cases h with
      | dct _ r => exact (no r).elim
      | exn h1 h2 h3 h4 => exact ⟨_, _, _, _, _, rfl, rfl, s _ _ h1, h2, h3.mono s, h4⟩
  | _ => cases hx
section
variable {X : Cx} {C : Ct} {e : Expr} {te : TE} {fe : EF} {pos : Pos}
def eIsi (p : D → Bool) (f : EF) : EF := fun ρ => bindE (eSet f ρ) fun h ρ1 => match getH ρ1 h with
  | some d => .ok (.sh (.bool (p d))) ρ1
  | none => .stuck
theorem lk_isi {T : String} {p : D → Bool} (hp : ∀ d, kitB (tyOf d) T = some (p d)) (hT : T ∈ ["tuple", "str", "bool", "int", "list", "dict"]) (hTx : kitB "Exception" T = some false) (l : LkE C te fe) : LkE C (tCB (rIsiA C.K) (tCons te (tCons (tC (.ty T)) tNil))) (eIsi p fe) := fun ρ σ B H Q S g => by
  refine l.setBind S g fun hd ρ1 x B1 H1 S1 e1 y1 g1 => ?_
  split at g1
  · rename_i d ed
    cases hx : isXn d with
    | false =>
      rcases tyX S1.bh (S1.tp y1 ed) hx with ty | ⟨a, w, ep, es, rfl, ha, et⟩
      · refine .inl ⟨x, .ty T, _, _, _, rfl,   .ty T, ty, kit_ty (hp d), ?_⟩
        exact g1 _ B1 H1 S1 Ext.refl (.bl _)
      · refine .inr (.inr ⟨a, .ty T, w, ep, es, _, _, rfl, .ty T, ha, kit_ty (by have := hp d; rw [et] at this; exact this), ?_⟩)
        exact g1 _ B1 H1 S1 Ext.refl (.bl _)
    | true =>
      obtain ⟨a, c, dd, fs, ds, rfl, rfl, h1, h2, h3, h4⟩ := (S1.tp y1 ed).xn S1.bh hx
      obtain ⟨D, eD, _, _, _, _, _, _, _, _, _, hk⟩ := xcB_ok h2
      rw [eD] at h1 h2
      refine .inr (.inl ⟨a, .ty T, D, dd, fs, _, _, rfl, .ty T, h1, h3, h2, hk T hT, ?_⟩)
      have e : p (xnD c (fs.map (·.1)) ds) = false := by
        have z := hp (xnD c (fs.map (·.1)) ds)
        rw [show tyOf (xnD c (fs.map (·.1)) ds) = "Exception" from rfl, hTx] at z
        exact (Option.some.inj z).symm
      rw [e] at g1
      exact g1 _ B1 H1 S1 Ext.refl (.bl _)
  · exact g1.elim
theorem se_isi {x : Str} {T : String} {p : D → Bool} {q1 q2 : Pos} (hp : ∀ d, kitB (tyOf d) T = some (p d)) (hm : X.mg "isinstance" = none) (hmT : X.mg x = none) (l : SE X C e te fe) (hvT : bootBuiltins x = some (.type T) := by decide +kernel) (hT : T ∈ ["tuple", "str", "bool", "int", "list", "dict"] := by decide) (hTx : kitB "Exception" T = some false := by decide +kernel) (hk : X.K = C.K := by rfl) (hg : Gl X "isinstance" := by rfl) (hgT : Gl X x := by rfl)
    (hnT : x ≠ "__name__" := by decide) (hdT : (x == ("__debug__" : Str)) = false := by decide)
    (he : starEach (e :: [.Name x q2]) X.env = (false, eval e X.env) :: starEach [.Name x q2] X.env := by rfl) :
    SE X C (.Call (.Name "isinstance" q1) [e, .Name x q2] [] pos) (tCB (rIsiA C.K) (tCons te (tCons (tC (.ty T)) tNil))) (eIsi p fe) :=
  ⟨by rw [← hk]; exact pe_callB call_isiA hg hm (by decide +kernel) (pa_cons l.pe (pa_cons (pe_bltn hgT hmT hvT rfl hnT hdT) pa_nil) he) (by decide) (by decide) he, lk_isi hp hT hTx l.lk⟩
def isTup : D → Bool | .tuple _ => true | _ => false
def isStr : D → Bool | .str _ => true | _ => false
def isBool : D → Bool | .bool _ => true | _ => false
def isInt : D → Bool | .int _ => true | .bool _ => true | _ => false
theorem kit_tup : ∀ d, kitB (tyOf d) "tuple" = some (isTup d)
  | .none => by show kitB "NoneType" "tuple" = some false; decide +kernel
  | .tuple _ => by show kitB "tuple" "tuple" = some true; decide +kernel
  | .bool _ => by show kitB "bool" "tuple" = some false; decide +kernel
  | .int _ => by show kitB "int" "tuple" = some false; decide +kernel
  | .str _ => by show kitB "str" "tuple" = some false; decide +kernel
  | .list _ => by show kitB "list" "tuple" = some false; decide +kernel
  | .dict ps => by
    show kitB (if xnB ps then "Exception" else "dict") "tuple" = some false
    cases xnB ps <;> decide +kernel
theorem kit_str : ∀ d, kitB (tyOf d) "str" = some (isStr d)
  | .none => by show kitB "NoneType" "str" = some false; decide +kernel
  | .tuple _ => by show kitB "tuple" "str" = some false; decide +kernel
  | .bool _ => by show kitB "bool" "str" = some false; decide +kernel
  | .int _ => by show kitB "int" "str" = some false; decide +kernel
  | .str _ => by show kitB "str" "str" = some true; decide +kernel
  | .list _ => by show kitB "list" "str" = some false; decide +kernel
  | .dict ps => by
    show kitB (if xnB ps then "Exception" else "dict") "str" = some false
    cases xnB ps <;> decide +kernel
theorem kit_bool : ∀ d, kitB (tyOf d) "bool" = some (isBool d)
  | .none => by show kitB "NoneType" "bool" = some false; decide +kernel
  | .tuple _ => by show kitB "tuple" "bool" = some false; decide +kernel
  | .bool _ => by show kitB "bool" "bool" = some true; decide +kernel
  | .int _ => by show kitB "int" "bool" = some false; decide +kernel
  | .str _ => by show kitB "str" "bool" = some false; decide +kernel
  | .list _ => by show kitB "list" "bool" = some false; decide +kernel
  | .dict ps => by
    show kitB (if xnB ps then "Exception" else "dict") "bool" = some false
    cases xnB ps <;> decide +kernel
theorem kit_int : ∀ d, kitB (tyOf d) "int" = some (isInt d)
  | .none => by show kitB "NoneType" "int" = some false; decide +kernel
  | .tuple _ => by show kitB "tuple" "int" = some false; decide +kernel
  | .bool _ => by show kitB "bool" "int" = some true; decide +kernel
  | .int _ => by show kitB "int" "int" = some true; decide +kernel
  | .str _ => by show kitB "str" "int" = some false; decide +kernel
  | .list _ => by show kitB "list" "int" = some false; decide +kernel
  | .dict ps => by
    show kitB (if xnB ps then "Exception" else "dict") "int" = some false
    cases xnB ps <;> decide +kernel
end
end GS
namespace GS
open PySem L2
/-- what a def does: of its parameters' cells what comes back, and the lent cell behind -/
abbrev FF := Rho → RE
def spF (K : KW) (cv : Str → Value) (n : Nat) (F : FF) : Sp := fun vs H Q E => ∃ ρ B, ρ.length = n ∧ Sim K ρ (vs.map some) B H ∧
  GoodE ⟨K, cv, fun cls d _ H' => E cls d H'⟩ ρ (vs.map some) B H Q (F ρ)
def argC (ρ : Rho) (io : Bool) : Hd → Option Cel
  | .sh d => if io then none else some ⟨d, .sh⟩
  | .bw i => if io then (match slot ρ i with
    | some ⟨d, .ow⟩ => some ⟨d, .io⟩
    | some ⟨d, .io⟩ => some ⟨d, .io⟩
    | _ => none) else none
  | .fr _ => none
/-- the callee's cells; io: the place of the lent argument -/
def args (ρ : Rho) (io : Option Nat) : Nat → List Hd → Option Rho
  | _, [] => some []
  | k, h :: hs => match argC ρ (decide (io = some k)) h, args ρ io (k + 1) hs with
    | some c, some r => some (some c :: r)
    | _, _ => none
def putB (ρ : Rho) (io : Option Nat) (hs : List Hd) (outs : Rho) : Option Rho := match io with
  | none => some ρ
  | some j => match hs[j]? with
    | some (.bw i) => match slot ρ i, slot outs j with
      | some c, some c' => some (ρ.set i (some ⟨c'.d, c.fl⟩))
      | _, _ => none
    | _ => none
def eCall (n : Nat) (io : Option Nat) (F : FF) (fs : AF) : EF := fun ρ => bindA (fs ρ) fun hs ρ1 => match args ρ1 io 0 hs with
  | none => .stuck
  | some ρ0 => if ρ0.length ≠ n then .stuck else match F ρ0 with
    | .stuck => .stuck
    | .ok h outs => match h, putB ρ1 io hs outs with
      | .bw _, _ => .stuck
      | _, none => .stuck
      | _, some ρ2 => .ok h ρ2
    | .exc x outs => match putB ρ1 io hs outs with
      | none => .stuck
      | some ρ2 => .exc x ρ2
theorem argC_sh {ρ : Rho} {b : Bool} {d : D} {c : Cel} (h : argC ρ b (.sh d) = some c) : b = false ∧ c = ⟨d, .sh⟩ := by
  cases b
  · cases h; exact ⟨rfl, rfl⟩
  · cases h
theorem argC_bw {ρ : Rho} {b : Bool} {i : Nat} {c : Cel} (h : argC ρ b (.bw i) = some c) : b = true ∧ ∃ d fl, ρ[i]? = some (some ⟨d, fl⟩) ∧ fl ≠ .sh ∧ c = ⟨d, .io⟩ := by
  cases b
  · cases h
  · refine ⟨rfl, ?_⟩
    replace h : (match slot ρ i with | some ⟨d, .ow⟩ => some ⟨d, .io⟩ | some ⟨d, .io⟩ => some ⟨d, .io⟩ | _ => none) = some c := h
    split at h
    · rename_i d es
      cases h
      exact ⟨d, .ow, slot_some es, by simp, rfl⟩
    · rename_i d es
      cases h
      exact ⟨d, .io, slot_some es, by simp, rfl⟩
    · cases h
theorem args_at {ρ : Rho} {io : Option Nat} : ∀ {k : Nat} {hs : List Hd} {r : Rho}, args ρ io k hs = some r → r.length = hs.length ∧ ∀ (j : Nat) (c : Cel), r[j]? = some (some c) → ∃ h, hs[j]? = some h ∧ argC ρ (decide (io = some (k + j))) h = some c
  | _, [], _, e => by cases e; exact ⟨rfl, fun j c h => by simp at h⟩
  | k, h :: hs, r, e => by
    unfold args at e
    split at e
    · rename_i c r' e1 e2
      cases e
      obtain ⟨l, q⟩ := args_at e2
      refine ⟨by rw [List.length_cons, List.length_cons, l], fun j c' hj => ?_⟩
      cases j with
      | zero => simp at hj; subst hj; exact ⟨h, rfl, e1⟩
      | succ j =>
        obtain ⟨h', q1, q2⟩ := q j c' (by simpa using hj)
        exact ⟨h', by simpa using q1, by rw [show k + (j + 1) = k + 1 + j by omega]; exact q2⟩
    · cases e
theorem args_has {ρ : Rho} {io : Option Nat} : ∀ {k : Nat} {hs : List Hd} {r : Rho} {j : Nat} {h : Hd}, args ρ io k hs = some r → hs[j]? = some h → ∃ c, r[j]? = some (some c)
  | _, [], _, _, _, _, h => by simp at h
  | k, h :: hs, r, j, h', e, hj => by
    unfold args at e
    split at e
    · rename_i c r' e1 e2
      cases e
      cases j with
      | zero => exact ⟨c, rfl⟩
      | succ j =>
        obtain ⟨c', q⟩ := args_has (j := j) e2 (by simpa using hj)
        exact ⟨c', by simpa using q⟩
    · cases e
theorem HdL.get {K : KW} {σ : St} {B : Hp} : ∀ {vs : List V} {hs : List Hd} {j : Nat} {h : Hd}, HdL K σ B vs hs → hs[j]? = some h → ∃ v, vs[j]? = some v ∧ HsOk K σ B v h
  | _, _, _, _, .nil, e => by simp at e
  | _, _, 0, _, .cons h _, e => by simp at e; subst e; exact ⟨_, rfl, h⟩
  | _, _, j + 1, h, .cons _ t, e => by
    obtain ⟨v, q1, q2⟩ := HdL.get (j := j) (h := h) t (by simpa using e)
    exact ⟨v, by simpa using q1, q2⟩
section
variable {K : KW} {ρ ρ0 ρ0' ρ2 : Rho} {σ : St} {B H B' H' : Hp} {io : Option Nat} {hs : List Hd} {vs : List V}
/-- the callee's cell j that is lent is the caller's slot i -/
theorem args_own (e : args ρ io 0 hs = some ρ0) {j : Nat} {c : Cel} (hc : ρ0[j]? = some (some c)) (nf : c.fl ≠ .sh) : io = some j ∧ ∃ i d fl, hs[j]? = some (.bw i) ∧ ρ[i]? = some (some ⟨d, fl⟩) ∧ fl ≠ .sh ∧ c = ⟨d, .io⟩ := by
  obtain ⟨_, q⟩ := args_at e
  obtain ⟨h, h1, h2⟩ := q j c hc
  rw [Nat.zero_add] at h2
  cases h with
  | sh d =>
    obtain ⟨_, rfl⟩ := argC_sh h2
    exact absurd rfl nf
  | fr d => cases h2
  | bw i =>
    obtain ⟨b, d, fl, q1, q2, q3⟩ := argC_bw h2
    exact ⟨of_decide_eq_true b, i, d, fl, h1, q1, q2, q3⟩
theorem args_sim (S : Sim K ρ σ B H) (y : HdL K σ B vs hs) (e : args ρ io 0 hs = some ρ0) : Sim K ρ0 (vs.map some) B H := by
  obtain ⟨l, q⟩ := args_at e
  refine ⟨S.bh, by rw [l, List.length_map, y.length], fun j c hj => ?_, fun i j ci cj a hi hj ni nj _ _ => ?_⟩
  · obtain ⟨h, h1, h2⟩ := q j c hj
    obtain ⟨v, hv, ok⟩ := y.get h1
    refine ⟨v, by rw [List.getElem?_map, hv]; rfl, ?_⟩
    by_cases nf : c.fl = .sh
    · refine .inl ⟨nf, ?_⟩
      cases h with
      | sh d =>
        obtain ⟨_, rfl⟩ := argC_sh h2
        exact ok
      | fr d => cases h2
      | bw i =>
        obtain ⟨_, d, fl, _, _, rfl⟩ := argC_bw h2
        cases nf
    · obtain ⟨_, i, d, fl, h3, h4, h5, rfl⟩ := args_own e hj nf
      rw [h1] at h3
      cases h3
      obtain ⟨v', e1, cok⟩ := S.sl i _ h4
      have ok' : σ[i]? = some (some v) := ok
      rw [ok'] at e1
      cases e1
      rcases cok with ⟨z, _⟩ | ⟨_, z⟩
      · exact absurd z h5
      · exact .inr ⟨by simp, z⟩
  · obtain ⟨e1, _⟩ := args_own e hi ni
    obtain ⟨e2, _⟩ := args_own e hj nj
    rw [e1] at e2
    cases e2
    rfl
theorem args_ownA (y : HdL K σ B vs hs) (e : args ρ io 0 hs = some ρ0) {a : Addr} (h : OwnA ρ0 (vs.map some) a) : OwnA ρ σ a := by
  obtain ⟨j, c, h1, h2, h3⟩ := h
  obtain ⟨_, i, d, fl, q1, q2, q3, _⟩ := args_own e h1 h2
  obtain ⟨v, hv, ok⟩ := y.get q1
  rw [List.getElem?_map, hv] at h3
  cases h3
  exact ⟨i, _, q2, q3, ok⟩
/-- behind the call -/
theorem back_sim (S : Sim K ρ σ B H) (y : HdL K σ B vs hs) (e : args ρ io 0 hs = some ρ0) (S' : Sim K ρ0' (vs.map some) B' H') (x : Ext ρ0 (vs.map some) B H ρ0' (vs.map some) B' H') (p : putB ρ io hs ρ0' = some ρ2) :
    Sim K ρ2 σ B' H' ∧ Ext ρ σ B H ρ2 σ B' H' ∧ (∀ a, New ρ0 (vs.map some) H a → New ρ σ H a) ∧ ∀ a, ¬ OwnA ρ0' (vs.map some) a → New ρ0 (vs.map some) H a → ¬ OwnA ρ2 σ a := by
  -- a slot of the caller that is not lent
  have sub0 : ∀ a, OwnA ρ0 (vs.map some) a → OwnA ρ σ a := fun a h => args_ownA y e h
  have newN : ∀ a, New ρ0 (vs.map some) H a → New ρ σ H a := fun a h => h.elim .inl fun h => .inr (sub0 a h)
  -- what ρ2 is
  have key : (∀ (k : Nat) (c : Cel), ρ2[k]? = some (some c) → (ρ[k]? = some (some c) ∧ ∀ j, io = some j → hs[j]? ≠ some (.bw k)) ∨ ∃ j c0 c', io = some j ∧ hs[j]? = some (.bw k) ∧ ρ[k]? = some (some c0) ∧ ρ0'[j]? = some (some c') ∧ c = ⟨c'.d, c0.fl⟩) ∧
      ρ2.length = ρ.length ∧ (∀ (k : Nat) (c : Cel), ρ[k]? = some (some c) → ∃ c2, ρ2[k]? = some (some c2) ∧ c2.fl = c.fl) := by
    unfold putB at p
    split at p
    · cases p
      exact ⟨fun k c h => .inl ⟨h, fun j z => nomatch z⟩, rfl, fun k c h => ⟨c, h, rfl⟩⟩
    · rename_i j
      split at p
      · rename_i i hi
        split at p
        · rename_i c0 c' e1 e2
          cases p
          have e1 := slot_some e1
          have e2 := slot_some e2
          refine ⟨fun k c h => ?_, by rw [List.length_set], fun k c h => ?_⟩
          · rcases set_get h with ⟨rfl, ec⟩ | ⟨ne, h⟩
            · cases ec
              exact .inr ⟨j, c0, c', rfl, hi, e1, e2, rfl⟩
            · refine .inl ⟨h, fun j' z w => ?_⟩
              cases z
              rw [hi] at w
              cases w
              exact ne rfl
          · by_cases hk : i = k
            · subst hk
              rw [e1] at h
              cases h
              exact ⟨_, set_at (lt_of e1), rfl⟩
            · exact ⟨c, by rw [set_other hk]; exact h, rfl⟩
        · cases p
      · cases p
  obtain ⟨k1, k2, k3⟩ := key
  -- an owned slot that is not lent keeps its object
  have keep : ∀ (k : Nat) (c : Cel) (a : Addr), ρ[k]? = some (some c) → c.fl ≠ .sh → σ[k]? = some (some (.ref a)) → (∀ j, io = some j → hs[j]? ≠ some (.bw k)) → ¬ OwnA ρ0 (vs.map some) a := fun k c a hk hf hs' hn ho => by
    obtain ⟨j, c0, h1, h2, h3⟩ := ho
    obtain ⟨q0, i, d, fl, q1, q2, q3, _⟩ := args_own e h1 h2
    obtain ⟨v, hv, ok⟩ := y.get q1
    rw [List.getElem?_map, hv] at h3
    cases h3
    have := S.dj i k _ c a q2 hk q3 hf ok hs'
    subst this
    exact hn j q0 q1
  have ownBack : ∀ a, OwnA ρ2 σ a → OwnA ρ σ a := fun a ⟨k, c, h1, h2, h3⟩ => by
    rcases k1 k c h1 with ⟨h, _⟩ | ⟨j, c0, c', _, _, h, _, rfl⟩
    · exact ⟨k, c, h, h2, h3⟩
    · exact ⟨k, c0, h, h2, h3⟩
  refine ⟨⟨S'.bh, by rw [k2]; exact S.len, fun k c hk => ?_, fun i j ci cj a hi hj ni nj ei ej => ?_⟩, ⟨x.bb, fun a o h => (x.nw a o h).imp id (newN a), fun a o h n => x.kp a o h fun z => n (sub0 a z), fun a h => .inr (ownBack a h), fun k c hk hf => ?_, fun k c hk hf => ?_⟩, newN, fun a n1 n2 ho => ?_⟩
  · rcases k1 k c hk with ⟨h, hn⟩ | ⟨j, c0, c', hj, q1, h, q2, rfl⟩
    · obtain ⟨v, ev, ok⟩ := S.sl k c h
      refine ⟨v, ev, ok.mono x.bb fun a hv hb ho hf => ?_⟩
      subst hv
      obtain ⟨o, eo⟩ := ho
      obtain ⟨r1, r2, _⟩ := x.keepN eo hb (keep k c a h hf ev hn)
      exact ⟨r2, by rw [r1, eo]⟩
    · obtain ⟨v, ev, ok⟩ := y.get q1
      have ok' : σ[k]? = some (some v) := ok
      refine ⟨v, ok', ?_⟩
      -- the lent cell is lent at the start, so it is behind
      obtain ⟨cs, hcs⟩ := args_has e q1
      by_cases hsh : cs.fl = .sh
      · exfalso
        obtain ⟨_, qq⟩ := args_at e
        obtain ⟨h', w1, w2⟩ := qq j cs hcs
        rw [q1] at w1
        cases w1
        obtain ⟨_, d, fl, _, _, rfl⟩ := argC_bw w2
        cases hsh
      · obtain ⟨_, i, d, fl, r1, r2, r3, rfl⟩ := args_own e hcs hsh
        rw [q1] at r1
        cases r1
        rw [h] at r2
        cases r2
        obtain ⟨_, c2, w1, w2⟩ := x.io j _ hcs rfl
        rw [q2] at w1
        cases w1
        obtain ⟨v', e1, cok⟩ := S'.sl j c' q2
        rw [List.getElem?_map, ev] at e1
        cases e1
        rcases cok with ⟨z, _⟩ | ⟨_, z⟩
        · rw [w2] at z; cases z
        · exact .inr ⟨r3, z⟩
  · have f1 : ∃ c1, ρ[i]? = some (some c1) ∧ c1.fl ≠ .sh := by
      rcases k1 i ci hi with ⟨h, _⟩ | ⟨_, c0, _, _, _, h, _, rfl⟩
      · exact ⟨ci, h, ni⟩
      · exact ⟨c0, h, ni⟩
    have f2 : ∃ c1, ρ[j]? = some (some c1) ∧ c1.fl ≠ .sh := by
      rcases k1 j cj hj with ⟨h, _⟩ | ⟨_, c0, _, _, _, h, _, rfl⟩
      · exact ⟨cj, h, nj⟩
      · exact ⟨c0, h, nj⟩
    obtain ⟨c1, a1, a2⟩ := f1
    obtain ⟨c2, b1, b2⟩ := f2
    exact S.dj i j c1 c2 a a1 b1 a2 b2 ei ej
  · obtain ⟨c2, h1, h2⟩ := k3 k c hk
    exact ⟨rfl, c2, h1, by rw [h2, hf]⟩
  · rcases k1 k c hk with ⟨h, _⟩ | ⟨_, c0, _, _, _, h, _, rfl⟩
    · exact ⟨c, h, hf⟩
    · exact ⟨c0, h, hf⟩
  · obtain ⟨k, c, h1, h2, h3⟩ := ho
    rcases k1 k c h1 with ⟨h, hn⟩ | ⟨j, c0, c', hj, q1, h, q2, rfl⟩
    · have n0 := keep k c a h h2 h3 hn
      have := S.ownH ⟨k, c, h, h2, h3⟩
      obtain ⟨_, o, eo⟩ := this
      rcases n2 with z | z
      · rw [eo] at z; cases z
      · exact n0 z
    · obtain ⟨v, ev, ok⟩ := y.get q1
      have ok' : σ[k]? = some (some v) := ok
      rw [h3] at ok'
      cases ok'
      obtain ⟨cs, hcs⟩ := args_has e q1
      by_cases hsh : cs.fl = .sh
      · obtain ⟨_, qq⟩ := args_at e
        obtain ⟨h', w1, w2⟩ := qq j cs hcs
        rw [q1] at w1
        cases w1
        obtain ⟨_, d, fl, _, _, rfl⟩ := argC_bw w2
        cases hsh
      · obtain ⟨_, i, d, fl, r1, r2, r3, rfl⟩ := args_own e hcs hsh
        obtain ⟨_, c2, w1, w2⟩ := x.io j _ hcs rfl
        rw [q2] at w1
        cases w1
        exact n1 ⟨j, c', q2, by rw [w2]; simp, by rw [List.getElem?_map, ev]; rfl⟩
end
section
variable {X : Cx} {C : Ct} {e : Expr} {es : List Expr} {pos p : Pos} {x : Str} {k n : Nat} {f : Addr} {fd : FuncData} {ps : List Str} {io : Option Nat} {F : FF} {t : TA} {g : AF}
theorem lk_call (l : LkA C t g) : LkE C (tCallS (spF C.K C.cv n F) (WE C.W) t) (eCall n io F g) := fun ρ σ B H Q S gd => by
  refine l.bind S gd fun hs ρ1 vs B1 H1 S1 x1 y1 g1 => ?_
  split at g1
  · exact g1.elim
  · rename_i ρ0 ea
    split at g1
    · exact g1.elim
    · rename_i hl
      have hl : ρ0.length = n := Classical.not_not.mp hl
      refine ⟨ρ0, B1, hl, args_sim S1 y1 ea, ?_⟩
      cases ef : F ρ0 with
      | stuck => rw [ef] at g1; exact g1
      | exc c outs =>
        rw [ef] at g1
        dsimp only at g1
        split at g1
        · exact g1.elim
        · rename_i ρ2 ep
          intro cls dct B2 H2 S2 x2 ok
          obtain ⟨S3, x3, _, _⟩ := back_sim S1 y1 ea S2 x2 ep
          exact g1 cls dct B2 H2 S3 x3 ok
      | ok h outs =>
        rw [ef] at g1
        dsimp only at g1
        intro v B2 H2 S2 x2 y2
        cases ep : putB ρ1 io hs outs with
        | none => rw [ep] at g1; cases h <;> exact g1.elim
        | some ρ2 =>
          rw [ep] at g1
          obtain ⟨S3, x3, n1, n2⟩ := back_sim S1 y1 ea S2 x2 ep
          cases h with
          | sh d => exact g1 v B2 H2 S3 x3 y2
          | fr d =>
            obtain ⟨a, r1, r2, r3, r4, r5⟩ := y2
            exact g1 v B2 H2 S3 x3 ⟨a, r1, r2, r3, n2 a r4 r5, n1 a r5⟩
          | bw i => exact g1.elim
theorem se_call (FO : FnOk X.prog X.w X.K X.mg X.base (L2.CX X.prog X.w) k f fd ps (spF C.K C.cv n F)) (hr : Room k X.A) (hm : X.mg x = some (.ref f)) (hkp : PySem.W.keepIn X.K (.ref f) = true) (hb : Binds X.K fd ps []) (tk : Takes X C.W)
    (l : SA X C (e :: es) t g) (io : Option Nat) (hg : Gl X x := by rfl) (hdb : (x == ("__debug__" : Str)) = false := by decide) (he : starEach (e :: es) X.env = (false, eval e X.env) :: starEach es X.env := by rfl)
    (hpl : (backTo pos (starEach es X.env)).any (·.1) = false := by rfl) : SE X C (.Call (.Name x p) (e :: es) [] pos) (tCallS (spF C.K C.cv n F) (WE C.W) t) (eCall n io F g) :=
  ⟨pe_callS FO hr hg hm hkp hb (fun σ => passAt tk σ) l.pa hdb he hpl, lk_call l.lk⟩
end
end GS
namespace GS
open PySem L2
def GoodS (C : Ct) (ρ : Rho) (σ : St) (B H : Hp) (D : Ends) : RS → Prop
  | .stuck => False
  | .nx ρ' => ∀ σ' B' H', Sim C.K ρ' σ' B' H' → Ext ρ σ B H ρ' σ' B' H' → D.nx σ' H'
  | .bk ρ' => ∀ σ' B' H', Sim C.K ρ' σ' B' H' → Ext ρ σ B H ρ' σ' B' H' → D.bk σ' H'
  | .ct ρ' => ∀ σ' B' H', Sim C.K ρ' σ' B' H' → Ext ρ σ B H ρ' σ' B' H' → D.ct σ' H'
  | .rt h ρ' => ∀ v σ' B' H', Sim C.K ρ' σ' B' H' → Ext ρ σ B H ρ' σ' B' H' → HdOk C.K (New ρ σ H) ρ' σ' B' H' v h → D.rt v H'
  | .exc x ρ' => ∀ cls dct σ' B' H', Sim C.K ρ' σ' B' H' → Ext ρ σ B H ρ' σ' B' H' → XcOk C B' x cls dct → C.W cls dct σ' H'
def LkS (C : Ct) (t : TS) (g : SF) : Prop := ∀ ρ σ B H D, Sim C.K ρ σ B H → GoodS C ρ σ B H D (g ρ) → t D σ H
structure SS (X : Cx) (C : Ct) (st : Stmt) (t : TS) (g : SF) : Prop where
  ps : PS X st t
  lk : LkS C t g
structure SSs (X : Cx) (C : Ct) (st : List Stmt) (t : TS) (g : SF) : Prop where
  ps : PSs X st t
  lk : LkS C t g
section
variable {X : Cx} {C : Ct} {ρ ρ1 : Rho} {σ σ1 : St} {B H B1 H1 : Hp} {Ed : Ends} {t u : TS} {f g : SF} {st : Stmt} {rest : List Stmt} {pos : Pos}
theorem GoodS.ext (e : Ext ρ σ B H ρ1 σ1 B1 H1) : ∀ {r : RS}, GoodS C ρ σ B H Ed r → GoodS C ρ1 σ1 B1 H1 Ed r
  | .stuck, h => h
  | .nx _, h => fun σ' B' H' s x => h σ' B' H' s (e.trans x)
  | .bk _, h => fun σ' B' H' s x => h σ' B' H' s (e.trans x)
  | .ct _, h => fun σ' B' H' s x => h σ' B' H' s (e.trans x)
  | .rt _ _, h => fun v σ' B' H' s x y => h v σ' B' H' s (e.trans x) (y.mono fun _ z => e.back z)
  | .exc _ _, h => fun c d σ' B' H' s x => h c d σ' B' H' s (e.trans x)
def sNil : SF := fun ρ => .nx ρ
def bindS (r : RS) (k : Rho → RS) : RS := match r with
  | .nx ρ => k ρ
  | r => r
def sSeq (f g : SF) : SF := fun ρ => bindS (f ρ) g
theorem lk_seq (lf : LkS C t f) (lg : LkS C u g) : LkS C (tSeq t u) (sSeq f g) := fun ρ σ B H D S gd => by
  refine lf ρ σ B H _ S ?_
  unfold sSeq bindS at gd
  cases e : f ρ with
  | nx ρ1 =>
    rw [e] at gd
    exact fun σ' B' H' s x => lg ρ1 σ' B' H' D s (GoodS.ext x gd)
  | stuck => rw [e] at gd; exact gd
  | bk _ => rw [e] at gd; exact gd
  | ct _ => rw [e] at gd; exact gd
  | rt _ _ => rw [e] at gd; exact gd
  | exc _ _ => rw [e] at gd; exact gd
theorem sss_nil : SSs X C [] tNext sNil := ⟨pss_nil, fun ρ σ B H D S g => g σ B H S Ext.refl⟩
theorem sss_cons (a : SS X C st t f) (b : SSs X C rest u g) : SSs X C (st :: rest) (tSeq t u) (sSeq f g) := ⟨pss_cons a.ps b.ps, lk_seq a.lk b.lk⟩
theorem sss_one (a : SS X C st t f) : SSs X C [st] t f := ⟨pss_one a.ps, a.lk⟩
def bindES (r : RE) (k : Hd → Rho → RS) : RS := match r with
  | .stuck => .stuck
  | .ok h ρ => k h ρ
  | .exc x ρ => .exc x ρ
theorem LkE.bindS {te : TE} {fe : EF} (l : LkE C te fe) (S : Sim C.K ρ σ B H) {k : Hd → Rho → RS} {Q' : VK} (g : GoodS C ρ σ B H Ed (bindES (fe ρ) k))
    (h : ∀ hd ρ1 v B1 H1, Sim C.K ρ1 σ B1 H1 → Ext ρ σ B H ρ1 σ B1 H1 → HdOk C.K (New ρ σ H) ρ1 σ B1 H1 v hd → GoodS C ρ σ B H Ed (k hd ρ1) → Q' v H1) : te σ H Q' := by
  refine l ρ σ B H Q' S ?_
  cases e : fe ρ with
  | stuck => rw [e] at g; exact g
  | ok hd ρ1 => rw [e] at g; exact fun v B1 H1 s x y => h hd ρ1 v B1 H1 s x y g
  | exc x ρ1 => rw [e] at g; exact fun c d B' H' s x => g c d σ B' H' s x
variable {e : Expr} {te : TE} {fe : EF}
def sRet (fe : EF) : SF := fun ρ => bindES (fe ρ) fun h ρ1 => match h with
  | .bw i => match capH ρ1 (.bw i) with
    | some d => .rt (.sh d) ρ1
    | none => .stuck
  | h => .rt h ρ1
theorem cap_bw (S : Sim C.K ρ σ B H) {i : Nat} {d : D} {v : V} (y : σ[i]? = some (some v)) (e : capH ρ (.bw i) = some d) : Rp C.K B v d := by
  replace e : (match slot ρ i with | some ⟨d, .sh⟩ => some d | _ => none) = some d := e
  split at e
  · rename_i d' e'
    cases e
    obtain ⟨v', q1, q2⟩ := S.sl i _ (slot_some e')
    rw [y] at q1
    cases q1
    rcases q2 with ⟨_, q2⟩ | ⟨q, _⟩
    · exact q2
    · exact absurd rfl q
  · cases e
theorem ss_ret (l : SE X C e te fe) : SS X C (.Return (some e) pos) (tRet te) (sRet fe) := ⟨ps_ret l.pe, fun ρ σ B H D S g => by
  refine l.lk.bindS S g fun hd ρ1 v B1 H1 S1 x1 y1 g1 => ?_
  cases hd with
  | sh d => exact g1 v σ B1 H1 S1 x1 y1
  | fr d => exact g1 v σ B1 H1 S1 x1 y1
  | bw i =>
    dsimp only at g1
    split at g1
    · rename_i d ed
      exact g1 v σ B1 H1 S1 x1 (cap_bw S1 y1 ed)
    · exact g1.elim⟩
def bindBS (r : RE) (k : Bool → Rho → RS) : RS := match r with
  | .ok (.sh (.bool b)) ρ => k b ρ
  | .exc x ρ => .exc x ρ
  | _ => .stuck
theorem LkT.bindS {tt : TT} {ft : EF} (l : LkT C tt ft) (S : Sim C.K ρ σ B H) {k : Bool → Rho → RS} {Q' : Bool → Hp → Prop} (g : GoodS C ρ σ B H Ed (bindBS (ft ρ) k))
    (h : ∀ b ρ1 B1 H1, Sim C.K ρ1 σ B1 H1 → Ext ρ σ B H ρ1 σ B1 H1 → GoodS C ρ1 σ B1 H1 Ed (k b ρ1) → Q' b H1) : tt σ H Q' := by
  refine l ρ σ B H Q' S ?_
  cases e : ft ρ with
  | stuck => rw [e] at g; exact g
  | exc x ρ1 => rw [e] at g; exact fun c d B' H' s x => g c d σ B' H' s x
  | ok hd ρ1 =>
    rw [e] at g
    cases hd with
    | sh d =>
      cases d with
      | bool b => exact fun B1 H1 s x => h b ρ1 B1 H1 s x (GoodS.ext x g)
      | _ => exact g
    | _ => exact g
def sIf (ft : EF) (f g : SF) : SF := fun ρ => bindBS (ft ρ) fun b ρ1 => if b then f ρ1 else g ρ1
theorem ss_if {c : Expr} {a b : List Stmt} {tt : TT} {ft : EF} (l : ST X C c tt ft) (la : SSs X C a t f) (lb : SSs X C b u g) : SS X C (.If c a b pos) (tIfS tt t u) (sIf ft f g) := ⟨ps_if l.pt la.ps lb.ps, fun ρ σ B H D S gd =>
  l.lk.bindS S gd fun b ρ1 B1 H1 S1 x1 g1 => by
    cases b with
    | true => exact la.lk ρ1 σ B1 H1 D S1 g1
    | false => exact lb.lk ρ1 σ B1 H1 D S1 g1⟩
def ioAt (ρ : Rho) (i : Nat) : Bool := match slot ρ i with
  | some ⟨_, .io⟩ => true
  | _ => false
theorem not_io {i : Nat} (h : ioAt ρ i = false) {c : Cel} (e : ρ[i]? = some (some c)) : c.fl ≠ .io := fun z => by
  unfold ioAt slot at h
  rw [e] at h
  obtain ⟨d, fl⟩ := c
  cases z
  cases h
/-- what may be put into slot i of the state behind -/
theorem store_ok {K : KW} (S : Sim K ρ1 σ B1 H1) (x : Ext ρ σ B H ρ1 σ B1 H1) {i : Nat} {c : Cel} {v : V} (hi : i < ρ1.length) (hn : ioAt ρ1 i = false) (hf : c.fl ≠ .io) (ok : COk K B1 H1 c v)
    (hnew : c.fl ≠ .sh → ∀ a, v = .ref a → New ρ σ H a ∧ ∀ j cj, i ≠ j → ρ1[j]? = some (some cj) → cj.fl ≠ .sh → σ[j]? ≠ some (some (.ref a))) :
    Sim K (ρ1.set i (some c)) (σ.set i (some v)) B1 H1 ∧ Ext ρ σ B H (ρ1.set i (some c)) (σ.set i (some v)) B1 H1 := by
  have hl := S.len
  have ats : (σ.set i (some v))[i]? = some (some v) := by rw [List.getElem?_set, if_pos rfl, if_pos (by omega)]
  have oth : ∀ j, i ≠ j → (σ.set i (some v))[j]? = σ[j]? := fun j h => by rw [List.getElem?_set, if_neg h]
  refine ⟨⟨S.bh, by rw [List.length_set, List.length_set]; exact hl, fun j cj hj => ?_, fun j k cj ck a hj hk nj nk ej ek => ?_⟩, ⟨x.bb, x.nw, x.kp, fun a ha => ?_, fun j cj hj hjf => ?_, fun j cj hj hjf => ?_⟩⟩
  · rcases set_get hj with ⟨rfl, ec⟩ | ⟨ne, hj⟩
    · cases ec; exact ⟨v, ats, ok⟩
    · rw [oth j ne]; exact S.sl j cj hj
  · rcases set_get hj with ⟨rfl, ec⟩ | ⟨ne, hj⟩
    · rcases set_get hk with ⟨rfl, _⟩ | ⟨ne', hk⟩
      · rfl
      · cases ec
        rw [ats] at ej
        cases ej
        rw [oth k ne'] at ek
        exact absurd ek ((hnew nj a rfl).2 k ck ne' hk nk)
    · rcases set_get hk with ⟨rfl, ec⟩ | ⟨ne', hk⟩
      · cases ec
        rw [ats] at ek
        cases ek
        rw [oth j ne] at ej
        exact absurd ej ((hnew nk a rfl).2 j cj ne hj nj)
      · rw [oth j ne] at ej
        rw [oth k ne'] at ek
        exact S.dj j k cj ck a hj hk nj nk ej ek
  · obtain ⟨j, cj, hj, nj, ej⟩ := ha
    rcases set_get hj with ⟨rfl, ec⟩ | ⟨ne, hj⟩
    · cases ec
      rw [ats] at ej
      cases ej
      exact (hnew nj a rfl).1
    · rw [oth j ne] at ej
      exact x.sub a ⟨j, cj, hj, nj, ej⟩
  · obtain ⟨e1, c1, q1, q2⟩ := x.io j cj hj hjf
    have ne : i ≠ j := fun z => by subst z; exact not_io hn q1 q2
    exact ⟨(oth j ne).trans e1, c1, (set_other ne).trans q1, q2⟩
  · rcases set_get hj with ⟨rfl, ec⟩ | ⟨ne, hj⟩
    · cases ec; exact absurd hjf hf
    · exact x.oi j cj hj hjf
def setR (ρ : Rho) (i : Nat) (c : Cel) : RS := if i < ρ.length && !ioAt ρ i then .nx (ρ.set i (some c)) else .stuck
def setHd (ρ1 : Rho) (i : Nat) : Hd → RS
  | .sh d => setR ρ1 i ⟨d, .sh⟩
  | .fr d => setR ρ1 i ⟨d, .ow⟩
  | .bw j => match capH ρ1 (.bw j) with
    | some d => setR ρ1 i ⟨d, .sh⟩
    | none => .stuck
def sSet (i : Nat) (fe : EF) : SF := fun ρ => bindES (fe ρ) fun h ρ1 => setHd ρ1 i h
theorem setR_ok {i : Nat} {c : Cel} (g : GoodS C ρ σ B H Ed (setR ρ1 i c)) : i < ρ1.length ∧ ioAt ρ1 i = false ∧ ∀ σ' B' H', Sim C.K (ρ1.set i (some c)) σ' B' H' → Ext ρ σ B H (ρ1.set i (some c)) σ' B' H' → Ed.nx σ' H' := by
  unfold setR at g
  split at g
  · rename_i h
    simp only [Bool.and_eq_true, decide_eq_true_eq, Bool.not_eq_true'] at h
    exact ⟨h.1, h.2, g⟩
  · exact g.elim
/-- storing what an expression gave -/
theorem put_hd (S1 : Sim C.K ρ1 σ B1 H1) (x1 : Ext ρ σ B H ρ1 σ B1 H1) {hd : Hd} {v : V} (y1 : HdOk C.K (New ρ σ H) ρ1 σ B1 H1 v hd) {i : Nat} (g : GoodS C ρ σ B H Ed (setHd ρ1 i hd)) : Ed.nx (σ.set i (some v)) H1 := by
  cases hd with
  | sh d =>
    obtain ⟨h1, h2, h3⟩ := setR_ok g
    obtain ⟨S2, x2⟩ := store_ok S1 x1 (c := ⟨d, .sh⟩) h1 h2 (by simp) (.inl ⟨rfl, y1⟩) fun z => absurd rfl z
    exact h3 _ _ _ S2 x2
  | fr d =>
    obtain ⟨h1, h2, h3⟩ := setR_ok g
    obtain ⟨a, rfl, q1, q2, q3, q4⟩ := y1
    obtain ⟨S2, x2⟩ := store_ok S1 x1 (c := ⟨d, .ow⟩) h1 h2 (by simp) (.inr ⟨by simp, a, rfl, q1, q2⟩) fun _ b e => by
      cases e
      exact ⟨q4, fun j cj _ hj nj ej => q3 ⟨j, cj, hj, nj, ej⟩⟩
    exact h3 _ _ _ S2 x2
  | bw j =>
    unfold setHd at g
    dsimp only at g
    split at g
    · rename_i d ed
      obtain ⟨h1, h2, h3⟩ := setR_ok g
      obtain ⟨S2, x2⟩ := store_ok S1 x1 (c := ⟨d, .sh⟩) h1 h2 (by simp) (.inl ⟨rfl, cap_bw S1 y1 ed⟩) fun z => absurd rfl z
      exact h3 _ _ _ S2 x2
    · exact g.elim
theorem lk_set {i : Nat} (l : LkE C te fe) : LkS C (tAsg te (gName i)) (sSet i fe) := fun ρ σ B H D S g =>
  l.bindS S g fun hd ρ1 v B1 H1 S1 x1 y1 g1 => put_hd S1 x1 y1 g1
theorem ss_set {i : Nat} {x : Str} {pos' : Pos} (hN : X.N.Nodup) (l : SE X C e te fe) (hi : X.N[i]? = some x := by rfl) (hx : Loc X.env.scope x := by first | exact Or.inl rfl | exact Or.inr rfl) (hs : swapsWith e (some (.Name x pos')) pos.line X.env = pure false := by rfl)
    (hf : X.fn x = true ∨ X.env.scope.names.lookup x = some .local := by first | exact .inl rfl | exact .inr rfl | assumption) : SS X C (.Assign [.Name x pos'] e pos) (tAsg te (gName i)) (sSet i fe) := ⟨ps_set hN hi hx l.pe hs hf, lk_set l.lk⟩
def LkG (C : Ct) (g : TG) (f : D → Rho → Option Rho) : Prop := ∀ ρ σ B H v d ρ' Q, Sim C.K ρ σ B H → Rp C.K B v d → f d ρ = some ρ' → (∀ σ' B' H', Sim C.K ρ' σ' B' H' → Ext ρ σ B H ρ' σ' B' H' → Q σ' H') → g v σ H Q
def LkGs (C : Ct) (g : TGs) (f : List D → Rho → Option Rho) : Prop := ∀ ρ σ B H vs ds ρ' Q, Sim C.K ρ σ B H → RpL C.K B vs ds → f ds ρ = some ρ' → (∀ σ' B' H', Sim C.K ρ' σ' B' H' → Ext ρ σ B H ρ' σ' B' H' → Q σ' H') → g vs σ H Q
structure SG (X : Cx) (C : Ct) (tg : Expr) (t : TG) (f : D → Rho → Option Rho) : Prop where
  pg : PG X tg t
  lk : LkG C t f
structure SGs (X : Cx) (C : Ct) (tg : List Expr) (t : TGs) (f : List D → Rho → Option Rho) : Prop where
  pg : PGs X tg t
  lk : LkGs C t f
def gN (i : Nat) : D → Rho → Option Rho := fun d ρ => if i < ρ.length && !ioAt ρ i then some (ρ.set i (some ⟨d, .sh⟩)) else none
theorem lk_gN {i : Nat} : LkG C (gName i) (gN i) := fun ρ σ B H v d ρ' Q S r e k => by
  unfold gN at e
  obtain ⟨h, rfl⟩ := if_some e
  simp only [Bool.and_eq_true, decide_eq_true_eq, Bool.not_eq_true'] at h
  obtain ⟨S2, x2⟩ := store_ok S Ext.refl (c := ⟨d, .sh⟩) h.1 h.2 (by simp) (.inl ⟨rfl, r⟩) fun z => absurd rfl z
  exact k _ _ _ S2 x2
def gsN : List D → Rho → Option Rho := fun ds ρ => match ds with
  | [] => some ρ
  | _ => none
def gsC (f : D → Rho → Option Rho) (g : List D → Rho → Option Rho) : List D → Rho → Option Rho := fun ds ρ => match ds with
  | d :: ds => (f d ρ).bind (g ds)
  | [] => none
def gT (n : Nat) (f : List D → Rho → Option Rho) : D → Rho → Option Rho := fun d ρ => match d with
  | .tuple ds => if ds.length = n then f ds ρ else none
  | .list ds => if ds.length = n then f ds ρ else none
  | _ => none
/-- a tuple or a list taken apart -/
def gTL (K : PySem.W.Frag) (n : Nat) (t : TGs) : TG := fun v σ H Q => gTup K n t v σ H Q ∨ gUnl K n t v σ H Q
theorem pg_tl {es : List Expr} {k : Nat} {t : TGs} {n : Nat} (hc : X.calm = true) (h : PGs X es t) (hn : (assignEach es X.env).length = n) (hst : (assignEach es X.env).findIdx? (·.1) = none) : PG X (.Tuple es k pos) (gTL X.K n t) :=
  ⟨fun pins s σ H v u Q I r hw => hw.elim ((pg_tup hc h hn hst).run pins s σ H v u Q I r) ((pg_unl hc h hn hst).run pins s σ H v u Q I r)⟩
theorem sg_name {i : Nat} {x : Str} (hN : X.N.Nodup) (hi : X.N[i]? = some x := by rfl) (hx : Loc X.env.scope x := by first | exact Or.inl rfl | exact Or.inr rfl)
    (hf : X.fn x = true ∨ X.env.scope.names.lookup x = some .local := by first | exact .inl rfl | exact .inr rfl | assumption) : SG X C (.Name x pos) (gName i) (gN i) := ⟨pg_name hN hi hx hf, lk_gN⟩
theorem sgs_nil : SGs X C [] gNil gsN := ⟨pgs_nil, fun ρ σ B H vs ds ρ' Q S r e k => by
  cases r with
  | nil => cases e; exact ⟨rfl, k _ _ _ S Ext.refl⟩
  | cons _ _ => cases e⟩
theorem lk_gC {tg : TG} {tgs : TGs} {f : D → Rho → Option Rho} {g : List D → Rho → Option Rho} (a : LkG C tg f) (b : LkGs C tgs g) : LkGs C (gCons tg tgs) (gsC f g) := fun ρ σ B H vs ds ρ' Q S r e k => by
  cases r with
  | nil => cases e
  | cons h t =>
    obtain ⟨ρ1, e1, e2⟩ := Option.bind_eq_some_iff.mp (show (f _ ρ).bind (g _) = some ρ' from e)
    refine ⟨_, _, rfl, a ρ σ B H _ _ ρ1 _ S h e1 fun σ1 B1 H1 S1 x1 => ?_⟩
    exact b ρ1 σ1 B1 H1 _ _ ρ' Q S1 (t.mono x1.bb) e2 fun σ2 B2 H2 S2 x2 => k _ _ _ S2 (x1.trans x2)
theorem sgs_cons {a : Expr} {as : List Expr} {tg : TG} {tgs : TGs} {f : D → Rho → Option Rho} {g : List D → Rho → Option Rho} (h : SG X C a tg f) (t : SGs X C as tgs g) (hs : (assignEach (a :: as) X.env).map (·.2) = assign a X.env :: (assignEach as X.env).map (·.2) := by rfl) : SGs X C (a :: as) (gCons tg tgs) (gsC f g) := ⟨pgs_cons h.pg t.pg hs, lk_gC h.lk t.lk⟩
theorem lk_gT {tgs : TGs} {n : Nat} {g : List D → Rho → Option Rho} (b : LkGs C tgs g) : LkG C (gTL C.K n tgs) (gT n g) := fun ρ σ B H v d ρ' Q S r e k => by
  cases d with
  | tuple ds =>
    replace e : (if ds.length = n then g ds ρ else none) = some ρ' := e
    split at e
    · obtain ⟨a, vs, rfl, ha, ra⟩ := r.tupE
      exact .inl ⟨a, vs, rfl, same_t S.bh ha, by rw [ra.length]; assumption, b ρ σ B H vs ds ρ' Q S ra e k⟩
    · cases e
  | list ds =>
    replace e : (if ds.length = n then g ds ρ else none) = some ρ' := e
    split at e
    · cases r with
      | lst ha ra => exact .inr ⟨_, _, rfl, same_l S.bh ha, by rw [ra.length]; assumption, b ρ σ B H _ ds ρ' Q S ra e k⟩
    · cases e
  | _ => cases e
theorem sg_tup {as : List Expr} {tgs : TGs} {n k : Nat} {g : List D → Rho → Option Rho} (hc : X.calm = true) (t : SGs X C as tgs g) (hk : X.K = C.K := by rfl) (hn : (assignEach as X.env).length = n := by rfl) (hst : (assignEach as X.env).findIdx? (·.1) = none := by rfl) : SG X C (.Tuple as k pos) (gTL C.K n tgs) (gT n g) := ⟨by rw [← hk]; exact pg_tl hc t.pg hn hst, lk_gT t.lk⟩
/-- a, b = e -/
def sUnp (f : D → Rho → Option Rho) (fe : EF) : SF := fun ρ => bindES (eCap fe ρ) fun h ρ1 => match h with
  | .sh d => match f d ρ1 with
    | some ρ2 => .nx ρ2
    | none => .stuck
  | _ => .stuck
theorem lk_unp {tg : TG} {f : D → Rho → Option Rho} (l : LkE C te fe) (lg : LkG C tg f) : LkS C (tAsg te tg) (sUnp f fe) := fun ρ σ B H E S g =>
  l.cap.bindS S g fun hd ρ1 v B1 H1 S1 x1 y1 g1 => by
    cases hd with
    | sh d =>
      dsimp only at g1
      split at g1
      · rename_i ρ2 e2
        exact lg ρ1 σ B1 H1 v d ρ2 _ S1 y1 e2 fun σ2 B2 H2 S2 x2 => g1 σ2 B2 H2 S2 (x1.trans x2)
      · exact g1.elim
    | _ => exact g1.elim
theorem ss_unp {tgt : Expr} {tg : TG} {f : D → Rho → Option Rho} (l : SE X C e te fe) (lg : SG X C tgt tg f) (hs : swapsWithSole [tgt] e pos.line X.env = pure false := by rfl) (hw : swappedStores [tgt] e X.env = pure none := by rfl)
    (h1 : (assignEach [tgt] X.env).map (·.2) = [assign tgt X.env] := by rfl) : SS X C (.Assign [tgt] e pos) (tAsg te tg) (sUnp f fe) := ⟨ps_asg l.pe lg.pg hs hw h1, lk_unp l.lk lg.lk⟩
end
end GS
namespace GS
open PySem L2
/-- a list, a tuple, a text: whichever comes -/
def iSeq (K : PySem.W.Frag) (w : World) (te : TE) : TI := fun σ H R => te σ H fun x H1 =>
  (∃ a, x = .ref a ∧ (∃ xs, SqL K H1 a xs) ∧ R (Itl K a) H1) ∨ (∃ a, x = .ref a ∧ (∃ xs, SqT K H1 a xs) ∧ R (Itt K a) H1) ∨ (∃ z, x = .str z ∧ R (Its z) H1) ∨ ∃ a ep xs vs, x = .ref a ∧ H1 a = some (dX w a ep xs) ∧ Vals vs (xs.map (·.2.1)) ∧ R (Itx w a ep xs vs) H1
theorem pi_seq {X : Cx} {tg e : Expr} {te : TE} (he : PE X e te) : PI X tg e (iSeq X.K X.w te) := by
  refine ⟨fun pins s σ H R I h => ?_⟩
  refine thn (he.run pins s σ H _ I h) fun v s1 ⟨x, H1, I1, r1, q1⟩ => ?_
  rcases q1 with ⟨a, e, ⟨xs, hq⟩, q⟩ | ⟨a, e, ⟨xs, hq⟩, q⟩ | ⟨x, ex, q⟩ | ⟨d, ep, xs, vs, ex, hd, rv, q⟩
  · subst e
    cases r1
    obtain ⟨its, rv, p, hz⟩ := I1.list hq
    refine wpAny_pyIter_list p.isList ?_
    exact pi_one (tk := s1.toks) I1 _ (turn_list a _) ⟨_, Heap.get?_push_size _ rfl, rfl, rfl⟩ q
  · subst e
    cases r1
    obtain ⟨its, rv, p, hz⟩ := I1.tuple hq
    refine wpAny_pyIter_tuple (show s1.heap.IsTuple a its.toArray from p) ?_
    exact pi_one (tk := s1.toks) I1 _ (turn_tuple a _) ⟨_, Heap.get?_push_size _ rfl, rfl, rfl⟩ q
  · subst ex
    obtain ⟨t, rfl⟩ := r1
    cases ha : x.cps.all (· < 128)
    · exact wpAny_pyIter_wide ha (pi_one (tk := s1.toks) I1 _ (turn_str _ x t "str_iterator" (.inr rfl)) ⟨_, Heap.get?_push_size _ rfl, rfl, rfl⟩ q)
    · exact wpAny_pyIter_ascii ha (pi_one (tk := s1.toks) I1 _ (turn_str _ x t "str_ascii_iterator" (.inl rfl)) ⟨_, Heap.get?_push_size _ rfl, rfl, rfl⟩ q)
  · subst ex
    obtain rfl : v = Value.ref d := r1
    obtain ⟨es, hm, he, _, hs⟩ := dX_raw I1.hok hd
    have ls : es.size = vs.length := by rw [← Array.length_toList, he, List.length_map, rv.length, List.length_map]
    refine wpAny_pyIter_dict_raw hs hm (pi_one (tk := s1.toks) I1 _ (turn_dX _ rv) ⟨_, Heap.get?_push_size _ rfl, rfl, ?_⟩ q)
    rw [ls] <;> rfl
/-- what the i-th turn gives -/
def YOk (K : KW) (B : Hp) (ds : List D) : Nat → Hp → V → Hp → Prop := fun i H x H' => ∃ d, ds[i]? = some d ∧
  ((H' = H ∧ Rp K B x d) ∨ ∃ T o vs es, x = .ref T ∧ H T = none ∧ o.dict = none ∧ H' = upd H T (.frz o (.tup vs)) ∧ d = .tuple es ∧ RpL K B vs es)
def ItOk (K : KW) (B : Hp) (ds : List D) (J : It) : Prop := Walk J ds.length (fun H => Same B H) (YOk K B ds)
inductive RI where | stuck | ok (ds : List D) (ρ : Rho) | exc (x : Xc) (ρ : Rho)
abbrev IF := Rho → RI
def GoodI (C : Ct) (ρ : Rho) (σ : St) (B H : Hp) (R : It → Hp → Prop) : RI → Prop
  | .stuck => False
  | .ok ds ρ' => ∀ J B' H', Sim C.K ρ' σ B' H' → Ext ρ σ B H ρ' σ B' H' → ItOk C.K B' ds J → R J H'
  | .exc x ρ' => ∀ cls dct B' H', Sim C.K ρ' σ B' H' → Ext ρ σ B H ρ' σ B' H' → XcOk C B' x cls dct → C.W cls dct σ H'
def LkI (C : Ct) (w : TI) (f : IF) : Prop := ∀ ρ σ B H R, Sim C.K ρ σ B H → GoodI C ρ σ B H R (f ρ) → w σ H R
structure SI (X : Cx) (C : Ct) (tg it : Expr) (w : TI) (f : IF) : Prop where
  pi : PI X tg it w
  lk : LkI C w f
def bindEI (r : RE) (k : Hd → Rho → RI) : RI := match r with
  | .stuck => .stuck
  | .ok h ρ => k h ρ
  | .exc x ρ => .exc x ρ
def items : D → Option (List D)
  | .list ds => some ds
  | .tuple ds => some ds
  | .str z => some (z.cps.toList.map fun c => .str ⟨#[c]⟩)
  | .dict ps => if xnB ps then none else some (ps.map (·.1))
  | _ => none
/-- for over a list, a tuple or a text that is shared -/
def iSq (fe : EF) : IF := fun ρ => bindEI (eCap fe ρ) fun h ρ1 => match h with
  | .sh d => match items d with
    | some ds => .ok ds ρ1
    | none => .stuck
  | _ => .stuck
section
variable {X : Cx} {C : Ct} {ρ ρ1 : Rho} {σ σ1 : St} {B H B1 H1 : Hp} {e tg : Expr} {te : TE} {fe : EF} {pos p : Pos}
theorem LkE.bindI (l : LkE C te fe) (S : Sim C.K ρ σ B H) {k : Hd → Rho → RI} {R : It → Hp → Prop} {Q' : VK} (g : GoodI C ρ σ B H R (bindEI (fe ρ) k))
    (h : ∀ hd ρ1 v B1 H1, Sim C.K ρ1 σ B1 H1 → Ext ρ σ B H ρ1 σ B1 H1 → HdOk C.K (New ρ σ H) ρ1 σ B1 H1 v hd → GoodI C ρ σ B H R (k hd ρ1) → Q' v H1) : te σ H Q' := by
  refine l ρ σ B H Q' S ?_
  cases e : fe ρ with
  | stuck => rw [e] at g; exact g
  | ok hd ρ1 => rw [e] at g; exact fun v B1 H1 s x y => h hd ρ1 v B1 H1 s x y g
  | exc x ρ1 => rw [e] at g; exact g
theorem it_list {K : KW} {a : Addr} {vs : List V} {ds : List D} (h : SqL K B a vs) (r : RpL K B vs ds) : ItOk K B ds (Itl K a) := by
  unfold ItOk
  rw [← r.length]
  refine (walk_list (K := K) (a := a) (xs := vs)).mono (fun H s => same_l s h) fun i H x H' hi s y => ?_
  obtain ⟨rfl, hv⟩ := y
  obtain ⟨d, q1, q2⟩ := r.getV hv
  exact ⟨d, q1, .inl ⟨rfl, q2⟩⟩
theorem it_tup {K : KW} {a : Addr} {vs : List V} {ds : List D} (h : SqT K B a vs) (r : RpL K B vs ds) : ItOk K B ds (Itt K a) := by
  unfold ItOk
  rw [← r.length]
  refine (walk_tup (K := K) (a := a) (xs := vs)).mono (fun H s => same_t s h) fun i H x H' hi s y => ?_
  obtain ⟨rfl, hv⟩ := y
  obtain ⟨d, q1, q2⟩ := r.getV hv
  exact ⟨d, q1, .inl ⟨rfl, q2⟩⟩
theorem it_str {K : KW} {z : Str} : ItOk K B (z.cps.toList.map fun c => .str ⟨#[c]⟩) (Its z) := by
  unfold ItOk
  rw [List.length_map, Array.length_toList]
  refine (walk_str (z := z)).mono (fun H _ => trivial) fun i H x H' hi s y => ?_
  obtain ⟨rfl, c, hc, rfl⟩ := y
  refine ⟨.str ⟨#[c]⟩, ?_, .inl ⟨rfl, .str _⟩⟩
  rw [List.getElem?_map, Array.getElem?_toList, hc]
  rfl
theorem rpx_keys {K : KW} {b : Bool} : ∀ {xs : List (NestedKey × Value × Value)} {ps : List (D × D)}, RpX K B b xs ps → ∃ vs, Vals vs (xs.map (·.2.1)) ∧ RpL K B vs (ps.map (·.1))
  | _, _, .nil => ⟨[], .nil, .nil⟩
  | _, _, .cons (kv := kv) _ _ h3 h4 _ _ h7 => by
    obtain ⟨vs, q1, q2⟩ := rpx_keys h7
    exact ⟨kv :: vs, .cons h4 q1, .cons h3 q2⟩
theorem it_dct {K : KW} {a : Addr} {ep : Nat} {xs : List (NestedKey × Value × Value)} {vs : List V} {ds : List D} (h : B a = some (dX K.w a ep xs)) (r : RpL K B vs ds) : ItOk K B ds (Itx K.w a ep xs vs) := by
  unfold ItOk
  rw [← r.length]
  refine walk_dX.mono (fun H s => s _ _ h) fun i H x H' hi s y => ?_
  obtain ⟨rfl, hv⟩ := y
  obtain ⟨d, q1, q2⟩ := r.getV hv
  exact ⟨d, q1, .inl ⟨rfl, q2⟩⟩
theorem lk_sq (l : LkE C te fe) : LkI C (iSeq C.K C.K.w te) (iSq fe) := fun ρ σ B H R S g => by
  refine l.cap.bindI S g fun hd ρ1 v B1 H1 S1 x1 y1 g1 => ?_
  cases hd with
  | sh d =>
    dsimp only at g1
    split at g1
    · rename_i ds ed
      cases d with
      | list es =>
        cases ed
        obtain ⟨a, vs, rfl, ha, ra⟩ := Rp.lstE y1
        exact .inl ⟨a, rfl, ⟨vs, same_l S1.bh ha⟩, g1 _ _ _ S1 x1 (it_list ha ra)⟩
      | tuple es =>
        cases ed
        obtain ⟨a, vs, rfl, ha, ra⟩ := Rp.tupE y1
        exact .inr (.inl ⟨a, rfl, ⟨vs, same_t S1.bh ha⟩, g1 _ _ _ S1 x1 (it_tup ha ra)⟩)
      | str z =>
        cases ed
        cases (show Rp C.K B1 v (.str z) from y1)
        exact .inr (.inr (.inl ⟨z, rfl, g1 _ _ _ S1 x1 it_str⟩))
      | dict ps =>
        obtain ⟨c, rfl⟩ : xnB ps = false ∧ ds = ps.map (·.1) := by
          replace ed : (if xnB ps then none else some (ps.map (·.1))) = some ds := ed
          split at ed
          · cases ed
          · rename_i c
            exact ⟨by simpa using c, (Option.some.inj ed).symm⟩
        cases (show Rp C.K B1 v (.dict ps) from y1) with
        | dct h r =>
          obtain ⟨vs, q1, q2⟩ := rpx_keys r
          exact .inr (.inr (.inr ⟨_, _, _, vs, rfl, S1.bh _ _ h, q1, g1 _ _ _ S1 x1 (it_dct h q2)⟩))
        | exn _ _ _ _ => cases c
      | _ => cases ed
    · exact g1.elim
  | _ => exact g1.elim
theorem si_sq (l : SE X C e te fe) (hk : X.K = C.K := by rfl) (hw : X.w = C.K.w := by rfl) : SI X C tg e (iSeq C.K C.K.w te) (iSq fe) := ⟨by rw [← hk, ← hw]; exact pi_seq l.pe, lk_sq l.lk⟩
def rgD (lo : Int) (n : Nat) : List D := (List.range n).map fun (i : Nat) => PyData.int (lo + (i : Int))
theorem it_range {K : KW} {lo : Int} {n : Nat} : ItOk K B (rgD lo n) (Itr lo n) := by
  unfold ItOk rgD
  rw [List.length_map, List.length_range]
  refine (walk_range (lo := lo) (n := n)).mono (fun H _ => trivial) fun i H x H' hi s y => ?_
  obtain ⟨rfl, rfl⟩ := y
  refine ⟨.int (lo + i), ?_, .inl ⟨rfl, .int _⟩⟩
  rw [List.getElem?_map, List.getElem?_range hi]
  rfl
def okR (i : Int) : Bool := Nat.ble i.natAbs 1000000000
def iR1 (fe : EF) : IF := fun ρ => bindEI (eSet fe ρ) fun h ρ1 => match getH ρ1 h with
  | some (.int j) => if okR j then .ok (rgD 0 j.toNat) ρ1 else .stuck
  | _ => .stuck
theorem e62 : (2 : Int) ^ 62 = 4611686018427387904 := by decide +kernel
theorem okR_ok {i : Int} (h : okR i = true) : -(2 ^ 62) ≤ i ∧ i < 2 ^ 62 := by
  have := Nat.le_of_ble_eq_true h
  rw [e62]
  omega
theorem si_r1 (l : SE X C e te fe) (hm : X.mg "range" = none) (hg : Gl X "range" := by rfl) (hs : starEach [e] X.env = [(false, eval e X.env)] := by rfl) : SI X C tg (.Call (.Name "range" p) [e] [] pos) (iRng1 (tCons te tNil)) (iR1 fe) := ⟨pi_range1 hg hm (pa_cons l.pe pa_nil hs) hs, fun ρ σ B H R S g => by
  refine l.lk.set.bindI S g fun hd ρ1 v B1 H1 S1 x1 y1 g1 => ?_
  split at g1
  · rename_i j ej
    split at g1
    · rename_i ok
      obtain ⟨h1, h2⟩ := okR_ok ok
      exact ⟨j, by rw [(S1.tp y1 ej).int], h1, h2, g1 _ _ _ S1 x1 it_range⟩
    · exact g1.elim
  · exact g1.elim⟩
theorem GoodI.ext (x : Ext ρ σ B H ρ1 σ B1 H1) {R : It → Hp → Prop} : ∀ {r : RI}, GoodI C ρ σ B H R r → GoodI C ρ1 σ B1 H1 R r
  | .stuck, g => g
  | .ok _ _, g => fun J B' H' s y z => g J B' H' s (x.trans y) z
  | .exc _ _, g => fun c d B' H' s y z => g c d B' H' s (x.trans y) z
def forL (g : D → Rho → Option Rho) (b : SF) : List D → Rho → RS
  | [], ρ => .nx ρ
  | d :: ds, ρ => match g d ρ with
    | none => .stuck
    | some ρ1 => match b ρ1 with
      | .nx ρ2 => forL g b ds ρ2
      | .ct ρ2 => forL g b ds ρ2
      | .bk ρ2 => .nx ρ2
      | r => r
def sFor (fi : IF) (g : D → Rho → Option Rho) (b : SF) : SF := fun ρ => match fi ρ with
  | .stuck => .stuck
  | .exc x ρ1 => .exc x ρ1
  | .ok ds ρ1 => forL g b ds ρ1
theorem lk_for {w : TI} {tgt : TG} {tb : TS} {fi : IF} {g : D → Rho → Option Rho} {b : SF} (li : LkI C w fi) (lg : LkG C tgt g) (lb : LkS C tb b) : LkS C (tFor w tgt tb) (sFor fi g b) := fun ρ σ B H E S gd => by
  refine li ρ σ B H _ S ?_
  unfold sFor at gd
  cases e : fi ρ with
  | stuck => rw [e] at gd; exact gd
  | exc x ρ1 => rw [e] at gd; exact fun c d B' H' s x => gd c d σ B' H' s x
  | ok ds ρ1 =>
    rw [e] at gd
    replace gd : GoodS C ρ σ B H E (forL g b ds ρ1) := gd
    intro J B1 H1 S1 x1 ok
    refine for_it ok (fun i σ' H' => ∃ ρ' B', Sim C.K ρ' σ' B' H' ∧ Ext ρ σ B H ρ' σ' B' H' ∧ Same B1 B' ∧ GoodS C ρ σ B H E (forL g b (ds.drop i) ρ')) ⟨ρ1, B1, S1, x1, Same.refl _, gd⟩ (fun i σ' H' _ ⟨ρ', B', S', _, s', _⟩ => s'.trans S'.bh) ?_ ?_
    · rintro i v σ' H' H2 hi ⟨ρ', B', S', x', s', g'⟩ ⟨d, ed, y⟩
      have hd : ds.drop i = d :: ds.drop (i + 1) := by
        have := List.drop_eq_getElem_cons hi
        rw [this]
        congr 1
        exact Option.some.inj ((List.getElem?_eq_getElem hi).symm.trans ed)
      rw [hd] at g'
      have step : ∃ B2, Sim C.K ρ' σ' B2 H2 ∧ Ext ρ σ B H ρ' σ' B2 H2 ∧ Same B1 B2 ∧ Rp C.K B2 v d := by
        rcases y with ⟨rfl, r⟩ | ⟨T, o, vs, es, rfl, hT, ho, rfl, rfl, r⟩
        · exact ⟨B', S', x', s', r.mono s'⟩
        · obtain ⟨S2, x2⟩ := S'.newB hT (.frz o (.tup vs))
          exact ⟨_, S2, x'.trans x2, s'.trans x2.bb, .tup (XT.new ho) (r.mono (s'.trans x2.bb))⟩
      obtain ⟨B2, S2, x2, s2, r2⟩ := step
      unfold forL at g'
      cases eg : g d ρ' with
      | none => rw [eg] at g'; exact g'.elim
      | some ρ3 =>
        rw [eg] at g'
        refine lg ρ' σ' B2 H2 v d ρ3 _ S2 r2 eg fun σ3 B3 H3 S3 x3 => ?_
        refine lb ρ3 σ3 B3 H3 _ S3 ?_
        have x3' := x2.trans x3
        cases eb : b ρ3 with
        | stuck => simp only [eb] at g'; exact g'
        | nx ρ4 => simp only [eb] at g'; exact fun σ4 B4 H4 S4 x4 => ⟨ρ4, B4, S4, x3'.trans x4, (s2.trans x3.bb).trans x4.bb, g'⟩
        | ct ρ4 => simp only [eb] at g'; exact fun σ4 B4 H4 S4 x4 => ⟨ρ4, B4, S4, x3'.trans x4, (s2.trans x3.bb).trans x4.bb, g'⟩
        | bk ρ4 => simp only [eb] at g'; exact fun σ4 B4 H4 S4 x4 => g' σ4 B4 H4 S4 (x3'.trans x4)
        | rt h ρ4 => simp only [eb] at g'; exact GoodS.ext (r := .rt h ρ4) x3' g'
        | exc c ρ4 => simp only [eb] at g'; exact GoodS.ext (r := .exc c ρ4) x3' g'
    · rintro σ' H' ⟨ρ', B', S', x', _, g'⟩
      rw [List.drop_length] at g'
      exact g' σ' B' H' S' x'
theorem ss_for {it : Expr} {body : List Stmt} {w : TI} {tgt : TG} {tb : TS} {fi : IF} {g : D → Rho → Option Rho} {b : SF} (hp : PassesOwn (model X.prog X.w) X.A X.env X.xe) (hc : X.calm = true) (li : SI X C tg it w fi) (lg : SG X C tg tgt g) (lb : SSs X C body tb b)
    (hs : ∀ x, foldedSetIterable it X.env x = pure x := by intro _; rfl) : SS X C (.For tg it body [] pos) (tFor w tgt tb) (sFor fi g b) := ⟨ps_for hp hc li.pi lg.pg lb.ps hs, lk_for li.lk lg.lk lb.lk⟩
def wipeR (ρ : Rho) : List Nat → Rho
  | [] => ρ
  | v :: vs => (wipeR ρ vs).set v none
/-- the turns: acc what is made so far -/
def lcL (vs : List Nat) (g : D → Rho → Option Rho) (ft fe : EF) : List D → List D → Rho → RE
  | [], acc, ρ => .ok (.fr (.list acc)) ρ
  | d :: ds, acc, ρ => match g d ρ with
    | none => .stuck
    | some ρ1 => bindB (ft ρ1) fun c ρ2 => if c then bindE (eCap fe ρ2) fun h ρ3 => match h with
        | .sh y => if acc.length < sizeLine then lcL vs g ft fe ds (acc ++ [y]) (wipeR ρ3 vs) else .stuck
        | _ => .stuck
      else lcL vs g ft fe ds acc (wipeR ρ2 vs)
def eLc (vs : List Nat) (fi : IF) (g : D → Rho → Option Rho) (ft fe : EF) : EF := fun ρ => match fi ρ with
  | .stuck => .stuck
  | .exc x ρ1 => .exc x ρ1
  | .ok ds ρ1 => if vs.all fun i => !ioAt ρ1 i then lcL vs g ft fe ds [] (wipeR ρ1 vs) else .stuck
theorem wipeR_len (ρ : Rho) : ∀ vs : List Nat, (wipeR ρ vs).length = ρ.length
  | [] => rfl
  | v :: vs => by unfold wipeR; rw [List.length_set, wipeR_len ρ vs]
theorem wipeR_some {ρ : Rho} {i : Nat} {c : Cel} : ∀ {vs : List Nat}, (wipeR ρ vs)[i]? = some (some c) → ρ[i]? = some (some c) ∧ i ∉ vs
  | [], h => ⟨h, by simp⟩
  | v :: vs, h => by
    unfold wipeR at h
    rcases set_get h with ⟨_, ec⟩ | ⟨ne, h⟩
    · cases ec
    · obtain ⟨h1, h2⟩ := wipeR_some h
      exact ⟨h1, by simp only [List.mem_cons, not_or]; exact ⟨fun e => ne e.symm, h2⟩⟩
theorem wipeR_keep {ρ : Rho} {i : Nat} : ∀ {vs : List Nat}, i ∉ vs → (wipeR ρ vs)[i]? = ρ[i]?
  | [], _ => rfl
  | v :: vs, h => by
    simp only [List.mem_cons, not_or] at h
    unfold wipeR
    rw [set_other (fun e => h.1 e.symm)]
    exact wipeR_keep h.2
theorem wipe_keep {σ : St} {i : Nat} : ∀ {vs : List Nat}, i ∉ vs → (wipe σ vs)[i]? = σ[i]?
  | [], _ => rfl
  | v :: vs, h => by
    simp only [List.mem_cons, not_or] at h
    unfold wipe
    rw [List.getElem?_set, if_neg (fun e => h.1 e.symm)]
    exact wipe_keep h.2
/-- slots are forgotten on both sides -/
theorem Sim.wipe {K : KW} {σ' : St} (S : Sim K ρ σ B H) (vs : List Nat) (hl : σ'.length = σ.length) (he : ∀ i, i ∉ vs → σ'[i]? = σ[i]?) : Sim K (wipeR ρ vs) σ' B H := by
  refine ⟨S.bh, by rw [wipeR_len, hl]; exact S.len, fun i c h => ?_, fun i j ci cj a hi hj ni nj ei ej => ?_⟩
  · obtain ⟨h1, h2⟩ := wipeR_some h
    rw [he i h2]
    exact S.sl i c h1
  · obtain ⟨h1, h2⟩ := wipeR_some hi
    obtain ⟨h3, h4⟩ := wipeR_some hj
    rw [he i h2] at ei
    rw [he j h4] at ej
    exact S.dj i j ci cj a h1 h3 ni nj ei ej
theorem Ext.wipe {σ' : St} (x : Ext ρ σ B H ρ1 σ1 B1 H1) (vs : List Nat) (hn : ∀ i ∈ vs, ∀ c, ρ[i]? = some (some c) → c.fl ≠ .io) (he : ∀ i, i ∉ vs → σ'[i]? = σ1[i]?) : Ext ρ σ B H (wipeR ρ1 vs) σ' B1 H1 := by
  refine ⟨x.bb, x.nw, x.kp, fun a ⟨i, c, h1, h2, h3⟩ => ?_, fun i c h1 h2 => ?_, fun i c h1 h2 => ?_⟩
  · obtain ⟨q1, q2⟩ := wipeR_some h1
    rw [he i q2] at h3
    exact x.sub a ⟨i, c, q1, h2, h3⟩
  · have ni : i ∉ vs := fun z => hn i z c h1 h2
    obtain ⟨e1, c1, q1, q2⟩ := x.io i c h1 h2
    exact ⟨(he i ni).trans e1, c1, (wipeR_keep ni).trans q1, q2⟩
  · obtain ⟨q1, _⟩ := wipeR_some h1
    exact x.oi i c q1 h2
end
end GS
namespace GS
open PySem L2
section
variable {X : Cx} {C : Ct} {ρ ρ1 : Rho} {σ σ1 σ' : St} {B H B1 H1 : Hp} {e tg : Expr} {te : TE} {fe : EF} {pos p : Pos} {vs : List Nat} {K : KW}
theorem wipe_get (σ : St) (j : Nat) : ∀ vs : List Nat, (wipe σ vs)[j]? = if j ∈ vs then (if j < σ.length then some none else none) else σ[j]?
  | [] => by simp [wipe]
  | v :: vs => by
    unfold wipe
    rw [List.getElem?_set, wipe_get σ j vs, wipe_length]
    by_cases h : v = j
    · subst h; simp
    · have h' : ¬ j = v := fun z => h z.symm
      simp [h, h']
theorem wipe_set {i : Nat} {x : Option V} (h : i ∈ vs) : wipe (σ.set i x) vs = wipe σ vs := by
  apply List.ext_getElem?
  intro j
  rw [wipe_get, wipe_get, List.length_set]
  by_cases hj : j ∈ vs
  · simp [hj]
  · rw [if_neg hj, if_neg hj, List.getElem?_set, if_neg (fun (z : i = j) => hj (z ▸ h))]
theorem of_wipe (h : wipe σ1 vs = wipe σ vs) : σ1.length = σ.length ∧ ∀ i, i ∉ vs → σ1[i]? = σ[i]? := by
  refine ⟨by rw [← wipe_length σ1 vs, h, wipe_length], fun i hi => ?_⟩
  rw [← wipe_keep hi, h, wipe_keep hi]
/-- targets of a comprehension -/
def LkGw (C : Ct) (vs : List Nat) (g : TG) (f : D → Rho → Option Rho) : Prop := ∀ ρ σ B H v d ρ' Q, Sim C.K ρ σ B H → Rp C.K B v d → f d ρ = some ρ' → (∀ σ' B' H', Sim C.K ρ' σ' B' H' → Ext ρ σ B H ρ' σ' B' H' → wipe σ' vs = wipe σ vs → Q σ' H') → g v σ H Q
def LkGws (C : Ct) (vs : List Nat) (g : TGs) (f : List D → Rho → Option Rho) : Prop := ∀ ρ σ B H ws ds ρ' Q, Sim C.K ρ σ B H → RpL C.K B ws ds → f ds ρ = some ρ' → (∀ σ' B' H', Sim C.K ρ' σ' B' H' → Ext ρ σ B H ρ' σ' B' H' → wipe σ' vs = wipe σ vs → Q σ' H') → g ws σ H Q
theorem lkw_N {i : Nat} (hi : i ∈ vs) : LkGw C vs (gName i) (gN i) := fun ρ σ B H v d ρ' Q S r e k => by
  unfold gN at e
  obtain ⟨h, rfl⟩ := if_some e
  simp only [Bool.and_eq_true, decide_eq_true_eq, Bool.not_eq_true'] at h
  obtain ⟨S2, x2⟩ := store_ok S Ext.refl (c := ⟨d, .sh⟩) h.1 h.2 (by simp) (.inl ⟨rfl, r⟩) fun z => absurd rfl z
  exact k _ _ _ S2 x2 (wipe_set hi)
theorem lkw_nil : LkGws C vs gNil gsN := fun ρ σ B H ws ds ρ' Q S r e k => by
  cases r with
  | nil => cases e; exact ⟨rfl, k _ _ _ S Ext.refl rfl⟩
  | cons _ _ => cases e
theorem lkw_C {tg : TG} {tgs : TGs} {f : D → Rho → Option Rho} {g : List D → Rho → Option Rho} (a : LkGw C vs tg f) (b : LkGws C vs tgs g) : LkGws C vs (gCons tg tgs) (gsC f g) := fun ρ σ B H ws ds ρ' Q S r e k => by
  cases r with
  | nil => cases e
  | cons h t =>
    obtain ⟨ρ1, e1, e2⟩ := Option.bind_eq_some_iff.mp (show (f _ ρ).bind (g _) = some ρ' from e)
    refine ⟨_, _, rfl, a ρ σ B H _ _ ρ1 _ S h e1 fun σ1 B1 H1 S1 x1 w1 => ?_⟩
    exact b ρ1 σ1 B1 H1 _ _ ρ' Q S1 (t.mono x1.bb) e2 fun σ2 B2 H2 S2 x2 w2 => k _ _ _ S2 (x1.trans x2) (w2.trans w1)
theorem lkw_T {tgs : TGs} {n : Nat} {g : List D → Rho → Option Rho} (b : LkGws C vs tgs g) : LkGw C vs (gTL C.K n tgs) (gT n g) := fun ρ σ B H v d ρ' Q S r e k => by
  cases d with
  | tuple ds =>
    replace e : (if ds.length = n then g ds ρ else none) = some ρ' := e
    split at e
    · obtain ⟨a, ws, rfl, ha, ra⟩ := r.tupE
      exact .inl ⟨a, ws, rfl, same_t S.bh ha, by rw [ra.length]; assumption, b ρ σ B H ws ds ρ' Q S ra e k⟩
    · cases e
  | list ds =>
    replace e : (if ds.length = n then g ds ρ else none) = some ρ' := e
    split at e
    · cases r with
      | lst ha ra => exact .inr ⟨_, _, rfl, same_l S.bh ha, by rw [ra.length]; assumption, b ρ σ B H _ ds ρ' Q S ra e k⟩
    · cases e
  | _ => cases e
/-- without exceptions -/
def eNox (f : EF) : EF := fun ρ => match f ρ with
  | .exc _ _ => .stuck
  | r => r
abbrev Ct.nox (C : Ct) : Ct := { C with W := fun _ _ _ _ => False }
theorem LkE.ofNox {t : TE} {f : EF} (l : LkE C.nox t f) : LkE C t (eNox f) := fun ρ σ B H Q S g => by
  refine l ρ σ B H Q S ?_
  unfold eNox at g
  cases e : f ρ with
  | stuck => rw [e] at g; exact g
  | ok h ρ1 => rw [e] at g; exact g
  | exc x ρ1 => rw [e] at g; exact g.elim
theorem LkT.ofNox {t : TT} {f : EF} (l : LkT C.nox t f) : LkT C t (eNox f) := fun ρ σ B H Q S g => by
  refine l ρ σ B H Q S ?_
  unfold eNox at g
  cases e : f ρ with
  | stuck => rw [e] at g; exact g
  | ok h ρ1 =>
    rw [e] at g
    cases h with
    | sh d => cases d <;> exact g
    | _ => exact g
  | exc x ρ1 => rw [e] at g; exact g.elim
theorem eNox_ne (f : EF) (ρ : Rho) {x : Xc} {ρ1 : Rho} : eNox f ρ ≠ .exc x ρ1 := fun h => by
  unfold eNox at h
  split at h
  · cases h
  · rename_i z; exact z _ _ h
theorem cap_nox_ne (f : EF) (ρ : Rho) {x : Xc} {ρ1 : Rho} : eCap (eNox f) ρ ≠ .exc x ρ1 := fun h => by
  unfold eCap bindE at h
  split at h
  · cases h
  · dsimp only at h
    split at h <;> cases h
  · rename_i e; exact eNox_ne _ _ e
def NoV (ρ : Rho) (vs : List Nat) : Prop := ∀ (i : Nat) (c : Cel), ρ[i]? = some (some c) → i ∉ vs
theorem noV_wipe : NoV (wipeR ρ vs) vs := fun i c h => (wipeR_some h).2
theorem Sim.swap (S : Sim K ρ σ B H) (n : NoV ρ vs) (hl : σ'.length = σ.length) (he : ∀ i, i ∉ vs → σ'[i]? = σ[i]?) : Sim K ρ σ' B H := by
  refine ⟨S.bh, by rw [hl]; exact S.len, fun i c h => ?_, fun i j ci cj a hi hj ni nj ei ej => ?_⟩
  · rw [he i (n i c h)]; exact S.sl i c h
  · rw [he i (n i ci hi)] at ei
    rw [he j (n j cj hj)] at ej
    exact S.dj i j ci cj a hi hj ni nj ei ej
theorem Sim.tweak (S : Sim K ρ σ B H) {q : Addr} {o : HO} (hb : B q = none) (hn : ¬ OwnA ρ σ q) : Sim K ρ σ B (upd H q o) := by
  refine ⟨fun b u z => ?_, S.len, fun i c h => ?_, S.dj⟩
  · rw [upd_ne (ne_of_none z hb)]; exact S.bh _ _ z
  · obtain ⟨v, ev, ok⟩ := S.sl i c h
    refine ⟨v, ev, ok.mono (Same.refl B) fun a hv ha ho hf => ⟨ha, ?_⟩⟩
    have ne : a ≠ q := fun z => by subst z hv; exact hn ⟨i, c, h, hf, ev⟩
    rw [upd_ne ne]
theorem Ext.tweak (x : Ext ρ σ B H ρ1 σ1 B1 H1) {q : Addr} {o : HO} (hn : New ρ σ H q) : Ext ρ σ B H ρ1 σ1 B1 (upd H1 q o) := by
  refine ⟨x.bb, x.nw, fun a u h n => ?_, x.sub, x.io, x.oi⟩
  have ne : a ≠ q := fun z => by
    subst z
    rcases hn with z | z
    · rw [h] at z; cases z
    · exact n z
  rw [upd_ne ne]
  exact x.kp a u h n
theorem OwnA.swap {a : Addr} (n : NoV ρ vs) (he : ∀ i, i ∉ vs → σ'[i]? = σ[i]?) (h : OwnA ρ σ' a) : OwnA ρ σ a := by
  obtain ⟨i, c, h1, h2, h3⟩ := h
  exact ⟨i, c, h1, h2, (he i (n i c h1)).symm.trans h3⟩
theorem Ext.swapL (x : Ext ρ σ' B H ρ1 σ1 B1 H1) (n : NoV ρ vs) (he : ∀ i, i ∉ vs → σ'[i]? = σ[i]?) (ho : ∀ (i : Nat) c, ρ[i]? = some (some c) → c.fl = .io → σ1[i]? = σ[i]?) : Ext ρ σ B H ρ1 σ1 B1 H1 := by
  have own : ∀ a, OwnA ρ σ' a → OwnA ρ σ a := fun a h => h.swap n he
  have own' : ∀ a, OwnA ρ σ a → OwnA ρ σ' a := fun a h => h.swap n fun i hi => (he i hi).symm
  exact ⟨x.bb, fun a o h => (x.nw a o h).imp id fun z => z.elim .inl fun z => .inr (own a z), fun a o h z => x.kp a o h fun w => z (own a w), fun a h => (x.sub a h).elim .inl fun z => .inr (own a z),
    fun i c h1 h2 => ⟨ho i c h1 h2, (x.io i c h1 h2).2⟩, x.oi⟩
theorem lk_lc {w : TI} {tgt : TG} {tt : TT} {fi : IF} {g : D → Rho → Option Rho} {ft : EF} (li : LkI C w fi) (lg : LkGw C vs tgt g) (lt : LkT C.nox tt ft) (le : LkE C.nox te fe) : LkE C (tLc w tgt tt te vs) (eLc vs fi g (eNox ft) (eNox fe)) := fun ρ σ B H Q S gd => by
  have lt' := lt.ofNox
  have le' := le.ofNox
  refine li ρ σ B H _ S ?_
  unfold eLc at gd
  cases e : fi ρ with
  | stuck => rw [e] at gd; exact gd
  | exc x ρ1 => rw [e] at gd; exact gd
  | ok ds ρ1 =>
    rw [e] at gd
    replace gd : GoodE C ρ σ B H Q (if vs.all fun i => !ioAt ρ1 i then lcL vs g (eNox ft) (eNox fe) ds [] (wipeR ρ1 vs) else .stuck) := gd
    by_cases hio : (vs.all fun i => !ioAt ρ1 i) = true
    case neg => rw [if_neg hio] at gd; exact gd.elim
    rw [if_pos hio] at gd
    intro J B1 H1 S1 x1 ok Dd hD
    have hio' : ∀ i ∈ vs, ∀ c, ρ1[i]? = some (some c) → c.fl ≠ .io := fun i hi c hc => by
      have := List.all_eq_true.mp hio i hi
      exact not_io (by simpa using this) hc
    have hio0 : ∀ i ∈ vs, ∀ c, ρ[i]? = some (some c) → c.fl ≠ .io := fun i hi c hc hf => by
      obtain ⟨_, c', q1, q2⟩ := x1.io i c hc hf
      exact hio' i hi c' q1 q2
    obtain ⟨bD, nD⟩ := S1.free hD
    have newD : New ρ σ H Dd := x1.back (.inl hD)
    have wk : ∀ i, i ∉ vs → (wipe σ vs)[i]? = σ[i]? := fun i hi => wipe_keep hi
    have wl : (wipe σ vs).length = σ.length := wipe_length σ vs
    -- the start
    have S0 : Sim C.K (wipeR ρ1 vs) σ B1 (upd H1 Dd (.lst [])) := (S1.wipe vs rfl fun _ _ => rfl).tweak bD fun ⟨i, c, h1, h2, h3⟩ => nD ⟨i, c, (wipeR_some h1).1, h2, h3⟩
    have x0 : Ext ρ σ B H (wipeR ρ1 vs) σ B1 (upd H1 Dd (.lst [])) := (x1.wipe vs hio0 fun _ _ => rfl).tweak newD
    refine lc_it ok (fun i Hc => ∃ ρ' B' vacc acc, Sim C.K ρ' σ B' Hc ∧ NoV ρ' vs ∧ Ext ρ σ B H ρ' σ B' Hc ∧ Same B1 B' ∧ Hc Dd = some (.lst vacc) ∧ B' Dd = none ∧ ¬ OwnA ρ' σ Dd ∧ RpL C.K B' vacc acc ∧ GoodE C ρ σ B H Q (lcL vs g (eNox ft) (eNox fe) (ds.drop i) acc ρ'))
      ⟨wipeR ρ1 vs, B1, [], [], S0, noV_wipe, x0, Same.refl _, upd_same, bD, fun ⟨i, c, h1, h2, h3⟩ => nD ⟨i, c, (wipeR_some h1).1, h2, h3⟩, .nil, gd⟩ (fun i Hc _ ⟨ρ', B', _, _, S', _, _, s', _⟩ => s'.trans S'.bh) ?_ ?_
    · rintro i v Hc H2 hi ⟨ρ', B', vacc, acc, S', nv, x', s', hacc, bacc, nacc, racc, g'⟩ ⟨d, ed, y⟩
      have hd : ds.drop i = d :: ds.drop (i + 1) := by
        have := List.drop_eq_getElem_cons hi
        rw [this]
        congr 1
        exact Option.some.inj ((List.getElem?_eq_getElem hi).symm.trans ed)
      rw [hd] at g'
      -- the turn's item
      have step : ∃ B2, Sim C.K ρ' σ B2 H2 ∧ Ext ρ σ B H ρ' σ B2 H2 ∧ Same B1 B2 ∧ Rp C.K B2 v d ∧ H2 Dd = some (.lst vacc) ∧ B2 Dd = none ∧ RpL C.K B2 vacc acc := by
        rcases y with ⟨rfl, r⟩ | ⟨T, o, ws, es, rfl, hT, ho, rfl, rfl, r⟩
        · exact ⟨B', S', x', s', r.mono s', hacc, bacc, racc⟩
        · obtain ⟨S2, x2⟩ := S'.newB hT (.frz o (.tup ws))
          have ne : Dd ≠ T := ne_of_none hacc hT
          exact ⟨_, S2, x'.trans x2, s'.trans x2.bb, .tup (XT.new ho) (r.mono (s'.trans x2.bb)), by rw [upd_ne ne]; exact hacc, by rw [upd_ne ne]; exact bacc, racc.mono x2.bb⟩
      obtain ⟨B2, S2, x2, s2, r2, hacc2, bacc2, racc2⟩ := step
      unfold lcL at g'
      cases eg : g d ρ' with
      | none => rw [eg] at g'; exact g'.elim
      | some ρ3 =>
        rw [eg] at g'
        have S2w : Sim C.K ρ' (wipe σ vs) B2 H2 := S2.swap nv wl wk
        refine lg ρ' (wipe σ vs) B2 H2 v d ρ3 _ S2w r2 eg fun σ3 B3 H3 S3 x3 w3 => ?_
        have w3' : wipe σ3 vs = wipe σ vs := by
          rw [w3]
          apply List.ext_getElem?
          intro j
          rw [wipe_get, wl, wipe_get]
          by_cases hj : j ∈ vs <;> simp [hj]
        obtain ⟨l3, k3⟩ := of_wipe w3'
        refine ⟨w3', ?_⟩
        have nacc' : ¬ OwnA ρ' (wipe σ vs) Dd := fun z => nacc (z.swap nv wk)
        obtain ⟨hacc3, bacc3, nacc3⟩ := x3.keepN hacc2 bacc2 nacc'
        -- from the start to here, at σ3
        have x3s : Ext ρ σ B H ρ3 σ3 B3 H3 := x2.trans (x3.swapL nv wk fun j c h1 h2 => k3 j (nv j c h1))
        dsimp only at g'
        refine lt' ρ3 σ3 B3 H3 _ S3 ?_
        cases et : eNox ft ρ3 with
        | stuck => rw [et] at g'; exact g'.elim
        | exc c ρ4 => exact absurd et (eNox_ne _ _)
        | ok h ρ4 =>
          rw [et] at g'
          cases h with
          | fr _ => exact g'.elim
          | bw _ => exact g'.elim
          | sh dd =>
            cases dd with
            | bool b =>
              replace g' : GoodE C ρ σ B H Q (if b then bindE (eCap (eNox fe) ρ4) fun h ρ3 => match h with
                | .sh y => if acc.length < sizeLine then lcL vs g (eNox ft) (eNox fe) (ds.drop (i + 1)) (acc ++ [y]) (wipeR ρ3 vs) else .stuck
                | _ => .stuck
                else lcL vs g (eNox ft) (eNox fe) (ds.drop (i + 1)) acc (wipeR ρ4 vs)) := g'
              intro B4 H4 S4 x4
              obtain ⟨hacc4, bacc4, nacc4⟩ := x4.keepN hacc3 bacc3 nacc3
              have x4s : Ext ρ σ B H ρ4 σ3 B4 H4 := x3s.trans x4
              have racc4 := (racc2.mono x3.bb).mono x4.bb
              have s4 : Same B1 B4 := (s2.trans x3.bb).trans x4.bb
              cases b with
              | false =>
                rw [if_neg Bool.false_ne_true] at g' ⊢
                exact ⟨wipeR ρ4 vs, B4, vacc, acc, S4.wipe vs l3.symm fun j hj => (k3 j hj).symm, noV_wipe, x4s.wipe vs hio0 fun j hj => (k3 j hj).symm, s4, hacc4, bacc4,
                  fun ⟨j, c, h1, h2, h3⟩ => nacc4 ⟨j, c, (wipeR_some h1).1, h2, (k3 j (wipeR_some h1).2).trans h3⟩, racc4, g'⟩
              | true =>
                rw [if_pos rfl] at g' ⊢
                refine le'.cap ρ4 σ3 B4 H4 _ S4 ?_
                cases ee : eCap (eNox fe) ρ4 with
                | stuck => rw [ee] at g'; exact g'.elim
                | exc c ρ5 => exact absurd ee (cap_nox_ne _ _)
                | ok h ρ5 =>
                  rw [ee] at g'
                  cases h with
                  | fr _ => exact g'.elim
                  | bw _ => exact g'.elim
                  | sh y =>
                    replace g' : GoodE C ρ σ B H Q (if acc.length < sizeLine then lcL vs g (eNox ft) (eNox fe) (ds.drop (i + 1)) (acc ++ [y]) (wipeR ρ5 vs) else .stuck) := g'
                    intro u B5 H5 S5 x5 y5
                    obtain ⟨hacc5, bacc5, nacc5⟩ := x5.keepN hacc4 bacc4 nacc4
                    by_cases hsz : acc.length < sizeLine
                    case neg => rw [if_neg hsz] at g'; exact g'.elim
                    rw [if_pos hsz] at g'
                    have nown : ¬ OwnA (wipeR ρ5 vs) σ Dd := fun ⟨j, c, h1, h2, h3⟩ => nacc5 ⟨j, c, (wipeR_some h1).1, h2, (k3 j (wipeR_some h1).2).trans h3⟩
                    refine ⟨vacc, hacc5, by rw [racc.length]; exact hsz, wipeR ρ5 vs, B5, vacc ++ [u], acc ++ [y], (S5.wipe vs l3.symm fun j hj => (k3 j hj).symm).tweak bacc5 nown, noV_wipe,
                      ((x4s.trans x5).wipe vs hio0 fun j hj => (k3 j hj).symm).tweak newD, s4.trans x5.bb, upd_same, bacc5, nown, (racc4.mono x5.bb).append (.cons y5 .nil), g'⟩
            | _ => exact g'.elim
    · rintro Hc ⟨ρ', B', vacc, acc, S', nv, x', s', hacc, bacc, nacc, racc, g'⟩
      rw [List.drop_length] at g'
      exact g' _ B' Hc S' x' ⟨Dd, rfl, bacc, ⟨vacc, hacc, racc⟩, nacc, newD⟩
/-- a comprehension with one for -/
theorem se_lc {elt it : Expr} {ifs : List Expr} {scope : Scope} {own : List (Str × Nat)} {w : TI} {tgt : TG} {tt : TT} {fi : IF} {g : D → Rho → Option Rho} {ft : EF} (hc : X.calm = true) (hN : X.N.Nodup) (li : SI X C tg it w fi) (ok : BlkOk X.N X.env.scope scope own)
    (hg : ∀ (s : Shared) (H : Hp) (c : Addr) (cl : List (Str × Addr)) (fp : List Addr), PG (X.blk s H scope (compEnvC scope cl c X.env) fp) tg tgt) (lg : LkGw C (own.map (·.2)) tgt g)
    (ht : ∀ (s : Shared) (H : Hp) (c : Addr) (cl : List (Str × Addr)) (fp : List Addr), PTs (X.blk s H scope (compEnvC scope cl c X.env) fp) ifs tt) (lt : LkT C.nox tt ft)
    (he : ∀ (s : Shared) (H : Hp) (c : Addr) (cl : List (Str × Addr)) (fp : List Addr), PE (X.blk s H scope (compEnvC scope cl c X.env) fp) elt te) (le : LkE C.nox te fe)
    (hs : ∀ x, foldedSetIterable it X.env x = pure x := by intro _; rfl) : SE X C (.ListComp elt [⟨tg, it, ifs, 0⟩] scope pos) (tLc w tgt tt te (own.map (·.2))) (eLc (own.map (·.2)) fi g (eNox ft) (eNox fe)) :=
  ⟨pe_lc hc hN li.pi ok hg ht he hs, lk_lc li.lk lg lt le⟩
end
end GS
namespace GS
open PySem L2
section
variable {X : Cx} {C : Ct} {ρ ρ1 : Rho} {σ σ1 σ' : St} {B H B1 H1 : Hp} {e tg : Expr} {te : TE} {fe : EF} {pos p : Pos} {vs : List Nat} {K : KW}
theorem Sim.mut (S : Sim K ρ σ B H) {i : Nat} {c : Cel} {a : Addr} {o : HO} {d : D} (hi : ρ[i]? = some (some c)) (hf : c.fl ≠ .sh) (ha : σ[i]? = some (some (.ref a))) (ow : Ow K B a (some o) d) :
    Sim K (ρ.set i (some ⟨d, c.fl⟩)) σ B (upd H a o) ∧ Ext ρ σ B H (ρ.set i (some ⟨d, c.fl⟩)) σ B (upd H a o) := by
  obtain ⟨v, ev, ok⟩ := S.sl i c hi
  rw [ha] at ev
  cases ev
  rcases ok with ⟨z, _⟩ | ⟨_, b, eb, hb, _⟩
  · exact absurd z hf
  cases eb
  refine ⟨⟨fun b u z => ?_, by rw [List.length_set]; exact S.len, fun j cj hj => ?_, fun j k cj ck b hj hk nj nk ej ek => ?_⟩, ⟨Same.refl B, fun b u z => .inl z, fun b u z n => ?_, fun b z => ?_, fun j cj hj hjf => ?_, fun j cj hj hjf => ?_⟩⟩
  · rw [upd_ne (ne_of_none z hb)]; exact S.bh _ _ z
  · rcases set_get hj with ⟨rfl, ec⟩ | ⟨ne, hj⟩
    · cases ec
      exact ⟨.ref a, ha, .inr ⟨hf, a, rfl, hb, by rw [upd_same]; exact ow⟩⟩
    · obtain ⟨v, ev, ok⟩ := S.sl j cj hj
      refine ⟨v, ev, ok.mono (Same.refl B) fun b hv hb' ho' hf' => ⟨hb', ?_⟩⟩
      have nb : b ≠ a := fun z => by
        subst z hv
        exact ne (S.dj i j c cj b hi hj hf hf' ha ev)
      rw [upd_ne nb]
  · have f1 : ∃ c1, ρ[j]? = some (some c1) ∧ c1.fl ≠ .sh := by
      rcases set_get hj with ⟨rfl, ec⟩ | ⟨_, hj⟩
      · cases ec; exact ⟨c, hi, hf⟩
      · exact ⟨cj, hj, nj⟩
    have f2 : ∃ c1, ρ[k]? = some (some c1) ∧ c1.fl ≠ .sh := by
      rcases set_get hk with ⟨rfl, ec⟩ | ⟨_, hk⟩
      · cases ec; exact ⟨c, hi, hf⟩
      · exact ⟨ck, hk, nk⟩
    obtain ⟨c1, a1, a2⟩ := f1
    obtain ⟨c2, b1, b2⟩ := f2
    exact S.dj j k c1 c2 b a1 b1 a2 b2 ej ek
  · have nb : b ≠ a := fun q => by subst q; exact n ⟨i, c, hi, hf, ha⟩
    rw [upd_ne nb]; exact z
  · obtain ⟨j, cj, hj, nj, ej⟩ := z
    rcases set_get hj with ⟨rfl, ec⟩ | ⟨_, hj⟩
    · cases ec; exact .inr ⟨i, c, hi, hf, ej⟩
    · exact .inr ⟨j, cj, hj, nj, ej⟩
  · by_cases hij : i = j
    · subst hij
      rw [hi] at hj
      cases hj
      exact ⟨rfl, _, set_at (lt_of hi), hjf⟩
    · exact ⟨rfl, cj, by rw [set_other hij]; exact hj, hjf⟩
  · rcases set_get hj with ⟨rfl, ec⟩ | ⟨_, hj⟩
    · cases ec; exact ⟨c, hi, hjf⟩
    · exact ⟨cj, hj, hjf⟩
/-- the object of an owned slot -/
theorem Sim.own (S : Sim K ρ σ B H) {i : Nat} {c : Cel} (hi : ρ[i]? = some (some c)) (hf : c.fl ≠ .sh) : ∃ a, σ[i]? = some (some (.ref a)) ∧ B a = none ∧ Ow K B a (H a) c.d := by
  obtain ⟨v, ev, ok⟩ := S.sl i c hi
  rcases ok with ⟨z, _⟩ | ⟨_, b, rfl, hb, ho⟩
  · exact absurd z hf
  · exact ⟨b, ev, hb, ho⟩
/-- a slot that may be changed -/
def mutS (ρ : Rho) (i : Nat) (k : D → Option D) : RS := match slot ρ i with
  | some ⟨d, .ow⟩ => match k d with
    | some d' => .nx (ρ.set i (some ⟨d', .ow⟩))
    | none => .stuck
  | some ⟨d, .io⟩ => match k d with
    | some d' => .nx (ρ.set i (some ⟨d', .io⟩))
    | none => .stuck
  | _ => .stuck
theorem mutS_ok {E : Ends} {i : Nat} {k : D → Option D} (g : GoodS C ρ σ B H E (mutS ρ1 i k)) : ∃ c d', ρ1[i]? = some (some c) ∧ c.fl ≠ .sh ∧ k c.d = some d' ∧ GoodS C ρ σ B H E (.nx (ρ1.set i (some ⟨d', c.fl⟩))) := by
  unfold mutS at g
  split at g
  · rename_i d es
    split at g
    · rename_i d' ek
      exact ⟨_, d', slot_some es, by simp, ek, g⟩
    · exact g.elim
  · rename_i d es
    split at g
    · rename_i d' ek
      exact ⟨_, d', slot_some es, by simp, ek, g⟩
    · exact g.elim
  · exact g.elim
def appD (y : D) : D → Option D
  | .list ds => if ds.length < sizeLine then some (.list (ds ++ [y])) else none
  | _ => none
def isL (ρ : Rho) (i : Nat) : Bool := match slot ρ i with
  | some ⟨.list _, _⟩ => true
  | _ => false
def sApp (i : Nat) (fe : EF) : SF := fun ρ => if isL ρ i then bindES (eCap fe ρ) fun h ρ1 => match h with
  | .sh y => mutS ρ1 i (appD y)
  | _ => .stuck else .stuck
theorem isL_ok (S : Sim K ρ σ B H) {i : Nat} (h : isL ρ i = true) : ∃ a vs, σ[i]? = some (some (.ref a)) ∧ SqL K H a vs := by
  unfold isL at h
  split at h
  · rename_i ds fl es
    obtain ⟨v, ev, ok⟩ := S.sl i _ (slot_some es)
    rcases ok with ⟨_, q⟩ | ⟨_, a, rfl, _, vs, q, _⟩
    · obtain ⟨a, vs, rfl, ha, _⟩ := Rp.lstE q
      exact ⟨a, vs, ev, same_l S.bh ha⟩
    · exact ⟨a, vs, ev, .inl (.inl q)⟩
  · cases h
theorem tyL {a : Addr} {vs : List V} (h : SqL K H a vs) : tyV K "list" (.ref a) H := .inl ⟨rfl, _, h⟩
theorem ss_app {i : Nat} {x : Str} {q1 q2 q3 : Pos} (l : SE X C e te fe) (hN : X.N[i]? = some x := by rfl) (hv : Vis X.env.scope x := by first | exact Or.inl rfl | exact Or.inr (Or.inl rfl) | exact Or.inr (Or.inr rfl)) (hd : (x == ("__debug__" : Str)) = false := by decide)
    (hcd : (x == ("__classdict__" : Str)) = false := by decide) (hk : X.K = C.K := by rfl) (hs : starEach [e] X.env = (false, eval e X.env) :: starEach [] X.env := by rfl)
    (hfew : ((backTo q3 (starEach [e] X.env)).all (fun x => !x.1) && (backToKw q3 (keywordEach [] X.env)).all (fun x => x.1.isSome) && decide ([e].length + ([] : List Keyword).length + (if ([] : List Keyword).isEmpty then 0 else 1) < 30)) = true := by rfl)
    (hline : (q2.endLine == q3.line) = true := by rfl) :
    SS X C (.Expr (.Call (.Attribute (.Name x q1) "append" q2) [e] [] q3) pos) (tDrop (tBM C.K "list" rAppend (tVar i) (tCons te tNil))) (sApp i fe) := by
  refine ⟨by rw [← hk]; exact ps_expr (pe_bm PySem.F.plainAttrs_list PySem.F.slot_list_append PySem.F.type_list_append mt_append (pe_var hN hv hd hcd) (pa_cons l.pe pa_nil hs) rfl hfew hline hs), fun ρ σ B H E S g => ?_⟩
  unfold sApp at g
  by_cases hl : isL ρ i = true
  case neg => rw [if_neg hl] at g; exact g.elim
  rw [if_pos hl] at g
  obtain ⟨a, vs, ea, sq⟩ := isL_ok S hl
  refine ⟨.ref a, ea, tyL sq, ?_⟩
  refine l.lk.cap.bindS S g fun hd ρ1 v B1 H1 S1 x1 y1 g1 => ?_
  cases hd with
  | sh y =>
    obtain ⟨c, d', h1, h2, h3, h4⟩ := mutS_ok g1
    obtain ⟨a', ea', hb, ow⟩ := S1.own h1 h2
    rw [ea] at ea'
    cases ea'
    obtain ⟨d, fl⟩ := c
    cases d with
    | list ds =>
      obtain ⟨hc, rfl⟩ := if_some (show (if ds.length < sizeLine then some (.list (ds ++ [y])) else none) = some d' from h3)
      obtain ⟨ws, ew, rw'⟩ := ow
      have ow' : Ow C.K B1 a (some (.lst (ws ++ [v]))) (.list (ds ++ [y])) := ⟨_, rfl, rw'.append (.cons y1 .nil)⟩
      obtain ⟨S2, x2⟩ := S1.mut h1 h2 ea ow'
      exact ⟨a, ws, v, rfl, rfl, ew, by rw [rw'.length]; exact hc, h4 _ _ _ S2 (x1.trans x2)⟩
    | _ => cases h3
  | _ => exact g1.elim
end
def ioC : Option Cel → Option Cel
  | some ⟨d, .io⟩ => some ⟨d, .io⟩
  | _ => none
def outR (ρ : Rho) (n : Nat) : Rho := (List.range n).map fun i => ioC (slot ρ i)
def fnF (m n : Nat) (g : SF) : FF := fun ρ => match g (ρ ++ List.replicate (m - n) none) with
  | .rt (.bw _) _ => .stuck
  | .rt h ρ1 => .ok h (outR ρ1 n)
  | .nx ρ1 => .ok (.sh .none) (outR ρ1 n)
  | .exc x ρ1 => .exc x (outR ρ1 n)
  | _ => .stuck
theorem ioC_some {o : Option Cel} {c : Cel} (h : ioC o = some c) : o = some c ∧ c.fl = .io := by
  unfold ioC at h
  split at h
  · cases h; exact ⟨rfl, rfl⟩
  · cases h
theorem outR_at {ρ : Rho} {n i : Nat} {c : Cel} (h : (outR ρ n)[i]? = some (some c)) : i < n ∧ ρ[i]? = some (some c) ∧ c.fl = .io := by
  unfold outR at h
  rw [List.getElem?_map] at h
  by_cases hi : i < n
  · rw [List.getElem?_range hi] at h
    obtain ⟨q1, q2⟩ := ioC_some (Option.some.inj h)
    exact ⟨hi, slot_some q1, q2⟩
  · rw [List.getElem?_eq_none (by rw [List.length_range]; omega)] at h
    cases h
theorem slot_of {ρ : Rho} {i : Nat} {c : Cel} (h : ρ[i]? = some (some c)) : slot ρ i = some c := by
  unfold slot
  rw [h]
theorem outR_has {ρ : Rho} {n i : Nat} {c : Cel} (hi : i < n) (h : ρ[i]? = some (some c)) (hf : c.fl = .io) : (outR ρ n)[i]? = some (some c) := by
  unfold outR
  rw [List.getElem?_map, List.getElem?_range hi]
  show some (ioC (slot ρ i)) = _
  rw [slot_of h]
  obtain ⟨d, fl⟩ := c
  cases hf
  rfl
section
variable {K : KW} {ρ ρ1 : Rho} {σ1 : St} {B H B1 H1 : Hp} {N : List Str} {vs : List V} {n : Nat}
theorem start_get {i : Nat} (h : i < vs.length) : (L2.start N vs)[i]? = (vs.map some)[i]? := by
  unfold L2.start
  rw [List.getElem?_append_left (by simpa using h)]
theorem ap_get {m : Nat} {i : Nat} {c : Cel} (h : (ρ ++ List.replicate m none)[i]? = some (some c)) : i < ρ.length ∧ ρ[i]? = some (some c) := by
  by_cases hi : i < ρ.length
  · rw [List.getElem?_append_left hi] at h; exact ⟨hi, h⟩
  · rw [List.getElem?_append_right (by omega), List.getElem?_replicate] at h
    split at h <;> cases h
theorem ap_of {m : Nat} {i : Nat} {c : Cel} (h : ρ[i]? = some (some c)) : (ρ ++ List.replicate m none)[i]? = some (some c) := by
  rw [List.getElem?_append_left (lt_of h)]; exact h
theorem entry_own {m : Nat} (hl : ρ.length = vs.length) {a : Addr} : OwnA (ρ ++ List.replicate m none) (L2.start N vs) a ↔ OwnA ρ (vs.map some) a := by
  constructor
  · rintro ⟨i, c, h1, h2, h3⟩
    obtain ⟨q1, q2⟩ := ap_get h1
    exact ⟨i, c, q2, h2, by rw [← start_get (by omega)]; exact h3⟩
  · rintro ⟨i, c, h1, h2, h3⟩
    exact ⟨i, c, ap_of h1, h2, by rw [start_get (by have := lt_of h1; omega)]; exact h3⟩
theorem entry_sim (S : Sim K ρ (vs.map some) B H) (hN : vs.length ≤ N.length) : Sim K (ρ ++ List.replicate (N.length - vs.length) none) (L2.start N vs) B H := by
  have hl : ρ.length = vs.length := by rw [S.len, List.length_map]
  refine ⟨S.bh, ?_, fun i c h => ?_, fun i j ci cj a hi hj ni nj ei ej => ?_⟩
  · unfold L2.start
    rw [List.length_append, List.length_append, List.length_replicate, List.length_replicate, List.length_map, hl]
  · obtain ⟨q1, q2⟩ := ap_get h
    obtain ⟨v, ev, ok⟩ := S.sl i c q2
    exact ⟨v, by rw [start_get (by omega)]; exact ev, ok⟩
  · obtain ⟨q1, q2⟩ := ap_get hi
    obtain ⟨q3, q4⟩ := ap_get hj
    rw [start_get (by omega)] at ei ej
    exact S.dj i j ci cj a q2 q4 ni nj ei ej
/-- the body's end as the caller sees it -/
theorem exit_sim {m : Nat} (S : Sim K ρ (vs.map some) B H) (hn : ρ.length = n) (S1 : Sim K ρ1 σ1 B1 H1) (x : Ext (ρ ++ List.replicate m none) (L2.start N vs) B H ρ1 σ1 B1 H1) :
    Sim K (outR ρ1 n) (vs.map some) B1 H1 ∧ Ext ρ (vs.map some) B H (outR ρ1 n) (vs.map some) B1 H1 ∧ (∀ a, OwnA (outR ρ1 n) (vs.map some) a → OwnA ρ1 σ1 a) ∧ ∀ a, New (ρ ++ List.replicate m none) (L2.start N vs) H a → New ρ (vs.map some) H a := by
  have hl : ρ.length = vs.length := by rw [S.len, List.length_map]
  have hnew : ∀ a, New (ρ ++ List.replicate m none) (L2.start N vs) H a → New ρ (vs.map some) H a := fun a h => h.imp id (entry_own hl).mp
  -- a lent slot stands as at the entry
  have same : ∀ (i : Nat) (c : Cel), (outR ρ1 n)[i]? = some (some c) → i < vs.length ∧ ρ1[i]? = some (some c) ∧ c.fl = .io ∧ σ1[i]? = (vs.map some)[i]? := fun i c h => by
    obtain ⟨q1, q2, q3⟩ := outR_at h
    obtain ⟨c', r1, r2⟩ := x.oi i c q2 q3
    obtain ⟨w1, _⟩ := ap_get r1
    have e := (x.io i c' r1 r2).1
    rw [start_get (by omega)] at e
    exact ⟨by omega, q2, q3, e⟩
  have own : ∀ a, OwnA (outR ρ1 n) (vs.map some) a → OwnA ρ1 σ1 a := fun a ⟨i, c, h1, h2, h3⟩ => by
    obtain ⟨_, q2, _, q4⟩ := same i c h1
    exact ⟨i, c, q2, h2, q4.trans h3⟩
  refine ⟨⟨S1.bh, ?_, fun i c h => ?_, fun i j ci cj a hi hj ni nj ei ej => ?_⟩, ⟨x.bb, fun a o h => (x.nw a o h).imp id (hnew a), fun a o h z => x.kp a o h fun w => z ((entry_own hl).mp w), fun a h => hnew a (x.sub a (own a h)), fun i c h1 h2 => ?_, fun i c h1 h2 => ?_⟩, own, hnew⟩
  · unfold outR
    rw [List.length_map, List.length_range, List.length_map]
    omega
  · obtain ⟨_, q2, _, q4⟩ := same i c h
    obtain ⟨v, ev, ok⟩ := S1.sl i c q2
    exact ⟨v, q4.symm.trans ev, ok⟩
  · obtain ⟨_, q2, _, q4⟩ := same i ci hi
    obtain ⟨_, r2, _, r4⟩ := same j cj hj
    exact S1.dj i j ci cj a q2 r2 ni nj (q4.trans ei) (r4.trans ej)
  · obtain ⟨_, c', q1, q2⟩ := x.io i c (ap_of h1) h2
    exact ⟨rfl, c', outR_has (by have := lt_of h1; omega) q1 q2, q2⟩
  · obtain ⟨_, q2, q3, _⟩ := same i c h1
    obtain ⟨c', r1, r2⟩ := x.oi i c q2 q3
    exact ⟨c', (ap_get r1).2, r2⟩
end
section
variable {P : Program} {w : World} {K : KW} {mg : Str → Option Value} {base : Heap} {cv : Str → Value}
abbrev cxF (P : Program) (w : World) (K : PySem.W.Frag) (mg : Str → Option Value) (base : Heap) (N : List Str) (qual : Str) (st : Stmt) (f : Addr) (cdv : Value) (A : Around) (outer : List Env) (s : Shared) (H : Hp) (E : XK) : Cx :=
  cxOf (L2.CX P w) P w K mg base N qual (defScope st) f cdv A outer s H E
abbrev ctF (K : KW) (cv : Str → Value) (E : XK) : Ct := ⟨K, cv, fun cls d _ H' => E cls d H'⟩
/-- THE RULE for a def: from its body -/
theorem fn_mk {x qual : Str} {st : Stmt} {f : Addr} {fd : FuncData} {N ps : List Str} {k : Nat} {g : SF} (F : Fun K x qual st f fd) (S : FnScope N ps (defScope st))
    (hb : ∀ (cdv : Value) (A : Around) (outer : List Env) (s : Shared) (H : Hp) (E : XK), Room k (cxF P w K mg base N qual st f cdv A outer s H E).A → Takes (cxF P w K mg base N qual st f cdv A outer s H E) (ctF K cv E).W →
      PassesOwn (model P w) (cxF P w K mg base N qual st f cdv A outer s H E).A (cxF P w K mg base N qual st f cdv A outer s H E).env (cxF P w K mg base N qual st f cdv A outer s H E).xe →
      ∃ t, SSs (cxF P w K mg base N qual st f cdv A outer s H E) (ctF K cv E) (defBody st) t g) :
    FnOk P w K mg base (L2.CX P w) (k + 1) f fd ps (spF K cv ps.length (fnF N.length ps.length g)) := by
  have hpl : ps.length ≤ N.length := by have := congrArg List.length S.pre; rw [List.length_take] at this; omega
  refine F.okX S (fun vs H Q E h => ?_) (fun cdv A outer s H vs Q E hr h => ?_)
  · obtain ⟨ρ, B, hl, Sm, _⟩ := h
    have := Sm.len
    rw [List.length_map] at this
    omega
  · obtain ⟨ρ, B, hl, Sm, gd⟩ := h
    have hv : vs.length = ps.length := by
      have := Sm.len
      rw [List.length_map] at this
      omega
    obtain ⟨t, ht⟩ := hb cdv A outer s H E hr (takes_of rfl rfl rfl rfl) (passes_of rfl)
    refine ⟨t, ht.ps, ht.lk (ρ ++ List.replicate (N.length - ps.length) none) _ B H _ (by rw [← hv]; exact entry_sim Sm (by omega)) ?_⟩
    unfold fnF at gd
    cases eg : g (ρ ++ List.replicate (N.length - ps.length) none) with
    | stuck => rw [eg] at gd; exact gd
    | bk _ => rw [eg] at gd; exact gd.elim
    | ct _ => rw [eg] at gd; exact gd.elim
    | nx ρ1 =>
      rw [eg] at gd
      intro σ1 B1 H1 S1 x1
      obtain ⟨S2, x2, _, _⟩ := exit_sim Sm hl S1 x1
      exact gd .non B1 H1 S2 x2 .non
    | exc c ρ1 =>
      rw [eg] at gd
      intro cls dct σ1 B1 H1 S1 x1 ok
      obtain ⟨S2, x2, _, _⟩ := exit_sim Sm hl S1 x1
      exact gd cls dct B1 H1 S2 x2 ok
    | rt h ρ1 =>
      rw [eg] at gd
      intro v σ1 B1 H1 S1 x1 y1
      obtain ⟨S2, x2, n1, n2⟩ := exit_sim Sm hl S1 x1
      cases h with
      | sh d => exact gd v B1 H1 S2 x2 y1
      | fr d =>
        obtain ⟨a, r1, r2, r3, r4, r5⟩ := y1
        exact gd v B1 H1 S2 x2 ⟨a, r1, r2, r3, fun z => r4 (n1 a z), n2 a r5⟩
      | bw i => exact gd.elim
theorem fn_zero {f : Addr} {fd : FuncData} {ps : List Str} {n : Nat} (hn : n = ps.length) : FnOk P w K mg base (L2.CX P w) 0 f fd ps (spF K cv n fun _ => .stuck) :=
  ⟨fun vs H Q E ⟨_, _, _, _, h⟩ => h.elim, fun A outer s H args us vs Q E _ _ _ _ ⟨_, _, _, _, h⟩ => h.elim⟩
theorem rpl_ints {B : Hp} : ∀ ns : List Int, RpL K B (ns.map V.int) (ns.map PyData.int)
  | [] => .nil
  | n :: ns => .cons (.int n) (rpl_ints ns)
/-- the law's promise from what it computes -/
theorem law_sp {F : FF} {H : Hp} {a : Addr} {ns : List Int} {outs : Rho} (h : SqL K H a (ns.map V.int)) (e : F [some ⟨.list (ns.map .int), .sh⟩] = .ok (.sh (.bool true)) outs) {E : XK} :
    spF K cv 1 F [.ref a] H (fun v _ => v = .bl true) E := by
  refine ⟨[some ⟨.list (ns.map .int), .sh⟩], H, rfl, ⟨Same.refl H, rfl, fun i c hi => ?_, fun i j ci cj b hi hj ni nj _ _ => ?_⟩, ?_⟩
  · match i, hi with
    | 0, hi =>
      cases hi
      exact ⟨.ref a, rfl, .inl ⟨rfl, .lst h (rpl_ints ns)⟩⟩
    | i + 1, hi => simp at hi
  · match i, hi with
    | 0, hi =>
      cases hi
      exact absurd rfl ni
    | i + 1, hi => simp at hi
  · rw [e]
    intro v B' H' S x y
    cases (show Rp K B' v (.bool true) from y)
    rfl
end
end GS
namespace GS
open PySem L2
section
variable {X : Cx} {C : Ct} {ρ ρ1 : Rho} {σ σ1 σ' : St} {B H B1 H1 : Hp} {e tg : Expr} {te : TE} {fe : EF} {pos p : Pos} {vs : List Nat} {K : KW}
/-- a name handed back: its own list is given away -/
def eRv (i : Nat) : EF := fun ρ => match slot ρ i with
  | some ⟨d, .sh⟩ => .ok (.sh d) ρ
  | some ⟨d, .ow⟩ => .ok (.fr d) (ρ.set i none)
  | _ => .stuck
theorem lk_rv {i : Nat} : LkE C (tVar i) (eRv i) := fun ρ σ B H Q S g => by
  unfold eRv at g
  cases h : slot ρ i with
  | none => rw [h] at g; exact g.elim
  | some c =>
    rw [h] at g
    obtain ⟨d, fl⟩ := c
    have hi := slot_some h
    cases fl with
    | sh =>
      obtain ⟨v, e, q⟩ := S.sl i _ hi
      rcases q with ⟨_, q⟩ | ⟨q, _⟩
      · exact ⟨v, e, g v B H S Ext.refl q⟩
      · exact absurd rfl q
    | ow =>
      obtain ⟨a, e, S1, x1, r⟩ := S.give hi
      exact ⟨.ref a, e, g _ B H S1 x1 r⟩
    | io => exact g.elim
theorem se_rv (i : Nat) {x : Str} (hN : X.N[i]? = some x := by rfl) (hv : Vis X.env.scope x := by first | exact Or.inl rfl | exact Or.inr (Or.inl rfl) | exact Or.inr (Or.inr rfl)) (hd : (x == ("__debug__" : Str)) = false := by decide)
    (hcd : (x == ("__classdict__" : Str)) = false := by decide) : SE X C (.Name x pos) (tVar i) (eRv i) := ⟨pe_var hN hv hd hcd, lk_rv⟩
/-- targets and tests of a comprehension -/
structure SGw (X : Cx) (C : Ct) (vs : List Nat) (tg : Expr) (t : TG) (f : D → Rho → Option Rho) : Prop where
  pg : PG X tg t
  lk : LkGw C vs t f
structure SGws (X : Cx) (C : Ct) (vs : List Nat) (tg : List Expr) (t : TGs) (f : List D → Rho → Option Rho) : Prop where
  pg : PGs X tg t
  lk : LkGws C vs t f
theorem sgw_name {i : Nat} {x : Str} (hN : X.N.Nodup) (hm : i ∈ vs := by simp) (hi : X.N[i]? = some x := by rfl) (hx : Loc X.env.scope x := by first | exact Or.inl rfl | exact Or.inr rfl)
    (hf : X.fn x = true ∨ X.env.scope.names.lookup x = some .local := by first | exact .inl rfl | exact .inr rfl | assumption) : SGw X C vs (.Name x pos) (gName i) (gN i) := ⟨pg_name hN hi hx hf, lkw_N hm⟩
theorem sgws_nil : SGws X C vs [] gNil gsN := ⟨pgs_nil, lkw_nil⟩
theorem sgws_cons {a : Expr} {as : List Expr} {tg : TG} {tgs : TGs} {f : D → Rho → Option Rho} {g : List D → Rho → Option Rho} (h : SGw X C vs a tg f) (t : SGws X C vs as tgs g) (hs : (assignEach (a :: as) X.env).map (·.2) = assign a X.env :: (assignEach as X.env).map (·.2) := by rfl) : SGws X C vs (a :: as) (gCons tg tgs) (gsC f g) := ⟨pgs_cons h.pg t.pg hs, lkw_C h.lk t.lk⟩
theorem sgw_tup {as : List Expr} {tgs : TGs} {n k : Nat} {g : List D → Rho → Option Rho} (hc : X.calm = true) (t : SGws X C vs as tgs g) (hk : X.K = C.K := by rfl) (hn : (assignEach as X.env).length = n := by rfl) (hst : (assignEach as X.env).findIdx? (·.1) = none := by rfl) : SGw X C vs (.Tuple as k pos) (gTL C.K n tgs) (gT n g) := ⟨by rw [← hk]; exact pg_tl hc t.pg hn hst, lkw_T t.lk⟩
structure SP (X : Cx) (C : Ct) (ifs : List Expr) (t : TT) (f : EF) : Prop where
  pt : PTs X ifs t
  lk : LkT C t f
def eYes : EF := fun ρ => .ok (.sh (.bool true)) ρ
theorem sp_nil : SP X C [] tYes eYes := ⟨pts_nil, fun ρ σ B H Q S g => g B H S Ext.refl⟩
theorem sp_one {t : TT} {f : EF} (h : ST X C e t f) : SP X C [e] t f := ⟨pts_one h.pt, h.lk⟩
abbrev bk (X : Cx) (scope : Scope) (s : Shared) (H : Hp) (c : Addr) (cl : List (Str × Addr)) (fp : List Addr) : Cx := X.blk s H scope (compEnvC scope cl c X.env) fp
theorem se_comp {elt it : Expr} {ifs : List Expr} {scope : Scope} {own : List (Str × Nat)} {w : TI} {tgt : TG} {tt : TT} {fi : IF} {g : D → Rho → Option Rho} {ft : EF} (hc : X.calm = true) (hN : X.N.Nodup) (ok : BlkOk X.N X.env.scope scope own) (li : SI X C tg it w fi)
    (hg : ∀ s H c cl fp, SGw (bk X scope s H c cl fp) C (own.map (·.2)) tg tgt g) (ht : ∀ s H c cl fp, SP (bk X scope s H c cl fp) C.nox ifs tt ft) (he : ∀ s H c cl fp, SE (bk X scope s H c cl fp) C.nox elt te fe)
    (hs : ∀ x, foldedSetIterable it X.env x = pure x := by intro _; rfl) : SE X C (.ListComp elt [⟨tg, it, ifs, 0⟩] scope pos) (tLc w tgt tt te (own.map (·.2))) (eLc (own.map (·.2)) fi g (eNox ft) (eNox fe)) :=
  se_lc hc hN li ok (fun s H c cl fp => (hg s H c cl fp).pg) (hg X.s_0 X.H_0 0 [] []).lk (fun s H c cl fp => (ht s H c cl fp).pt) (ht X.s_0 X.H_0 0 [] []).lk (fun s H c cl fp => (he s H c cl fp).pe) (he X.s_0 X.H_0 0 [] []).lk hs
/-- x = [..] -/
theorem ss_setLc {i : Nat} {y : Str} {py spos : Pos} {elt it : Expr} {ifs : List Expr} {scope : Scope} {own : List (Str × Nat)} {w : TI} {tgt : TG} {tt : TT} {fi : IF} {g : D → Rho → Option Rho} {ft : EF} (hc : X.calm = true) (hN : X.N.Nodup) (ok : BlkOk X.N X.env.scope scope own) (li : SI X C tg it w fi)
    (hg : ∀ s H c cl fp, SGw (bk X scope s H c cl fp) C (own.map (·.2)) tg tgt g) (ht : ∀ s H c cl fp, SP (bk X scope s H c cl fp) C.nox ifs tt ft) (he : ∀ s H c cl fp, SE (bk X scope s H c cl fp) C.nox elt te fe)
    (hsw : swapsWith (.ListComp elt [⟨tg, it, ifs, 0⟩] scope pos) (some (.Name y py)) spos.line X.env = pure true) (hy : X.N[i]? = some y := by rfl) (hyl : X.env.scope.names.lookup y = some .local := by rfl)
    (hs : ∀ x, foldedSetIterable it X.env x = pure x := by intro _; rfl) : SS X C (.Assign [.Name y py] (.ListComp elt [⟨tg, it, ifs, 0⟩] scope pos) spos) (tAsg (tLc w tgt tt te (own.map (·.2))) (gName i)) (sSet i (eLc (own.map (·.2)) fi g (eNox ft) (eNox fe))) :=
  ⟨ps_setLc hc hN hy hyl hsw li.pi ok (fun s H c cl fp => (hg s H c cl fp).pg) (fun s H c cl fp => (ht s H c cl fp).pt) (fun s H c cl fp => (he s H c cl fp).pe) hs,
    lk_set (lk_lc li.lk (hg X.s_0 X.H_0 0 [] []).lk (ht X.s_0 X.H_0 0 [] []).lk (he X.s_0 X.H_0 0 [] []).lk)⟩
end
theorem fn_of' {P : Program} {w : World} {K : KW} {mg : Str → Option Value} {base : Heap} {cv : Str → Value} {x qual : Str} {st : Stmt} {f : Addr} {fd : FuncData} (N : List Str) {ps : List Str} {k m n : Nat} {g : SF} (hm : N.length = m) (hn : ps.length = n) (F : Fun K x qual st f fd) (S : FnScope N ps (defScope st))
    (hb : ∀ (cdv : Value) (A : Around) (outer : List Env) (s : Shared) (H : Hp) (E : XK), Room k (cxF P w K mg base N qual st f cdv A outer s H E).A → Takes (cxF P w K mg base N qual st f cdv A outer s H E) (ctF K cv E).W →
      PassesOwn (model P w) (cxF P w K mg base N qual st f cdv A outer s H E).A (cxF P w K mg base N qual st f cdv A outer s H E).env (cxF P w K mg base N qual st f cdv A outer s H E).xe →
      ∃ t, SSs (cxF P w K mg base N qual st f cdv A outer s H E) (ctF K cv E) (defBody st) t g) :
    FnOk P w K mg base (L2.CX P w) (k + 1) f fd ps (spF K cv n (fnF m n g)) := by
  subst hm hn
  exact fn_mk F S hb
end GS
namespace GS
open PySem L2
section
variable {ρ ρ1 : Rho} {c : Prop} [Decidable c]
@[simp] theorem bindE_ok (h : Hd) (k : Hd → Rho → RE) : bindE (.ok h ρ) k = k h ρ := rfl
@[simp] theorem bindE_st (k : Hd → Rho → RE) : bindE .stuck k = .stuck := rfl
@[simp] theorem bindE_ex (x : Xc) (k : Hd → Rho → RE) : bindE (.exc x ρ) k = .exc x ρ := rfl
@[simp] theorem bindE_if (a b : RE) (k : Hd → Rho → RE) : bindE (if c then a else b) k = if c then bindE a k else bindE b k := by split <;> rfl
@[simp] theorem bindB_ok (b : Bool) (k : Bool → Rho → RE) : bindB (.ok (.sh (.bool b)) ρ) k = k b ρ := rfl
@[simp] theorem bindB_st (k : Bool → Rho → RE) : bindB .stuck k = .stuck := rfl
@[simp] theorem bindB_ex (x : Xc) (k : Bool → Rho → RE) : bindB (.exc x ρ) k = .exc x ρ := rfl
@[simp] theorem bindB_if (a b : RE) (k : Bool → Rho → RE) : bindB (if c then a else b) k = if c then bindB a k else bindB b k := by split <;> rfl
@[simp] theorem bindA_ok (h : List Hd) (k : List Hd → Rho → RE) : bindA (.ok h ρ) k = k h ρ := rfl
@[simp] theorem bindA_st (k : List Hd → Rho → RE) : bindA .stuck k = .stuck := rfl
@[simp] theorem bindA_ex (x : Xc) (k : List Hd → Rho → RE) : bindA (.exc x ρ) k = .exc x ρ := rfl
@[simp] theorem bindA_if (a b : RA) (k : List Hd → Rho → RE) : bindA (if c then a else b) k = if c then bindA a k else bindA b k := by split <;> rfl
@[simp] theorem bindES_ok (h : Hd) (k : Hd → Rho → RS) : bindES (.ok h ρ) k = k h ρ := rfl
@[simp] theorem bindES_st (k : Hd → Rho → RS) : bindES .stuck k = .stuck := rfl
@[simp] theorem bindES_ex (x : Xc) (k : Hd → Rho → RS) : bindES (.exc x ρ) k = .exc x ρ := rfl
@[simp] theorem bindES_if (a b : RE) (k : Hd → Rho → RS) : bindES (if c then a else b) k = if c then bindES a k else bindES b k := by split <;> rfl
@[simp] theorem bindBS_ok (b : Bool) (k : Bool → Rho → RS) : bindBS (.ok (.sh (.bool b)) ρ) k = k b ρ := rfl
@[simp] theorem bindBS_st (k : Bool → Rho → RS) : bindBS .stuck k = .stuck := rfl
@[simp] theorem bindBS_ex (x : Xc) (k : Bool → Rho → RS) : bindBS (.exc x ρ) k = .exc x ρ := rfl
@[simp] theorem bindBS_if (a b : RE) (k : Bool → Rho → RS) : bindBS (if c then a else b) k = if c then bindBS a k else bindBS b k := by split <;> rfl
@[simp] theorem bindEI_ok (h : Hd) (k : Hd → Rho → RI) : bindEI (.ok h ρ) k = k h ρ := rfl
@[simp] theorem bindEI_st (k : Hd → Rho → RI) : bindEI .stuck k = .stuck := rfl
@[simp] theorem bindEI_ex (x : Xc) (k : Hd → Rho → RI) : bindEI (.exc x ρ) k = .exc x ρ := rfl
@[simp] theorem bindEI_if (a b : RE) (k : Hd → Rho → RI) : bindEI (if c then a else b) k = if c then bindEI a k else bindEI b k := by split <;> rfl
@[simp] theorem bindS_nx (k : Rho → RS) : bindS (.nx ρ) k = k ρ := rfl
@[simp] theorem bindS_st (k : Rho → RS) : bindS .stuck k = .stuck := rfl
@[simp] theorem bindS_rt (h : Hd) (k : Rho → RS) : bindS (.rt h ρ) k = .rt h ρ := rfl
@[simp] theorem bindS_ex (x : Xc) (k : Rho → RS) : bindS (.exc x ρ) k = .exc x ρ := rfl
@[simp] theorem bindS_bk (k : Rho → RS) : bindS (.bk ρ) k = .bk ρ := rfl
@[simp] theorem bindS_ct (k : Rho → RS) : bindS (.ct ρ) k = .ct ρ := rfl
@[simp] theorem bindS_if (a b : RS) (k : Rho → RS) : bindS (if c then a else b) k = if c then bindS a k else bindS b k := by split <;> rfl
@[simp] theorem slot_nil (i : Nat) : slot [] i = none := rfl
@[simp] theorem slot_zero (x : Option Cel) : slot (x :: ρ) 0 = x := by cases x <;> rfl
@[simp] theorem slot_succ (x : Option Cel) (i : Nat) : slot (x :: ρ) (i + 1) = slot ρ i := rfl
@[simp] theorem getH_sh (d : D) : getH ρ (.sh d) = some d := rfl
@[simp] theorem getH_fr (d : D) : getH ρ (.fr d) = some d := rfl
@[simp] theorem getH_bw (i : Nat) : getH ρ (.bw i) = (slot ρ i).map (·.d) := rfl
@[simp] theorem setl_sh (d : D) : setl (.sh d) = .sh d := rfl
@[simp] theorem setl_fr (d : D) : setl (.fr d) = .sh d := rfl
@[simp] theorem setl_bw (i : Nat) : setl (.bw i) = .bw i := rfl
@[simp] theorem capH_sh (d : D) : capH ρ (.sh d) = some d := rfl
@[simp] theorem capH_fr (d : D) : capH ρ (.fr d) = some d := rfl
@[simp] theorem capH_bw (i : Nat) : capH ρ (.bw i) = match slot ρ i with | some ⟨d, .sh⟩ => some d | _ => none := rfl
@[simp] theorem eC_eq (d : D) : eC d ρ = .ok (.sh d) ρ := rfl
@[simp] theorem eVb_eq (i : Nat) : eVb i ρ = match slot ρ i with | some _ => .ok (.bw i) ρ | none => .stuck := rfl
@[simp] theorem eMv_eq (i : Nat) : eMv i ρ = match slot ρ i with | some ⟨d, .sh⟩ => .ok (.sh d) ρ | some ⟨d, .ow⟩ => .ok (.sh d) (ρ.set i (some ⟨d, .sh⟩)) | _ => .stuck := rfl
@[simp] theorem eRv_eq (i : Nat) : eRv i ρ = match slot ρ i with | some ⟨d, .sh⟩ => .ok (.sh d) ρ | some ⟨d, .ow⟩ => .ok (.fr d) (ρ.set i none) | _ => .stuck := rfl
@[simp] theorem eCap_eq (f : EF) : eCap f ρ = bindE (f ρ) fun h ρ' => match capH ρ' h with | some d => .ok (.sh d) ρ' | none => .stuck := rfl
@[simp] theorem eSet_eq (f : EF) : eSet f ρ = bindE (f ρ) fun h ρ' => .ok (setl h) ρ' := rfl
/-- of two data -/
def resO (o : Option Hd) (ρ : Rho) : RE := match o with | some h => .ok h ρ | none => .stuck
@[simp] theorem resO_s (h : Hd) : resO (some h) ρ = .ok h ρ := rfl
@[simp] theorem resO_n : resO none ρ = .stuck := rfl
@[simp] theorem resO_if (a b : Option Hd) : resO (if c then a else b) ρ = if c then resO a ρ else resO b ρ := by split <;> rfl
def bin2 (o : D → D → Option Hd) (a b : Option D) (ρ : Rho) : RE := match a, b with
  | some x, some y => resO (o x y) ρ
  | _, _ => .stuck
@[simp] theorem bin2_s (o : D → D → Option Hd) (x y : D) : bin2 o (some x) (some y) ρ = resO (o x y) ρ := rfl
@[simp] theorem eBin_eq (o : D → D → Option Hd) (f g : EF) : eBin o f g ρ = bindE (eSet f ρ) fun ha ρ1 => bindE (eSet g ρ1) fun hb ρ2 => bin2 o (getH ρ2 ha) (getH ρ2 hb) ρ2 := by
  unfold eBin bin2 resO
  rfl
def chn (o' : D → D → Option Hd) (hb : Hd) (fc : EF) (r : Option Hd) (ρ2 : Rho) : RE := match r with
  | some (.sh (.bool b)) => if b then bindE (eSet fc ρ2) (fun hc ρ3 => bin2 o' (getH ρ3 hb) (getH ρ3 hc) ρ3) else .ok (.sh (.bool false)) ρ2
  | _ => .stuck
@[simp] theorem chn_b (o' : D → D → Option Hd) (hb : Hd) (fc : EF) (b : Bool) : chn o' hb fc (some (.sh (.bool b))) ρ = if b then bindE (eSet fc ρ) (fun hc ρ3 => bin2 o' (getH ρ3 hb) (getH ρ3 hc) ρ3) else .ok (.sh (.bool false)) ρ := rfl
def chn0 (o o' : D → D → Option Hd) (hb : Hd) (fc : EF) (a b : Option D) (ρ2 : Rho) : RE := match a, b with
  | some x, some y => chn o' hb fc (o x y) ρ2
  | _, _ => .stuck
@[simp] theorem chn0_s (o o' : D → D → Option Hd) (hb : Hd) (fc : EF) (x y : D) : chn0 o o' hb fc (some x) (some y) ρ = chn o' hb fc (o x y) ρ := rfl
@[simp] theorem eChain_eq (o o' : D → D → Option Hd) (fa fb fc : EF) : eChain o o' fa fb fc ρ = bindE (eSet fa ρ) fun ha ρ1 => bindE (eSet fb ρ1) fun hb ρ2 => chn0 o o' hb fc (getH ρ2 ha) (getH ρ2 hb) ρ2 := by
  unfold eChain chn0 chn bin2 resO
  rfl
def tst (d : Option D) (ρ : Rho) : RE := match d with
  | some (.bool b) => .ok (.sh (.bool b)) ρ
  | _ => .stuck
@[simp] theorem tst_b (b : Bool) : tst (some (.bool b)) ρ = .ok (.sh (.bool b)) ρ := rfl
@[simp] theorem eB_eq (f : EF) : eB f ρ = bindE (eSet f ρ) fun h ρ1 => tst (getH ρ1 h) ρ1 := by unfold eB tst; rfl
@[simp] theorem eNot_eq (f : EF) : eNot f ρ = bindB (f ρ) fun b ρ1 => .ok (.sh (.bool (!b))) ρ1 := rfl
@[simp] theorem eAnd_eq (f g : EF) : eAnd f g ρ = bindB (f ρ) fun b ρ1 => if b then g ρ1 else .ok (.sh (.bool false)) ρ1 := rfl
@[simp] theorem eOr_eq (f g : EF) : eOr f g ρ = bindB (f ρ) fun b ρ1 => if b then .ok (.sh (.bool true)) ρ1 else g ρ1 := rfl
@[simp] theorem eIf_eq (f g h : EF) : eIf f g h ρ = bindB (f ρ) fun b ρ1 => if b then g ρ1 else h ρ1 := rfl
def negR (d : Option D) (ρ : Rho) : RE := match d with
  | some (.int i) => .ok (.sh (.int (-i))) ρ
  | _ => .stuck
@[simp] theorem negR_i (i : Int) : negR (some (.int i)) ρ = .ok (.sh (.int (-i))) ρ := rfl
@[simp] theorem eNeg_eq (f : EF) : eNeg f ρ = bindE (eSet f ρ) fun h ρ1 => negR (getH ρ1 h) ρ1 := by unfold eNeg negR; rfl
@[simp] theorem ePart_n (k : Option Int → Rho → RE) : ePart none ρ k = k none ρ := rfl
def partR (d : Option D) (ρ : Rho) (k : Option Int → Rho → RE) : RE := match d with
  | some (.int i) => k (some i) ρ
  | _ => .stuck
@[simp] theorem partR_i (i : Int) (k : Option Int → Rho → RE) : partR (some (.int i)) ρ k = k (some i) ρ := rfl
@[simp] theorem ePart_s (f : EF) (k : Option Int → Rho → RE) : ePart (some f) ρ k = bindE (eSet f ρ) fun h ρ1 => partR (getH ρ1 h) ρ1 k := by unfold ePart partR; rfl
@[simp] theorem eSl_eq (fe : EF) (fl fh : Option EF) : eSl fe fl fh ρ = bindE (eSet fe ρ) fun h ρ1 => ePart fl ρ1 fun lo ρ2 => ePart fh ρ2 fun hi ρ3 => resO ((getH ρ3 h).bind (slD lo hi)) ρ3 := by unfold eSl resO; rfl
@[simp] theorem aNil_eq : aNil ρ = .ok [] ρ := rfl
def consA (h : Hd) (r : RA) : RA := match r with
  | .stuck => .stuck
  | .exc x ρ2 => .exc x ρ2
  | .ok hs ρ2 => .ok (h :: hs) ρ2
def bindEA (r : RE) (k : Hd → Rho → RA) : RA := match r with
  | .stuck => .stuck
  | .exc x ρ1 => .exc x ρ1
  | .ok h ρ1 => k h ρ1
@[simp] theorem bindEA_ok (h : Hd) (k : Hd → Rho → RA) : bindEA (.ok h ρ) k = k h ρ := rfl
@[simp] theorem bindEA_st (k : Hd → Rho → RA) : bindEA .stuck k = .stuck := rfl
@[simp] theorem bindEA_ex (x : Xc) (k : Hd → Rho → RA) : bindEA (.exc x ρ) k = .exc x ρ := rfl
@[simp] theorem bindEA_if (a b : RE) (k : Hd → Rho → RA) : bindEA (if c then a else b) k = if c then bindEA a k else bindEA b k := by split <;> rfl
@[simp] theorem consA_ok (h : Hd) (hs : List Hd) : consA h (.ok hs ρ) = .ok (h :: hs) ρ := rfl
@[simp] theorem consA_st (h : Hd) : consA h .stuck = .stuck := rfl
@[simp] theorem consA_if (h : Hd) (a b : RA) : consA h (if c then a else b) = if c then consA h a else consA h b := by split <;> rfl
@[simp] theorem aCons_eq (f : EF) (g : AF) : aCons f g ρ = bindEA (eSet f ρ) fun h ρ1 => consA h (g ρ1) := by unfold aCons bindEA consA; rfl
@[simp] theorem shs_nil : shs [] = some [] := rfl
@[simp] theorem shs_cons (d : D) (hs : List Hd) : shs (.sh d :: hs) = (shs hs).map (d :: ·) := rfl
def tupR (d : Option (List D)) (ρ : Rho) : RE := match d with
  | some ds => if ds.length ≤ 1000 then .ok (.sh (.tuple ds)) ρ else .stuck
  | none => .stuck
def lstR (d : Option (List D)) (ρ : Rho) : RE := match d with
  | some ds => if ds.length ≤ 1000 then .ok (.fr (.list ds)) ρ else .stuck
  | none => .stuck
@[simp] theorem tupR_s (ds : List D) : tupR (some ds) ρ = if ds.length ≤ 1000 then .ok (.sh (.tuple ds)) ρ else .stuck := rfl
@[simp] theorem lstR_s (ds : List D) : lstR (some ds) ρ = if ds.length ≤ 1000 then .ok (.fr (.list ds)) ρ else .stuck := rfl
@[simp] theorem eTup_eq (f : AF) : eTup f ρ = bindA (f ρ) fun hs ρ1 => tupR (shs hs) ρ1 := by unfold eTup tupR; rfl
@[simp] theorem eLst_eq (f : AF) : eLst f ρ = bindA (f ρ) fun hs ρ1 => lstR (shs hs) ρ1 := by unfold eLst lstR; rfl
@[simp] theorem gets_nil : gets ρ [] = some [] := rfl
def cons2 (a : Option D) (b : Option (List D)) : Option (List D) := match a, b with
  | some d, some ds => some (d :: ds)
  | _, _ => none
@[simp] theorem cons2_s (d : D) (ds : List D) : cons2 (some d) (some ds) = some (d :: ds) := rfl
@[simp] theorem gets_cons (h : Hd) (hs : List Hd) : gets ρ (h :: hs) = cons2 (getH ρ h) (gets ρ hs) := by
  unfold cons2
  rw [gets]
  try rfl
@[simp] theorem eCB_eq (o : List D → Option Hd) (f : AF) : eCB o f ρ = bindA (f ρ) fun hs ρ1 => resO ((gets ρ1 hs).bind o) ρ1 := by unfold eCB resO; rfl
@[simp] theorem un1_1 (o : D → Option Hd) (d : D) : un1 o [d] = o d := rfl
@[simp] theorem un2_2 (o : D → D → Option Hd) (d e : D) : un2 o [d, e] = o d e := rfl
def isiR (p : D → Bool) (d : Option D) (ρ : Rho) : RE := match d with
  | some d => .ok (.sh (.bool (p d))) ρ
  | none => .stuck
@[simp] theorem isiR_s (p : D → Bool) (d : D) : isiR p (some d) ρ = .ok (.sh (.bool (p d))) ρ := rfl
@[simp] theorem eIsi_eq (p : D → Bool) (f : EF) : eIsi p f ρ = bindE (eSet f ρ) fun h ρ1 => isiR p (getH ρ1 h) ρ1 := by unfold eIsi isiR; rfl
@[simp] theorem isTup_t (ds : List D) : isTup (.tuple ds) = true := rfl
@[simp] theorem isBool_b (b : Bool) : isBool (.bool b) = true := rfl
@[simp] theorem isStr_s (b : Str) : isStr (.str b) = true := rfl
@[simp] theorem sNil_eq : sNil ρ = .nx ρ := rfl
@[simp] theorem sSeq_eq (f g : SF) : sSeq f g ρ = bindS (f ρ) g := rfl
def retR (h : Hd) (ρ : Rho) : RS := match h with
  | .bw i => match capH ρ (.bw i) with
    | some d => .rt (.sh d) ρ
    | none => .stuck
  | h => .rt h ρ
@[simp] theorem retR_sh (d : D) : retR (.sh d) ρ = .rt (.sh d) ρ := rfl
@[simp] theorem retR_fr (d : D) : retR (.fr d) ρ = .rt (.fr d) ρ := rfl
@[simp] theorem sRet_eq (f : EF) : sRet f ρ = bindES (f ρ) retR := by unfold sRet; rfl
@[simp] theorem sIf_eq (ft : EF) (f g : SF) : sIf ft f g ρ = bindBS (ft ρ) fun b ρ1 => if b then f ρ1 else g ρ1 := rfl
@[simp] theorem ioAt_nil (i : Nat) : ioAt [] i = false := rfl
@[simp] theorem ioAt_zn : ioAt (none :: ρ) 0 = false := rfl
@[simp] theorem ioAt_zs (d : D) : ioAt (some ⟨d, .sh⟩ :: ρ) 0 = false := rfl
@[simp] theorem ioAt_zo (d : D) : ioAt (some ⟨d, .ow⟩ :: ρ) 0 = false := rfl
@[simp] theorem ioAt_succ (x : Option Cel) (i : Nat) : ioAt (x :: ρ) (i + 1) = ioAt ρ i := rfl
@[simp] theorem sSet_eq (i : Nat) (f : EF) : sSet i f ρ = bindES (f ρ) fun h ρ1 => setHd ρ1 i h := rfl
@[simp] theorem setHd_sh (i : Nat) (d : D) : setHd ρ i (.sh d) = setR ρ i ⟨d, .sh⟩ := rfl
@[simp] theorem setHd_fr (i : Nat) (d : D) : setHd ρ i (.fr d) = setR ρ i ⟨d, .ow⟩ := rfl
def bindI (r : RI) (k : List D → Rho → RS) : RS := match r with
  | .stuck => .stuck
  | .exc x ρ1 => .exc x ρ1
  | .ok ds ρ1 => k ds ρ1
@[simp] theorem bindI_ok (ds : List D) (k : List D → Rho → RS) : bindI (.ok ds ρ) k = k ds ρ := rfl
@[simp] theorem bindI_st (k : List D → Rho → RS) : bindI .stuck k = .stuck := rfl
@[simp] theorem bindI_if (a b : RI) (k : List D → Rho → RS) : bindI (if c then a else b) k = if c then bindI a k else bindI b k := by split <;> rfl
@[simp] theorem sFor_eq (fi : IF) (g : D → Rho → Option Rho) (b : SF) : sFor fi g b ρ = bindI (fi ρ) fun ds ρ1 => forL g b ds ρ1 := by unfold sFor bindI; rfl
def seqR (h : Hd) (ρ : Rho) : RI := match h with
  | .sh d => match items d with
    | some ds => .ok ds ρ
    | none => .stuck
  | _ => .stuck
@[simp] theorem seqR_l (ds : List D) : seqR (.sh (.list ds)) ρ = .ok ds ρ := rfl
@[simp] theorem seqR_t (ds : List D) : seqR (.sh (.tuple ds)) ρ = .ok ds ρ := rfl
@[simp] theorem seqR_s (z : Str) : seqR (.sh (.str z)) ρ = .ok (z.cps.toList.map fun c => .str ⟨#[c]⟩) ρ := rfl
@[simp] theorem iSq_eq (f : EF) : iSq f ρ = bindEI (eCap f ρ) seqR := by unfold iSq; rfl
def rgR (d : Option D) (ρ : Rho) : RI := match d with
  | some (.int j) => if okR j then .ok (rgD 0 j.toNat) ρ else .stuck
  | _ => .stuck
@[simp] theorem rgR_i (j : Int) : rgR (some (.int j)) ρ = if okR j then .ok (rgD 0 j.toNat) ρ else .stuck := rfl
@[simp] theorem iR1_eq (f : EF) : iR1 f ρ = bindEI (eSet f ρ) fun h ρ1 => rgR (getH ρ1 h) ρ1 := by unfold iR1 rgR; rfl
def bindIE (r : RI) (k : List D → Rho → RE) : RE := match r with
  | .stuck => .stuck
  | .exc x ρ1 => .exc x ρ1
  | .ok ds ρ1 => k ds ρ1
@[simp] theorem bindIE_ok (ds : List D) (k : List D → Rho → RE) : bindIE (.ok ds ρ) k = k ds ρ := rfl
@[simp] theorem bindIE_st (k : List D → Rho → RE) : bindIE .stuck k = .stuck := rfl
@[simp] theorem bindIE_if (a b : RI) (k : List D → Rho → RE) : bindIE (if c then a else b) k = if c then bindIE a k else bindIE b k := by split <;> rfl
@[simp] theorem eLc_eq (vs : List Nat) (fi : IF) (g : D → Rho → Option Rho) (ft fe : EF) : eLc vs fi g ft fe ρ = bindIE (fi ρ) fun ds ρ1 => if vs.all fun i => !ioAt ρ1 i then lcL vs g ft fe ds [] (wipeR ρ1 vs) else .stuck := by unfold eLc bindIE; rfl
@[simp] theorem eNox_eq (f : EF) : eNox f ρ = match f ρ with | .exc _ _ => .stuck | r => r := rfl
@[simp] theorem wipeR_nil : wipeR ρ [] = ρ := rfl
@[simp] theorem wipeR_cons (v : Nat) (vs : List Nat) : wipeR ρ (v :: vs) = (wipeR ρ vs).set v none := rfl
@[simp] theorem addD_i (i j : Int) : addD (.int i) (.int j) = some (.sh (.int (i + j))) := rfl
@[simp] theorem addD_s (i j : Str) : addD (.str i) (.str j) = if i.length + j.length ≤ sizeLine then some (.sh (.str (i ++ j))) else none := rfl
@[simp] theorem addD_t (i j : List D) : addD (.tuple i) (.tuple j) = if i.length + j.length ≤ sizeLine then some (.sh (.tuple (i ++ j))) else none := rfl
@[simp] theorem addD_l (i j : List D) : addD (.list i) (.list j) = if i.length + j.length ≤ sizeLine then some (.fr (.list (i ++ j))) else none := rfl
@[simp] theorem subD_i (i j : Int) : subD (.int i) (.int j) = some (.sh (.int (i - j))) := rfl
theorem mulD_i (i j : Int) : mulD (.int i) (.int j) = if cMul i j then some (.sh (.int (i * j))) else none := rfl
theorem divD_i (i j : Int) : divD (.int i) (.int j) = if decide (0 < j) && Nat.ble j.natAbs 1073741823 then some (.sh (.int (i / j))) else none := rfl
theorem modD_i (i j : Int) : modD (.int i) (.int j) = if decide (0 < j) then some (.sh (.int (i % j))) else none := rfl
@[simp] theorem resO_div {i j : Int} (h0 : 0 < j) (h1 : j < 1073741824) : resO (divD (.int i) (.int j)) ρ = .ok (.sh (.int (i / j))) ρ := by
  rw [divD_i, decide_eq_true h0, Nat.ble_eq_true_of_le (show j.natAbs ≤ 1073741823 by omega)]; rfl
@[simp] theorem resO_mod {i j : Int} (h0 : 0 < j) : resO (modD (.int i) (.int j)) ρ = .ok (.sh (.int (i % j))) ρ := by
  rw [modD_i, decide_eq_true h0]; rfl
@[simp] theorem resO_mul {i j : Int} (h : cMul i j = true) : resO (mulD (.int i) (.int j)) ρ = .ok (.sh (.int (i * j))) ρ := by
  rw [mulD_i, h]; rfl
theorem powD_i (i j : Int) : powD (.int i) (.int j) = if decide (0 ≤ j) && Nat.ble j.natAbs 1000000 && Nat.ble i.natAbs 18446744073709551615 then some (.sh (.int (i ^ j.toNat))) else none := rfl
@[simp] theorem resO_pow {i j : Int} (h0 : 0 ≤ j) (h1 : j ≤ 1000000) (h2 : i.natAbs < 18446744073709551616) : resO (powD (.int i) (.int j)) ρ = .ok (.sh (.int (i ^ j.toNat))) ρ := by
  rw [powD_i, decide_eq_true h0, Nat.ble_eq_true_of_le (show j.natAbs ≤ 1000000 by omega), Nat.ble_eq_true_of_le (show i.natAbs ≤ 18446744073709551615 by omega)]; rfl
@[simp] theorem ltI_i (f : Int → Int → Bool) (i j : Int) : ltI f (.int i) (.int j) = some (.sh (.bool (f i j))) := rfl
@[simp] theorem lenD_l (ds : List D) : lenD (.list ds) = some (.sh (.int ds.length)) := rfl
@[simp] theorem lenD_t (ds : List D) : lenD (.tuple ds) = some (.sh (.int ds.length)) := rfl
@[simp] theorem lenD_s (z : Str) : lenD (.str z) = if z.length ≤ sizeLine then some (.sh (.int z.length)) else none := rfl
@[simp] theorem ixD_l (ds : List D) (i : Int) : ixD (.list ds) (.int i) = (atI ds i).map Hd.sh := rfl
@[simp] theorem ixD_t (ds : List D) (i : Int) : ixD (.tuple ds) (.int i) = (atI ds i).map Hd.sh := rfl
@[simp] theorem ixD_s (z : Str) (i : Int) : ixD (.str z) (.int i) = if z.length ≤ sizeLine then (atI z.cps.toList i).map fun c => Hd.sh (.str ⟨#[c]⟩) else none := rfl
@[simp] theorem slD_l (lo hi : Option Int) (ds : List D) : slD lo hi (.list ds) = some (.fr (.list (cutD ds lo hi))) := rfl
@[simp] theorem slD_t (lo hi : Option Int) (ds : List D) : slD lo hi (.tuple ds) = some (.sh (.tuple (cutD ds lo hi))) := rfl
@[simp] theorem slD_s (lo hi : Option Int) (z : Str) : slD lo hi (.str z) = if z.length ≤ sizeLine then some (.sh (.str (cutS z lo hi))) else none := rfl
@[simp] theorem listD_l (ds : List D) : listD (.list ds) = some (.fr (.list ds)) := rfl
@[simp] theorem listD_t (ds : List D) : listD (.tuple ds) = some (.fr (.list ds)) := rfl
@[simp] theorem tupleD_l (ds : List D) : tupleD (.list ds) = some (.sh (.tuple ds)) := rfl
@[simp] theorem tupleD_t (ds : List D) : tupleD (.tuple ds) = some (.sh (.tuple ds)) := rfl
@[simp] theorem inD_c (neg : Bool) (c : Nat) (z : Str) : inD neg (.str ⟨#[c]⟩) (.str z) = some (.sh (.bool (neg ^^ decide (c ∈ z.cps.toList)))) := rfl
end
end GS
namespace GS
open PySem L2
section
variable {ρ ρ1 : Rho} {c : Prop} [Decidable c]
/-- a def's end -/
def finR (n : Nat) (r : RS) : RE := match r with
  | .rt (.bw _) _ => .stuck
  | .rt h ρ1 => .ok h (outR ρ1 n)
  | .nx ρ1 => .ok (.sh .none) (outR ρ1 n)
  | .exc x ρ1 => .exc x (outR ρ1 n)
  | _ => .stuck
@[simp] theorem finR_sh (n : Nat) (d : D) : finR n (.rt (.sh d) ρ) = .ok (.sh d) (outR ρ n) := rfl
@[simp] theorem finR_fr (n : Nat) (d : D) : finR n (.rt (.fr d) ρ) = .ok (.fr d) (outR ρ n) := rfl
@[simp] theorem finR_nx (n : Nat) : finR n (.nx ρ) = .ok (.sh .none) (outR ρ n) := rfl
@[simp] theorem finR_ex (n : Nat) (x : Xc) : finR n (.exc x ρ) = .exc x (outR ρ n) := rfl
@[simp] theorem finR_if (n : Nat) (a b : RS) : finR n (if c then a else b) = if c then finR n a else finR n b := by split <;> rfl
theorem fnF_eq (m n : Nat) (g : SF) : fnF m n g ρ = finR n (g (ρ ++ List.replicate (m - n) none)) := by unfold fnF finR; rfl
@[simp] theorem ioC_sh (d : D) : ioC (some ⟨d, .sh⟩) = none := rfl
@[simp] theorem ioC_ow (d : D) : ioC (some ⟨d, .ow⟩) = none := rfl
@[simp] theorem ioC_io (d : D) : ioC (some ⟨d, .io⟩) = some ⟨d, .io⟩ := rfl
@[simp] theorem ioC_no : ioC none = none := rfl
/-- a call -/
def backR (ρ1 : Rho) (io : Option Nat) (hs : List Hd) (r : RE) : RE := match r with
    | .stuck => .stuck
    | .ok h outs => match h, putB ρ1 io hs outs with
      | .bw _, _ => .stuck
      | _, none => .stuck
      | _, some ρ2 => .ok h ρ2
    | .exc x outs => match putB ρ1 io hs outs with
      | none => .stuck
      | some ρ2 => .exc x ρ2
@[simp] theorem backR_sh (d : D) (hs : List Hd) (outs : Rho) : backR ρ none hs (.ok (.sh d) outs) = .ok (.sh d) ρ := rfl
@[simp] theorem backR_fr (d : D) (hs : List Hd) (outs : Rho) : backR ρ none hs (.ok (.fr d) outs) = .ok (.fr d) ρ := rfl
@[simp] theorem backR_ex (x : Xc) (hs : List Hd) (outs : Rho) : backR ρ none hs (.exc x outs) = .exc x ρ := rfl
@[simp] theorem backR_if (io : Option Nat) (hs : List Hd) (a b : RE) : backR ρ io hs (if c then a else b) = if c then backR ρ io hs a else backR ρ io hs b := by split <;> rfl
def callR (n : Nat) (io : Option Nat) (F : FF) (hs : List Hd) (ρ1 : Rho) (a : Option Rho) : RE := match a with
  | none => .stuck
  | some ρ0 => if ρ0.length ≠ n then .stuck else backR ρ1 io hs (F ρ0)
@[simp] theorem callR_s (n : Nat) (io : Option Nat) (F : FF) (hs : List Hd) (ρ0 : Rho) : callR n io F hs ρ (some ρ0) = if ρ0.length ≠ n then .stuck else backR ρ io hs (F ρ0) := rfl
@[simp] theorem eCall_eq (n : Nat) (io : Option Nat) (F : FF) (fs : AF) : eCall n io F fs ρ = bindA (fs ρ) fun hs ρ1 => callR n io F hs ρ1 (args ρ1 io 0 hs) := by
  unfold eCall callR backR
  rfl
@[simp] theorem args_nil (io : Option Nat) (k : Nat) : args ρ io k [] = some [] := rfl
def consC (a : Option Cel) (b : Option Rho) : Option Rho := match a, b with
  | some c, some r => some (some c :: r)
  | _, _ => none
@[simp] theorem consC_s (c : Cel) (r : Rho) : consC (some c) (some r) = some (some c :: r) := rfl
@[simp] theorem args_cons (io : Option Nat) (k : Nat) (h : Hd) (hs : List Hd) : args ρ io k (h :: hs) = consC (argC ρ (decide (io = some k)) h) (args ρ io (k + 1) hs) := by
  unfold consC
  rw [args]
  try rfl
@[simp] theorem argC_shf (d : D) : argC ρ false (.sh d) = some ⟨d, .sh⟩ := rfl
theorem ioAt_of {x : Option Cel} (h : ioC x = none) : ioAt (x :: ρ) 0 = false := by
  cases x with
  | none => rfl
  | some c => obtain ⟨d, fl⟩ := c; cases fl <;> first | rfl | cases h
theorem okR_nat {m : Nat} (h : m ≤ 1000000000) : okR (m : Int) = true := by
  unfold okR
  rw [Int.natAbs_natCast]
  exact Nat.ble_eq_true_of_le h
@[simp] theorem forL_nil (g : D → Rho → Option Rho) (b : SF) : forL g b [] ρ = .nx ρ := rfl
/-- one turn's end -/
def turnR (k : Rho → RS) (r : RS) : RS := match r with
  | .nx ρ2 => k ρ2
  | .ct ρ2 => k ρ2
  | .bk ρ2 => .nx ρ2
  | r => r
@[simp] theorem turnR_nx (k : Rho → RS) : turnR k (.nx ρ) = k ρ := rfl
@[simp] theorem turnR_ct (k : Rho → RS) : turnR k (.ct ρ) = k ρ := rfl
@[simp] theorem turnR_bk (k : Rho → RS) : turnR k (.bk ρ) = .nx ρ := rfl
@[simp] theorem turnR_rt (k : Rho → RS) (h : Hd) : turnR k (.rt h ρ) = .rt h ρ := rfl
@[simp] theorem turnR_ex (k : Rho → RS) (x : Xc) : turnR k (.exc x ρ) = .exc x ρ := rfl
@[simp] theorem turnR_st (k : Rho → RS) : turnR k .stuck = .stuck := rfl
@[simp] theorem turnR_if (k : Rho → RS) (a b : RS) : turnR k (if c then a else b) = if c then turnR k a else turnR k b := by split <;> rfl
def optR (o : Option Rho) (k : Rho → RS) : RS := match o with
  | none => .stuck
  | some ρ1 => k ρ1
@[simp] theorem optR_s (k : Rho → RS) : optR (some ρ) k = k ρ := rfl
theorem forL_cons (g : D → Rho → Option Rho) (b : SF) (d : D) (ds : List D) : forL g b (d :: ds) ρ = optR (g d ρ) fun ρ1 => turnR (forL g b ds) (b ρ1) := by
  unfold optR turnR
  rw [forL]
  try rfl
def optE (o : Option Rho) (k : Rho → RE) : RE := match o with
  | none => .stuck
  | some ρ1 => k ρ1
@[simp] theorem optE_s (k : Rho → RE) : optE (some ρ) k = k ρ := rfl
theorem lcL_nil (vs : List Nat) (g : D → Rho → Option Rho) (ft fe : EF) (acc : List D) : lcL vs g ft fe [] acc ρ = .ok (.fr (.list acc)) ρ := rfl
def lcR (acc : List D) (k : List D → Rho → RE) (h : Hd) (ρ3 : Rho) : RE := match h with
  | .sh y => if acc.length < sizeLine then k (acc ++ [y]) ρ3 else .stuck
  | _ => .stuck
@[simp] theorem lcR_s (acc : List D) (k : List D → Rho → RE) (y : D) : lcR acc k (.sh y) ρ = if acc.length < sizeLine then k (acc ++ [y]) ρ else .stuck := rfl
theorem lcL_cons (vs : List Nat) (g : D → Rho → Option Rho) (ft fe : EF) (d : D) (ds acc : List D) : lcL vs g ft fe (d :: ds) acc ρ = optE (g d ρ) fun ρ1 => bindB (ft ρ1) fun c ρ2 => if c then bindE (eCap fe ρ2) (lcR acc fun acc' ρ3 => lcL vs g ft fe ds acc' (wipeR ρ3 vs)) else lcL vs g ft fe ds acc (wipeR ρ2 vs) := by
  unfold optE lcR
  rw [lcL]
  try rfl
@[simp] theorem gN_eq (i : Nat) (d : D) : gN i d ρ = if i < ρ.length && !ioAt ρ i then some (ρ.set i (some ⟨d, .sh⟩)) else none := rfl
@[simp] theorem optR_if (a b : Option Rho) (k : Rho → RS) : optR (if c then a else b) k = if c then optR a k else optR b k := by split <;> rfl
@[simp] theorem optE_if (a b : Option Rho) (k : Rho → RE) : optE (if c then a else b) k = if c then optE a k else optE b k := by split <;> rfl
@[simp] theorem setR_eq (i : Nat) (c : Cel) : setR ρ i c = if i < ρ.length && !ioAt ρ i then .nx (ρ.set i (some c)) else .stuck := rfl
theorem rgD_mid {lo : Int} {n : Nat} {pre : List D} {d : D} {post : List D} (h : rgD lo n = pre ++ d :: post) : pre.length < n ∧ d = .int (lo + (pre.length : Int)) := by
  have hl : (rgD lo n).length = n := by unfold rgD; rw [List.length_map, List.length_range]
  have h2 : (rgD lo n)[pre.length]? = some d := by rw [h, List.getElem?_append_right (Nat.le_refl _), Nat.sub_self]; rfl
  have h3 : pre.length < n := by rw [← hl]; exact (List.getElem?_eq_some_iff.mp h2).1
  refine ⟨h3, ?_⟩
  unfold rgD at h2
  rw [List.getElem?_map, List.getElem?_range h3] at h2
  exact (Option.some.inj h2).symm
theorem rgD_len (lo : Int) (n : Nat) : (rgD lo n).length = n := by unfold rgD; rw [List.length_map, List.length_range]
@[simp] theorem atI_zero {α : Type} (x : α) (xs : List α) : atI (x :: xs) 0 = some x := by
  have := atI_nat (xs := x :: xs) (j := 0) (v := x) rfl
  exact this
theorem atI_lt {α : Type} {xs : List α} {i : Int} (h0 : 0 ≤ i) (h1 : i < xs.length) : ∃ x, atI xs i = some x ∧ x ∈ xs := by
  have hk : i.toNat < xs.length := by omega
  have e : i = ((i.toNat : Nat) : Int) := by omega
  have q := atI_nat (xs := xs) (List.getElem?_eq_getElem hk)
  rw [← e] at q
  exact ⟨_, q, List.getElem_mem hk⟩
end
end GS
namespace GS
open PySem L2
def kEq : D → D → Bool
  | .int i, .int j => decide (i = j)
  | .str i, .str j => decide (i = j)
  | .tuple xs, .tuple ys => match tkD xs, tkD ys with
    | some k, some l => decide (k = l)
    | _, _ => false
  | _, _ => false
/-- ints and texts -/
def isS : D → Bool
  | .int _ => true
  | .str _ => true
  | _ => false
/-- what may be a key -/
def isK : D → Bool
  | .int _ => true
  | .str _ => true
  | .tuple ds => (tkD ds).isSome
  | _ => false
/-- a key of another sort than the dict's first -/
def mixB (ps : List (D × D)) (k : D) : Bool := match ps with
  | [] => false
  | p :: _ => tupB p.1 != tupB k
def dGet : List (D × D) → D → Option D
  | [], _ => none
  | (a, d) :: r, k => if kEq a k then some d else dGet r k
def dPut (ps : List (D × D)) (k v : D) : List (D × D) := if ps.any (fun p => kEq p.1 k) then ps.map (fun p => if kEq p.1 k then (p.1, v) else p) else ps ++ [(k, v)]
theorem isS_k {d : D} (h : isS d = true) : ∃ k, d = kD k := by
  cases d <;> first | (cases h; done) | skip
  · exact ⟨.inl _, rfl⟩
  · exact ⟨.inr _, rfl⟩
theorem tkD_tup {ds : List D} {k : NestedKey} (h : tkD ds = some k) : ∃ ks, k = .tup ks ∧ nkL ds = some ks ∧ k.depth ≤ 8 := by
  obtain ⟨ks, e1, e2⟩ := Option.bind_eq_some_iff.mp h
  obtain ⟨c, rfl⟩ := if_some e2
  exact ⟨ks, rfl, e1, c⟩
theorem isK_key {d : D} (h : isK d = true) : ∃ k, keyD d = some k := by
  cases d <;> first | (cases h; done) | skip
  · exact ⟨_, rfl⟩
  · exact ⟨_, rfl⟩
  · exact ⟨_, Option.some_get h |>.symm⟩
theorem kEq_key {a b : D} {k l : NestedKey} (ha : keyD a = some k) (hb : keyD b = some l) : kEq a b = decide (k = l) := by
  cases a <;> first | (cases ha; done) | skip
  · cases b <;> first | (cases hb; done) | skip
    · cases ha; cases hb; simp [kEq]
    · cases ha; cases hb; simp [kEq]
    · cases ha
      obtain ⟨ks, rfl, _⟩ := tkD_tup hb
      simp [kEq]
  · cases b <;> first | (cases hb; done) | skip
    · cases ha; cases hb; simp [kEq]
    · cases ha; cases hb; simp [kEq]
    · cases ha
      obtain ⟨ks, rfl, _⟩ := tkD_tup hb
      simp [kEq]
  · cases b <;> first | (cases hb; done) | skip
    · cases hb
      obtain ⟨ks, rfl, _⟩ := tkD_tup ha
      simp [kEq]
    · cases hb
      obtain ⟨ks, rfl, _⟩ := tkD_tup ha
      simp [kEq]
    · rename_i xs ys
      show (match tkD xs, tkD ys with | some k, some l => decide (k = l) | _, _ => false) = _
      rw [show tkD xs = some k from ha, show tkD ys = some l from hb]
section
variable {K : KW} {B H : Hp} {ρ : Rho} {σ : St} {x y v : V} {Q : VK} {b : Bool}
theorem Tp.key {k : Key} (h : Tp K B H v (kD k)) : v = kV k := by
  cases k
  · exact h.int
  · exact h.str
theorem rpx_get {kd : D} {k : NestedKey} (hk : keyD kd = some k) : ∀ {xs : List (NestedKey × Value × Value)} {ps : List (D × D)}, RpX K B b xs ps → (∀ d, dGet ps kd = some d → ∃ u v, look xs k = some u ∧ RelV v u ∧ Rp K B v d) ∧ (dGet ps kd = none → look xs k = none)
  | _, _, .nil => ⟨fun d h => (by cases h), fun _ => rfl⟩
  | _, _, .cons (k := k') (ku := ku) (u := u') (v := v') (xs := xs) (kd := kd') (d := d') (ps := ps) h1 h2 h3 h4 h5 h6 h7 => by
    obtain ⟨q1, q2⟩ := rpx_get hk h7
    have e1 : dGet ((kd', d') :: ps) kd = if k' = k then some d' else dGet ps kd := by
      show (if kEq kd' kd then some d' else dGet ps kd) = _
      rw [kEq_key h1 hk]
      by_cases e : k' = k <;> simp [e]
    rw [e1]
    by_cases e : k' = k
    · rw [if_pos e]
      refine ⟨fun d hd => ?_, fun hd => (by cases hd)⟩
      cases hd
      exact ⟨u', v', by simp [look, e], h5, h6⟩
    · rw [if_neg e]
      have e2 : look ((k', ku, u') :: xs) k = look xs k := by simp [look, e]
      rw [e2]
      exact ⟨q1, q2⟩
theorem rpx_is {kd : D} {k : NestedKey} (hk : keyD kd = some k) {xs : List (NestedKey × Value × Value)} {ps : List (D × D)} (h : RpX K B b xs ps) : (look xs k).isSome = (dGet ps kd).isSome := by
  obtain ⟨q1, q2⟩ := rpx_get hk h
  cases e : dGet ps kd with
  | none => rw [q2 e]; rfl
  | some d => obtain ⟨u, v, q, _⟩ := q1 d e; rw [q]; rfl
theorem rpx_len : ∀ {xs : List (NestedKey × Value × Value)} {ps : List (D × D)}, RpX K B b xs ps → xs.length = ps.length
  | _, _, .nil => rfl
  | _, _, .cons _ _ _ _ _ _ h => by rw [List.length_cons, List.length_cons, rpx_len h]
mutual
theorem nk_of {H : Hp} (s : Same B H) : ∀ {v : V} (d : D) {k : NestedKey}, Rp K B v d → nkD d = some k → NK H v k
  | _, .none, _, .non, e => by cases e; exact .non
  | _, .bool _, _, .bl b, e => by cases e; exact .bl b
  | _, .int _, _, .int i, e => by cases e; exact .int i
  | _, .str _, _, .str x, e => by cases e; exact .str x
  | _, .tuple ds, _, .tup h t, e => by
    rw [nkD] at e
    obtain ⟨ks, e1, rfl⟩ := Option.map_eq_some_iff.mp e
    exact .tup (same_x s h) (nks_of s ds t e1)
  | _, .list _, _, .lst _ _, e => by rw [nkD] at e; cases e
  | _, .dict _, _, .dct _ _, e => by rw [nkD] at e; cases e
  | _, .dict _, _, .exn _ _ _ _, e => by rw [nkD] at e; cases e
theorem nks_of {H : Hp} (s : Same B H) : ∀ {vs : List V} (ds : List D) {ks : List NestedKey}, RpL K B vs ds → nkL ds = some ks → NKs H vs ks
  | _, [], _, .nil, e => by rw [nkL] at e; cases e; exact .nil
  | _, d :: ds, _, .cons h t, e => by
    rw [nkL] at e
    obtain ⟨k, e1, e2⟩ := Option.bind_eq_some_iff.mp e
    obtain ⟨ks, e3, rfl⟩ := Option.map_eq_some_iff.mp e2
    exact .cons (nk_of s d h e1) (nks_of s ds t e3)
end
/-- a key that is a tuple -/
theorem tk_of {H : Hp} (s : Same B H) {v : V} {kd : D} {k : NestedKey} (h : Rp K B v kd) (e : keyD kd = some k) (ht : tupB kd = true) : ∃ b, KeyAt H v b k := by
  cases kd <;> first | (cases ht; done) | skip
  rename_i ds
  obtain ⟨ks, rfl, e1, c⟩ := tkD_tup (show tkD ds = some k from e)
  cases h with
  | tup q t => exact ⟨_, rfl, .tup (same_x s q) (nks_of s ds t e1), c⟩
/-- a key that is none -/
theorem sk_of {v : V} {kd : D} {k : NestedKey} (h : Rp K B v kd) (e : keyD kd = some k) (ht : tupB kd = false) : ∃ kk, v = kV kk ∧ kd = kD kk ∧ k = nkK kk := by
  cases kd <;> first | (cases e; done) | (cases ht; done) | skip
  · cases e; cases h; exact ⟨.inl _, rfl, rfl, rfl⟩
  · cases e; cases h; exact ⟨.inr _, rfl, rfl, rfl⟩
theorem rpx_T {H : Hp} (s : Same B H) : ∀ {xs : List (NestedKey × Value × Value)} {ps : List (D × D)}, RpX K B true xs ps → ∃ ys : List (NestedKey × Addr × Value), xs = ys.map refK ∧ KOk H ys ∧ ∀ y ∈ ys, ∃ kd, Rp K B (.ref y.2.1) kd ∧ keyD kd = some y.1 ∧ tupB kd = true
  | _, _, .nil => ⟨[], rfl, (fun _ m => by cases m), fun _ m => by cases m⟩
  | _, _, .cons (k := k) (u := u) (kd := kd) h1 h2 h3 h4 h5 h6 h7 => by
    obtain ⟨ys, rfl, q2, q3⟩ := rpx_T s h7
    obtain ⟨b, rfl, q4, q5⟩ := tk_of s h3 h1 h2
    cases h4
    refine ⟨(k, b, u) :: ys, rfl, fun y m => ?_, fun y m => ?_⟩
    · cases m with
      | head => exact ⟨q4, q5⟩
      | tail _ m => exact q2 y m
    · cases m with
      | head => exact ⟨kd, h3, h1, h2⟩
      | tail _ m => exact q3 y m
/-- keys that are ints and texts, by key and value -/
def RpS (K : KW) (B : Hp) : List (Key × Value) → List (D × D) → Prop := Paired fun p q => q.1 = kD p.1 ∧ ∃ v, RelV v p.2 ∧ Rp K B v q.2
theorem rpx_S : ∀ {xs : List (NestedKey × Value × Value)} {ps : List (D × D)}, RpX K B false xs ps → ∃ ys, xs = ys.map valK ∧ SOk ys ∧ RpS K B (pairK ys) ps
  | _, _, .nil => ⟨[], rfl, (fun _ m => by cases m), .nil⟩
  | _, _, .cons (ku := ku) (u := u) h1 h2 h3 h4 h5 h6 h7 => by
    obtain ⟨ys, rfl, q2, q3⟩ := rpx_S h7
    obtain ⟨kk, rfl, rfl, rfl⟩ := sk_of h3 h1 h2
    refine ⟨(kk, ku, u) :: ys, rfl, fun y m => ?_, .cons ⟨rfl, _, h5, h6⟩ q3⟩
    cases m with
    | head => exact (by
        cases kk
        · obtain ⟨t, rfl⟩ := h4; exact keyIs_int _ t
        · obtain ⟨t, rfl⟩ := h4; exact keyIs_str _ t)
    | tail _ m => exact q2 y m
theorem rp_kV (k : Key) : Rp K B (kV k) (kD k) := by
  cases k
  · exact .int _
  · exact .str _
theorem relV_key {k : Key} {u : Value} (h : keyIs k u = true) : RelV (kV k) u := by
  rcases keyIs_shape h with ⟨i, t, rfl, rfl⟩ | ⟨x, t, rfl, rfl⟩
  · exact ⟨t, rfl⟩
  · exact ⟨t, rfl⟩
theorem keyD_k (k : Key) : keyD (kD k) = some (nkK k) ∧ tupB (kD k) = false := by cases k <;> exact ⟨rfl, rfl⟩
theorem rps_X : ∀ {ys : List (Key × Value × Value)} {ps : List (D × D)}, SOk ys → RpS K B (pairK ys) ps → RpX K B false (ys.map valK) ps
  | [], _, _, r => by cases r; exact .nil
  | y :: ys, _, h, r => by
    cases r with
    | @cons p q _ qs hq t =>
      obtain ⟨kd, d⟩ := q
      obtain ⟨e1, v, e2, e3⟩ := hq
      simp only at e1
      subst e1
      obtain ⟨e4, e5⟩ := keyD_k y.1
      exact .cons e4 e5 (rp_kV y.1) (relV_key (h y (by simp))) e2 e3 (rps_X (fun z m => h z (by simp [m])) t)
theorem kEq_k (a b : Key) : kEq (kD a) (kD b) = decide (a = b) := by
  cases a <;> cases b <;> simp [kD, kEq]
theorem rps_any {k : Key} : ∀ {vs : List (Key × Value)} {ps : List (D × D)}, RpS K B vs ps → (vs.any fun kv => decide (kv.1 = k)) = ps.any fun p => kEq p.1 (kD k)
  | _, _, .nil => rfl
  | _, _, .cons h t => by rw [List.any_cons, List.any_cons, rps_any t, h.1, kEq_k]
theorem rps_map {k : Key} {d : D} {v : V} {u : Value} (r : RelV v u) (q : Rp K B v d) : ∀ {vs : List (Key × Value)} {ps : List (D × D)}, RpS K B vs ps → RpS K B (vs.map fun kv => if kv.1 = k then (kv.1, u) else kv) (ps.map fun p => if kEq p.1 (kD k) then (p.1, d) else p)
  | _, _, .nil => .nil
  | _, _, .cons (a := p) (b := z) h t => by
    rw [List.map_cons, List.map_cons, h.1, kEq_k]
    by_cases e : p.1 = k
    · simp only [e, if_true, decide_true]
      exact .cons ⟨rfl, v, r, q⟩ (rps_map r q t)
    · simp only [e, if_false, decide_false, Bool.false_eq_true]
      exact .cons h (rps_map r q t)
theorem rps_app {k : Key} {d : D} {v : V} {u : Value} (r : RelV v u) (q : Rp K B v d) : ∀ {vs : List (Key × Value)} {ps : List (D × D)}, RpS K B vs ps → RpS K B (vs ++ [(k, u)]) (ps ++ [(kD k, d)])
  | _, _, .nil => .cons ⟨rfl, v, r, q⟩ .nil
  | _, _, .cons h t => .cons h (rps_app r q t)
theorem rps_put {k : Key} {d : D} {v : V} {u : Value} (r : RelV v u) (q : Rp K B v d) {vs : List (Key × Value)} {ps : List (D × D)} (h : RpS K B vs ps) : RpS K B (stored vs k u) (dPut ps (kD k) d) := by
  unfold stored dPut
  rw [rps_any h]
  split
  · exact rps_map r q h
  · exact rps_app r q h
/-- keys that are tuples, put -/
theorem rpx_any {kd : D} {k : NestedKey} (hk : keyD kd = some k) : ∀ {ys : List (NestedKey × Addr × Value)} {ps : List (D × D)}, RpX K B true (ys.map refK) ps → (ps.any fun p => kEq p.1 kd) = (atKey ys k).isSome
  | [], _, h => by cases h; rfl
  | y :: ys, _, h => by
    cases h with
    | cons h1 h2 h3 h4 h5 h6 h7 =>
      have ih := rpx_any hk h7
      rw [List.any_cons, kEq_key h1 hk, ih]
      by_cases e : y.1 = k <;> simp [atKey, e]
theorem rpx_map {kd d : D} {k : NestedKey} {u : Value} {v : V} (hk : keyD kd = some k) (r : RelV v u) (q : Rp K B v d) : ∀ {ys : List (NestedKey × Addr × Value)} {ps : List (D × D)}, RpX K B true (ys.map refK) ps → RpX K B true ((ys.map (putAt k u)).map refK) (ps.map fun p => if kEq p.1 kd then (p.1, d) else p)
  | [], _, h => by cases h; exact .nil
  | y :: ys, _, h => by
    cases h with
    | cons h1 h2 h3 h4 h5 h6 h7 =>
      have ih := rpx_map hk r q h7
      rw [List.map_cons, List.map_cons, List.map_cons, kEq_key h1 hk]
      by_cases e : y.1 = k
      · simp only [putAt, e, if_true, decide_true]
        exact .cons (e ▸ h1) h2 h3 h4 r q ih
      · simp only [putAt, e, if_false, decide_false, Bool.false_eq_true]
        exact .cons h1 h2 h3 h4 h5 h6 ih
theorem rpx_app {kd d : D} {k : NestedKey} {a : Addr} {u : Value} {v : V} (hk : keyD kd = some k) (ht : tupB kd = true) (ha : Rp K B (.ref a) kd) (r : RelV v u) (q : Rp K B v d) : ∀ {ys : List (NestedKey × Addr × Value)} {ps : List (D × D)}, RpX K B true (ys.map refK) ps → RpX K B true ((ys ++ [(k, a, u)]).map refK) (ps ++ [(kd, d)])
  | [], _, h => by cases h; exact .cons hk ht ha rfl r q .nil
  | y :: ys, _, h => by
    cases h with
    | cons h1 h2 h3 h4 h5 h6 h7 => exact .cons h1 h2 h3 h4 h5 h6 (rpx_app hk ht ha r q h7)
theorem rpx_put {kd d : D} {k : NestedKey} {a : Addr} {u : Value} {v : V} (hk : keyD kd = some k) (ht : tupB kd = true) (ha : Rp K B (.ref a) kd) (r : RelV v u) (q : Rp K B v d) {ys : List (NestedKey × Addr × Value)} {ps : List (D × D)} (h : RpX K B true (ys.map refK) ps) : RpX K B true ((storedH ys k a u).map refK) (dPut ps kd d) := by
  unfold storedH dPut
  rw [rpx_any hk h]
  split
  · exact rpx_map hk r q h
  · exact rpx_app hk ht ha r q h
/-- of the sort of the key asked for -/
theorem rpx_sort {xs : List (NestedKey × Value × Value)} {ps : List (D × D)} {kd : D} (h : RpX K B b xs ps) (m : mixB ps kd = false) : RpX K B (tupB kd) xs ps := by
  cases h with
  | nil => exact .nil
  | cons h1 h2 h3 h4 h5 h6 h7 =>
    have m : (tupB _ != tupB kd) = false := m
    rw [h2] at m
    have e : b = tupB kd := by simpa using m
    subst e
    exact .cons h1 h2 h3 h4 h5 h6 h7
theorem rpx_got {xs : List (NestedKey × Value × Value)} {ps : List (D × D)} {kd d : D} {k : NestedKey} (hk : keyD kd = some k) (h : RpX K B b xs ps) (e : dGet ps kd = some d) : b = tupB kd := by
  induction ps generalizing xs with
  | nil => cases e
  | cons p ps ih =>
    cases h with
    | @cons _ k' _ _ _ _ _ kd' _ _ h1 h2 h3 h4 h5 h6 h7 =>
      by_cases q : k' = k
      · subst q
        rw [← h2]
        cases kd' <;> first | (cases h1; done) | skip
        · cases h1
          cases kd <;> first | (cases hk; done) | rfl | skip
          obtain ⟨ks, z, _⟩ := tkD_tup hk
          cases z
        · cases h1
          cases kd <;> first | (cases hk; done) | rfl | skip
          obtain ⟨ks, z, _⟩ := tkD_tup hk
          cases z
        · obtain ⟨ks, rfl, _⟩ := tkD_tup h1
          cases kd <;> first | (cases hk; done) | rfl
      · refine ih h7 ?_
        have e : (if kEq kd' kd then some _ else dGet ps kd) = some d := e
        rw [kEq_key h1 hk] at e
        simpa [q] using e
/-- y may be asked of it -/
theorem look_of {H : Hp} (s : Same B H) {a : Addr} {ep : Nat} {xs : List (NestedKey × Value × Value)} {ps : List (D × D)} {kd : D} {k : NestedKey} (e : H a = some (dX K.w a ep xs)) (h : RpX K B (tupB kd) xs ps) (hk : keyD kd = some k) (r : Rp K B y kd) : LookX K.w H a y (look xs k) := by
  refine ⟨ep, xs, k, e, rfl, ?_⟩
  cases ht : tupB kd with
  | true =>
    rw [ht] at h
    obtain ⟨ys, rfl, q2, _⟩ := rpx_T s h
    obtain ⟨b, q⟩ := tk_of s r hk ht
    exact .inl ⟨b, ys, rfl, q2, q⟩
  | false =>
    rw [ht] at h
    obtain ⟨ys, rfl, q2, _⟩ := rpx_S h
    obtain ⟨kk, rfl, rfl, rfl⟩ := sk_of r hk ht
    exact .inr ⟨ys, kk, rfl, q2, rfl, rfl⟩
/-- what a dict stands as -/
theorem Tp.dcs {H : Hp} {v : V} {ps : List (D × D)} (h : Tp K B H v (.dict ps)) (hx : (∃ d, ps = [(.none, d)]) → False) : ∃ a ep b xs, v = .ref a ∧ H a = some (dX K.w a ep xs) ∧ RpX K B b xs ps := by
  rcases h with h | ⟨z, h⟩
  · exact h
  · cases h with
    | dct _ r =>
      cases r with
      | nil => cases z
      | @cons _ _ _ _ _ _ _ kd _ _ h1 _ _ _ _ _ _ => cases kd <;> first | (cases z; done) | cases h1
    | exn _ _ _ _ => exact (hx ⟨_, rfl⟩).elim
theorem dGet_xn {ps : List (D × D)} (h : ∃ d, ps = [(.none, d)]) (k : D) : dGet ps k = none := by
  obtain ⟨d, rfl⟩ := h
  cases k <;> rfl
/-- a key as it stands -/
theorem Tp.rpK {H : Hp} {v : V} {kd : D} {k : NestedKey} (h : Tp K B H v kd) (hk : keyD kd = some k) : Rp K B v kd := by
  cases kd <;> first | (cases hk; done) | exact h
def dgD : D → D → Option Hd
  | .dict ps, k => if isK k then (dGet ps k).map Hd.sh else none
  | _, _ => none
theorem ol_dg : OpL K (rXG K.w) dgD := fun ρ σ B H x y dx dy h Q S tx ty e k => by
  cases dx <;> first | (cases (show none = some h from e); done) | skip
  rename_i ps
  replace e : (if isK dy then (dGet ps dy).map Hd.sh else none) = some h := e
  split at e
  · rename_i hk
    obtain ⟨d, e1, rfl⟩ := Option.map_eq_some_iff.mp e
    obtain ⟨a, ep, b, xs, rfl, ha, ra⟩ := tx.dcs fun z => by
      rw [dGet_xn z dy] at e1
      cases e1
    obtain ⟨nk, hn⟩ := isK_key hk
    have eb := rpx_got hn ra e1
    subst eb
    obtain ⟨u, v, q1, q2, q3⟩ := (rpx_get hn ra).1 d e1
    have q4 := look_of S.bh ha ra hn (ty.rpK hn)
    rw [q1] at q4
    exact ⟨a, u, v, rfl, q4, q2, now S q3 k⟩
  · cases e
def ixA : D → D → Option Hd
  | .dict ps, k => dgD (.dict ps) k
  | d, k => ixD d k
def rIxA (K : PySem.W.Frag) (w : World) : R2 := fun x y H Q => rIx K x y H Q ∨ rXG w x y H Q
theorem ol_ixA : OpL K (rIxA K K.w) ixA := fun ρ σ B H x y dx dy h Q S tx ty e k => by
  cases dx with
  | dict ps => exact .inr (ol_dg ρ σ B H x y _ dy h Q S tx ty e k)
  | _ => exact .inl (ol_ix ρ σ B H x y _ dy h Q S tx ty e k)
def dinD (neg : Bool) : D → D → Option Hd
  | k, .dict ps => if isK k && !xnB ps && !mixB ps k then some (.sh (.bool (neg ^^ (dGet ps k).isSome))) else none
  | _, _ => none
theorem ol_din {neg : Bool} : OpL K (rXin neg K.w) (dinD neg) := fun ρ σ B H x y dx dy h Q S tx ty e k => by
  cases dy <;> first | (cases dx <;> cases (show none = some h from e); done) | skip
  rename_i ps
  replace e : (if isK dx && !xnB ps && !mixB ps dx then some (Hd.sh (.bool (neg ^^ (dGet ps dx).isSome))) else none) = some h := by cases dx <;> exact e
  obtain ⟨hk, rfl⟩ := if_some e
  rw [Bool.and_eq_true, Bool.and_eq_true] at hk
  obtain ⟨⟨hk, hx⟩, hm⟩ := hk
  have hm : mixB ps dx = false := by simpa using hm
  obtain ⟨a, ep, b, xs, rfl, ha, ra⟩ := ty.dcs fun z => by
    obtain ⟨d, rfl⟩ := z
    cases hx
  obtain ⟨nk, hn⟩ := isK_key hk
  have ra := rpx_sort ra hm
  refine ⟨a, _, rfl, look_of S.bh ha ra hn (tx.rpK hn), ?_⟩
  rw [rpx_is hn ra]
  exact now S (.bl _) k
def inB (neg : Bool) : D → D → Option Hd
  | k, .dict ps => dinD neg k (.dict ps)
  | a, b => inD neg a b
theorem op_inB {X : Cx} (hu : X.A.units + 65 < cLine) : OpR X (compareOp .In) (fun x y H Q => rInA X.K x y H Q ∨ rXin false X.w x y H Q) := OpR.or (op_inA hu) (op_Xin hu)
theorem op_notInB {X : Cx} (hu : X.A.units + 65 < cLine) : OpR X (compareOp .NotIn) (fun x y H Q => rNotInA X.K x y H Q ∨ rXin true X.w x y H Q) := OpR.or (op_notInA hu) (op_Xni hu)
theorem ol_inB : OpL K (fun x y H Q => rInA K x y H Q ∨ rXin false K.w x y H Q) (inB false) := fun ρ σ B H x y dx dy h Q S tx ty e k => by
  cases dy with
  | dict ps => exact .inr (ol_din ρ σ B H x y dx _ h Q S tx ty (by cases dx <;> exact e) k)
  | _ => exact .inl (ol_in ρ σ B H x y dx _ h Q S tx ty (by cases dx <;> exact e) k)
theorem ol_notInB : OpL K (fun x y H Q => rNotInA K x y H Q ∨ rXin true K.w x y H Q) (inB true) := fun ρ σ B H x y dx dy h Q S tx ty e k => by
  cases dy with
  | dict ps => exact .inr (ol_din ρ σ B H x y dx _ h Q S tx ty (by cases dx <;> exact e) k)
  | _ => exact .inl (ol_notIn ρ σ B H x y dx _ h Q S tx ty (by cases dx <;> exact e) k)
end
section
variable {X : Cx} {C : Ct} {a b e : Expr} {ta tb te : TE} {fa fb fe : EF} {pos pos' q1 : Pos} {ρ ρ1 : Rho} {σ : St} {B H B1 H1 : Hp}
theorem se_ixA (hu : X.A.units + 65 < cLine) (la : SE X C a ta fa) (lb : SE X C b tb fb) (hk : X.K = C.K := by rfl) (hw : X.w = C.K.w := by rfl) (hs : PlainIx b := by intro _ _; rfl) : SE X C (.Subscript a b pos) (tOp (rIxA C.K C.K.w) ta tb) (eBin ixA fa fb) :=
  ⟨by rw [← hk, ← hw]; exact pe_ix (IxR.or ix_seq (ix_dX hu)) la.pe lb.pe hs, lk_op ol_ixA la.lk lb.lk⟩
def setD (k y : D) : D → Option D
  | .list ds => match k with
    | .int i => (ixN ds.length i).map fun j => .list (ds.set j y)
    | _ => none
  | .dict ps => if isK k && !mixB ps k && decide (ps.length < sizeLine) then some (.dict (dPut ps k y)) else none
  | _ => none
def rSetA (w : World) : TSet := fun o i v H Q => rSetL o i v H Q ∨ rXS w o i v H Q
theorem set_any (hu : X.A.units + 65 < cLine) : PSet X (rSetA X.w) := by
  intro pins s σ H o i v ov iv u Q I ro ri rv h
  rcases h with h | h
  · exact set_list pins s σ H o i v ov iv u Q I ro ri rv h
  · exact set_dX hu pins s σ H o i v ov iv u Q I ro ri rv h
def sPut (i : Nat) (fi fe : EF) : SF := fun ρ => bindES (eCap fe ρ) fun h ρ1 => match h with
  | .sh y => match slot ρ1 i with
    | none => .stuck
    | some _ => bindES (eCap fi ρ1) fun hi ρ2 => match hi with
      | .sh k => mutS ρ2 i (setD k y)
      | _ => .stuck
  | _ => .stuck
theorem ss_put {i : Nat} {x : Str} (hu : X.A.units + 65 < cLine) (lb : SE X C b tb fb) (l : SE X C e te fe) (hN : X.N[i]? = some x := by rfl) (hv : Vis X.env.scope x := by first | exact Or.inl rfl | exact Or.inr (Or.inl rfl) | exact Or.inr (Or.inr rfl)) (hd : (x == ("__debug__" : Str)) = false := by decide)
    (hcd : (x == ("__classdict__" : Str)) = false := by decide)
    (ha : ∀ v, assign (.Subscript (.Name x q1) b pos') X.env v = (do
      let ov ← holding [v] (eval (.Name x q1) X.env)
      let iv ← holding [v, ov] (eval b X.env)
      standAt pos'
      holding [v, ov, iv] (setItem ov iv v)
      release [v, ov, iv] []) := by intro _; rfl)
    (hs : swapsWithSole [.Subscript (.Name x q1) b pos'] e pos.line X.env = pure false := by rfl) (hw : X.w = C.K.w := by rfl) :
    SS X C (.Assign [.Subscript (.Name x q1) b pos'] e pos) (tAsg te (gSub (tVar i) tb (rSetA C.K.w))) (sPut i fb fe) := by
  refine ⟨by rw [← hw]; exact ps_asg l.pe (pg_sub (pe_var hN hv hd hcd) lb.pe (set_any hu) ha) hs, fun ρ σ B H E S g => ?_⟩
  refine l.lk.cap.bindS S g fun hd ρ1 v B1 H1 S1 x1 y1 g1 => ?_
  cases hd with
  | sh y =>
    dsimp only at g1
    split at g1
    · exact g1.elim
    rename_i c ec
    obtain ⟨v0, e0, _⟩ := S1.sl i c (slot_some ec)
    refine ⟨v0, e0, ?_⟩
    refine lb.lk.cap.bindS S1 (GoodS.ext x1 g1) fun hi ρ2 w B2 H2 S2 x2 y2 g2 => ?_
    cases hi with
    | sh k =>
      obtain ⟨c, d', h1, h2, h3, h4⟩ := mutS_ok g2
      obtain ⟨a', ea', hb, ow⟩ := S2.own h1 h2
      rw [e0] at ea'
      cases ea'
      obtain ⟨d, fl⟩ := c
      have y1' : Rp C.K B2 v y := Rp.mono x2.bb y1
      cases d with
      | list ds =>
        cases k <;> first | (cases h3; done) | skip
        rename_i ki
        obtain ⟨j, ej, rfl⟩ := Option.map_eq_some_iff.mp h3
        obtain ⟨ws, ew, rw'⟩ := ow
        have ow' : Ow C.K B2 a' (some (.lst (ws.set j v))) (.list (ds.set j y)) := ⟨_, rfl, RpL.set y1' j rw'⟩
        obtain ⟨S3, x3⟩ := S2.mut h1 h2 e0 ow'
        cases (show Rp C.K B2 w (.int ki) from y2)
        exact .inl ⟨a', ws, ki, j, rfl, rfl, ew, by rw [rw'.length]; exact ej, h4 _ _ _ S3 (x2.trans x3)⟩
      | dict ps =>
        obtain ⟨hc, rfl⟩ := if_some (show (if isK k && !mixB ps k && decide (ps.length < sizeLine) then some (PyData.dict (dPut ps k y)) else none) = some d' from h3)
        rw [Bool.and_eq_true, Bool.and_eq_true] at hc
        obtain ⟨⟨hk, hm⟩, hz⟩ := hc
        have hm : mixB ps k = false := by simpa using hm
        have hz := of_decide_eq_true hz
        obtain ⟨nk, hn⟩ := isK_key hk
        obtain ⟨ep, b, xs, ew, rk⟩ := ow
        have rk := rpx_sort rk hm
        refine .inr ⟨a', ep, xs, rfl, ew, by rw [rpx_len rk]; exact hz, ?_⟩
        cases ht : tupB k with
        | true =>
          rw [ht] at rk
          obtain ⟨ys, rfl, q2, _⟩ := rpx_T S2.bh rk
          obtain ⟨b, q⟩ := tk_of S2.bh y2 hn ht
          obtain rfl := q.1
          refine .inl ⟨b, ys, nk, rfl, q2, q, fun ep u ru => ?_⟩
          have ow' : Ow C.K B2 a' (some (dX C.K.w a' ep ((storedH ys nk b u).map refK))) (.dict (dPut ps k y)) := ⟨ep, true, _, rfl, rpx_put hn ht y2 ru y1' rk⟩
          obtain ⟨S3, x3⟩ := S2.mut h1 h2 e0 ow'
          exact h4 _ _ _ S3 (x2.trans x3)
        | false =>
          rw [ht] at rk
          obtain ⟨ys, rfl, q2, q3⟩ := rpx_S rk
          obtain ⟨kk, rfl, rfl, rfl⟩ := sk_of y2 hn ht
          refine .inr ⟨ys, kk, rfl, q2, rfl, fun ep u zs ru z1 z2 => ?_⟩
          have ow' : Ow C.K B2 a' (some (dX C.K.w a' ep (zs.map valK))) (.dict (dPut ps (kD kk) y)) := ⟨ep, false, _, rfl, rps_X z1 (by rw [z2]; exact rps_put ru y1' q3)⟩
          obtain ⟨S3, x3⟩ := S2.mut h1 h2 e0 ow'
          exact h4 _ _ _ S3 (x2.trans x3)
      | _ => cases h3
    | _ => exact g2.elim
  | _ => exact g1.elim
end
end GS
namespace GS
open PySem L2
inductive RP where | stuck | ok (ps : List (D × D)) (ρ : Rho) | exc (x : Xc) (ρ : Rho)
abbrev PF := Rho → RP
section
variable {X : Cx} {C : Ct} {a b e : Expr} {ta tb te tk tv : TE} {fa fb fe fk fv : EF} {pos pos' q1 : Pos} {ρ ρ1 : Rho} {σ : St} {B H B1 H1 : Hp} {K : KW}
def dNil : PF := fun ρ => .ok [] ρ
def dCons (fk fv : EF) (g : PF) : PF := fun ρ => match eCap fk ρ with
  | .stuck => .stuck
  | .exc x ρ1 => .exc x ρ1
  | .ok (.sh k) ρ1 => (match eCap fv ρ1 with
    | .stuck => .stuck
    | .exc x ρ2 => .exc x ρ2
    | .ok (.sh v) ρ2 => (match g ρ2 with
      | .stuck => .stuck
      | .exc x ρ3 => .exc x ρ3
      | .ok ps ρ3 => if isS k then .ok ((k, v) :: ps) ρ3 else .stuck)
    | .ok _ _ => .stuck)
  | .ok _ _ => .stuck
def GoodP (C : Ct) (ρ : Rho) (σ : St) (B H : Hp) (Q : List (V × V) → Hp → Prop) : RP → Prop
  | .stuck => False
  | .ok ps ρ' => ∀ kvs B' H', Sim C.K ρ' σ B' H' → Ext ρ σ B H ρ' σ B' H' → RpK C.K B' kvs ps → Q (kvs.map fun kv => (kV kv.1, kv.2)) H'
  | .exc x ρ' => ∀ cls dct B' H', Sim C.K ρ' σ B' H' → Ext ρ σ B H ρ' σ B' H' → XcOk C B' x cls dct → C.W cls dct σ H'
structure SD (X : Cx) (C : Ct) (pos : Pos) (keys : List (Option Expr)) (values : List Expr) (trs : List (TE × TE)) (g : PF) : Prop where
  pp : PPs X pos keys values trs
  lk : ∀ ρ σ B H Q, Sim C.K ρ σ B H → GoodP C ρ σ B H Q (g ρ) → tPairs trs σ H Q
theorem GoodP.ext {Q : List (V × V) → Hp → Prop} (x : Ext ρ σ B H ρ1 σ B1 H1) : ∀ {r : RP}, GoodP C ρ σ B H Q r → GoodP C ρ1 σ B1 H1 Q r
  | .stuck, g => g
  | .ok _ _, g => fun vs B' H' s y z => g vs B' H' s (x.trans y) z
  | .exc _ _, g => fun c d B' H' s y z => g c d B' H' s (x.trans y) z
theorem sd_nil : SD X C pos [] [] [] dNil := ⟨pps_nil, fun ρ σ B H Q S g => g [] B H S Ext.refl .nil⟩
theorem sd_cons {ks : List (Option Expr)} {vs : List Expr} {trs : List (TE × TE)} {g : PF} (lk : SE X C a tk fk) (lv : SE X C b tv fv) (r : SD X C pos ks vs trs g) : SD X C pos (some a :: ks) (b :: vs) ((tk, tv) :: trs) (dCons fk fv g) := by
  refine ⟨pps_cons lk.pe lv.pe r.pp, fun ρ σ B H Q S gd => ?_⟩
  refine lk.lk.cap ρ σ B H _ S ?_
  unfold dCons at gd
  cases e1 : eCap fk ρ with
  | stuck => rw [e1] at gd; exact gd
  | exc x ρ1 => rw [e1] at gd; exact gd
  | ok h1 ρ1 =>
    rw [e1] at gd
    cases h1 with
    | sh k =>
      intro x B1 H1 S1 x1 y1
      refine lv.lk.cap ρ1 σ B1 H1 _ S1 ?_
      dsimp only at gd
      cases e2 : eCap fv ρ1 with
      | stuck => rw [e2] at gd; exact gd
      | exc x ρ2 => rw [e2] at gd; exact fun c d B' H' s y z => gd c d B' H' s (x1.trans y) z
      | ok h2 ρ2 =>
        rw [e2] at gd
        cases h2 with
        | sh v =>
          intro y B2 H2 S2 x2 y2
          refine r.lk ρ2 σ B2 H2 _ S2 ?_
          dsimp only at gd
          cases e3 : g ρ2 with
          | stuck => rw [e3] at gd; exact gd
          | exc x ρ3 => rw [e3] at gd; exact fun c d B' H' s y z => gd c d B' H' s ((x1.trans x2).trans y) z
          | ok ps ρ3 =>
            rw [e3] at gd
            dsimp only at gd
            intro kvs B3 H3 S3 x3 y3
            split at gd
            · rename_i hk
              obtain ⟨ky, rfl⟩ := isS_k hk
              have ek : x = kV ky := (Tp.of S1.bh y1).key
              subst ek
              exact gd ((ky, y) :: kvs) B3 H3 S3 ((x1.trans x2).trans x3) (.cons (Rp.mono x3.bb y2) y3)
            · exact gd.elim
        | _ => exact gd.elim
    | _ => exact gd.elim
def dMerge (ps : List (D × D)) : List (D × D) := ps.foldl (fun acc p => dPut acc p.1 p.2) []
theorem rpk_S {kvs : List (Key × V)} {ps : List (D × D)} (h : RpK K B kvs ps) : ∀ {vs : List (Key × Value)}, KV kvs vs → RpS K B vs ps := by
  induction kvs generalizing ps with
  | nil => cases h; intro vs r; cases r; exact .nil
  | cons kv kvs ih =>
    cases h with
    | cons r t =>
      intro vs q
      cases q with
      | cons q1 q2 => exact .cons ⟨by rw [← q1.1], _, q1.2, r⟩ (ih t q2)
theorem rpk_any {k : Key} : ∀ {kvs : List (Key × V)} {ps : List (D × D)}, RpK K B kvs ps → (kvs.any fun kv => decide (kv.1 = k)) = ps.any fun p => kEq p.1 (kD k)
  | _, _, .nil => rfl
  | _, _, .cons h t => by rw [List.any_cons, List.any_cons, rpk_any t, kEq_k]
theorem rpk_map {k : Key} {v : V} {d : D} (r : Rp K B v d) : ∀ {kvs : List (Key × V)} {ps : List (D × D)}, RpK K B kvs ps → RpK K B (kvs.map fun kv => if kv.1 = k then (kv.1, v) else kv) (ps.map fun p => if kEq p.1 (kD k) then (p.1, d) else p)
  | _, _, .nil => .nil
  | _, _, .cons (k := k') h t => by
    rw [List.map_cons, List.map_cons, kEq_k]
    by_cases e : k' = k
    · simp only [e, if_true, decide_true]
      exact .cons r (rpk_map r t)
    · simp only [e, if_false, decide_false, Bool.false_eq_true]
      exact .cons h (rpk_map r t)
theorem rpk_app {k : Key} {v : V} {d : D} (r : Rp K B v d) : ∀ {kvs : List (Key × V)} {ps : List (D × D)}, RpK K B kvs ps → RpK K B (kvs ++ [(k, v)]) (ps ++ [(kD k, d)])
  | _, _, .nil => .cons r .nil
  | _, _, .cons h t => .cons h (rpk_app r t)
theorem rpk_len : ∀ {kvs : List (Key × V)} {ps : List (D × D)}, RpK K B kvs ps → kvs.length = ps.length
  | _, _, .nil => rfl
  | _, _, .cons _ t => by rw [List.length_cons, List.length_cons, rpk_len t]
theorem rpk_put {k : Key} {v : V} {d : D} {kvs : List (Key × V)} {ps : List (D × D)} (h : RpK K B kvs ps) (r : Rp K B v d) : RpK K B (putK kvs k v) (dPut ps (kD k) d) := by
  unfold putK dPut
  rw [rpk_any h]
  split
  · exact rpk_map r h
  · exact rpk_app r h
theorem rpk_merge {kvs : List (Key × V)} {ps : List (D × D)} (h : RpK K B kvs ps) : ∀ {k0 : List (Key × V)} {p0 : List (D × D)}, RpK K B k0 p0 → RpK K B (mergeK k0 kvs) (ps.foldl (fun acc p => dPut acc p.1 p.2) p0) := by
  induction kvs generalizing ps with
  | nil => cases h; exact fun h0 => h0
  | cons kv kvs ih =>
    cases h with
    | cons r t =>
      intro k0 p0 h0
      exact ih t (rpk_put h0 r)
def eDct (g : PF) : EF := fun ρ => match g ρ with
  | .stuck => .stuck
  | .exc x ρ1 => .exc x ρ1
  | .ok ps ρ1 => if ps.length ≤ 15 then .ok (.fr (.dict (dMerge ps))) ρ1 else .stuck
theorem se_dct {keys : List (Option Expr)} {values : List Expr} {trs : List (TE × TE)} {g : PF} (l : SD X C pos keys values trs g) (hall : keys.all (·.isSome) = true := by rfl) (hl : keys.length = values.length := by rfl) (h0 : keys ≠ [] := by intro h; cases h)
    (h15 : keys.length ≤ 15 := by decide) (hw : X.w = C.K.w := by rfl) : SE X C (.Dict keys values pos) (tRe C.K.w (tDisp trs)) (eDct g) := by
  refine ⟨by rw [← hw]; exact pe_re (pe_disp l.pp hall hl h0 h15), fun ρ σ B H Q S gd p hp => ?_⟩
  obtain ⟨S1, x1⟩ := S.newH hp (.dK [])
  obtain ⟨bp, np⟩ := S.free hp
  refine l.lk ρ σ B _ _ S1 ?_
  unfold eDct at gd
  cases e : g ρ with
  | stuck => rw [e] at gd; exact gd
  | exc x ρ1 => rw [e] at gd; exact fun c d B' H' s y z => gd c d B' H' s (x1.trans y) z
  | ok ps ρ1 =>
    rw [e] at gd
    dsimp only at gd
    split at gd
    · rename_i hlen
      intro kvs B2 H2 S2 x2 r2
      have hp1 : (upd H p (.dK [])) p = some (.dK []) := upd_same
      have nown : ¬ OwnA ρ σ p := np
      have h2p : H2 p = some (.dK []) := x2.kp p _ hp1 nown
      have notnew : ¬ New ρ σ (upd H p (.dK [])) p := fun z => by
        rcases z with z | z
        · rw [hp1] at z; cases z
        · exact nown z
      have b2p : B2 p = none := by
        cases eb : B2 p with
        | none => rfl
        | some o =>
          rcases x2.nw p o eb with z | z
          · rw [bp] at z; cases z
          · exact absurd z notnew
      have n2 : ¬ OwnA ρ1 σ p := fun z => notnew (x2.sub p z)
      refine ⟨h2p, kvs, rfl, by rw [rpk_len r2]; exact hlen, ?_⟩
      refine ⟨p, _, rfl, upd_same, fun ep ys y1 y2 => ?_⟩
      rw [upd_upd]
      have S3 := S2.tweak (o := dX C.K.w p ep (ys.map valK)) b2p n2
      have x3 : Ext ρ σ B H ρ1 σ B2 (upd H2 p (dX C.K.w p ep (ys.map valK))) := (x1.trans x2).tweak (.inl hp)
      exact gd _ _ _ S3 x3 ⟨p, rfl, b2p, ⟨ep, false, _, upd_same, rps_X y1 (rpk_S (rpk_merge r2 .nil) y2)⟩, n2, .inl hp⟩
    · exact gd.elim
end
end GS
namespace GS
open PySem L2
section
variable {X : Cx} {C : Ct} {e0 : Expr} {es : List Expr} {pos p : Pos} {x : Str} {k n : Nat} {f : Addr} {fd : FuncData} {ps : List Str} {F : FF} {t : TA} {g : AF} {t0 : TE} {f0 : EF}
end
end GS
namespace GS
open PySem L2
section
variable {K : KW} {ρ : Rho} {σ : St} {B H : Hp} {v x y : V} {Q : VK}
def mulA : D → D → Option Hd
  | .str z, .int k => if decide (0 ≤ k) && Nat.ble k.natAbs 1000 && Nat.ble z.length 1000 then some (.sh (.str (Txt.mul z k))) else none
  | .tuple ds, .int k => if decide (0 ≤ k) && Nat.ble 2 k.natAbs && Nat.ble k.natAbs 1000 && Nat.ble 1 ds.length && Nat.ble ds.length 1000 then some (.sh (.tuple (List.replicate k.toNat ds).flatten)) else none
  | d, e => mulD d e
theorem RpL.rep {vs : List V} {ds : List D} (h : RpL K B vs ds) : ∀ n, RpL K B (List.replicate n vs).flatten (List.replicate n ds).flatten
  | 0 => .nil
  | n + 1 => by
    rw [List.replicate_succ, List.replicate_succ, List.flatten_cons, List.flatten_cons]
    exact h.append (RpL.rep h n)
def intsL : List D → Option (List Int)
  | [] => some []
  | .int b :: ds => (intsL ds).map (b :: ·)
  | _ :: _ => none
theorem intsL_ok : ∀ {vs : List V} {ds : List D} {bs : List Int}, RpL K B vs ds → intsL ds = some bs → vs = bs.map V.int
  | _, _, _, .nil, e => by cases e; rfl
  | _, d :: ds, _, .cons h t, e => by
    cases d <;> first | (cases e; done) | skip
    obtain ⟨r, er, rfl⟩ := Option.map_eq_some_iff.mp e
    cases h
    rw [intsL_ok t er]; rfl
end
section
variable {X : Cx} {C : Ct} {a b e : Expr} {ta tb te : TE} {fa fb fe : EF} {pos p p1 p2 p3 : Pos}
end
end GS
namespace GS
open PySem L2
def mapR (k : Rho → Rho) : RS → RS
  | .stuck => .stuck
  | .nx ρ => .nx (k ρ)
  | .bk ρ => .bk (k ρ)
  | .ct ρ => .ct (k ρ)
  | .rt h ρ => .rt h (k ρ)
  | .exc x ρ => .exc x (k ρ)
/-- less is known -/
structure Weak (ρ ρ' : Rho) : Prop where
  len : ρ'.length = ρ.length
  sub : ∀ (i : Nat) (c : Cel), ρ'[i]? = some (some c) → ρ[i]? = some (some c)
  io : ∀ (i : Nat) (c : Cel), ρ[i]? = some (some c) → c.fl = .io → ρ'[i]? = some (some c)
section
variable {K : KW} {X : Cx} {C : Ct} {ρ ρ1 ρ2 : Rho} {σ σ1 : St} {B H B1 H1 : Hp} {Ed : Ends} {t u : TS} {f g : SF} {st : Stmt} {rest : List Stmt} {pos : Pos}
theorem OwnA.weak (w : Weak ρ ρ1) {a : Addr} (h : OwnA ρ1 σ a) : OwnA ρ σ a := by
  obtain ⟨i, c, h1, h2, h3⟩ := h
  exact ⟨i, c, w.sub i c h1, h2, h3⟩
theorem Sim.weak (S : Sim K ρ σ B H) (w : Weak ρ ρ1) : Sim K ρ1 σ B H :=
  ⟨S.bh, w.len.trans S.len, fun i c h => S.sl i c (w.sub i c h), fun i j ci cj a hi hj => S.dj i j ci cj a (w.sub i ci hi) (w.sub j cj hj)⟩
theorem Ext.weak (x : Ext ρ σ B H ρ1 σ1 B1 H1) (w : Weak ρ1 ρ2) : Ext ρ σ B H ρ2 σ1 B1 H1 :=
  ⟨x.bb, x.nw, x.kp, fun a h => x.sub a (OwnA.weak w h), fun i c h1 h2 => by
    obtain ⟨e1, c1, q1, q2⟩ := x.io i c h1 h2
    exact ⟨e1, c1, w.io i c1 q1 q2, q2⟩, fun i c h1 h2 => x.oi i c (w.sub i c h1) h2⟩
theorem HdOk.weak {N : Addr → Prop} {v : V} (w : Weak ρ ρ1) : ∀ {h : Hd}, HdOk K N ρ σ B H v h → HdOk K N ρ1 σ B H v h
  | .sh _, q => q
  | .fr _, ⟨a, h1, h2, h3, h4, h5⟩ => ⟨a, h1, h2, h3, fun z => h4 (OwnA.weak w z), h5⟩
  | .bw _, q => q
theorem lk_weak {k : Rho → Rho} {f : SF} (hk : ∀ ρ' σ' B' H', Ext ρ σ B H ρ' σ' B' H' → Weak ρ' (k ρ')) (g : GoodS C ρ σ B H Ed (mapR k (f ρ))) : GoodS C ρ σ B H Ed (f ρ) := by
  cases e : f ρ with
  | stuck => rw [e] at g; exact g
  | nx ρ' => rw [e] at g; exact fun σ' B' H' s x => g σ' B' H' (s.weak (hk _ _ _ _ x)) (x.weak (hk _ _ _ _ x))
  | bk ρ' => rw [e] at g; exact fun σ' B' H' s x => g σ' B' H' (s.weak (hk _ _ _ _ x)) (x.weak (hk _ _ _ _ x))
  | ct ρ' => rw [e] at g; exact fun σ' B' H' s x => g σ' B' H' (s.weak (hk _ _ _ _ x)) (x.weak (hk _ _ _ _ x))
  | rt h ρ' => rw [e] at g; exact fun v σ' B' H' s x y => g v σ' B' H' (s.weak (hk _ _ _ _ x)) (x.weak (hk _ _ _ _ x)) (y.weak (hk _ _ _ _ x))
  | exc y ρ' => rw [e] at g; exact fun c d σ' B' H' s x z => g c d σ' B' H' (s.weak (hk _ _ _ _ x)) (x.weak (hk _ _ _ _ x)) z
def sKill (vs : List Nat) (f : SF) : SF := fun ρ => if vs.all fun i => !ioAt ρ i then mapR (fun ρ => wipeR ρ vs) (f ρ) else .stuck
theorem weak_wipe {vs : List Nat} (h : ∀ i ∈ vs, ∀ c, ρ[i]? = some (some c) → c.fl ≠ .io) : Weak ρ (wipeR ρ vs) :=
  ⟨wipeR_len _ _, fun i c e => (wipeR_some e).1, fun i c e z => by
    have ni : i ∉ vs := fun q => h i q c e z
    rw [wipeR_keep ni]; exact e⟩
theorem lk_kill {vs : List Nat} (l : LkS C t f) : LkS C t (sKill vs f) := fun ρ σ B H D S g => by
  unfold sKill at g
  split at g
  · rename_i hv
    refine l ρ σ B H D S (lk_weak (fun ρ' σ' B' H' x => weak_wipe fun i hi c hc hf => ?_) g)
    have := List.all_eq_true.mp hv i hi
    obtain ⟨c', q1, q2⟩ := x.oi i c hc hf
    exact not_io (by simpa using this) q1 q2
  · exact g.elim
theorem ss_kill {vs : List Nat} (l : SS X C st t f) : SS X C st t (sKill vs f) := ⟨l.ps, lk_kill l.lk⟩
theorem sss_kill {vs : List Nat} {sts : List Stmt} (l : SSs X C sts t f) : SSs X C sts t (sKill vs f) := ⟨l.ps, lk_kill l.lk⟩
theorem weak_io : Weak ρ (ρ.map ioC) := by
  refine ⟨List.length_map _, fun i c e => ?_, fun i c e z => ?_⟩
  · rw [List.getElem?_map] at e
    obtain ⟨o, h1, h2⟩ := Option.map_eq_some_iff.mp e
    rw [h1, (ioC_some h2).1]
  · rw [List.getElem?_map, e]
    obtain ⟨d, fl⟩ := c
    cases z
    rfl
/-- only what is lent stays -/
def sEnd (f : SF) : SF := fun ρ => mapR (fun ρ => ρ.map ioC) (f ρ)
theorem lk_end (l : LkS C t f) : LkS C t (sEnd f) := fun ρ σ B H D S g => l ρ σ B H D S (lk_weak (fun _ _ _ _ _ => weak_io) g)
theorem ss_end (l : SS X C st t f) : SS X C st t (sEnd f) := ⟨l.ps, lk_end l.lk⟩
end
end GS
namespace GS
open PySem L2
def flatEq : D → D → Option Bool
  | .str i, .str j => some (decide (i = j))
  | .int i, .int j => some (decide (i = j))
  | .bool i, .bool j => some (decide (i = j))
  | .none, .none => some true
  | .none, .str _ => some false
  | .str _, .none => some false
  | .none, .int _ => some false
  | .int _, .none => some false
  | _, _ => none
/-- no dicts, at most 190 deep -/
def okW (d : D) : Bool := GS.plain d && PyData.canLay0 d && Nat.ble d.depth 190
def eqB (neg : Bool) : D → D → Option Hd := fun x y => match flatEq x y with
  | some b => some (.sh (.bool (neg ^^ b)))
  | none => if okW x && okW y then some (.sh (.bool (neg ^^ PyData.eqv x y))) else none
def rEqW (K : PySem.W.Frag) : R2 := fun x y H Q => ∃ d e, Dp K H x d ∧ Dp K H y e ∧ PyData.canLay0 d = true ∧ PyData.canLay0 e = true ∧ d.depth ≤ 190 ∧ Q (.bl (PyData.eqv d e)) H
def rNeW (K : PySem.W.Frag) : R2 := fun x y H Q => ∃ d e, Dp K H x d ∧ Dp K H y e ∧ PyData.canLay0 d = true ∧ PyData.canLay0 e = true ∧ d.depth ≤ 190 ∧ Q (.bl (!PyData.eqv d e)) H
theorem op_eqW {X : Cx} (hu : X.A.units + 199 < cLine) : OpR X (compareOp .Eq) (rEqW X.K) := by
  intro pins s σ H x y v u Q I rx ry h
  obtain ⟨d, e, hd, he, sd, se, dp, q⟩ := h
  obtain ⟨as, r1⟩ := Dp.reads I d x v hd rx
  obtain ⟨bs, r2⟩ := Dp.reads I e y u he ry
  exact SeqAt.compareEq_reads r1 r2 sd se (by omega) ⟨.bl _, H, I, rfl, q⟩
theorem op_neW {X : Cx} (hu : X.A.units + 199 < cLine) : OpR X (compareOp .NotEq) (rNeW X.K) := by
  intro pins s σ H x y v u Q I rx ry h
  obtain ⟨d, e, hd, he, sd, se, dp, q⟩ := h
  obtain ⟨as, r1⟩ := Dp.reads I d x v hd rx
  obtain ⟨bs, r2⟩ := Dp.reads I e y u he ry
  exact SeqAt.compareNe_reads r1 r2 sd se (by omega) ⟨.bl _, H, I, rfl, q⟩
section
variable {K : KW}
theorem flatEq_V {B H : Hp} {x y : V} {dx dy : D} {b : Bool} (tx : Tp K B H x dx) (ty : Tp K B H y dy) (e : flatEq dx dy = some b) : scal x y = true ∧ decide (x = y) = b := by
  cases dx <;> cases dy <;> first | (cases (show none = some b from e); done) | skip
  · cases e; rw [tx.non, ty.non]; exact ⟨rfl, rfl⟩
  · cases e; rw [tx.non, ty.int]; exact ⟨rfl, by simp⟩
  · cases e; rw [tx.non, ty.str]; exact ⟨rfl, by simp⟩
  · cases e; rw [tx.bl, ty.bl]; exact ⟨rfl, by simp⟩
  · cases e; rw [tx.int, ty.non]; exact ⟨rfl, by simp⟩
  · cases e; rw [tx.int, ty.int]; exact ⟨rfl, by simp⟩
  · cases e; rw [tx.str, ty.non]; exact ⟨rfl, by simp⟩
  · cases e; rw [tx.str, ty.str]; exact ⟨rfl, by simp⟩
theorem op_eqB {X : Cx} (hu : X.A.units + 199 < cLine) : OpR X (compareOp .Eq) (fun x y H Q => rEq x y H Q ∨ rEqW X.K x y H Q) := OpR.or op_eq (op_eqW hu)
theorem op_neB {X : Cx} (hu : X.A.units + 199 < cLine) : OpR X (compareOp .NotEq) (fun x y H Q => rNe x y H Q ∨ rNeW X.K x y H Q) := OpR.or op_ne (op_neW hu)
theorem okW_ok {d : D} (h : okW d = true) : GS.plain d = true ∧ PyData.canLay0 d = true ∧ d.depth ≤ 190 := by
  unfold okW at h
  rw [Bool.and_eq_true, Bool.and_eq_true] at h
  exact ⟨h.1.1, h.1.2, Nat.le_of_ble_eq_true h.2⟩
theorem ol_eqB : OpL K (fun x y H Q => rEq x y H Q ∨ rEqW K x y H Q) (eqB false) := fun ρ σ B H x y dx dy h Q S tx ty e k => by
  unfold eqB at e
  split at e
  · rename_i b eb
    cases e
    obtain ⟨q1, q2⟩ := flatEq_V tx ty eb
    refine .inl ⟨q1, ?_⟩
    rw [q2]
    have := now (v := .bl (false ^^ b)) S (.bl _) k
    rwa [Bool.false_xor] at this
  · obtain ⟨c, rfl⟩ := if_some e
    rw [Bool.and_eq_true] at c
    obtain ⟨p1, c1, d1⟩ := okW_ok c.1
    obtain ⟨p2, c2, d2⟩ := okW_ok c.2
    refine .inr ⟨dx, dy, (tx.rp S.bh).dp _ p1, (ty.rp S.bh).dp _ p2, c1, c2, d1, ?_⟩
    have := now (v := .bl (false ^^ PyData.eqv dx dy)) S (.bl _) k
    rwa [Bool.false_xor] at this
theorem ol_neB : OpL K (fun x y H Q => rNe x y H Q ∨ rNeW K x y H Q) (eqB true) := fun ρ σ B H x y dx dy h Q S tx ty e k => by
  unfold eqB at e
  split at e
  · rename_i b eb
    cases e
    obtain ⟨q1, q2⟩ := flatEq_V tx ty eb
    refine .inl ⟨q1, ?_⟩
    rw [q2]
    have := now (v := .bl (true ^^ b)) S (.bl _) k
    rwa [Bool.true_xor] at this
  · obtain ⟨c, rfl⟩ := if_some e
    rw [Bool.and_eq_true] at c
    obtain ⟨p1, c1, d1⟩ := okW_ok c.1
    obtain ⟨p2, c2, d2⟩ := okW_ok c.2
    refine .inr ⟨dx, dy, (tx.rp S.bh).dp _ p1, (ty.rp S.bh).dp _ p2, c1, c2, d1, ?_⟩
    have := now (v := .bl (true ^^ PyData.eqv dx dy)) S (.bl _) k
    rwa [Bool.true_xor] at this
end
end GS
namespace GS
open PySem L2
def stuckF : FF := fun _ => .stuck
section
variable {ρ ρ1 : Rho} {c : Prop} [Decidable c]
@[simp] theorem mapR_st (k : Rho → Rho) : mapR k .stuck = .stuck := rfl
@[simp] theorem mapR_nx (k : Rho → Rho) : mapR k (.nx ρ) = .nx (k ρ) := rfl
@[simp] theorem mapR_bk (k : Rho → Rho) : mapR k (.bk ρ) = .bk (k ρ) := rfl
@[simp] theorem mapR_ct (k : Rho → Rho) : mapR k (.ct ρ) = .ct (k ρ) := rfl
@[simp] theorem mapR_rt (k : Rho → Rho) (h : Hd) : mapR k (.rt h ρ) = .rt h (k ρ) := rfl
@[simp] theorem mapR_ex (k : Rho → Rho) (x : Xc) : mapR k (.exc x ρ) = .exc x (k ρ) := rfl
@[simp] theorem mapR_if (k : Rho → Rho) (a b : RS) : mapR k (if c then a else b) = if c then mapR k a else mapR k b := by split <;> rfl
@[simp] theorem sKill_eq (vs : List Nat) (f : SF) : sKill vs f ρ = if vs.all fun i => !ioAt ρ i then mapR (fun ρ => wipeR ρ vs) (f ρ) else .stuck := rfl
@[simp] theorem sEnd_eq (f : SF) : sEnd f ρ = mapR (fun ρ => ρ.map ioC) (f ρ) := rfl
@[simp] theorem ioAt_zi (d : D) : ioAt (some ⟨d, .io⟩ :: ρ) 0 = true := rfl
@[simp] theorem outR_zero : outR ρ 0 = [] := rfl
@[simp] theorem outR_succ (x : Option Cel) (n : Nat) : outR (x :: ρ) (n + 1) = ioC x :: outR ρ n := by
  unfold outR
  rw [List.range_succ_eq_map, List.map_cons, List.map_map, slot_zero]
  rfl
@[simp] theorem ixA_l (ds : List D) (i : Int) : ixA (.list ds) (.int i) = (atI ds i).map Hd.sh := rfl
@[simp] theorem ixA_t (ds : List D) (i : Int) : ixA (.tuple ds) (.int i) = (atI ds i).map Hd.sh := rfl
@[simp] theorem ixA_s (z : Str) (i : Int) : ixA (.str z) (.int i) = if z.length ≤ sizeLine then (atI z.cps.toList i).map fun c => Hd.sh (.str ⟨#[c]⟩) else none := rfl
@[simp] theorem ixA_d (ps : List (D × D)) (k : D) : ixA (.dict ps) k = if isK k then (dGet ps k).map Hd.sh else none := rfl
@[simp] theorem isS_s (z : Str) : isS (.str z) = true := rfl
@[simp] theorem isS_i (z : Int) : isS (.int z) = true := rfl
@[simp] theorem mixB_nil (k : D) : mixB [] k = false := rfl
@[simp] theorem mixB_ss (z w : Str) (d : D) (ps : List (D × D)) : mixB ((.str z, d) :: ps) (.str w) = false := rfl
@[simp] theorem mixB_ii (z w : Int) (d : D) (ps : List (D × D)) : mixB ((.int z, d) :: ps) (.int w) = false := rfl
@[simp] theorem mixB_tt (z w : List D) (d : D) (ps : List (D × D)) : mixB ((.tuple z, d) :: ps) (.tuple w) = false := rfl
@[simp] theorem xnB_tup (z : List D) (d : D) (ps : List (D × D)) : xnB ((.tuple z, d) :: ps) = false := rfl
@[simp] theorem isK_s (z : Str) : isK (.str z) = true := rfl
@[simp] theorem isK_i (z : Int) : isK (.int z) = true := rfl
@[simp] theorem kEq_s (z w : Str) : kEq (.str z) (.str w) = decide (z = w) := rfl
@[simp] theorem kEq_i (z w : Int) : kEq (.int z) (.int w) = decide (z = w) := rfl
@[simp] theorem dGet_nil (k : D) : dGet [] k = none := rfl
@[simp] theorem dGet_cons (a d : D) (r : List (D × D)) (k : D) : dGet ((a, d) :: r) k = if kEq a k then some d else dGet r k := rfl
@[simp] theorem ofS_inj (a b : String) : (Str.ofString a = Str.ofString b) ↔ a = b := by
  constructor
  · intro h
    rw [Str.ofString_eq_toList, Str.ofString_eq_toList, Str.mk.injEq] at h
    have h2 : a.toList.map Char.toNat = b.toList.map Char.toNat := by
      have := congrArg Array.toList h
      simpa using this
    have h3 : a.toList = b.toList := (List.map_inj_right (fun x y e => Char.toNat_inj.mp e)).mp h2
    exact String.toList_inj.mp h3
  · intro h; rw [h]
theorem ofS_len (a : String) : (Str.ofString a).length = a.toList.length := by
  rw [Str.ofString_eq_toList]
  show (List.toArray _).size = _
  simp
theorem ofS_cps (a : String) : (Str.ofString a).cps.toList = a.toList.map Char.toNat := by
  rw [Str.ofString_eq_toList]
@[simp] theorem xnB_nil : xnB [] = false := rfl
@[simp] theorem xnB_str (x : Str) (d : D) (ps : List (D × D)) : xnB ((.str x, d) :: ps) = false := rfl
@[simp] theorem xnB_int (x : Int) (d : D) (ps : List (D × D)) : xnB ((.int x, d) :: ps) = false := rfl
@[simp] theorem inB_d (neg : Bool) (k : D) (ps : List (D × D)) : inB neg k (.dict ps) = if isK k && !xnB ps && !mixB ps k then some (.sh (.bool (neg ^^ (dGet ps k).isSome))) else none := by cases k <;> rfl
@[simp] theorem inB_c (neg : Bool) (c : Nat) (z : Str) : inB neg (.str ⟨#[c]⟩) (.str z) = some (.sh (.bool (neg ^^ decide (c ∈ z.cps.toList)))) := rfl
@[simp] theorem inB_t (neg : Bool) (d : D) (ds : List D) : inB neg d (.tuple ds) = if flatD d && ds.all flatD then some (.sh (.bool (neg ^^ ds.any fun z => PyData.eqv z d))) else none := by cases d <;> rfl
@[simp] theorem inB_l (neg : Bool) (d : D) (ds : List D) : inB neg d (.list ds) = if okEq d && okEq (.list ds) then some (.sh (.bool (neg ^^ ds.any fun z => PyData.eqv z d))) else none := by cases d <;> rfl
@[simp] theorem mulA_i (i j : Int) : mulA (.int i) (.int j) = mulD (.int i) (.int j) := rfl
@[simp] theorem eqB_i (neg : Bool) (i j : Int) : eqB neg (.int i) (.int j) = some (.sh (.bool (neg ^^ decide (i = j)))) := rfl
@[simp] theorem eqB_s (neg : Bool) (i j : Str) : eqB neg (.str i) (.str j) = some (.sh (.bool (neg ^^ decide (i = j)))) := rfl
@[simp] theorem eqB_b (neg : Bool) (i j : Bool) : eqB neg (.bool i) (.bool j) = some (.sh (.bool (neg ^^ decide (i = j)))) := rfl
@[simp] theorem eqB_nn (neg : Bool) : eqB neg .none .none = some (.sh (.bool (neg ^^ true))) := rfl
@[simp] theorem eqB_ns (neg : Bool) (j : Str) : eqB neg .none (.str j) = some (.sh (.bool (neg ^^ false))) := rfl
@[simp] theorem eqB_sn (neg : Bool) (j : Str) : eqB neg (.str j) .none = some (.sh (.bool (neg ^^ false))) := rfl
@[simp] theorem eqB_ni (neg : Bool) (j : Int) : eqB neg .none (.int j) = some (.sh (.bool (neg ^^ false))) := rfl
@[simp] theorem eqB_in (neg : Bool) (j : Int) : eqB neg (.int j) .none = some (.sh (.bool (neg ^^ false))) := rfl
/-- any two data that can be compared -/
theorem eqB_of {x y : D} (neg : Bool) (hx : okW x = true) (hy : okW y = true) : eqB neg x y = some (.sh (.bool (neg ^^ PyData.eqv x y))) := by
  unfold eqB
  split
  · rename_i b e
    congr 4
    cases x <;> cases y <;> first | (cases (show none = some b from e); done) | (cases e; simp [PyData.eqv]; done) | skip
    · cases e; simp [PyData.eqv]; rw [Bool.eq_iff_iff]; simp
    · cases e; simp [PyData.eqv]; rw [Bool.eq_iff_iff]; simp
    · cases e; simp [PyData.eqv]; rw [Bool.eq_iff_iff]; simp
  · rw [hx, hy]
    rfl
@[simp] theorem isD_nn (neg : Bool) : isD neg .none .none = some (.sh (.bool (!neg))) := rfl
@[simp] theorem isD_bn (neg b : Bool) : isD neg (.bool b) .none = some (.sh (.bool neg)) := rfl
@[simp] theorem isD_in (neg : Bool) (b : Int) : isD neg (.int b) .none = some (.sh (.bool neg)) := rfl
@[simp] theorem isD_sn (neg : Bool) (b : Str) : isD neg (.str b) .none = some (.sh (.bool neg)) := rfl
@[simp] theorem isD_tn (neg : Bool) (b : List D) : isD neg (.tuple b) .none = some (.sh (.bool neg)) := rfl
@[simp] theorem isD_ln (neg : Bool) (b : List D) : isD neg (.list b) .none = some (.sh (.bool neg)) := rfl
@[simp] theorem isD_dn (neg : Bool) (b : List (D × D)) : isD neg (.dict b) .none = some (.sh (.bool neg)) := rfl
@[simp] theorem isD_bb (neg a b : Bool) : isD neg (.bool a) (.bool b) = some (.sh (.bool (neg ^^ decide (a = b)))) := rfl
def mutO (fl : Fl) (o : Option D) (ρ : Rho) (i : Nat) : RS := match o with
  | some d' => .nx (ρ.set i (some ⟨d', fl⟩))
  | none => .stuck
def mutC (s : Option Cel) (ρ : Rho) (i : Nat) (k : D → Option D) : RS := match s with
  | some ⟨d, .ow⟩ => mutO .ow (k d) ρ i
  | some ⟨d, .io⟩ => mutO .io (k d) ρ i
  | _ => .stuck
@[simp] theorem mutO_s (fl : Fl) (d : D) (i : Nat) : mutO fl (some d) ρ i = .nx (ρ.set i (some ⟨d, fl⟩)) := rfl
@[simp] theorem mutO_if (fl : Fl) (a b : Option D) (i : Nat) : mutO fl (if c then a else b) ρ i = if c then mutO fl a ρ i else mutO fl b ρ i := by split <;> rfl
@[simp] theorem mutO_n (fl : Fl) (i : Nat) : mutO fl none ρ i = .stuck := rfl
@[simp] theorem mutC_ow (d : D) (i : Nat) (k : D → Option D) : mutC (some ⟨d, .ow⟩) ρ i k = mutO .ow (k d) ρ i := rfl
@[simp] theorem mutC_io (d : D) (i : Nat) (k : D → Option D) : mutC (some ⟨d, .io⟩) ρ i k = mutO .io (k d) ρ i := rfl
@[simp] theorem mutS_eq (i : Nat) (k : D → Option D) : mutS ρ i k = mutC (slot ρ i) ρ i k := by
  unfold mutS mutC mutO
  rfl
@[simp] theorem appD_l (y : D) (ds : List D) : appD y (.list ds) = if ds.length < sizeLine then some (.list (ds ++ [y])) else none := rfl
def isLC : Option Cel → Bool
  | some ⟨.list _, _⟩ => true
  | _ => false
@[simp] theorem isLC_l (ds : List D) (fl : Fl) : isLC (some ⟨.list ds, fl⟩) = true := rfl
@[simp] theorem isL_eq (i : Nat) : isL ρ i = isLC (slot ρ i) := rfl
def appR (i : Nat) (h : Hd) (ρ : Rho) : RS := match h with
  | .sh y => mutS ρ i (appD y)
  | _ => .stuck
@[simp] theorem appR_sh (i : Nat) (y : D) : appR i (.sh y) ρ = mutS ρ i (appD y) := rfl
@[simp] theorem sApp_eq (i : Nat) (f : EF) : sApp i f ρ = if isL ρ i then bindES (eCap f ρ) (appR i) else .stuck := by unfold sApp; rfl
def putK (i : Nat) (y : D) (h : Hd) (ρ : Rho) : RS := match h with
  | .sh k => mutS ρ i (setD k y)
  | _ => .stuck
def putC (s : Option Cel) (i : Nat) (fi : EF) (y : D) (ρ : Rho) : RS := match s with
  | none => .stuck
  | some _ => bindES (eCap fi ρ) (putK i y)
def putR (i : Nat) (fi : EF) (h : Hd) (ρ : Rho) : RS := match h with
  | .sh y => putC (slot ρ i) i fi y ρ
  | _ => .stuck
@[simp] theorem putK_sh (i : Nat) (k y : D) : putK i y (.sh k) ρ = mutS ρ i (setD k y) := rfl
@[simp] theorem putC_s (x : Cel) (i : Nat) (fi : EF) (y : D) : putC (some x) i fi y ρ = bindES (eCap fi ρ) (putK i y) := rfl
@[simp] theorem putR_sh (i : Nat) (fi : EF) (y : D) : putR i fi (.sh y) ρ = putC (slot ρ i) i fi y ρ := rfl
@[simp] theorem sPut_eq (i : Nat) (fi fe : EF) : sPut i fi fe ρ = bindES (eCap fe ρ) (putR i fi) := by
  unfold sPut putR putC putK
  rfl
@[simp] theorem setD_d (k y : D) (ps : List (D × D)) : setD k y (.dict ps) = if isK k && !mixB ps k && decide (ps.length < sizeLine) then some (.dict (dPut ps k y)) else none := rfl
@[simp] theorem setD_l (i : Int) (y : D) (ds : List D) : setD (.int i) y (.list ds) = (ixN ds.length i).map fun j => .list (ds.set j y) := rfl
@[simp] theorem gT_t (n : Nat) (f : List D → Rho → Option Rho) (ds : List D) : gT n f (.tuple ds) ρ = if ds.length = n then f ds ρ else none := rfl
@[simp] theorem gT_l (n : Nat) (f : List D → Rho → Option Rho) (ds : List D) : gT n f (.list ds) ρ = if ds.length = n then f ds ρ else none := rfl
@[simp] theorem gsN_n : gsN [] ρ = some ρ := rfl
@[simp] theorem gsC_c (f : D → Rho → Option Rho) (g : List D → Rho → Option Rho) (d : D) (ds : List D) : gsC f g (d :: ds) ρ = (f d ρ).bind (g ds) := rfl
def unpO (o : Option Rho) : RS := match o with
  | some ρ => .nx ρ
  | none => .stuck
def unpR (g : D → Rho → Option Rho) (h : Hd) (ρ : Rho) : RS := match h with
  | .sh d => unpO (g d ρ)
  | _ => .stuck
@[simp] theorem unpO_s : unpO (some ρ) = .nx ρ := rfl
@[simp] theorem unpO_if (a b : Option Rho) : unpO (if c then a else b) = if c then unpO a else unpO b := by split <;> rfl
@[simp] theorem unpR_sh (g : D → Rho → Option Rho) (d : D) : unpR g (.sh d) ρ = unpO (g d ρ) := rfl
@[simp] theorem sUnp_eq (g : D → Rho → Option Rho) (f : EF) : sUnp g f ρ = bindES (eCap f ρ) (unpR g) := by
  unfold sUnp unpR unpO
  rfl
def bindP (r : RP) (k : List (D × D) → Rho → RE) : RE := match r with
  | .stuck => .stuck
  | .exc x ρ1 => .exc x ρ1
  | .ok ps ρ1 => k ps ρ1
@[simp] theorem bindP_ok (ps : List (D × D)) (k : List (D × D) → Rho → RE) : bindP (.ok ps ρ) k = k ps ρ := rfl
@[simp] theorem eDct_eq (g : PF) : eDct g ρ = bindP (g ρ) fun ps ρ1 => if ps.length ≤ 15 then .ok (.fr (.dict (dMerge ps))) ρ1 else .stuck := by unfold eDct bindP; rfl
@[simp] theorem dNil_eq : dNil ρ = .ok [] ρ := rfl
def consP (k v : D) (r : RP) : RP := match r with
  | .stuck => .stuck
  | .exc x ρ3 => .exc x ρ3
  | .ok ps ρ3 => if isS k then .ok ((k, v) :: ps) ρ3 else .stuck
@[simp] theorem consP_ok (k v : D) (ps : List (D × D)) : consP k v (.ok ps ρ) = if isS k then .ok ((k, v) :: ps) ρ else .stuck := rfl
def valP (k : D) (g : PF) (r : RE) : RP := match r with
  | .stuck => .stuck
  | .exc x ρ2 => .exc x ρ2
  | .ok (.sh v) ρ2 => consP k v (g ρ2)
  | .ok _ _ => .stuck
@[simp] theorem valP_ok (k v : D) (g : PF) : valP k g (.ok (.sh v) ρ) = consP k v (g ρ) := rfl
def keyP (fv : EF) (g : PF) (r : RE) : RP := match r with
  | .stuck => .stuck
  | .exc x ρ1 => .exc x ρ1
  | .ok (.sh k) ρ1 => valP k g (eCap fv ρ1)
  | .ok _ _ => .stuck
@[simp] theorem keyP_ok (k : D) (fv : EF) (g : PF) : keyP fv g (.ok (.sh k) ρ) = valP k g (eCap fv ρ) := rfl
@[simp] theorem dCons_eq (fk fv : EF) (g : PF) : dCons fk fv g ρ = keyP fv g (eCap fk ρ) := by
  unfold dCons keyP valP consP
  rfl
@[simp] theorem argC_bwo (i : Nat) : argC ρ true (.bw i) = match slot ρ i with
    | some ⟨d, .ow⟩ => some ⟨d, .io⟩
    | some ⟨d, .io⟩ => some ⟨d, .io⟩
    | _ => none := rfl
def putBC (ρ : Rho) (i : Nat) (a b : Option Cel) : Option Rho := match a, b with
  | some c, some c' => some (ρ.set i (some ⟨c'.d, c.fl⟩))
  | _, _ => none
@[simp] theorem putBC_s (i : Nat) (a b : Cel) : putBC ρ i (some a) (some b) = some (ρ.set i (some ⟨b.d, a.fl⟩)) := rfl
theorem putB_bw (i j : Nat) (hs : List Hd) (outs : Rho) (h : hs[j]? = some (.bw i)) : putB ρ (some j) hs outs = putBC ρ i (slot ρ i) (slot outs j) := by
  unfold putB putBC
  dsimp only
  rw [h]
  try rfl
/-- one argument lent, the first one -/
@[simp] theorem backR_io0 (i : Nat) (hs : List Hd) (d : D) (d' : D) (fl : Fl) (outs : Rho) : backR ρ (some 0) (.bw i :: hs) (.ok (.sh d) (some ⟨d', fl⟩ :: outs)) = match slot ρ i with
    | some c => .ok (.sh d) (ρ.set i (some ⟨d', c.fl⟩))
    | none => .stuck := by
  unfold backR
  dsimp only
  rw [putB_bw i 0 _ _ rfl, slot_zero]
  cases slot ρ i <;> rfl
@[simp] theorem backR_io0f (i : Nat) (hs : List Hd) (d : D) (d' : D) (fl : Fl) (outs : Rho) : backR ρ (some 0) (.bw i :: hs) (.ok (.fr d) (some ⟨d', fl⟩ :: outs)) = match slot ρ i with
    | some c => .ok (.fr d) (ρ.set i (some ⟨d', c.fl⟩))
    | none => .stuck := by
  unfold backR
  dsimp only
  rw [putB_bw i 0 _ _ rfl, slot_zero]
  cases slot ρ i <;> rfl
/-- every turn goes on -/
theorem forL_st {S α : Type} {g : D → Rho → Option Rho} {b : SF} (emb : S → Rho) (it : α → D) (step : S → α → S) (P : List α → S → Prop) : ∀ (as pre : List α) (s : S), P pre s →
    (∀ pre a s, a ∈ as → P pre s → (optR (g (it a) (emb s)) b = .nx (emb (step s a)) ∧ P (pre ++ [a]) (step s a))) →
    forL g b (as.map it) (emb s) = .nx (emb (as.foldl step s)) ∧ P (pre ++ as) (as.foldl step s)
  | [], pre, s, h, _ => ⟨rfl, by simpa using h⟩
  | a :: as, pre, s, h, k => by
    obtain ⟨h1, h2⟩ := k pre a s (List.mem_cons_self ..) h
    obtain ⟨q1, q2⟩ := forL_st emb it step P as (pre ++ [a]) (step s a) h2 fun pre a s m hp => k pre a s (List.mem_cons_of_mem _ m) hp
    refine ⟨?_, by simpa using q2⟩
    rw [List.map_cons, forL_cons]
    unfold optR at h1 ⊢
    split at h1
    · cases h1
    · rename_i ρ1 e
      dsimp only
      rw [h1, turnR_nx, q1, List.foldl_cons]
/-- a loop that only looks: it leaves with r at the first item that p does not hold of -/
theorem forL_look {α : Type} {g : D → Rho → Option Rho} {b : SF} (ρ ρ' : Rho) (it : α → D) (p : α → Bool) (r : Hd) : ∀ (as : List α),
    (∀ a, a ∈ as → optR (g (it a) ρ) b = if p a then .nx ρ else .rt r ρ') → forL g b (as.map it) ρ = if as.all p then .nx ρ else .rt r ρ'
  | [], _ => rfl
  | a :: as, k => by
    have h1 := k a (List.mem_cons_self ..)
    have q := forL_look ρ ρ' it p r as fun a m => k a (List.mem_cons_of_mem _ m)
    rw [List.map_cons, forL_cons]
    unfold optR at h1 ⊢
    split at h1
    · split at h1 <;> cases h1
    · dsimp only
      rw [h1]
      cases hp : p a <;> simp [hp, q]
/-- .. of the datum itself -/
theorem forL_lookD {g : D → Rho → Option Rho} {b : SF} (ρ ρ' : Rho) (p : D → Bool) (r : Hd) (ds : List D) (k : ∀ a, a ∈ ds → optR (g a ρ) b = if p a then .nx ρ else .rt r ρ') : forL g b ds ρ = if ds.all p then .nx ρ else .rt r ρ' := by
  have := forL_look (α := D) (g := g) (b := b) ρ ρ' id p r ds k
  simpa using this
/-- a loop by an invariant of its own state -/
theorem forL_by' {S : Type} {g : D → Rho → Option Rho} {b : SF} (emb : S → Rho) {all : List D} (P : List D → S → Prop) : ∀ (ds pre : List D) (s : S), pre ++ ds = all → P pre s →
    (∀ pre d post s, all = pre ++ d :: post → P pre s → ∃ s', optR (g d (emb s)) b = .nx (emb s') ∧ P (pre ++ [d]) s') → ∃ s', forL g b ds (emb s) = .nx (emb s') ∧ P all s'
  | [], pre, s, e, h, _ => ⟨s, rfl, by rw [← e, List.append_nil]; exact h⟩
  | a :: as, pre, s, e, h, k => by
    obtain ⟨s1, h1, h2⟩ := k pre a as s e.symm h
    obtain ⟨s2, q1, q2⟩ := forL_by' emb P as (pre ++ [a]) s1 (by rw [List.append_assoc]; exact e) h2 k
    refine ⟨s2, ?_, q2⟩
    rw [forL_cons]
    unfold optR at h1 ⊢
    split at h1
    · cases h1
    · dsimp only
      rw [h1, turnR_nx, q1]
theorem forL_by {S : Type} {g : D → Rho → Option Rho} {b : SF} (emb : S → Rho) (P : List D → S → Prop) (ds : List D) (s : S) (h : P [] s)
    (k : ∀ pre d post s, ds = pre ++ d :: post → P pre s → ∃ s', optR (g d (emb s)) b = .nx (emb s') ∧ P (pre ++ [d]) s') : ∃ s', forL g b ds (emb s) = .nx (emb s') ∧ P ds s' :=
  forL_by' emb P ds [] s rfl h k
/-- a comprehension over things, by a test and an element -/
theorem lcL_fm {α : Type} {vs : List Nat} {g : D → Rho → Option Rho} {ft fe : EF} (ρ : Rho) (it : α → D) (p : α → Bool) (el : α → D) : ∀ (as : List α) (acc : List D), acc.length + as.length ≤ sizeLine →
    (∀ a, a ∈ as → ∃ ρ1, g (it a) ρ = some ρ1 ∧ (∃ ρ2, ft ρ1 = .ok (.sh (.bool (p a))) ρ2 ∧ wipeR ρ2 vs = ρ ∧ (p a = true → ∃ ρ3, eCap fe ρ2 = .ok (.sh (el a)) ρ3 ∧ wipeR ρ3 vs = ρ))) →
    lcL vs g ft fe (as.map it) acc ρ = .ok (.fr (.list (acc ++ (as.filter p).map el))) ρ
  | [], acc, _, _ => by simp [lcL_nil]
  | a :: as, acc, hl, k => by
    rw [List.length_cons] at hl
    obtain ⟨ρ1, h1, ρ2, h2, h3, h4⟩ := k a (List.mem_cons_self ..)
    rw [List.map_cons, lcL_cons, h1, optE_s, h2, bindB_ok]
    cases hp : p a with
    | true =>
      obtain ⟨ρ3, h5, h6⟩ := h4 hp
      rw [if_pos rfl, h5, bindE_ok, lcR_s, if_pos (by omega), h6, lcL_fm ρ it p el as _ (by rw [List.length_append, List.length_singleton]; omega) fun a m => k a (List.mem_cons_of_mem _ m), List.filter_cons_of_pos hp]
      simp
    | false =>
      rw [if_neg Bool.false_ne_true, h3, lcL_fm ρ it p el as _ (by omega) fun a m => k a (List.mem_cons_of_mem _ m), List.filter_cons_of_neg (by rw [hp]; exact Bool.false_ne_true)]
/-- .. where nothing else changes; up: what a turn sees -/
theorem lcL_up {α : Type} {vs : List Nat} {g : D → Rho → Option Rho} {ft fe : EF} (ρ : Rho) (it : α → D) (up : α → Rho) (p : α → Bool) (el : α → D) (as : List α) (acc : List D) (hl : acc.length + as.length ≤ sizeLine)
    (k : ∀ a, a ∈ as → g (it a) ρ = some (up a) ∧ ft (up a) = .ok (.sh (.bool (p a))) (up a) ∧ wipeR (up a) vs = ρ ∧ (p a = true → eCap fe (up a) = .ok (.sh (el a)) (up a))) :
    lcL vs g ft fe (as.map it) acc ρ = .ok (.fr (.list (acc ++ (as.filter p).map el))) ρ :=
  lcL_fm ρ it p el as acc hl fun a m => by
    obtain ⟨h1, h2, h3, h4⟩ := k a m
    exact ⟨_, h1, _, h2, h3, fun h => ⟨_, h4 h, h3⟩⟩
/-- .. without a test -/
theorem lcL_all {α : Type} {vs : List Nat} {g : D → Rho → Option Rho} {fe : EF} (ρ : Rho) (it : α → D) (up : α → Rho) (el : α → D) (as : List α) (acc : List D) (hl : acc.length + as.length ≤ sizeLine)
    (k : ∀ a, a ∈ as → g (it a) ρ = some (up a) ∧ wipeR (up a) vs = ρ ∧ eCap fe (up a) = .ok (.sh (el a)) (up a)) :
    lcL vs g (eNox eYes) fe (as.map it) acc ρ = .ok (.fr (.list (acc ++ as.map el))) ρ := by
  have := lcL_up (ft := eNox eYes) (fe := fe) ρ it up (fun _ => true) el as acc hl fun a m => by
    obtain ⟨h1, h2, h3⟩ := k a m
    exact ⟨h1, rfl, h2, fun _ => h3⟩
  rw [this, List.filter_eq_self.mpr fun _ _ => rfl]
end
theorem fits {n : Nat} (h : n ≤ 1000000) : n ≤ sizeLine := Nat.le_trans h (by decide)
theorem fitsl {n : Nat} (h : n < 1000000) : n < sizeLine := Nat.lt_of_lt_of_le h (by decide)
theorem len_eq (s : Str) : s.length = s.cps.toList.length := by rw [Array.length_toList]; rfl
theorem cutD_len (ds : List D) (lo hi : Option Int) : (cutD ds lo hi).length ≤ ds.length := by
  unfold cutD
  rw [List.length_take, List.length_drop]
  omega
theorem cutD_mem {ds : List D} {lo hi : Option Int} {d : D} (h : d ∈ cutD ds lo hi) : d ∈ ds := by
  unfold cutD at h
  exact List.mem_of_mem_drop (List.mem_of_mem_take h)
/-- a list of things of one form -/
theorem all_map {α : Type} {f : α → D} {ds : List D} (h : ∀ d ∈ ds, ∃ a, d = f a) : ∃ as : List α, ds = as.map f := by
  induction ds with
  | nil => exact ⟨[], rfl⟩
  | cons d ds ih =>
    obtain ⟨a, rfl⟩ := h d (by simp)
    obtain ⟨as, rfl⟩ := ih fun d m => h d (by simp [m])
    exact ⟨a :: as, rfl⟩
end GS
namespace GM
open PySem L2 GS
end GM
namespace GM
open PySem L2 GS
abbrev GRT : Str := Str.ofString "ABCDEFGHIJKLMNOPQRSTUVWXYZ"
abbrev SML : Str := Str.ofString "abcdefghijklmnopqrstuvwxyz"
abbrev FIG : Str := Str.ofString "0123456789"
def okN (F : Str) (c : Nat) : Bool := decide (c ∈ F.cps) || decide (c ∈ FIG.cps)
def nameL (F : Str) : List Nat → Bool
  | [] => false
  | c :: cs => decide ((c :: cs).length ≤ 24) && decide (c ∈ F.cps) && (c :: cs).all (okN F)
def nameB (s : Str) : Bool := nameL GRT s.cps.toList
def keyB (s : Str) : Bool := nameL SML s.cps.toList
def signB (s : Str) : Bool := decide (1 ≤ s.cps.toList.length) && decide (s.cps.toList.length ≤ 6) && s.cps.toList.all fun c => decide (c ∈ SML.cps)
theorem nameB_len {s : Str} (h : nameB s = true) : 1 ≤ s.length ∧ s.length ≤ 24 := by
  have hl := len_eq s
  unfold nameB at h
  cases hc : s.cps.toList with
  | nil => rw [hc] at h; cases h
  | cons c cs =>
    rw [hc] at h hl
    unfold nameL at h
    simp only [Bool.and_eq_true, decide_eq_true_eq] at h
    rw [hl]
    exact ⟨by simp, h.1.1⟩
theorem signB_len {s : Str} (h : signB s = true) : 1 ≤ s.length ∧ s.length ≤ 6 := by
  have hl := len_eq s
  unfold signB at h
  simp only [Bool.and_eq_true, decide_eq_true_eq] at h
  rw [hl]
  exact ⟨h.1.1, h.1.2⟩
end GM
namespace GM
open PySem L2 GS
end GM
namespace GM
open PySem L2 GS
end GM
namespace GM
open PySem L2 GS
inductive Tr where
  | sign (s : Str)
  | void
  | hole (n : Str)
  | foot (n : Str)
  | knot (n : Str) (tk : Option (Str × Bool)) (ks : List Tr)
  deriving Inhabited
def encTk : Option (Str × Bool) → D
  | none => .none
  | some (m, b) => .tuple [.str m, .bool b]
def okTk : Option (Str × Bool) → Bool
  | none => true
  | some (m, _) => nameB m
mutual
def Tr.enc : Tr → D
  | .sign s => .tuple [.str (Str.ofString "sign"), .str s]
  | .void => .tuple [.str (Str.ofString "void")]
  | .hole n => .tuple [.str (Str.ofString "hole"), .str n]
  | .foot n => .tuple [.str (Str.ofString "foot"), .str n]
  | .knot n tk ks => .tuple [.str (Str.ofString "knot"), .str n, encTk tk, .tuple (Tr.encL ks)]
def Tr.encL : List Tr → List D
  | [] => []
  | t :: ts => t.enc :: Tr.encL ts
end
mutual
def Tr.ok : Tr → Bool
  | .sign s => signB s
  | .void => true
  | .hole n => nameB n
  | .foot n => nameB n
  | .knot n tk ks => nameB n && (okTk tk && (decide (1 ≤ ks.length) && (decide (ks.length ≤ 8) && Tr.okL ks)))
def Tr.okL : List Tr → Bool
  | [] => true
  | t :: ts => t.ok && Tr.okL ts
end
mutual
def Tr.ht : Tr → Nat
  | .knot _ _ ks => Tr.htL ks + 1
  | _ => 0
def Tr.htL : List Tr → Nat
  | [] => 0
  | t :: ts => max t.ht (Tr.htL ts)
end
theorem encL_map (ts : List Tr) : Tr.encL ts = ts.map Tr.enc := by
  induction ts with
  | nil => rfl
  | cons t ts ih => rw [Tr.encL, ih, List.map_cons]
theorem okL_mem {ts : List Tr} (h : Tr.okL ts = true) : ∀ t ∈ ts, t.ok = true := by
  induction ts with
  | nil => intro t m; cases m
  | cons e ts ih =>
    rw [Tr.okL, Bool.and_eq_true] at h
    intro t m
    cases m with
    | head => exact h.1
    | tail _ m => exact ih h.2 t m
theorem okL_of {ts : List Tr} (h : ∀ t ∈ ts, t.ok = true) : Tr.okL ts = true := by
  induction ts with
  | nil => rfl
  | cons e ts ih => rw [Tr.okL, h e (by simp), ih fun t m => h t (by simp [m])]; rfl
theorem ht_mem {ts : List Tr} {t : Tr} (m : t ∈ ts) : t.ht ≤ Tr.htL ts := by
  induction ts with
  | nil => cases m
  | cons e ts ih =>
    rw [Tr.htL]
    cases m with
    | head => omega
    | tail _ m => have := ih m; omega
theorem htL_of {ts : List Tr} {n : Nat} (h : ∀ t ∈ ts, t.ht ≤ n) : Tr.htL ts ≤ n := by
  induction ts with
  | nil => rw [Tr.htL]; omega
  | cons e ts ih =>
    rw [Tr.htL]
    have := h e (by simp)
    have := ih fun t m => h t (by simp [m])
    omega
theorem depth_tk (tk : Option (Str × Bool)) : (encTk tk).depth ≤ 1 := by
  cases tk with
  | none => simp [encTk, PyData.depth]
  | some p => simp [encTk, PyData.depth, PyData.depthAll]
mutual
theorem depth_enc : ∀ t : Tr, t.enc.depth ≤ 2 * t.ht + 1
  | .sign s => by simp [Tr.enc, PyData.depth, PyData.depthAll]
  | .void => by simp [Tr.enc, PyData.depth, PyData.depthAll]
  | .hole n => by simp [Tr.enc, PyData.depth, PyData.depthAll]
  | .foot n => by simp [Tr.enc, PyData.depth, PyData.depthAll]
  | .knot n tk ks => by
    have h1 := depth_tk tk
    have h2 := depthL_enc ks
    simp only [Tr.enc, PyData.depth, PyData.depthAll, Tr.ht]
    omega
theorem depthL_enc : ∀ ts : List Tr, PyData.depthAll (Tr.encL ts) ≤ 2 * Tr.htL ts + 1
  | [] => by simp [Tr.encL, PyData.depthAll]
  | t :: ts => by
    have h1 := depth_enc t
    have h2 := depthL_enc ts
    simp only [Tr.encL, PyData.depthAll, Tr.htL]
    omega
end
mutual
/-- no dicts, texts of code points -/
def cleanB : D → Bool
  | .str x => PyData.strOk x
  | .list ds => cleanL ds
  | .tuple ds => cleanL ds
  | .dict _ => false
  | _ => true
def cleanL : List D → Bool
  | [] => true
  | d :: ds => cleanB d && cleanL ds
end
mutual
theorem clean_ok : ∀ d : D, cleanB d = true → plain d = true ∧ PyData.canLay0 d = true
  | .none, _ => ⟨rfl, rfl⟩
  | .bool _, _ => ⟨rfl, rfl⟩
  | .int _, _ => ⟨rfl, rfl⟩
  | .str x, h => ⟨rfl, h⟩
  | .list ds, h => by
    rw [cleanB] at h
    obtain ⟨h1, h2⟩ := cleanL_ok ds h
    exact ⟨by rw [GS.plain]; exact h1, by rw [PyData.canLay0]; exact h2⟩
  | .tuple ds, h => by
    rw [cleanB] at h
    obtain ⟨h1, h2⟩ := cleanL_ok ds h
    exact ⟨by rw [GS.plain]; exact h1, by rw [PyData.canLay0]; exact h2⟩
  | .dict _, h => by cases h
theorem cleanL_ok : ∀ ds : List D, cleanL ds = true → plainL ds = true ∧ PyData.canLayAll0 ds = true
  | [], _ => ⟨rfl, rfl⟩
  | d :: ds, h => by
    rw [cleanL, Bool.and_eq_true] at h
    obtain ⟨h1, h2⟩ := clean_ok d h.1
    obtain ⟨h3, h4⟩ := cleanL_ok ds h.2
    exact ⟨by rw [plainL, h1, h3]; rfl, by rw [PyData.canLayAll0, h2, h4]; rfl⟩
end
theorem okEq_of {d : D} (h : cleanB d = true) (hd : d.depth ≤ 64) : okEq d = true := by
  obtain ⟨h1, h2⟩ := clean_ok d h
  unfold okEq SeqAt.shaped
  rw [h1, h2, decide_eq_true hd]; rfl
theorem okW_of {d : D} (h : cleanB d = true) (hd : d.depth ≤ 190) : okW d = true := by
  obtain ⟨h1, h2⟩ := clean_ok d h
  unfold okW
  rw [h1, h2, Nat.ble_eq_true_of_le hd]; rfl
theorem cleanL_of {ds : List D} (h : ∀ d ∈ ds, cleanB d = true) : cleanL ds = true := by
  induction ds with
  | nil => rfl
  | cons e ds ih => rw [cleanL, h e (by simp), ih fun t m => h t (by simp [m])]; rfl
theorem depthAll_of {ds : List D} {n : Nat} (h : ∀ d ∈ ds, d.depth ≤ n) : PyData.depthAll ds ≤ n := by
  induction ds with
  | nil => rw [PyData.depthAll]; omega
  | cons e ds ih =>
    rw [PyData.depthAll]
    have := h e (by simp)
    have := ih fun t m => h t (by simp [m])
    omega
theorem lowG : ∀ c ∈ GRT.cps.toList, c < 0x110000 := by decide +kernel
theorem lowS : ∀ c ∈ SML.cps.toList, c < 0x110000 := by decide +kernel
theorem lowF : ∀ c ∈ FIG.cps.toList, c < 0x110000 := by decide +kernel
theorem strOk_of {s : Str} (h : ∀ c ∈ s.cps.toList, c < 0x110000) : PyData.strOk s = true := by
  unfold PyData.strOk
  rw [← Array.all_toList, List.all_eq_true]
  intro c m
  exact decide_eq_true (h c m)
theorem nameL_mem {F s : Str} (h : nameL F s.cps.toList = true) : ∀ c ∈ s.cps.toList, c ∈ F.cps.toList ∨ c ∈ FIG.cps.toList := by
  intro c m
  cases hc : s.cps.toList with
  | nil => rw [hc] at m; cases m
  | cons a as =>
    rw [hc] at h m
    simp only [nameL, Bool.and_eq_true] at h
    have := List.all_eq_true.mp h.2 c m
    simpa [okN] using this
theorem nameB_strOk {s : Str} (h : nameB s = true) : PyData.strOk s = true := strOk_of fun c m => (nameL_mem h c m).elim (lowG c) (lowF c)
theorem keyB_strOk {s : Str} (h : keyB s = true) : PyData.strOk s = true := strOk_of fun c m => (nameL_mem h c m).elim (lowS c) (lowF c)
theorem signB_mem {s : Str} (h : signB s = true) : ∀ c ∈ s.cps.toList, c ∈ SML.cps.toList := by
  intro c m
  unfold signB at h
  simp only [Bool.and_eq_true] at h
  have := List.all_eq_true.mp h.2 c m
  simpa using this
theorem signB_strOk {s : Str} (h : signB s = true) : PyData.strOk s = true := strOk_of fun c m => lowS c (signB_mem h c m)
mutual
theorem clean_enc : ∀ t : Tr, t.ok = true → cleanB t.enc = true
  | .sign s, h => by rw [Tr.enc, cleanB, cleanL, cleanL, cleanL, show cleanB (.str s) = true from signB_strOk h]; decide +kernel
  | .void, _ => by decide +kernel
  | .hole n, h => by rw [Tr.enc, cleanB, cleanL, cleanL, cleanL, show cleanB (.str n) = true from nameB_strOk h]; decide +kernel
  | .foot n, h => by rw [Tr.enc, cleanB, cleanL, cleanL, cleanL, show cleanB (.str n) = true from nameB_strOk h]; decide +kernel
  | .knot n tk ks, h => by
    rw [Tr.ok] at h
    simp only [Bool.and_eq_true, decide_eq_true_eq] at h
    have h2 : cleanB (encTk tk) = true := by
      cases tk with
      | none => rfl
      | some p => rw [encTk, cleanB, cleanL, cleanL, cleanL, show cleanB (.str p.1) = true from nameB_strOk h.2.1]; rfl
    rw [Tr.enc, cleanB, cleanL, cleanL, cleanL, cleanL, cleanL, show cleanB (.str n) = true from nameB_strOk h.1, h2, show cleanB (.tuple (Tr.encL ks)) = true from cleanL_enc ks h.2.2.2.2]; decide +kernel
theorem cleanL_enc : ∀ ts : List Tr, Tr.okL ts = true → cleanL (Tr.encL ts) = true
  | [], _ => rfl
  | t :: ts, h => by
    rw [Tr.okL, Bool.and_eq_true] at h
    rw [Tr.encL, cleanL, clean_enc t h.1, cleanL_enc ts h.2]; rfl
end
end GM
namespace GM
open PySem L2 GS
/-- _law_cell(state); slots 0:state -/
def m_law_cell : SF := (sSeq (sPut 0 (eC (.str (Str.ofString "at"))) (eBin addD (eBin ixA (eVb 0) (eC (.str (Str.ofString "at")))) (eC (.int 1)))) (sSeq (sIf (eB (eBin (ltI fun i j => decide (j < i)) (eBin ixA (eVb 0) (eC (.str (Str.ofString "at")))) (eCB (un1 lenD) (aCons (eBin ixA (eVb 0) (eC (.str (Str.ofString "script")))) aNil)))) (sRet (eC (.int 0))) sNil) (sEnd (sRet (eBin ixA (eBin ixA (eVb 0) (eC (.str (Str.ofString "script")))) (eBin subD (eBin ixA (eVb 0) (eC (.str (Str.ofString "at")))) (eC (.int 1))))))))
theorem m_law_cell_eq (ρ : Rho) : fnF 1 1 (m_law_cell) ρ = finR 1 (m_law_cell (ρ ++ [])) := fnF_eq 1 1 _
end GM
namespace GS
open PySem L2
/-- one of a list -/
def pick {α : Type} [Inhabited α] (xs : List α) (i : Int) : α := (atI xs i).getD default
theorem atI_pick {α : Type} [Inhabited α] {xs : List α} {i : Int} (h0 : 0 ≤ i) (h1 : i < xs.length) : atI xs i = some (pick xs i) ∧ pick xs i ∈ xs := by
  obtain ⟨x, h2, h3⟩ := atI_lt h0 h1
  unfold pick
  rw [h2]
  exact ⟨rfl, h3⟩
@[simp] theorem atI_mod {α : Type} [Inhabited α] {xs : List α} {c n : Int} (h0 : 0 < n) (h : n = xs.length) : atI xs (c % n) = some (pick xs (c % n)) :=
  (atI_pick (Int.emod_nonneg _ (by omega)) (by rw [← h]; exact Int.emod_lt_of_pos _ h0)).1
theorem pick_mem {α : Type} [Inhabited α] {xs : List α} {c n : Int} (h0 : 0 < n) (h : n = xs.length) : pick xs (c % n) ∈ xs :=
  (atI_pick (Int.emod_nonneg _ (by omega)) (by rw [← h]; exact Int.emod_lt_of_pos _ h0)).2
@[simp] theorem atI_1 {α : Type} (a b : α) (r : List α) : atI (a :: b :: r) 1 = some b := by
  have := atI_nat (xs := a :: b :: r) (j := 1) (v := b) rfl
  exact this
@[simp] theorem atI_2 {α : Type} (a b c : α) (r : List α) : atI (a :: b :: c :: r) 2 = some c := by
  have := atI_nat (xs := a :: b :: c :: r) (j := 2) (v := c) rfl
  exact this
@[simp] theorem atI_3 {α : Type} (a b c d : α) (r : List α) : atI (a :: b :: c :: d :: r) 3 = some d := by
  have := atI_nat (xs := a :: b :: c :: d :: r) (j := 3) (v := d) rfl
  exact this
instance : Inhabited D := ⟨.none⟩
@[simp] theorem strOk_ofS (a : String) : PyData.strOk (Str.ofString a) = true := by
  unfold PyData.strOk
  rw [← Array.all_toList, ofS_cps, List.all_eq_true]
  intro c m
  obtain ⟨ch, _, rfl⟩ := List.mem_map.mp m
  have := ch.valid
  refine decide_eq_true ?_
  unfold Char.toNat
  rcases this with h | h
  · have : ch.val.toNat < 0xd800 := h
    omega
  · exact h.2
end GS
namespace GM
open PySem L2 GS
/-- the state that cells are drawn from -/
def stD (ns : List Int) (a : Int) : Option Int → D
  | none => .dict [(.str (Str.ofString "script"), .list (ns.map .int)), (.str (Str.ofString "at"), .int a)]
  | some k => .dict [(.str (Str.ofString "script"), .list (ns.map .int)), (.str (Str.ofString "at"), .int a), (.str (Str.ofString "keys"), .int k)]
def CellSp (F : FF) : Prop := ∀ (ns : List Int) (a : Nat) (ex : Option Int), ∃ (c : Int) (a' : Nat), F [some ⟨stD ns a ex, .io⟩] = .ok (.sh (.int c)) [some ⟨stD ns a' ex, .io⟩]
theorem law_cell_ok : CellSp (fnF 1 1 m_law_cell) := fun ns a ex => by
  have l2 : 2 < sizeLine := by decide
  have l3 : 3 < sizeLine := by decide
  by_cases h : a < ns.length
  · have h' : ¬ ((ns.length : Int) < a + 1) := by omega
    have e : L2.atI (ns.map PyData.int) (a : Int) = some (.int (ns[a])) := by
      rw [atI_nat (xs := ns.map PyData.int) (j := a) (v := .int (ns[a])) (by simp [h])]
    refine ⟨ns[a], a + 1, ?_⟩
    rw [m_law_cell_eq]
    cases ex <;> simp [m_law_cell, stD, dPut, h', e, l2, l3]
  · have h' : (ns.length : Int) < a + 1 := by omega
    refine ⟨0, a + 1, ?_⟩
    rw [m_law_cell_eq]
    cases ex <;> simp [m_law_cell, stD, dPut, h', l2, l3]
end GM
namespace GS
open PySem L2
theorem cutD_to (ds : List D) (i : Nat) : cutD ds none (some (i : Int)) = ds.take i := by
  unfold cutD
  rw [HT.sIx_none, HT.sIx_nat]
  simp only [List.drop_zero, Nat.sub_zero]
  by_cases h : i ≤ ds.length
  · rw [Nat.min_eq_left h]
  · rw [Nat.min_eq_right (by omega), List.take_of_length_le (Nat.le_refl _), List.take_of_length_le (by omega)]
theorem cutD_from (ds : List D) (i : Nat) : cutD ds (some (i : Int)) none = ds.drop i := by
  unfold cutD
  rw [HT.sIx_none, HT.sIx_nat]
  by_cases h : i ≤ ds.length
  · rw [Nat.min_eq_left h, List.take_of_length_le (by rw [List.length_drop]; omega)]
  · rw [Nat.min_eq_right (by omega), List.drop_of_length_le (Nat.le_refl _), List.drop_of_length_le (by omega), List.take_nil]
end GS
namespace PySem
open Sem (wp)
open AutoSeq1 (wpAny_loadPart')
theorem meets_enumerate_newT (l : Addr) (items : Array Value) (n : Nat) (dct : Option Addr) (sl : Array (Option Value)) :
    Meets (Builtin.«enumerate.__new__» ⟨[.type "enumerate", .ref l], []⟩) (fun _ R s => s.heap.get? l = some { cls := .type "tuple", dict := dct, data := .seq items n, slots := sl } ∧
      R (.ok (.ret (.ref (s.heap.push { cls := .type "tuple_iterator", data := .fields #[.ref l, .int 0 0] }).objs.size)))
        { s with heap := (s.heap.push { cls := .type "tuple_iterator", data := .fields #[.ref l, .int 0 0] }).push { cls := .type "enumerate", data := .fields #[.none, .bool false, .ref s.heap.objs.size, rawInt 0, .none, .none] } }) :=
  .of_wp fun prog w A R s h => by
    obtain ⟨hp, g, d, tk, os⟩ := s; obtain ⟨hl, h⟩ := h
    have hsub := sub_enumerate
    have hL : Heap.IsTuple (Shared.heap ⟨hp, g, d, tk, os⟩) l items := ⟨_, hl, rfl, n, rfl⟩
    wp_walk using wpAny_loadPart' hl
    refine wpAny_stack_any fun st => wpAny_pure ?_
    split
    · rename_i c _ _ _ _ _
      cases (c == Value.type "enumerate")
      · wp_walk using wpAny_loadPart' hl, wpAny_pyIter_tuple hL
        exact ⟨_, rfl, h⟩
      · wp_walk using wpAny_loadPart' hl, wpAny_pyIter_tuple hL
        exact ⟨_, rfl, h⟩
    · wp_walk using wpAny_loadPart' hl, wpAny_pyIter_tuple hL
      exact ⟨_, rfl, h⟩
section
variable {prog : Program} {w : World} {A : Around} {E : Value → Shared → Prop} {s : Shared}
theorem call_enumerate_tuple {l : Addr} {items : Array Value} {Q : Value → Shared → Prop} (hL : s.heap.IsTuple l items)
    (h : ∀ h', IsEnum h' (s.heap.objs.size + 1) s.heap.objs.size 0 .none → h'.IsTupleIter s.heap.objs.size l 0 → h'.objs.size = s.heap.objs.size + 2 →
      (∀ b o, s.heap.get? b = some o → h'.get? b = some o) → Q (.ref (s.heap.objs.size + 1)) { s with heap := h' }) :
    wpAny (model prog w) A (call (.type "enumerate") [.ref l]) Q E s := by
  obtain ⟨⟨c, dct, dt, sl⟩, hl, hc, n, hd⟩ := hL
  replace hc : c = .type "tuple" := hc
  replace hd : dt = .seq items n := hd
  subst hc hd
  refine callType_new F.called_enumerate (by decide) (F.typeCall_enumerate_1 _) (F.newCall_enumerate_1 _) (fun obj => F.args_object_init_2 obj _) F.entry_enumerate_new
    (meets_enumerate_newT l items n dct sl) ⟨hl, ?_⟩
  have hz : (s.heap.push { cls := .type "tuple_iterator", data := .fields #[.ref l, .int 0 0] }).objs.size = s.heap.objs.size + 1 := Heap.size_push ..
  show _ ∧ _
  rw [hz]
  have he : IsEnum ((s.heap.push { cls := .type "tuple_iterator", data := .fields #[.ref l, .int 0 0] }).push
      { cls := .type "enumerate", data := .fields #[.none, .bool false, .ref s.heap.objs.size, rawInt 0, .none, .none] }) (s.heap.objs.size + 1) s.heap.objs.size 0 .none := by
    have := Heap.get?_push_size (s.heap.push { cls := .type "tuple_iterator", data := .fields #[.ref l, .int 0 0] })
      (o := { cls := .type "enumerate", data := .fields #[.none, .bool false, .ref s.heap.objs.size, rawInt 0, .none, .none] }) rfl
    rw [hz] at this; exact this
  refine ⟨⟨_, he, rfl⟩, h _ he ⟨_, Heap.get?_push_of_some _ (Heap.get?_push_size _ rfl), rfl, rfl⟩ (by rw [Heap.size_push, hz]) fun b o x => Heap.get?_push_of_some _ (Heap.get?_push_of_some _ x)⟩
theorem wpAny_pyNext_enumT_end {e it l : Addr} {i : Nat} {items : Array Value} {old : Value} {Q : Option Value → Shared → Prop} (hh : A.handled = none)
    (he : IsEnum s.heap e it i old) (hit : s.heap.IsTupleIter it l i) (hl : s.heap.IsTuple l items) (hx : items[i]? = none)
    (hQ : ∀ h', Heap.ExtBut it s.heap h' → Q none { s with heap := h' }) : wpAny (model prog w) A (pyNext (.ref e)) Q E s := by
  have hT : s.TypeIs (.ref e) "enumerate" := ⟨_, he, rfl⟩
  unfold pyNext
  refine wpAny_bind (wpAny_attempt (wpAny_callSpecial?_slot (name := Str.ofString "__next__") hT F.slot_enumerate_next
    (wpAny_call_entry F.slot_enumerate_next hT F.entry_enumerate_next ?_ (F.args_enumerate_next_1 _))))
  show wpAny _ _ (field (.ref e) 2 >>= _) _ _ _
  refine wpAny_bind (wpAny_field he rfl (x := .ref it) rfl ?_)
  refine wpAny_bind (wpAny_nextOf_tuple_end hh hit hl hx fun h' x he' hx' => ?_)
  obtain ⟨o, ho, hc⟩ := hx'
  refine wpAny_bind (wpAny_isInstance (T := "StopIteration") (b := true) ⟨o, ho, hc⟩ isSubtype_stop ?_)
  exact wpAny_pure (hQ _ he')
end
end PySem
namespace L2
open PySem PySem.Spec PyProof.Rows
def Iet (K : PySem.W.Frag) (a : Addr) : It :=
  ⟨fun i H => ∃ (xs : List V) (x : V), SqT K H a xs ∧ xs[i]? = some x, fun i H v H' => ∃ T o x, v = .ref T ∧ H T = none ∧ o.dict = none ∧ H' = upd H T (.frz o (.tup [.int (i : Nat), x])) ∧ ∀ xs, SqT K H a xs → xs[i]? = some x, fun i H => ∃ xs : List V, SqT K H a xs ∧ xs.length ≤ i⟩
theorem turn_enumT {P : Program} {w : World} {K : PySem.W.Frag} {elts : List Expr} {kk : Nat} {tpos : Pos} (a e it : Addr) :
    Turn P w K (.Tuple elts kk tpos) (Iet K a) [e, it] e (fun i h => (∃ old, IsEnum h e it ((i : Nat) : Int) old) ∧ h.IsTupleIter it a i ∧ e ≠ it) where
  mem := by simp
  obj := fun i h st b hb => by
    obtain ⟨⟨old, he⟩, ⟨o, ho, hc, hd⟩, _⟩ := st
    have e' : b = e ∨ b = it := by simpa using hb
    rcases e' with z | z
    · rw [z]; exact ⟨_, he, fun v q => nomatch q⟩
    · rw [z]; exact ⟨o, ho, fun v q => by rw [hd] at q; cases q⟩
  keep := fun i h h' st k => let ⟨⟨old, he⟩, hi, hne⟩ := st; ⟨⟨old, k e (by simp) _ he⟩, hi.at fun o q => k it (by simp) o q, hne⟩
  item := by
    intro X hP hw hK hc i pins s σ H E I hf st hg
    subst hP hw hK
    obtain ⟨⟨old, he⟩, hit, hne⟩ := st
    obtain ⟨xs, x, hq, hx⟩ := hg
    obtain ⟨its, rv, p, hz⟩ := I.tuple hq
    obtain ⟨u, hu, ru⟩ := rv.get hx
    have hel : e < s.heap.objs.size := Heap.lt_size he
    have hil : it < s.heap.objs.size := by obtain ⟨_, q, _⟩ := hit; exact Heap.lt_size q
    have pt : s.heap.IsTuple a its.toArray := p
    have hea : e ≠ a := fun z => by
      obtain ⟨o, ho, hc', _⟩ := pt
      rw [← z] at ho
      have he' : s.heap.get? e = _ := he
      rw [he'] at ho
      cases ho
      simp at hc'
    have hai : a ≠ it := fun z => by
      obtain ⟨o, ho, hc', _⟩ := pt
      obtain ⟨o2, ho2, hc2, _⟩ := hit
      rw [z, ho2] at ho
      cases ho
      rw [hc2] at hc'
      simp at hc'
    have hlen : i < its.toArray.size := by
      have := (List.getElem?_eq_some_iff.mp hu).1
      simpa using this
    refine wpAny_pyNext_enum_itemD (Draws.tuple (show X.A.in1.handled = none from I.ok.hd hc) it a hai its.toArray) he ⟨hit, pt⟩ hlen hne (by simp; exact ⟨hne, hea⟩) fun u' h' tk hu' ho hst hT hsz hk => ?_
    have eu : u' = u := by
      have h1 : its.toArray[i]? = some u' := hu'
      have h2 : its[i]? = some u' := by simpa using h1
      rw [hu] at h2
      cases h2; rfl
    subst eu
    obtain ⟨hit', _⟩ := hst
    refine ⟨_, rfl, wpAny_letOwnedTupleGo_enum (s := { s with heap := h', toks := tk + 1 }) ho fun h'' he' sb => ?_⟩
    have hT2 : h''.get? s.heap.objs.size = some { cls := .type "tuple", data := .seq #[.int i tk, u'] } := (sb.2 _ (Nat.ne_of_gt hel)).trans hT
    have new : ObjOk X.prog X.w (upd H s.heap.objs.size (.frz { cls := .type "tuple", data := .seq #[.int i tk, u'] } (.tup [.int (i : Nat), x]))) h'' s.heap.objs.size (.frz { cls := .type "tuple", data := .seq #[.int i tk, u'] } (.tup [.int (i : Nat), x])) :=
      ⟨hT2, by show 2 ≤ sizeLine; decide, [.int i tk, u'], .cons ⟨_, rfl⟩ (.cons ru .nil), ⟨_, hT2, rfl, _, rfl⟩⟩
    have I1 : Inv X pins σ (upd H s.heap.objs.size (.frz { cls := .type "tuple", data := .seq #[.int i tk, u'] } (.tup [.int (i : Nat), x]))) { s with heap := h'', toks := tk + 1 } :=
      I.turnedNew (ch := [e, it]) (fun b ob nb q => (sb.2 b (fun z => nb (by simp [z]))).trans (hk b ob (fun z => nb (by simp [z])) (fun z => nb (by simp [z])) q)) hf (Nat.le_refl _) new
    refine ⟨.ref s.heap.objs.size, _, I1, rfl, ⟨_, _, x, rfl, I.hok.fresh (Nat.le_refl _), rfl, rfl, fun ys hy => by rw [I.tuple_inj hy hq]; exact hx⟩, ⟨⟨u', ?_⟩, hit'.at fun o q => (sb.2 it (Ne.symm hne)).trans q, hne⟩, fun b hb => ?_⟩
    · have e1 : ((i + 1 : Nat) : Int) = (i : Int) + 1 := by omega
      rw [e1]; exact he'
    · have hb' : b < s.heap.objs.size := by
        have e' : b = e ∨ b = it := by simpa using hb
        rcases e' with z | z
        · rw [z]; exact hel
        · rw [z]; exact hil
      rw [upd_ne (Nat.ne_of_lt hb')]
      exact (hf b hb).1
  done := by
    intro X hP hw hK hc i pins s σ H E I hf st hg
    subst hP hw hK
    obtain ⟨⟨old, he⟩, hit, hne⟩ := st
    obtain ⟨xs, hq, hx⟩ := hg
    obtain ⟨its, rv, p, hz⟩ := I.tuple hq
    obtain ⟨f0, f1, f2, f3, f4, f5⟩ := hf it (by simp)
    have hl := rv.length
    exact wpAny_pyNext_enumT_end (I.ok.hd hc) he hit (show s.heap.IsTuple a its.toArray from p) (by simp; omega) fun h' eb => ⟨rfl, I.turned (t' := s.toks) (fun b o hb q => eb b o hb q) f0 f1 f3 f4 f5⟩
  self := fun A i s Q E st h => let ⟨⟨_, he⟩, _⟩ := st; wpAny_pyIter_enum he h
def IetL (K : PySem.W.Frag) (a : Addr) : It :=
  ⟨fun i H => ∃ (xs : List V) (x : V), SqL K H a xs ∧ xs[i]? = some x, fun i H v H' => ∃ T o x, v = .ref T ∧ H T = none ∧ o.dict = none ∧ H' = upd H T (.frz o (.tup [.int (i : Nat), x])) ∧ ∀ xs, SqL K H a xs → xs[i]? = some x, fun i H => ∃ xs : List V, SqL K H a xs ∧ xs.length ≤ i⟩
theorem turn_enumL {P : Program} {w : World} {K : PySem.W.Frag} {elts : List Expr} {kk : Nat} {tpos : Pos} (a e it : Addr) :
    Turn P w K (.Tuple elts kk tpos) (IetL K a) [e, it] e (fun i h => (∃ old, IsEnum h e it ((i : Nat) : Int) old) ∧ h.IsListIter it a i ∧ e ≠ it) where
  mem := by simp
  obj := fun i h st b hb => by
    obtain ⟨⟨old, he⟩, ⟨o, ho, hc, hd⟩, _⟩ := st
    have e' : b = e ∨ b = it := by simpa using hb
    rcases e' with z | z
    · rw [z]; exact ⟨_, he, fun v q => nomatch q⟩
    · rw [z]; exact ⟨o, ho, fun v q => by rw [hd] at q; cases q⟩
  keep := fun i h h' st k => let ⟨⟨old, he⟩, hi, hne⟩ := st; ⟨⟨old, k e (by simp) _ he⟩, hi.at fun o q => k it (by simp) o q, hne⟩
  item := by
    intro X hP hw hK hc i pins s σ H E I hf st hg
    subst hP hw hK
    obtain ⟨⟨old, he⟩, hit, hne⟩ := st
    obtain ⟨xs, x, hq, hx⟩ := hg
    obtain ⟨its, rv, p, hz⟩ := I.list hq
    obtain ⟨u, hu, ru⟩ := rv.get hx
    have hel : e < s.heap.objs.size := Heap.lt_size he
    have hil : it < s.heap.objs.size := by obtain ⟨_, q, _⟩ := hit; exact Heap.lt_size q
    have pt : s.heap.IsList a its.toArray := p.isList
    have hea : e ≠ a := fun z => by
      obtain ⟨o, ho, hc', _⟩ := pt
      rw [← z] at ho
      have he' : s.heap.get? e = _ := he
      rw [he'] at ho
      cases ho
      simp at hc'
    have hai : a ≠ it := fun z => by
      obtain ⟨o, ho, hc', _⟩ := pt
      obtain ⟨o2, ho2, hc2, _⟩ := hit
      rw [z, ho2] at ho
      cases ho
      rw [hc2] at hc'
      simp at hc'
    have hlen : i < its.toArray.size := by
      have := (List.getElem?_eq_some_iff.mp hu).1
      simpa using this
    refine wpAny_pyNext_enum_itemD (Draws.list (show X.A.in1.handled = none from I.ok.hd hc) it a hai its.toArray) he ⟨hit, pt⟩ hlen hne (by simp; exact ⟨hne, hea⟩) fun u' h' tk hu' ho hst hT hsz hk => ?_
    have eu : u' = u := by
      have h1 : its.toArray[i]? = some u' := hu'
      have h2 : its[i]? = some u' := by simpa using h1
      rw [hu] at h2
      cases h2; rfl
    subst eu
    obtain ⟨hit', _⟩ := hst
    refine ⟨_, rfl, wpAny_letOwnedTupleGo_enum (s := { s with heap := h', toks := tk + 1 }) ho fun h'' he' sb => ?_⟩
    have hT2 : h''.get? s.heap.objs.size = some { cls := .type "tuple", data := .seq #[.int i tk, u'] } := (sb.2 _ (Nat.ne_of_gt hel)).trans hT
    have new : ObjOk X.prog X.w (upd H s.heap.objs.size (.frz { cls := .type "tuple", data := .seq #[.int i tk, u'] } (.tup [.int (i : Nat), x]))) h'' s.heap.objs.size (.frz { cls := .type "tuple", data := .seq #[.int i tk, u'] } (.tup [.int (i : Nat), x])) :=
      ⟨hT2, by show 2 ≤ sizeLine; decide, [.int i tk, u'], .cons ⟨_, rfl⟩ (.cons ru .nil), ⟨_, hT2, rfl, _, rfl⟩⟩
    have I1 : Inv X pins σ (upd H s.heap.objs.size (.frz { cls := .type "tuple", data := .seq #[.int i tk, u'] } (.tup [.int (i : Nat), x]))) { s with heap := h'', toks := tk + 1 } :=
      I.turnedNew (ch := [e, it]) (fun b ob nb q => (sb.2 b (fun z => nb (by simp [z]))).trans (hk b ob (fun z => nb (by simp [z])) (fun z => nb (by simp [z])) q)) hf (Nat.le_refl _) new
    refine ⟨.ref s.heap.objs.size, _, I1, rfl, ⟨_, _, x, rfl, I.hok.fresh (Nat.le_refl _), rfl, rfl, fun ys hy => by rw [I.list_inj hy hq]; exact hx⟩, ⟨⟨u', ?_⟩, hit'.at fun o q => (sb.2 it (Ne.symm hne)).trans q, hne⟩, fun b hb => ?_⟩
    · have e1 : ((i + 1 : Nat) : Int) = (i : Int) + 1 := by omega
      rw [e1]; exact he'
    · have hb' : b < s.heap.objs.size := by
        have e' : b = e ∨ b = it := by simpa using hb
        rcases e' with z | z
        · rw [z]; exact hel
        · rw [z]; exact hil
      rw [upd_ne (Nat.ne_of_lt hb')]
      exact (hf b hb).1
  done := by
    intro X hP hw hK hc i pins s σ H E I hf st hg
    subst hP hw hK
    obtain ⟨⟨old, he⟩, hit, hne⟩ := st
    obtain ⟨xs, hq, hx⟩ := hg
    obtain ⟨its, rv, p, hz⟩ := I.list hq
    obtain ⟨f0, f1, f2, f3, f4, f5⟩ := hf it (by simp)
    have hl := rv.length
    exact wpAny_pyNext_enum_end (I.ok.hd hc) he hit p.isList (by simp; omega) fun h' eb => ⟨rfl, I.turned (t' := s.toks) (fun b o hb q => eb b o hb q) f0 f1 f3 f4 f5⟩
  self := fun A i s Q E st h => let ⟨⟨_, he⟩, _⟩ := st; wpAny_pyIter_enum he h
/-- enumerate of a list or a tuple -/
def iEnumA (K : PySem.W.Frag) (ta : TA) : TI := fun σ H R => ta σ H fun vs H1 => (∃ a, vs = [.ref a] ∧ (∃ xs, SqL K H1 a xs) ∧ R (IetL K a) H1) ∨ (∃ a, vs = [.ref a] ∧ (∃ xs, SqT K H1 a xs) ∧ R (Iet K a) H1)
theorem pi_enumA {X : Cx} {e : Expr} {ta : TA} {p pos tpos : Pos} {elts : List Expr} {kk : Nat} (hg : Gl X "enumerate") (hm : X.mg "enumerate" = none) (ha : PA X [e] ta) (hs : starEach [e] X.env = [(false, eval e X.env)] := by rfl) :
    PI X (.Tuple elts kk tpos) (.Call (.Name "enumerate" p) [e] [] pos) (iEnumA X.K ta) := by
  refine ⟨fun pins s σ H R I h => ?_⟩
  refine Call_ (ld_blt I hg hm boot_enumerate (PyProof.Rows.callWith_type1 (thn (ha.run pos pins s σ H _ I h) fun us s1 ⟨vs, H1, I1, r1, q1⟩ => ?_) hs rfl))
  rcases q1 with ⟨a, ex, ⟨xs, hq⟩, q⟩ | ⟨a, ex, ⟨xs, hq⟩, q⟩
  all_goals
    subst ex
    cases r1 with
    | cons r rr =>
      cases rr
      cases r
      first
        | (obtain ⟨its, rv, p', hz⟩ := I1.list hq
           refine call_enumerate_list p'.isList fun h' he hit hsz hk => wpAny_pyIter_enum he ?_
           have I2 : Inv X pins σ H1 { s1 with heap := h' } := I1.kept (t' := s1.toks) hk
           refine ⟨s1.heap.objs.size + 1, [s1.heap.objs.size + 1, s1.heap.objs.size], _, _, H1, rfl, I2, turn_enumL a (s1.heap.objs.size + 1) s1.heap.objs.size, ⟨⟨.none, he⟩, hit, Nat.succ_ne_self _⟩, fun b hb => ?_, q⟩)
        | (obtain ⟨its, rv, p', hz⟩ := I1.tuple hq
           refine call_enumerate_tuple (show s1.heap.IsTuple a its.toArray from p') fun h' he hit hsz hk => wpAny_pyIter_enum he ?_
           have I2 : Inv X pins σ H1 { s1 with heap := h' } := I1.kept (t' := s1.toks) hk
           refine ⟨s1.heap.objs.size + 1, [s1.heap.objs.size + 1, s1.heap.objs.size], _, _, H1, rfl, I2, turn_enumT a (s1.heap.objs.size + 1) s1.heap.objs.size, ⟨⟨.none, he⟩, hit, Nat.succ_ne_self _⟩, fun b hb => ?_, q⟩)
      have e' : b = s1.heap.objs.size + 1 ∨ b = s1.heap.objs.size := by simpa using hb
      have hle : s1.heap.objs.size ≤ b := by
        rcases e' with z | z
        · rw [z]; exact Nat.le_add_right _ _
        · rw [z]; exact Nat.le_refl _
      exact I1.fpOk hle (I1.hok.fresh hle)
/-- pairs in new tuples -/
def YPairX (f g : Nat → Option V) : Nat → Hp → V → Hp → Prop := fun i H v H' => ∃ T o x y, v = .ref T ∧ H T = none ∧ o.dict = none ∧ H' = upd H T (.frz o (.tup [x, y])) ∧ f i = some x ∧ g i = some y
theorem walk_enumT {K : PySem.W.Frag} {a : Addr} {xs : List V} : Walk (Iet K a) xs.length (fun H => SqT K H a xs) (YPairX (fun i => some (.int (i : Nat))) (fun i => xs[i]?)) := by
  refine ⟨fun i _ hi q => ⟨xs, xs[i], q, by simp [hi]⟩, fun _ q => ⟨xs, q, Nat.le_refl _⟩, fun i H v H' _ q y => ?_⟩
  obtain ⟨T, o, x, h1, h2, h0, h3, h4⟩ := y
  exact ⟨T, o, .int (i : Nat), x, h1, h2, h0, h3, rfl, h4 xs q⟩
theorem walk_enumL {K : PySem.W.Frag} {a : Addr} {xs : List V} : Walk (IetL K a) xs.length (fun H => SqL K H a xs) (YPairX (fun i => some (.int (i : Nat))) (fun i => xs[i]?)) := by
  refine ⟨fun i _ hi q => ⟨xs, xs[i], q, by simp [hi]⟩, fun _ q => ⟨xs, q, Nat.le_refl _⟩, fun i H v H' _ q y => ?_⟩
  obtain ⟨T, o, x, h1, h2, h0, h3, h4⟩ := y
  exact ⟨T, o, .int (i : Nat), x, h1, h2, h0, h3, rfl, h4 xs q⟩
end L2
namespace GS
open PySem L2
/-- numbered -/
def enD (ds : List D) : List D := ds.mapIdx fun i d => .tuple [.int (i : Int), d]
def seqs : D → Option (List D)
  | .list ds => some ds
  | .tuple ds => some ds
  | _ => none
def iEn (fe : EF) : IF := fun ρ => bindEI (eCap fe ρ) fun h ρ1 => match h with
  | .sh d => match seqs d with
    | some ds => .ok (enD ds) ρ1
    | none => .stuck
  | _ => .stuck
section
variable {X : Cx} {C : Ct} {ρ ρ1 : Rho} {σ σ1 : St} {B H B1 H1 : Hp} {e tg : Expr} {te : TE} {fe : EF} {pos p tpos : Pos}
theorem enD_get (ds : List D) (i : Nat) (d : D) (h : ds[i]? = some d) : (enD ds)[i]? = some (.tuple [.int (i : Int), d]) := by
  unfold enD
  rw [List.getElem?_mapIdx, h]
  rfl
theorem it_en {K : KW} {J : It} {xs : List V} {ds : List D} {G : Hp → Prop} (w : Walk J xs.length G (YPairX (fun i => some (.int (i : Nat))) (fun i => xs[i]?))) (hG : ∀ H, Same B H → G H) (r : RpL K B xs ds) : ItOk K B (enD ds) J := by
  unfold ItOk
  rw [show (enD ds).length = xs.length by unfold enD; rw [List.length_mapIdx, r.length]]
  refine w.mono hG fun i H x H' hi s y => ?_
  obtain ⟨T, o, a, b, h1, h2, h0, h3, h4, h5⟩ := y
  cases h4
  obtain ⟨d, q1, q2⟩ := r.getV h5
  exact ⟨_, enD_get ds i d q1, .inr ⟨T, o, _, _, h1, h2, h0, h3, rfl, .cons (.int _) (.cons q2 .nil)⟩⟩
theorem lk_en (l : LkE C te fe) : LkI C (iEnumA C.K (tCons te tNil)) (iEn fe) := fun ρ σ B H R S g => by
  refine l.cap.bindI S g fun hd ρ1 v B1 H1 S1 x1 y1 g1 => ?_
  cases hd with
  | sh d =>
    cases d with
    | list ds =>
      obtain ⟨a, vs, rfl, ha, ra⟩ := Rp.lstE y1
      exact .inl ⟨a, rfl, ⟨vs, same_l S1.bh ha⟩, g1 _ B1 H1 S1 x1 (it_en walk_enumL (fun H s => same_l s ha) ra)⟩
    | tuple ds =>
      obtain ⟨a, vs, rfl, ha, ra⟩ := Rp.tupE y1
      exact .inr ⟨a, rfl, ⟨vs, same_t S1.bh ha⟩, g1 _ B1 H1 S1 x1 (it_en walk_enumT (fun H s => same_t s ha) ra)⟩
    | _ => exact g1.elim
  | _ => exact g1.elim
theorem si_en {elts : List Expr} {kk : Nat} (l : SE X C e te fe) (hm : X.mg "enumerate" = none) (hg : Gl X "enumerate" := by rfl) (hk : X.K = C.K := by rfl) (hs : starEach [e] X.env = [(false, eval e X.env)] := by rfl) :
    SI X C (.Tuple elts kk tpos) (.Call (.Name "enumerate" p) [e] [] pos) (iEnumA C.K (tCons te tNil)) (iEn fe) := ⟨by rw [← hk]; exact pi_enumA hg hm (pa_cons l.pe pa_nil hs) hs, lk_en l.lk⟩
end
end GS
namespace GS
open PySem L2
section
variable {K : KW} {X : Cx} {C : Ct} {ρ ρ1 : Rho} {σ σ1 : St} {B H B1 H1 : Hp} {e e2 : Expr} {te ti : TE} {fe fi : EF} {pos : Pos} {st : Stmt}
def extD (zs : List D) : D → Option D
  | .list ds => if ds.length + zs.length ≤ sizeLine then some (.list (ds ++ zs)) else none
  | _ => none
def sExt (i : Nat) (fe : EF) : SF := fun ρ => if isL ρ i then bindES (fe ρ) fun h ρ1 => match h with
  | .fr (.list zs) => mutS ρ1 i (extD zs)
  | _ => .stuck else .stuck
theorem ss_ext {i : Nat} {x : Str} {q1 q2 q3 : Pos} (l : SE X C e te fe) (hN : X.N[i]? = some x := by rfl) (hv : Vis X.env.scope x := by first | exact Or.inl rfl | exact Or.inr (Or.inl rfl) | exact Or.inr (Or.inr rfl)) (hd : (x == ("__debug__" : Str)) = false := by decide)
    (hcd : (x == ("__classdict__" : Str)) = false := by decide) (hk : X.K = C.K := by rfl) (hs : starEach [e] X.env = (false, eval e X.env) :: starEach [] X.env := by rfl)
    (hfew : ((backTo q3 (starEach [e] X.env)).all (fun x => !x.1) && (backToKw q3 (keywordEach [] X.env)).all (fun x => x.1.isSome) && decide ([e].length + ([] : List Keyword).length + (if ([] : List Keyword).isEmpty then 0 else 1) < 30)) = true := by rfl)
    (hline : (q2.endLine == q3.line) = true := by rfl) :
    SS X C (.Expr (.Call (.Attribute (.Name x q1) "extend" q2) [e] [] q3) pos) (tDrop (tBM C.K "list" rExtend (tVar i) (tCons te tNil))) (sExt i fe) := by
  refine ⟨by rw [← hk]; exact ps_expr (pe_bm PySem.F.plainAttrs_list PySem.F.slot_list_extend PySem.F.type_list_extend mt_extend (pe_var hN hv hd hcd) (pa_cons l.pe pa_nil hs) rfl hfew hline hs), fun ρ σ B H E S g => ?_⟩
  unfold sExt at g
  by_cases hl : isL ρ i = true
  case neg => rw [if_neg hl] at g; exact g.elim
  rw [if_pos hl] at g
  obtain ⟨a, vs, ea, sq⟩ := isL_ok S hl
  refine ⟨.ref a, ea, tyL sq, ?_⟩
  refine l.lk.bindS S g fun hd ρ1 v B1 H1 S1 x1 y1 g1 => ?_
  cases hd with
  | fr y =>
    cases y with
    | list zs =>
      obtain ⟨c, d', h1, h2, h3, h4⟩ := mutS_ok g1
      obtain ⟨a', ea', hb, ow⟩ := S1.own h1 h2
      rw [ea] at ea'
      cases ea'
      obtain ⟨b, rfl, bb, owb, nb, _⟩ := y1
      obtain ⟨us, eu, ru⟩ := owb
      obtain ⟨d, fl⟩ := c
      cases d with
      | list ds =>
        obtain ⟨hc, rfl⟩ := if_some (show (if ds.length + zs.length ≤ sizeLine then some (.list (ds ++ zs)) else none) = some d' from h3)
        obtain ⟨ws, ew, rw'⟩ := ow
        have ow' : Ow C.K B1 a (some (.lst (ws ++ us))) (.list (ds ++ zs)) := ⟨_, rfl, rw'.append ru⟩
        obtain ⟨S2, x2⟩ := S1.mut h1 h2 ea ow'
        exact ⟨a, b, ws, us, rfl, rfl, ew, eu, by rw [rw'.length, ru.length]; exact hc, h4 _ _ _ S2 (x1.trans x2)⟩
      | _ => cases h3
    | _ => exact g1.elim
  | _ => exact g1.elim
def okI (i : Int) : Bool := decide (0 ≤ i) && Nat.ble i.natAbs 1000000000
def insD (k : Int) (y : D) : D → Option D
  | .list ds => if decide (ds.length < sizeLine) && okI k then some (.list (ds.take k.toNat ++ [y] ++ ds.drop k.toNat)) else none
  | _ => none
def insR (i : Nat) (k : Int) (h : Hd) (ρ : Rho) : RS := match h with
  | .sh y => mutS ρ i (insD k y)
  | _ => .stuck
def insI (i : Nat) (fe : EF) (o : Option D) (ρ : Rho) : RS := match o with
  | some (.int k) => bindES (eCap fe ρ) (insR i k)
  | _ => .stuck
def sIns (i : Nat) (fi fe : EF) : SF := fun ρ => if isL ρ i then bindES (eSet fi ρ) fun h ρ1 => insI i fe (getH ρ1 h) ρ1 else .stuck
theorem ss_ins {i : Nat} {x : Str} {q1 q2 q3 : Pos} (li : SE X C e ti fi) (l : SE X C e2 te fe) (hN : X.N[i]? = some x := by rfl) (hv : Vis X.env.scope x := by first | exact Or.inl rfl | exact Or.inr (Or.inl rfl) | exact Or.inr (Or.inr rfl)) (hd : (x == ("__debug__" : Str)) = false := by decide)
    (hcd : (x == ("__classdict__" : Str)) = false := by decide) (hk : X.K = C.K := by rfl) (hs : starEach [e, e2] X.env = (false, eval e X.env) :: starEach [e2] X.env := by rfl) (hs2 : starEach [e2] X.env = (false, eval e2 X.env) :: starEach [] X.env := by rfl)
    (hfew : ((backTo q3 (starEach [e, e2] X.env)).all (fun x => !x.1) && (backToKw q3 (keywordEach [] X.env)).all (fun x => x.1.isSome) && decide ([e, e2].length + ([] : List Keyword).length + (if ([] : List Keyword).isEmpty then 0 else 1) < 30)) = true := by rfl)
    (hline : (q2.endLine == q3.line) = true := by rfl) (hplain : (backTo q3 (starEach [e2] X.env)).any (·.1) = false := by rfl) :
    SS X C (.Expr (.Call (.Attribute (.Name x q1) "insert" q2) [e, e2] [] q3) pos) (tDrop (tBM C.K "list" (fun x vs H Q => ∃ (l : Addr) (xs : List V) (i : Int) (y : V), x = .ref l ∧ vs = [.int i, y] ∧ H l = some (.lst xs) ∧ xs.length < sizeLine ∧ 0 ≤ i ∧ i < 2 ^ 63 ∧
    Q .non (upd H l (.lst (xs.take i.toNat ++ [y] ++ xs.drop i.toNat)))) (tVar i) (tCons ti (tCons te tNil)))) (sIns i fi fe) := by
  refine ⟨by rw [← hk]; exact ps_expr (pe_bm PySem.F.plainAttrs_list PySem.F.slot_list_insert PySem.F.type_list_insert mt_insert (pe_var hN hv hd hcd) (pa_cons li.pe (pa_cons l.pe pa_nil hs2) hs) rfl hfew hline hs hplain), fun ρ σ B H E S g => ?_⟩
  unfold sIns at g
  by_cases hl : isL ρ i = true
  case neg => rw [if_neg hl] at g; exact g.elim
  rw [if_pos hl] at g
  obtain ⟨a, vs, ea, sq⟩ := isL_ok S hl
  refine ⟨.ref a, ea, tyL sq, ?_⟩
  refine (LkE.set li.lk).bindS S g fun hd ρ1 v B1 H1 S1 x1 y1 g1 => ?_
  unfold insI at g1
  split at g1
  · rename_i k ek
    have tk := S1.tp y1 ek
    rw [tk.int]
    refine l.lk.cap.bindS S1 (GoodS.ext x1 g1) fun hd2 ρ2 v2 B2 H2 S2 x2 y2 g2 => ?_
    cases hd2 with
    | sh y =>
      obtain ⟨c, d', h1, h2, h3, h4⟩ := mutS_ok g2
      obtain ⟨a', ea', hb, ow⟩ := S2.own h1 h2
      rw [ea] at ea'
      cases ea'
      obtain ⟨d, fl⟩ := c
      cases d with
      | list ds =>
        obtain ⟨hc, rfl⟩ := if_some (show (if decide (ds.length < sizeLine) && okI k then some (.list (ds.take k.toNat ++ [y] ++ ds.drop k.toNat)) else none) = some d' from h3)
        rw [Bool.and_eq_true] at hc
        have hk2 := hc.2
        unfold okI at hk2
        rw [Bool.and_eq_true] at hk2
        have k0 := of_decide_eq_true hk2.1
        have k1 := Nat.le_of_ble_eq_true hk2.2
        obtain ⟨ws, ew, rw'⟩ := ow
        have ow' : Ow C.K B2 a (some (.lst (ws.take k.toNat ++ [v2] ++ ws.drop k.toNat))) (.list (ds.take k.toNat ++ [y] ++ ds.drop k.toNat)) := ⟨_, rfl, ((rw'.take _).append (.cons y2 .nil)).append (rw'.drop _)⟩
        obtain ⟨S3, x3⟩ := S2.mut h1 h2 ea ow'
        exact ⟨a, ws, k, v2, rfl, rfl, ew, by rw [rw'.length]; exact of_decide_eq_true hc.1, k0, by omega, h4 _ _ _ S3 (x2.trans x3)⟩
      | _ => cases h3
    | _ => exact g2.elim
  · exact g1.elim
end
end GS
namespace GS
open PySem L2
section
variable {ρ ρ1 : Rho} {c : Prop} [Decidable c]
def enR (h : Hd) (ρ : Rho) : RI := match h with
  | .sh d => match seqs d with
    | some ds => .ok (enD ds) ρ
    | none => .stuck
  | _ => .stuck
@[simp] theorem enR_l (ds : List D) : enR (.sh (.list ds)) ρ = .ok (enD ds) ρ := rfl
@[simp] theorem enR_t (ds : List D) : enR (.sh (.tuple ds)) ρ = .ok (enD ds) ρ := rfl
@[simp] theorem iEn_eq (f : EF) : iEn f ρ = bindEI (eCap f ρ) enR := by unfold iEn enR; rfl
theorem enD_len (ds : List D) : (enD ds).length = ds.length := by unfold enD; rw [List.length_mapIdx]
theorem enD_mid {ds pre post : List D} {d : D} (h : enD ds = pre ++ d :: post) : ∃ x, ds[pre.length]? = some x ∧ d = .tuple [.int (pre.length : Int), x] := by
  have h2 : (enD ds)[pre.length]? = some d := by rw [h, List.getElem?_append_right (Nat.le_refl _), Nat.sub_self]; rfl
  have h3 : pre.length < ds.length := by rw [← enD_len ds]; exact (List.getElem?_eq_some_iff.mp h2).1
  have h4 : ds[pre.length]? = some ds[pre.length] := List.getElem?_eq_getElem h3
  rw [enD_get ds _ _ h4] at h2
  exact ⟨_, h4, (Option.some.inj h2).symm⟩
def extR (i : Nat) (h : Hd) (ρ : Rho) : RS := match h with
  | .fr (.list zs) => mutS ρ i (extD zs)
  | _ => .stuck
@[simp] theorem extR_l (i : Nat) (zs : List D) : extR i (.fr (.list zs)) ρ = mutS ρ i (extD zs) := rfl
@[simp] theorem sExt_eq (i : Nat) (f : EF) : sExt i f ρ = if isL ρ i then bindES (f ρ) (extR i) else .stuck := by unfold sExt; rfl
@[simp] theorem extD_l (zs ds : List D) : extD zs (.list ds) = if ds.length + zs.length ≤ sizeLine then some (.list (ds ++ zs)) else none := rfl
@[simp] theorem insR_sh (i : Nat) (k : Int) (y : D) : insR i k (.sh y) ρ = mutS ρ i (insD k y) := rfl
@[simp] theorem insI_i (i : Nat) (f : EF) (k : Int) : insI i f (some (.int k)) ρ = bindES (eCap f ρ) (insR i k) := rfl
@[simp] theorem sIns_eq (i : Nat) (fi fe : EF) : sIns i fi fe ρ = if isL ρ i then bindES (eSet fi ρ) (fun h ρ1 => insI i fe (getH ρ1 h) ρ1) else .stuck := rfl
@[simp] theorem insD_l (k : Int) (y : D) (ds : List D) : insD k y (.list ds) = if decide (ds.length < sizeLine) && okI k then some (.list (ds.take k.toNat ++ [y] ++ ds.drop k.toNat)) else none := rfl
theorem okI_nat {m : Nat} (h : m ≤ 1000000000) : okI (m : Int) = true := by
  unfold okI
  rw [Int.natAbs_natCast, Nat.ble_eq_true_of_le h, decide_eq_true (by omega)]; rfl
/-- a loop that appends -/
theorem forL_app {α : Type} {g : D → Rho → Option Rho} {b : SF} (emb : List D → Rho) (it : α → D) (f : α → D) : ∀ (as : List α) (acc : List D), acc.length + as.length ≤ sizeLine →
    (∀ a acc, a ∈ as → acc.length < sizeLine → optR (g (it a) (emb acc)) b = .nx (emb (acc ++ [f a]))) → forL g b (as.map it) (emb acc) = .nx (emb (acc ++ as.map f))
  | [], acc, _, _ => by simp
  | a :: as, acc, hl, k => by
    rw [List.length_cons] at hl
    have h1 := k a acc (List.mem_cons_self ..) (by omega)
    have q := forL_app emb it f as (acc ++ [f a]) (by rw [List.length_append, List.length_singleton]; omega) fun a acc m => k a acc (List.mem_cons_of_mem _ m)
    rw [List.map_cons, forL_cons]
    unfold optR at h1 ⊢
    split at h1
    · cases h1
    · dsimp only
      rw [h1, turnR_nx, q]
      simp
end
end GS
namespace GS
open PySem L2
def mRes (o : D → D → Option Hd) (a b : Option D) (ρ : Rho) : RE := match a, b with
  | some x, some y => (match o x y with
    | some h => .ok h ρ
    | none => .stuck)
  | _, _ => .stuck
section
variable {K : KW} {X : Cx} {C : Ct} {a b : Expr} {ta tb : TE} {fa fb : EF} {apos pos : Pos}
def joinOk (a : Str) (ys : List Str) : Bool := Nat.ble ((ys.map (·.length)).sum + ys.length * a.length) 16777216
def intC : D → Option Hd
  | .int i => some (.sh (.int i))
  | .bool k => some (.sh (.int (if k then 1 else 0)))
  | .str a => (PySem.intText? a).bind fun n => if Nat.ble a.length 640 then some (.sh (.int n)) else none
  | _ => none
end
end GS
namespace GS
open PySem L2
section
variable {ρ ρ1 : Rho} {c : Prop} [Decidable c]
@[simp] theorem mRes_s (o : D → D → Option Hd) (x y : D) : mRes o (some x) (some y) ρ = resO (o x y) ρ := rfl
@[simp] theorem intC_i (i : Int) : intC (.int i) = some (.sh (.int i)) := rfl
@[simp] theorem intC_b (b : Bool) : intC (.bool b) = some (.sh (.int (if b then 1 else 0))) := rfl
end
end GS
namespace GS
open PySem L2 PySem.Spec PyProof.Rows
section
variable {X : Cx} {pins : List (Addr × Obj)} {σ : L2.St} {H : Hp} {s : Shared}
end
section
variable {X : Cx} {x n : Str} {c : Value} {i : Nat} {body suite : List Stmt} {b₀ : Stmt} {np pos pos' : Pos} {R : TS} {ts : TS} {Wout : WX}
end
end GS
namespace GS
open PySem L2
section
variable {K : KW} {ρ ρ1 : Rho} {σ σ1 : St} {B H B1 H1 : Hp}
end
section
variable {X : Cx} {C : Ct} {x n : Str} {c : Value} {i : Nat} {body suite : List Stmt} {b₀ : Stmt} {np pos pos' : Pos} {ts : TS} {fb fh : SF} {ns cs : List Str}
def tTry (C : Ct) (f : SF) : TS := fun D σ H => ∃ ρ B, Sim C.K ρ σ B H ∧ GoodS C ρ σ B H D (f ρ)
end
end GS
namespace GS
open PySem L2
section
variable {X : Cx} {C : Ct} {e : Expr} {te : TE} {fe : EF} {pos : Pos} {ns cs : List Str}
end
end GS
namespace GS
open PySem L2
/-- what the written part says of G, whose __init__ is ValueError's -/
def giB (K : PySem.W.Frag) (G : Addr) : Bool := decide (PySem.W.specialIn K (.ref G) "__getattribute__" = some (some (.builtin "type.__getattribute__"))) && (PySem.W.readsIn K G (.type "type") && match PySem.W.findCls K (.ref G) (.type "type") "__init__" with
  | some (.val v) => decide (v = .builtin "ValueError.__init__")
  | _ => false)
theorem giB_ok {K : PySem.W.Frag} {G : Addr} (h : giB K G = true) : PySem.W.specialIn K (.ref G) "__getattribute__" = some (some (.builtin "type.__getattribute__")) ∧ PySem.W.readsIn K G (.type "type") = true ∧ PySem.W.findCls K (.ref G) (.type "type") "__init__" = some (.val (.builtin "ValueError.__init__")) := by
  unfold giB at h
  rw [Bool.and_eq_true, Bool.and_eq_true, decide_eq_true_eq] at h
  obtain ⟨h1, h2, h3⟩ := h
  refine ⟨h1, h2, ?_⟩
  split at h3
  · rename_i v e
    rw [e, of_decide_eq_true h3]
  · cases h3
section
variable {X : Cx} {e : Expr} {es : List Expr} {ta : TA} {p1 p2 pos : Pos} {x : Str} {G : Addr}
open PySem.Spec PyProof.Rows in
theorem pe_ginit {pl : Sem Bool} (hgi : giB X.K G = true) (hm : X.mg x = some (.ref G)) (ha : PA X (e :: es) ta) (hg : Gl X x := by rfl) (hdb : (x == ("__debug__" : Str)) = false := by decide)
    (hc : eval (.Call (.Attribute (.Name x p1) "__init__" p2) (e :: es) [] pos) X.env = (do
      let ov ← eval (.Name x p1) X.env
      standAt p2.atName
      let (f, first) ← holding [ov] (getMethod ov "__init__" pl)
      callWith pos f first (backTo pos (starEach (e :: es) X.env)) (backToKw pos (keywordEach [] X.env))) := by rfl)
    (he : starEach (e :: es) X.env = (false, eval e X.env) :: starEach es X.env := by rfl) (hpl : (backTo pos (starEach es X.env)).any (·.1) = false := by rfl) :
    PE X (.Call (.Attribute (.Name x p1) "__init__" p2) (e :: es) [] pos) (tVeI X.K ta) := by
  obtain ⟨h1, h2, h3⟩ := giB_ok hgi
  refine ⟨fun pins s σ H Q I h => ?_⟩
  refine PySem.W.methodCall_KW (ld_glob I hg hm ?_ hdb) hc
  refine PySem.W.method_cls I.kIn h1 (PySem.W.cls_value I.kIn h2 h3 (by decide +kernel) ?_)
  show wpAny _ _ (callWith pos (Value.builtin "ValueError.__init__") [] (backTo pos (starEach (e :: es) X.env)) []) _ _ _
  refine PyProof.Rows.callWith_method1 (thn (ha.run pos pins _ σ H _ (I.tok _) h) fun us s1 ⟨vs, H1, I1, r1, a, C, ws, ev, hl, T, ea, q⟩ => ?_) he hpl
  subst ev
  cases r1 with
  | @cons _ u0 _ ur ra rw' =>
    obtain rfl : u0 = Value.ref a := ra
    have hlen : ur.length ≤ sizeLine := by
      rw [← Paired.length rw', sizeLine_eq]
      omega
    exact oinit_ok T I1 ea hlen fun s' J => ⟨.non, H1, J, rfl, q⟩
end
/-- what an own __init__ that sets the fields fns keeps -/
def spI (K : PySem.W.Frag) (fns : List Str) : Sp := fun vs H Q _ => ∃ (a C : Addr) (ys : List V), vs = .ref a :: ys ∧ ys.length = fns.length ∧ H a = some (exo a C none) ∧ OexC K C ∧ (∀ f ∈ fns, PySem.W.findIn K (.ref C) f = some none) ∧
  ∀ (dx : Addr) (H' : Hp), H dx = none → dx ≠ a → H' a = some (exo a C (some dx)) → H' dx = some (exd dx (fns.zip ys).reverse) → (∀ b, b ≠ a → b ≠ dx → H' b = H b) → Q .non H'
section
variable {P : Program} {w : World} {K : PySem.W.Frag} {mg : Str → Option Value} {base : Heap}
theorem fn_init1 {f qual msg : Str} {st : Stmt} {fI : Addr} {fd : FuncData} {k : Nat} (F : Fun K "__init__" qual st fI fd) (S : FnScope ["self", f] ["self", f] (defScope st))
    (hok : ∀ cdv A outer s H E, PSs (cxOf (L2.CX P w) P w K mg base ["self", f] qual (defScope st) fI cdv A outer s H E) (defBody st) (tSeq (tDrop (tVeI K (tCons (tVar 0) (tCons (tC (.str msg)) tNil)))) (tOst K f (tVar 0) (tVar 1)))) :
    FnOk P w K mg base (L2.CX P w) (k + 1) fI fd ["self", f] (spI K [f]) := by
  refine F.okX S (fun vs H Q E h => ?_) (fun cdv A outer s H vs Q E hr h => ⟨_, hok cdv A outer s H E, ?_⟩)
  · obtain ⟨a, C, ys, rfl, hl, _⟩ := h
    rw [List.length_cons, hl]; rfl
  · obtain ⟨a, C, ys, rfl, hl, ea, T, hno, q⟩ := h
    match ys, hl with
    | [y], _ =>
      refine ⟨.ref a, rfl, a, C, [.str msg], rfl, by rw [List.length_singleton]; omega, T, ea, ?_⟩
      refine ⟨y, rfl, .ref a, rfl, a, C, rfl, T, hno f (List.mem_singleton.mpr rfl), .inl ⟨ea, fun dx n ne => q dx _ n ne upd_same ?_ fun b h1 h2 => ?_⟩⟩
      · rw [upd_ne ne, upd_same]; rfl
      · rw [upd_ne h1, upd_ne h2]
end
end GS
namespace GS
open PySem L2
abbrev spFv (K : KW) (n : Nat) (F : FF) : Sp := spF K (cvK K) n F
/-- the __init__ as a row of the table: it says only that there is room for it -/
def iniF (k : Nat) : FF := fun _ => if k < 2 then .stuck else .ok (.sh .none) []
/-- .. and what stands behind the row -/
def IniOk (P : Program) (w : World) (K : PySem.W.Frag) (mg : Str → Option Value) (base : Heap) (k : Nat) (fI : Addr) (fd : FuncData) (fns : List Str) (F : FF) : Prop := F [] = .stuck ∨ ∃ k', k = k' + 1 ∧ FnOk P w K mg base (L2.CX P w) k' fI fd ("self" :: fns) (spI K fns)
/-- what the written part says of a class C with its own __init__ at fI -/
def oeB (K : PySem.W.Frag) (C fI : Addr) (fns : List Str) : Bool := decide (PySem.W.findIn K (.ref C) "__setattr__" = some (some (.builtin "object.__setattr__"))) && (decide (PySem.W.subIn K (.ref C) (.type "BaseException") = some true) && (decide (PySem.W.typeIn K (.ref C) = some (.type "type")) &&
  (PySem.W.keepIn K (.ref C) && (decide (PySem.W.findIn K (.ref C) "__init__" = some (some (.ref fI))) && (decide (PySem.W.typeIn K (.ref fI) = some (.type "function")) && fns.all fun f => decide (PySem.W.findIn K (.ref C) f = some none))))))
theorem oeB_ok {K : PySem.W.Frag} {C fI : Addr} {fns : List Str} (h : oeB K C fI fns = true) : PySem.W.findIn K (.ref C) "__setattr__" = some (some (.builtin "object.__setattr__")) ∧ PySem.W.subIn K (.ref C) (.type "BaseException") = some true ∧ PySem.W.typeIn K (.ref C) = some (.type "type") ∧
    PySem.W.keepIn K (.ref C) = true ∧ PySem.W.findIn K (.ref C) "__init__" = some (some (.ref fI)) ∧ PySem.W.typeIn K (.ref fI) = some (.type "function") ∧ ∀ f ∈ fns, PySem.W.findIn K (.ref C) f = some none := by
  unfold oeB at h
  simp only [Bool.and_eq_true, decide_eq_true_eq] at h
  obtain ⟨h1, h2, h3, h4, h5, h6, h7⟩ := h
  exact ⟨h1, h2, h3, h4, h5, h6, fun f hf => of_decide_eq_true (List.all_eq_true.mp h7 f hf)⟩
def sRaise (F : FF) (c : Str) (fns : List Str) (fa : AF) : SF := fun ρ => match F [] with
  | .stuck => .stuck
  | _ => match fa ρ with
    | .stuck => .stuck
    | .exc x ρ1 => .exc x ρ1
    | .ok hs ρ1 => match shs hs with
      | some ds => if ds.length = fns.length ∧ ds.length ≤ 1000 then .exc ⟨c, (fns.zip ds).reverse⟩ ρ1 else .stuck
      | none => .stuck
theorem zip_fst {α β : Type} : ∀ (l : List α) (m : List β), l.length = m.length → (l.zip m).map (·.1) = l
  | [], [], _ => rfl
  | [], _ :: _, h => by cases h
  | _ :: _, [], h => by cases h
  | a :: l, b :: m, h => by
    rw [List.zip_cons_cons, List.map_cons, zip_fst l m (by simpa using h)]
theorem zip_snd {α β : Type} : ∀ (l : List α) (m : List β), l.length = m.length → (l.zip m).map (·.2) = m
  | [], [], _ => rfl
  | [], _ :: _, h => by cases h
  | _ :: _, [], h => by cases h
  | a :: l, b :: m, h => by
    rw [List.zip_cons_cons, List.map_cons, zip_snd l m (by simpa using h)]
section
variable {X : Cx} {C : Ct} {e : Expr} {es : List Expr} {ta : TA} {fa : AF} {p pos pos' : Pos} {x : Str} {fns : List Str}
def tRse (W : WX) (A : Addr) (K : PySem.W.Frag) (fns : List Str) (ta : TA) : TS := fun _ σ H => tMkO A (spI K fns) [] ta σ H fun cls d H' => W cls d σ H'
theorem lk_raise {F : FF} {A fI : Addr} (T : OexC C.K A) (hob : oeB C.K A fI fns = true) (hcx : C.cv x = .ref A) (hF : F [] ≠ .stuck) (l : LkA C ta fa) : LkS C (tRse C.W A C.K fns ta) (sRaise F x fns fa) := fun ρ σ B H D S g => by
  obtain ⟨_, _, _, _, _, _, hno⟩ := oeB_ok hob
  unfold sRaise at g
  have g : GoodS C ρ σ B H D (match fa ρ with
    | .stuck => .stuck
    | .exc x ρ1 => .exc x ρ1
    | .ok hs ρ1 => match shs hs with
      | some ds => if ds.length = fns.length ∧ ds.length ≤ 1000 then .exc ⟨x, (fns.zip ds).reverse⟩ ρ1 else .stuck
      | none => .stuck) := by
    cases eF : F [] with
    | stuck => exact absurd eF hF
    | ok h r => rw [eF] at g; exact g
    | exc y r => rw [eF] at g; exact g
  refine l ρ σ B H _ S ?_
  cases ea : fa ρ with
  | stuck => rw [ea] at g; exact g
  | exc y ρ1 => rw [ea] at g; exact fun cls d B' H' s z => g cls d σ B' H' s z
  | ok hs ρ1 =>
    rw [ea] at g
    dsimp only at g
    intro vs B1 H1 S1 x1 y1
    split at g
    · rename_i ds eds
      split at g
      · rename_i hl
        have r := shs_ok y1 eds
        have hvl : vs.length = fns.length := by rw [r.length]; exact hl.1
        refine ⟨by rw [r.length]; exact hl.2, fun a na => ⟨a, A, vs, by rw [List.append_nil], hvl, upd_same, T, hno, fun dx H' ndx ne e1 e2 e3 => ⟨rfl, dx, _, e1, e2, ?_, ?_⟩⟩⟩
        · rw [upd_ne ne] at ndx; exact ndx
        · rw [upd_ne ne] at ndx
          have eH : upd (del H' a) dx (.xd (fns.zip vs).reverse) = upd H1 dx (.xd (fns.zip vs).reverse) := by
            funext b
            by_cases hb : b = dx
            · rw [hb, upd_same, upd_same]
            · rw [upd_ne hb, upd_ne hb]
              by_cases hb2 : b = a
              · rw [hb2, del_same, na]
              · rw [del_ne hb2, e3 b hb2 hb, upd_ne hb2]
          rw [eH]
          obtain ⟨S2, x2⟩ := S1.newB ndx (.xd (fns.zip vs).reverse)
          refine g (.ref A) (some dx) σ _ _ S2 (x1.trans x2) ⟨hcx.symm, .inr ⟨dx, _, rfl, upd_same, ?_, ?_⟩⟩
          · show ((fns.zip vs).reverse).map (·.1) = ((fns.zip ds).reverse).map (·.1)
            rw [List.map_reverse, List.map_reverse, zip_fst _ _ hvl.symm, zip_fst _ _ hl.1.symm]
          · show RpL C.K _ (((fns.zip vs).reverse).map (·.2)) (((fns.zip ds).reverse).map (·.2))
            rw [List.map_reverse, List.map_reverse, zip_snd _ _ hvl.symm, zip_snd _ _ hl.1.symm]
            exact (r.mono x2.bb).reverse
      · exact g.elim
    · exact g.elim
theorem ss_sem {st : Stmt} {f : SF} (h : ∃ t, SS X C st t f) : SS X C st (tTry C f) f := by
  obtain ⟨t, ht⟩ := h
  refine ⟨⟨fun pins s σ H D I q => ?_⟩, fun ρ σ B H D S g => ⟨ρ, B, S, g⟩⟩
  obtain ⟨ρ, B, S, g⟩ := q
  exact ht.ps.run pins s σ H D I (ht.lk ρ σ B H D S g)
theorem ss_raise0 {F : FF} {A fI : Addr} {fd : FuncData} {k : Nat} (hi : IniOk X.prog X.w X.K X.mg X.base k fI fd fns F) (T : OexC C.K A) (hob : oeB C.K A fI fns = true) (hcx : C.cv x = .ref A) (hm : X.mg x = some (.ref A)) (hb : Binds X.K fd ("self" :: fns) []) (hr : Room k X.A) (tk : Takes X C.W) (hc : X.calm = true) (l : SA X C (e :: es) ta fa)
    (hk : X.K = C.K := by rfl) (hg : Gl X x := by rfl) (hdb : (x == ("__debug__" : Str)) = false := by decide) (he : starEach (e :: es) X.env = (false, eval e X.env) :: starEach es X.env := by rfl) (hpl : (backTo pos (starEach es X.env)).any (·.1) = false := by rfl) :
    ∃ t, SS X C (.Raise (some (.Call (.Name x p) (e :: es) [] pos)) none pos') t (sRaise F x fns fa) := by
  rcases hi with hi | ⟨k', rfl, FO⟩
  · refine ⟨fun _ _ _ => False, ⟨fun pins s σ H D I h => h.elim⟩, fun ρ σ B H D S g => ?_⟩
    unfold sRaise at g
    rw [hi] at g
    exact g
  · by_cases hF : F [] = .stuck
    · refine ⟨fun _ _ _ => False, ⟨fun pins s σ H D I h => h.elim⟩, fun ρ σ B H D S g => ?_⟩
      unfold sRaise at g
      rw [hF] at g
      exact g
    · obtain ⟨h1, h2, h3, h4, h5, h6, h7⟩ := oeB_ok hob
      refine ⟨_, ps_raise hc tk (pmk_oex (sp := spI C.K fns) (dvs := []) (ds := []) (by rw [hk]; exact T) (by rw [hk]; exact h5) (by rw [hk]; exact h6) (by rw [← hk]; exact FO) hr hb .nil (passes_call tk fun _ _ _ _ z => z.elim) hg hm l.pa hdb he hpl), lk_raise T hob hcx hF l.lk⟩
theorem ss_raise {F : FF} {A fI : Addr} {fd : FuncData} {k : Nat} (hi : IniOk X.prog X.w X.K X.mg X.base k fI fd fns F) (T : OexC C.K A) (hob : oeB C.K A fI fns = true) (hcx : C.cv x = .ref A) (hm : X.mg x = some (.ref A)) (hb : Binds X.K fd ("self" :: fns) []) (hr : Room k X.A) (tk : Takes X C.W) (hc : X.calm = true) (l : SA X C (e :: es) ta fa)
    (hk : X.K = C.K := by rfl) (hg : Gl X x := by rfl) (hdb : (x == ("__debug__" : Str)) = false := by decide) (he : starEach (e :: es) X.env = (false, eval e X.env) :: starEach es X.env := by rfl) (hpl : (backTo pos (starEach es X.env)).any (·.1) = false := by rfl) :
    SS X C (.Raise (some (.Call (.Name x p) (e :: es) [] pos)) none pos') (tTry C (sRaise F x fns fa)) (sRaise F x fns fa) := ss_sem (ss_raise0 hi T hob hcx hm hb hr tk hc l hk hg hdb he hpl)
end
end GS
namespace GS
open PySem L2 PySem.Spec PyProof.Rows
theorem int_rmul_listW (a : Int) (t : Tok) (l : Addr) (items : Array Value) (n : Nat) (dd : Option Addr) (sl : Array (Option Value)) :
    Meets (Builtin.«int.__rmul__» ⟨[.int a t, .ref l], []⟩) (fun _ R s => s.heap.get? l = some { cls := .type "list", dict := dd, data := .seq items n, slots := sl } ∧ R (.ok (.ret Value.notImplemented)) s) :=
  .of_wp fun prog w A R s h => by obtain ⟨hp, g, d, tk, os⟩ := s; obtain ⟨hl, h⟩ := h; wp_walk using wpAny_loadPart' hl; exact ⟨_, rfl, h⟩
theorem list_mulW (l : Addr) (items : Array Value) (n : Nat) (dd : Option Addr) (sl : Array (Option Value)) (x : Int) (u : Tok) (hc0 : ¬(!Builtin.List.listFitsIndex x) = true) (hc1 : ¬items.size * x.toNat > (2 ^ 63 - 1) / 8) (hc2 : ¬Builtin.List.listTooLong (items.size * x.toNat) = true)
    (hsz : (List.foldl (fun x1 x2 => x1 ++ x2) #[] (List.replicate (if items.isEmpty = true then 0 else x.toNat) items)).size ≤ sizeLine) :
    Meets (Builtin.«list.__mul__» ⟨[.ref l, .int x u], []⟩) (fun _ R s => s.heap.get? l = some { cls := .type "list", dict := dd, data := .seq items n, slots := sl } ∧ R (.ok (.ret (Value.ref s.heap.objs.size))) { s with heap := s.heap.push { cls := Value.type "list", data := Data.seq (List.foldl (fun x1 x2 => x1 ++ x2) #[] (List.replicate (if items.isEmpty = true then 0 else x.toNat) items)) }, toks := s.toks }) :=
  .of_wp fun prog w A R s h => by
    obtain ⟨hp, g, d, tk, os⟩ := s; obtain ⟨hl, h⟩ := h
    wp_walk using wpAny_loadPart' hl
    refine wpAny_ite_false (decide_eq_false (Nat.not_lt.mpr hsz)) ?_
    wp_walk using wpAny_loadPart' hl
    exact ⟨_, rfl, h⟩
def rRepL (K : PySem.W.Frag) : R2 := fun x y H Q => ∃ l k xs, x = .ref l ∧ y = .int k ∧ SqL K H l xs ∧ 0 ≤ k ∧ k ≤ 1000 ∧ xs.length ≤ 1000 ∧ ∀ p, H p = none → Q (.ref p) (upd H p (.lst (List.replicate k.toNat xs).flatten))
theorem op_repL {X : Cx} : OpR X (binaryOp .Mult) (rRepL X.K) := by
  intro pins s σ H x y v u Q I rx ry h
  obtain ⟨l, k, xs, rfl, rfl, hH, h1, h2, hz, q⟩ := h
  cases rx
  obtain ⟨t, rfl⟩ := ry
  obtain ⟨its, r, p1, _⟩ := I.list hH
  have l1 := r.length
  obtain ⟨⟨cls, dd, data, sl⟩, ho, hc, n, hd⟩ := p1.isList
  simp only at hc hd
  subst hc hd
  have hm : xs.length * k.toNat ≤ 1000000 := Nat.le_trans (Nat.mul_le_mul hz (show k.toNat ≤ 1000 by omega)) (by decide)
  have hs : xs.length * k.toNat ≤ sizeLine := Nat.le_trans hm (by decide)
  have hlen : its.toArray.size * k.toNat ≤ sizeLine := by rw [List.size_toArray, ← l1]; exact hs
  have hcap : ¬ its.toArray.size * k.toNat > (2 ^ 63 - 1) / 8 := by
    have : (sizeLine : Nat) ≤ (2 ^ 63 - 1) / 8 := by decide
    omega
  have hfit : ¬ (!Builtin.List.listFitsIndex k) = true := by
    rw [fitsIndex_both (by omega) (by omega)]
    exact Bool.false_ne_true
  have hlong : ¬ Builtin.List.listTooLong (its.toArray.size * k.toNat) = true := by
    rw [notLongL hlen]
    exact Bool.false_ne_true
  have hnew : List.foldl (fun x1 x2 => x1 ++ x2) #[] (List.replicate (if its.toArray.isEmpty = true then 0 else k.toNat) its.toArray) = (List.replicate k.toNat its).flatten.toArray := by
    rw [size_rep]
    cases its with
    | nil => simp
    | cons a r' => rw [if_neg (by simp)]
  refine wpAny_binaryOp_repeat_ref (T := "list") (U := "int") (by decide) ⟨_, ho, rfl⟩ (fun s' => typeIs_int s' k t) noFill_list_mul F.fills_int_mul F.slot_int_rmul repeat_list F.slot_int_index.lookup
    (call_meets F.slot_int_rmul (typeIs_int s k t) F.entry_int_rmul (F.args_int_rmul_2 _ _) (int_rmul_listW k t l its.toArray n dd sl)
      ⟨ho, rfl, ⟨_, ho, rfl⟩, call_meets F.slot_list_mul ⟨_, ho, rfl⟩ F.entry_list_mul (F.args_list_mul_2 _ _) (list_mulW l its.toArray n dd sl k t hfit hcap hlong (by rw [hnew, List.size_toArray, PyProof.Rows.lm_len_rep_flat, Nat.mul_comm, ← l1]; exact hs)) ⟨ho, ?_⟩⟩)
  rw [hnew]
  exact ⟨.ref _, _, I.lnew (t' := s.toks) (r.rep k.toNat) (by rw [PyProof.Rows.lm_len_rep_flat, Nat.mul_comm]; exact hs), rfl, q _ I.fresh⟩
def mulL : D → D → Option Hd
  | .list ds, .int k => if decide (0 ≤ k) && Nat.ble k.natAbs 1000 && Nat.ble ds.length 1000 then some (.fr (.list (List.replicate k.toNat ds).flatten)) else none
  | _, _ => none
theorem ol_mulL {K : KW} : OpL K (rRepL K) mulL := fun ρ σ B H x y dx dy h Q S tx ty e k => by
  cases dx <;> cases dy <;> first | (cases (show none = some h from e); done) | skip
  rename_i ds i
  obtain ⟨c, rfl⟩ := if_some (show (if decide (0 ≤ i) && Nat.ble i.natAbs 1000 && Nat.ble ds.length 1000 then some (Hd.fr (.list (List.replicate i.toNat ds).flatten)) else none) = some h from e)
  simp only [Bool.and_eq_true, decide_eq_true_eq] at c
  have h1 := Nat.le_of_ble_eq_true c.1.2
  have h2 := Nat.le_of_ble_eq_true c.2
  obtain ⟨a, vs, rfl, ha, ra⟩ := tx
  rw [ty.int]
  exact ⟨a, i, vs, rfl, rfl, ha, c.1.1, by omega, by rw [ra.length]; exact h2, newL S (ra.rep _) k⟩
theorem mulL_l {ds : List D} {k : Int} (h0 : 0 ≤ k) (h1 : k ≤ 1000) (h2 : ds.length ≤ 1000) : mulL (.list ds) (.int k) = some (.fr (.list (List.replicate k.toNat ds).flatten)) := by
  show (if _ then _ else _) = _
  rw [decide_eq_true h0, Nat.ble_eq_true_of_le (show k.natAbs ≤ 1000 by omega), Nat.ble_eq_true_of_le h2]; rfl
end GS
namespace GS
open PySem L2
section
variable {ρ ρ1 : Rho} {c : Prop} [Decidable c]
@[simp] theorem bindBS_ok' (d : D) (b : Bool) (k : Bool → Rho → RS) (h : d = .bool b) : bindBS (.ok (.sh d) ρ) k = k b ρ := by subst h; rfl
@[simp] theorem bindI_ex (x : Xc) (k : List D → Rho → RS) : bindI (.exc x ρ) k = .exc x ρ := rfl
@[simp] theorem bindIE_ex (x : Xc) (k : List D → Rho → RE) : bindIE (.exc x ρ) k = .exc x ρ := rfl
@[simp] theorem consA_ex (h : Hd) (x : Xc) : consA h (.exc x ρ) = .exc x ρ := rfl
/-- a class of exceptions that is raised -/
def Raises (F : FF) : Prop := F [] ≠ .stuck
theorem raises_ini {k : Nat} (h : 2 ≤ k) : Raises (iniF k) := by
  unfold Raises iniF
  rw [if_neg (by omega)]
  exact RE.noConfusion
end
end GS
namespace GM
open PySem L2 GS
end GM
namespace GM
open PySem L2 GS
end GM
namespace GM
open PySem L2 GS
/-- kids_of(tree); slots 0:tree -/
def m_kids_of : SF := (sEnd (sRet (eIf (eB (eBin (eqB false) (eBin ixA (eVb 0) (eC (.int 0))) (eC (.str (Str.ofString "knot"))))) (eBin ixA (eVb 0) (eC (.int 3))) (eTup aNil))))
theorem m_kids_of_eq (ρ : Rho) : fnF 1 1 (m_kids_of) ρ = finR 1 (m_kids_of (ρ ++ [])) := fnF_eq 1 1 _
/-- places(tree); slots 0:tree 1:found 2:k 3:kid 4:place -/
def m_places_b1 (F_kids_of F_places : FF) : SF := (sKill [4] (sApp 1 (eBin addD (eTup (aCons (eMv 2) aNil)) (eVb 4))))
def m_places_b2 (F_kids_of F_places : FF) : SF := (sKill [2, 3, 4] (sFor (iSq (eCall 1 none F_places (aCons (eMv 3) aNil))) (gN 4) (m_places_b1 F_kids_of F_places)))
def m_places (F_kids_of F_places : FF) : SF := (sSeq (sSet 1 (eLst (aCons (eTup aNil) aNil))) (sSeq (sFor (iEn (eCall 1 none F_kids_of (aCons (eMv 0) aNil))) (gT 2 (gsC (gN 2) (gsC (gN 3) gsN))) (m_places_b2 F_kids_of F_places)) (sEnd (sRet (eRv 1)))))
theorem m_places_eq (F_kids_of F_places : FF) (ρ : Rho) : fnF 5 1 (m_places F_kids_of F_places) ρ = finR 1 (m_places F_kids_of F_places (ρ ++ [none, none, none, none])) := fnF_eq 5 1 _
/-- feet_of(tree); slots 0:tree 1:pieces 2:place 3:piece -/
def m_feet_of_ct1 (F_places F_piece_at : FF) : EF := (eB (eBin (eqB false) (eBin ixA (eVb 3) (eC (.int 0))) (eC (.str (Str.ofString "foot")))))
def m_feet_of_ce2 (F_places F_piece_at : FF) : EF := (eBin ixA (eVb 3) (eC (.int 1)))
def m_feet_of_ce3 (F_places F_piece_at : FF) : EF := (eCall 2 none F_piece_at (aCons (eMv 0) (aCons (eMv 2) aNil)))
def m_feet_of (F_places F_piece_at : FF) : SF := (sSeq (sSet 1 (eLc [2] (iSq (eCall 1 none F_places (aCons (eMv 0) aNil))) (gN 2) (eNox eYes) (eNox (m_feet_of_ce3 F_places F_piece_at)))) (sEnd (sRet (eLc [3] (iSq (eMv 1)) (gN 3) (eNox (m_feet_of_ct1 F_places F_piece_at)) (eNox (m_feet_of_ce2 F_places F_piece_at))))))
theorem m_feet_of_eq (F_places F_piece_at : FF) (ρ : Rho) : fnF 4 1 (m_feet_of F_places F_piece_at) ρ = finR 1 (m_feet_of F_places F_piece_at (ρ ++ [none, none, none])) := fnF_eq 4 1 _
/-- is_graft(tree); slots 0:tree -/
def m_is_graft (F_feet_of : FF) : SF := (sEnd (sRet (eBin (eqB false) (eCB (un1 lenD) (aCons (eCall 1 none F_feet_of (aCons (eMv 0) aNil)) aNil)) (eC (.int 1)))))
theorem m_is_graft_eq (F_feet_of : FF) (ρ : Rho) : fnF 1 1 (m_is_graft F_feet_of) ρ = finR 1 (m_is_graft F_feet_of (ρ ++ [])) := fnF_eq 1 1 _
/-- name_of(tree); slots 0:tree 1:feet -/
def m_name_of (F_feet_of : FF) : SF := (sSeq (sSet 1 (eCall 1 none F_feet_of (aCons (eMv 0) aNil))) (sEnd (sRet (eIf (eB (eBin (eqB false) (eCB (un1 lenD) (aCons (eVb 1) aNil)) (eC (.int 1)))) (eBin ixA (eVb 1) (eC (.int 0))) (eBin ixA (eVb 0) (eC (.int 1)))))))
theorem m_name_of_eq (F_feet_of : FF) (ρ : Rho) : fnF 2 1 (m_name_of F_feet_of) ρ = finR 1 (m_name_of F_feet_of (ρ ++ [none])) := fnF_eq 2 1 _
end GM
namespace GM
open PySem L2 GS
def Tr.kids : Tr → List Tr
  | .knot _ _ ks => ks
  | _ => []
def Tr.isKnot : Tr → Bool
  | .knot _ _ _ => true
  | _ => false
mutual
def Tr.pieces : Tr → List Tr
  | .knot n tk ks => .knot n tk ks :: Tr.piecesL ks
  | t => [t]
def Tr.piecesL : List Tr → List Tr
  | [] => []
  | t :: ts => t.pieces ++ Tr.piecesL ts
end
mutual
def Tr.places : Tr → List (List Nat)
  | .knot _ _ ks => [] :: Tr.placesL 0 ks
  | _ => [[]]
def Tr.placesL : Nat → List Tr → List (List Nat)
  | _, [] => []
  | k, t :: ts => t.places.map (k :: ·) ++ Tr.placesL (k + 1) ts
end
def Tr.at : Tr → List Nat → Option Tr
  | t, [] => some t
  | t, k :: p => (t.kids[k]?).bind fun u => u.at p
def encP (p : List Nat) : D := .tuple (p.map fun n : Nat => PyData.int (n : Int))
theorem piecesL_flat (ts : List Tr) : Tr.piecesL ts = ts.flatMap Tr.pieces := by
  induction ts with
  | nil => rfl
  | cons t ts ih => rw [Tr.piecesL, ih, List.flatMap_cons]
theorem pieces_kids (t : Tr) : t.pieces = t :: t.kids.flatMap Tr.pieces := by
  cases t <;> simp [Tr.pieces, Tr.kids, piecesL_flat]
theorem places_kids (t : Tr) : t.places = [] :: Tr.placesL 0 t.kids := by
  cases t <;> simp [Tr.places, Tr.kids, Tr.placesL]
theorem ht_kids {t k : Tr} (h : k ∈ t.kids) : k.ht + 1 ≤ t.ht := by
  cases t with
  | knot n tk ks => have := ht_mem (show k ∈ ks from h); rw [Tr.ht]; omega
  | _ => cases h
theorem placesL_snoc (t : Tr) : ∀ (k : Nat) (ts : List Tr), Tr.placesL k (ts ++ [t]) = Tr.placesL k ts ++ t.places.map ((k + ts.length) :: ·)
  | k, [] => by simp [Tr.placesL]
  | k, u :: ts => by
    rw [List.cons_append, Tr.placesL, Tr.placesL, placesL_snoc t (k + 1) ts, List.append_assoc, List.length_cons]
    rw [show k + 1 + ts.length = k + (ts.length + 1) by omega]
mutual
theorem places_len : ∀ t : Tr, t.places.length = t.pieces.length
  | .sign _ => rfl
  | .void => rfl
  | .hole _ => rfl
  | .foot _ => rfl
  | .knot _ _ ks => by rw [Tr.places, Tr.pieces, List.length_cons, List.length_cons, placesL_len ks 0]
theorem placesL_len : ∀ (ts : List Tr) (k : Nat), (Tr.placesL k ts).length = (Tr.piecesL ts).length
  | [], _ => rfl
  | t :: ts, k => by rw [Tr.placesL, Tr.piecesL, List.length_append, List.length_append, List.length_map, places_len t, placesL_len ts (k + 1)]
end
theorem pieces_kid_le {t k : Tr} (h : k ∈ t.kids) : k.pieces.length ≤ t.pieces.length := by
  rw [pieces_kids t, List.length_cons]
  have : ∀ ts : List Tr, k ∈ ts → k.pieces.length ≤ (ts.flatMap Tr.pieces).length := by
    intro ts
    induction ts with
    | nil => intro m; cases m
    | cons u ts ih =>
      intro m
      rw [List.flatMap_cons, List.length_append]
      cases m with
      | head => omega
      | tail _ m => have := ih m; omega
  have := this _ h
  omega
mutual
theorem place_len : ∀ (t : Tr) (p : List Nat), p ∈ t.places → p.length ≤ t.ht
  | .sign _, p, m => by simp [Tr.places] at m; subst m; simp
  | .void, p, m => by simp [Tr.places] at m; subst m; simp
  | .hole _, p, m => by simp [Tr.places] at m; subst m; simp
  | .foot _, p, m => by simp [Tr.places] at m; subst m; simp
  | .knot n tk ks, p, m => by
    rw [Tr.places] at m
    rw [Tr.ht]
    rcases List.mem_cons.mp m with rfl | m
    · simp
    · exact placeL_len ks 0 p m
theorem placeL_len : ∀ (ts : List Tr) (k : Nat) (p : List Nat), p ∈ Tr.placesL k ts → p.length ≤ Tr.htL ts + 1
  | [], _, p, m => by cases m
  | t :: ts, k, p, m => by
    rw [Tr.placesL] at m
    rw [Tr.htL]
    rcases List.mem_append.mp m with m | m
    · obtain ⟨q, hq, rfl⟩ := List.mem_map.mp m
      have := place_len t q hq
      rw [List.length_cons]; omega
    · have := placeL_len ts (k + 1) p m
      omega
end
mutual
theorem at_places : ∀ t : Tr, t.places.map t.at = t.pieces.map some
  | .sign _ => rfl
  | .void => rfl
  | .hole _ => rfl
  | .foot _ => rfl
  | .knot n tk ks => by
    rw [Tr.places, Tr.pieces, List.map_cons, List.map_cons]
    congr 1
    exact at_placesL ks [] n tk ks rfl
theorem at_placesL : ∀ (ts pre : List Tr) (n : Str) (tk : Option (Str × Bool)) (ks : List Tr), pre ++ ts = ks → (Tr.placesL pre.length ts).map (Tr.knot n tk ks).at = (Tr.piecesL ts).map some
  | [], _, _, _, _, _ => rfl
  | t :: ts, pre, n, tk, ks, e => by
    rw [Tr.placesL, Tr.piecesL, List.map_append, List.map_append]
    have h1 := at_placesL ts (pre ++ [t]) n tk ks (by rw [List.append_assoc]; exact e)
    rw [List.length_append, List.length_singleton] at h1
    rw [h1, List.map_map]
    congr 1
    rw [← at_places t]
    apply List.map_congr_left
    intro p _
    show (Tr.at (.knot n tk ks) (pre.length :: p)) = t.at p
    rw [Tr.at, Tr.kids, ← e, List.getElem?_append_right (Nat.le_refl _), Nat.sub_self]
    rfl
end
theorem enc_word (t : Tr) : ∃ w r, t.enc = .tuple (.str w :: r) := by cases t <;> exact ⟨_, _, rfl⟩
def KidsSp (F : FF) : Prop := ∀ t : Tr, F [some ⟨t.enc, .sh⟩] = .ok (.sh (.tuple (t.kids.map Tr.enc))) [none]
theorem kids_of_ok : KidsSp (fnF 1 1 m_kids_of) := fun t => by
  rw [m_kids_of_eq]
  cases t <;> simp [m_kids_of, Tr.enc, Tr.kids, encL_map]
def PlacesSp (n : Nat) (F : FF) : Prop := ∀ t : Tr, t.ht ≤ n → t.pieces.length ≤ 100000 → F [some ⟨t.enc, .sh⟩] = .ok (.fr (.list (t.places.map encP))) [none]
theorem places_ok {n : Nat} {Fk Fp : FF} (hk : KidsSp Fk) (hn : n ≤ 1000) (hp : ∀ m, m + 1 = n → PlacesSp m Fp) : PlacesSp n (fnF 5 1 (m_places Fk Fp)) := fun t ht hz => by
  rw [m_places_eq]
  have ek := hk t
  have hpl := places_kids t
  have lpl := places_len t
  -- one kid's places
  have inner : ∀ (kid : Tr) (i : Nat) (acc : List D), kid.ht ≤ 1000 → acc.length + kid.places.length ≤ sizeLine → forL (gN 4) (m_places_b1 Fk Fp) (kid.places.map encP) [some ⟨t.enc, .sh⟩, some ⟨.list acc, .ow⟩, some ⟨.int i, .sh⟩, some ⟨kid.enc, .sh⟩, none] = .nx [some ⟨t.enc, .sh⟩, some ⟨.list (acc ++ kid.places.map fun p => encP (i :: p)), .ow⟩, some ⟨.int i, .sh⟩, some ⟨kid.enc, .sh⟩, none] := fun kid i acc hh ha => by
    refine forL_app (fun acc => [some ⟨t.enc, .sh⟩, some ⟨.list acc, .ow⟩, some ⟨.int i, .sh⟩, some ⟨kid.enc, .sh⟩, none]) encP (fun p => encP (i :: p)) kid.places acc ha fun p acc m hacc => ?_
    have hpz : 1 + p.length ≤ sizeLine := fits (by have := place_len kid p m; omega)
    simp [m_places_b1, encP, hacc, hpz]
  obtain ⟨ps, hf, hps⟩ := forL_by (S := List (List Nat)) (g := gT 2 (gsC (gN 2) (gsC (gN 3) gsN))) (b := m_places_b2 Fk Fp) (fun ps => [some ⟨t.enc, .sh⟩, some ⟨.list (ps.map encP), .ow⟩, none, none, none])
    (fun pre ps => ps = [] :: Tr.placesL 0 (t.kids.take pre.length)) (enD (t.kids.map Tr.enc)) [[]] (by simp [Tr.placesL]) (fun pre d post ps hd hps => by
      obtain ⟨x, hx, rfl⟩ := enD_mid hd
      rw [List.getElem?_map] at hx
      obtain ⟨kid, hkid, rfl⟩ := Option.map_eq_some_iff.mp hx
      have mk : kid ∈ t.kids := List.mem_of_getElem? hkid
      have h1 := ht_kids mk
      have h2 := hp (n - 1) (by omega) kid (by omega) (by have := pieces_kid_le mk; omega)
      have htk : t.kids.take (pre.length + 1) = t.kids.take pre.length ++ [kid] := by
        rw [List.take_succ, hkid]; rfl
      refine ⟨ps ++ kid.places.map (pre.length :: ·), ?_, ?_⟩
      · have hl : (ps.map encP).length + kid.places.length ≤ sizeLine := by
          rw [List.length_map, hps]
          have e := placesL_snoc kid 0 (t.kids.take pre.length)
          rw [← htk] at e
          have e2 := congrArg List.length e
          rw [List.length_append, List.length_map] at e2
          have e3 : (Tr.placesL 0 (t.kids.take (pre.length + 1))).length ≤ (Tr.placesL 0 t.kids).length := by
            rw [placesL_len, placesL_len, piecesL_flat, piecesL_flat]
            conv => rhs; rw [← List.take_append_drop (pre.length + 1) t.kids, List.flatMap_append, List.length_append]
            omega
          rw [hpl, List.length_cons] at lpl
          rw [List.length_cons]
          exact fits (by omega)
        have hi := inner kid pre.length (ps.map encP) (by omega) hl
        simp [m_places_b2, h2, hi]
      · rw [hps, List.length_append, List.length_singleton, htk, placesL_snoc, List.length_take]
        have : pre.length < t.kids.length := (List.getElem?_eq_some_iff.mp hkid).1
        simp
        intro p _
        omega)
  rw [enD_len, List.length_map, List.take_length] at hps
  rw [← hpl] at hps
  subst hps
  have hf' : forL (gT 2 (gsC (gN 2) (gsC (gN 3) gsN))) (m_places_b2 Fk Fp) (enD (t.kids.map Tr.enc)) [some ⟨t.enc, .sh⟩, some ⟨.list [.tuple []], .ow⟩, none, none, none] = _ := hf
  simp [m_places, ek, hf']
theorem at_snoc (t : Tr) : ∀ (p : List Nat) (k : Nat), t.at (p ++ [k]) = (t.at p).bind fun u => u.kids[k]?
  | [], k => by simp [Tr.at]
  | j :: p, k => by
    rw [List.cons_append, Tr.at, Tr.at]
    cases h : t.kids[j]? with
    | none => rfl
    | some u => simp [at_snoc u p k]
theorem at_pre {t : Tr} {p q : List Nat} {u : Tr} (h : t.at (p ++ q) = some u) : ∃ v, t.at p = some v := by
  induction p generalizing t with
  | nil => exact ⟨t, rfl⟩
  | cons j p ih =>
    rw [List.cons_append, Tr.at] at h
    rw [Tr.at]
    cases hk : t.kids[j]? with
    | none => rw [hk] at h; cases h
    | some v => rw [hk] at h; exact ih h
def PieceSp (F : FF) : Prop := ∀ (t : Tr) (p : List Nat) (u : Tr), t.at p = some u → F [some ⟨t.enc, .sh⟩, some ⟨encP p, .sh⟩] = .ok (.sh u.enc) [none, none]
def Tr.footN : Tr → Option Str
  | .foot n => some n
  | _ => none
def Tr.feet (t : Tr) : List Str := t.pieces.filterMap Tr.footN
def FeetSp (n : Nat) (F : FF) : Prop := ∀ t : Tr, t.ht ≤ n → t.pieces.length ≤ 100000 → F [some ⟨t.enc, .sh⟩] = .ok (.fr (.list (t.feet.map .str))) [none]
/-- the pieces by the places -/
theorem place_piece (t : Tr) : ∃ f : List Nat → Tr, (∀ p ∈ t.places, t.at p = some (f p)) ∧ t.places.map f = t.pieces := by
  have h := at_places t
  refine ⟨fun p => (t.at p).getD default, ?_, ?_⟩
  · intro p m
    have : t.at p ∈ t.pieces.map some := by rw [← h]; exact List.mem_map_of_mem m
    obtain ⟨u, _, e⟩ := List.mem_map.mp this
    show t.at p = some ((t.at p).getD default)
    rw [← e]; rfl
  · have h2 : (t.places.map t.at).map (fun o => o.getD default) = t.pieces := by
      rw [h, List.map_map]
      have : ((fun o : Option Tr => o.getD default) ∘ some) = id := rfl
      rw [this, List.map_id]
    rw [List.map_map] at h2
    exact h2
theorem feet_of_ok {n : Nat} {Fp Fa : FF} (hp : PlacesSp n Fp) (ha : PieceSp Fa) : FeetSp n (fnF 4 1 (m_feet_of Fp Fa)) := fun t ht hz => by
  rw [m_feet_of_eq]
  have ep := hp t ht hz
  obtain ⟨f, hf1, hf2⟩ := place_piece t
  have lp := places_len t
  have h1 := lcL_all (vs := [2]) (g := gN 2) (fe := eNox (m_feet_of_ce3 Fp Fa)) [some ⟨t.enc, .sh⟩, none, none, none] encP (fun p => [some ⟨t.enc, .sh⟩, none, some ⟨encP p, .sh⟩, none]) (fun p => (f p).enc) t.places [] (fits (by simp; omega)) (fun p m => by
    have e := ha t p (f p) (hf1 p m)
    simp [m_feet_of_ce3, e])
  rw [List.nil_append, show (t.places.map fun p => (f p).enc) = t.pieces.map Tr.enc by rw [← hf2, List.map_map]; rfl] at h1
  have h2 := lcL_up (vs := [3]) (g := gN 3) (ft := eNox (m_feet_of_ct1 Fp Fa)) (fe := eNox (m_feet_of_ce2 Fp Fa)) [some ⟨t.enc, .sh⟩, some ⟨.list (t.pieces.map Tr.enc), .sh⟩, none, none] Tr.enc (fun u => [some ⟨t.enc, .sh⟩, some ⟨.list (t.pieces.map Tr.enc), .sh⟩, none, some ⟨u.enc, .sh⟩]) (fun u => u.footN.isSome) (fun u => .str (u.footN.getD default)) t.pieces [] (fits (by simp; omega)) (fun u _ => by
    cases u <;> simp [m_feet_of_ct1, m_feet_of_ce2, Tr.enc, Tr.footN])
  have h3 : (t.pieces.filter fun u => u.footN.isSome).map (fun u => PyData.str (u.footN.getD default)) = t.feet.map .str := by
    unfold Tr.feet
    generalize t.pieces = us
    induction us with
    | nil => rfl
    | cons u us ih =>
      rw [List.filter_cons, List.filterMap_cons]
      cases hu : u.footN with
      | none => simpa using ih
      | some z => simp only [Option.isSome_some, if_true, List.map_cons, hu, Option.getD_some, ih]
  rw [List.nil_append, h3] at h2
  simp [m_feet_of, ep, h1, h2]
def GraftSp (n : Nat) (F : FF) : Prop := ∀ t : Tr, t.ht ≤ n → t.pieces.length ≤ 100000 → F [some ⟨t.enc, .sh⟩] = .ok (.sh (.bool (decide (t.feet.length = 1)))) [none]
theorem is_graft_ok {n : Nat} {Ff : FF} (hf : FeetSp n Ff) : GraftSp n (fnF 1 1 (m_is_graft Ff)) := fun t ht hz => by
  rw [m_is_graft_eq]
  have e := hf t ht hz
  simp [m_is_graft, e]
  omega
def Tr.word : Tr → Str
  | .knot n _ _ => n
  | .foot n => n
  | .hole n => n
  | .sign s => s
  | .void => default
/-- the name of a start or a graft -/
def Tr.name (t : Tr) : Str := match t.feet with
  | [n] => n
  | _ => t.word
def NameOfSp (n : Nat) (F : FF) : Prop := ∀ t : Tr, t.ht ≤ n → t.pieces.length ≤ 100000 → t ≠ .void → F [some ⟨t.enc, .sh⟩] = .ok (.sh (.str t.name)) [none]
theorem name_of_ok {n : Nat} {Ff : FF} (hf : FeetSp n Ff) : NameOfSp n (fnF 2 1 (m_name_of Ff)) := fun t ht hz hv => by
  rw [m_name_of_eq]
  have e := hf t ht hz
  have ew : ixA t.enc (.int 1) = some (.sh (.str t.word)) := by
    cases t <;> first | exact absurd rfl hv | simp [Tr.enc, Tr.word]
  unfold Tr.name
  cases hq : t.feet with
  | nil => rw [hq] at e; simp [m_name_of, e, ew]
  | cons a r =>
    rw [hq] at e
    cases r with
    | nil => simp [m_name_of, e]
    | cons b r =>
      have z : ¬ ((r.length : Int) + 1 + 1 = 1) := by omega
      simp [m_name_of, e, ew, z]
theorem pick2 {P : D → Prop} {a b : D} (c : Int) (h1 : P a) (h2 : P b) : P (pick [a, b] (c % 2)) := by
  have := pick_mem (xs := [a, b]) (c := c) (n := 2) (by decide) rfl
  simp only [List.mem_cons, List.not_mem_nil, or_false] at this
  rcases this with e | e <;> rw [e] <;> assumption
theorem pick3 {P : D → Prop} {a b d : D} (c : Int) (h1 : P a) (h2 : P b) (h3 : P d) : P (pick [a, b, d] (c % 3)) := by
  have := pick_mem (xs := [a, b, d]) (c := c) (n := 3) (by decide) rfl
  simp only [List.mem_cons, List.not_mem_nil, or_false] at this
  rcases this with e | e | e <;> rw [e] <;> assumption
theorem pick4 {P : D → Prop} {a b d f : D} (c : Int) (h1 : P a) (h2 : P b) (h3 : P d) (h4 : P f) : P (pick [a, b, d, f] (c % 4)) := by
  have := pick_mem (xs := [a, b, d, f]) (c := c) (n := 4) (by decide) rfl
  simp only [List.mem_cons, List.not_mem_nil, or_false] at this
  rcases this with e | e | e | e <;> rw [e] <;> assumption
def Tr.signN : Tr → Option Str
  | .sign n => some n
  | _ => none
def Tr.signs (t : Tr) : List Str := t.pieces.filterMap Tr.signN
theorem feet_knot (n : Str) (tk : Option (Str × Bool)) (ks : List Tr) : (Tr.knot n tk ks).feet = ks.flatMap Tr.feet := by
  unfold Tr.feet
  rw [Tr.pieces, piecesL_flat, List.filterMap_cons]
  show List.filterMap _ _ = _
  induction ks with
  | nil => rfl
  | cons k ks ih => rw [List.flatMap_cons, List.flatMap_cons, List.filterMap_append, ih]
theorem signs_knot (n : Str) (tk : Option (Str × Bool)) (ks : List Tr) : (Tr.knot n tk ks).signs = ks.flatMap Tr.signs := by
  unfold Tr.signs
  rw [Tr.pieces, piecesL_flat, List.filterMap_cons]
  show List.filterMap _ _ = _
  induction ks with
  | nil => rfl
  | cons k ks ih => rw [List.flatMap_cons, List.flatMap_cons, List.filterMap_append, ih]
theorem pieces_knot (n : Str) (tk : Option (Str × Bool)) (ks : List Tr) : (Tr.knot n tk ks).pieces.length = (ks.flatMap Tr.pieces).length + 1 := by
  rw [Tr.pieces, piecesL_flat, List.length_cons]
theorem flat_le {f : Tr → List Tr} {n : Nat} : ∀ ks : List Tr, (∀ k ∈ ks, (f k).length ≤ n) → (ks.flatMap f).length ≤ ks.length * n
  | [], _ => by simp
  | k :: ks, h => by
    have h1 := h k (by simp)
    have h2 := flat_le ks fun k m => h k (by simp [m])
    rw [List.flatMap_cons, List.length_append, List.length_cons, Nat.succ_mul]
    omega
end GM
namespace GM
open PySem L2 GS
/-- tree_of(book, key); slots 0:book 1:key 2:found 3:one 4:tree -/
def m_tree_of_b1 : SF := (sKill [3, 4] (sIf (eB (eBin (eqB false) (eVb 3) (eVb 1))) (sSet 2 (eMv 4)) sNil))
def m_tree_of : SF := (sSeq (sSet 2 (eC .none)) (sSeq (sFor (iSq (eBin ixA (eVb 0) (eC (.int 1)))) (gT 2 (gsC (gN 3) (gsC (gN 4) gsN))) (m_tree_of_b1)) (sEnd (sRet (eRv 2)))))
theorem m_tree_of_eq (ρ : Rho) : fnF 5 2 (m_tree_of) ρ = finR 2 (m_tree_of (ρ ++ [none, none, none])) := fnF_eq 5 2 _
/-- wanted(piece); slots 0:piece -/
def m_wanted : SF := (sSeq (sIf (eB (eBin (eqB false) (eBin ixA (eVb 0) (eC (.int 0))) (eC (.str (Str.ofString "hole"))))) (sEnd (sRet (eTup (aCons (eC (.bool false)) (aCons (eBin ixA (eVb 0) (eC (.int 1))) (aCons (eC (.bool true)) aNil)))))) sNil) (sSeq (sIf (eAnd (eB (eBin (eqB false) (eBin ixA (eVb 0) (eC (.int 0))) (eC (.str (Str.ofString "knot"))))) (eB (eBin (isD true) (eBin ixA (eVb 0) (eC (.int 2))) (eC .none)))) (sEnd (sRet (eTup (aCons (eC (.bool true)) (aCons (eBin ixA (eBin ixA (eVb 0) (eC (.int 2))) (eC (.int 0))) (aCons (eBin ixA (eBin ixA (eVb 0) (eC (.int 2))) (eC (.int 1))) aNil)))))) sNil) (sRet (eC .none))))
theorem m_wanted_eq (ρ : Rho) : fnF 1 1 (m_wanted) ρ = finR 1 (m_wanted (ρ ++ [])) := fnF_eq 1 1 _
/-- takers(book, piece); slots 0:book 1:piece 2:want 3:key 4:tree -/
def m_takers_ct1 (F_name_of F_is_graft F_wanted : FF) : EF := (eAnd (eB (eBin (eqB false) (eCall 1 none F_is_graft (aCons (eMv 4) aNil)) (eBin ixA (eVb 2) (eC (.int 0))))) (eB (eBin (eqB false) (eCall 1 none F_name_of (aCons (eMv 4) aNil)) (eBin ixA (eVb 2) (eC (.int 1))))))
def m_takers_ce2 (F_name_of F_is_graft F_wanted : FF) : EF := (eMv 3)
def m_takers (F_name_of F_is_graft F_wanted : FF) : SF := (sSeq (sSet 2 (eCall 1 none F_wanted (aCons (eMv 1) aNil))) (sSeq (sIf (eB (eBin (isD false) (eVb 2) (eC .none))) (sEnd (sRet (eLst aNil))) sNil) (sEnd (sRet (eLc [3, 4] (iSq (eBin ixA (eVb 0) (eC (.int 1)))) (gT 2 (gsC (gN 3) (gsC (gN 4) gsN))) (eNox (m_takers_ct1 F_name_of F_is_graft F_wanted)) (eNox (m_takers_ce2 F_name_of F_is_graft F_wanted)))))))
theorem m_takers_eq (F_name_of F_is_graft F_wanted : FF) (ρ : Rho) : fnF 5 2 (m_takers F_name_of F_is_graft F_wanted) ρ = finR 2 (m_takers F_name_of F_is_graft F_wanted (ρ ++ [none, none, none])) := fnF_eq 5 2 _
end GM
namespace GM
open PySem L2 GS
structure Bk where
  top : Str
  trees : List (Str × Tr)
def encKT (p : Str × Tr) : D := .tuple [.str p.1, p.2.enc]
def Bk.enc (b : Bk) : D := .tuple [.str b.top, .tuple (b.trees.map encKT)]
theorem ix_top (b : Bk) : ixA b.enc (.int 0) = some (.sh (.str b.top)) := by simp [Bk.enc]
theorem ix_trees (b : Bk) : ixA b.enc (.int 1) = some (.sh (.tuple (b.trees.map encKT))) := by simp [Bk.enc]
def optT : Option Tr → D
  | none => .none
  | some t => t.enc
def Bk.treeOf (b : Bk) (key : Str) : Option Tr := b.trees.foldl (fun acc p => if p.1 = key then some p.2 else acc) none
def TreeOfSp (F : FF) : Prop := ∀ (b : Bk) (key : Str), F [some ⟨b.enc, .sh⟩, some ⟨.str key, .sh⟩] = .ok (.sh (optT (b.treeOf key))) [none, none]
theorem tree_of_ok : TreeOfSp (fnF 5 2 m_tree_of) := fun b key => by
  rw [m_tree_of_eq]
  obtain ⟨h, _⟩ := forL_st (S := Option Tr) (g := gT 2 (gsC (gN 3) (gsC (gN 4) gsN))) (b := m_tree_of_b1) (fun o => [some ⟨b.enc, .sh⟩, some ⟨.str key, .sh⟩, some ⟨optT o, .sh⟩, none, none]) encKT (fun acc p => if p.1 = key then some p.2 else acc) (fun _ _ => True) b.trees [] none trivial (fun pre p o _ _ => by
    refine ⟨?_, trivial⟩
    by_cases q : p.1 = key <;> simp [m_tree_of_b1, encKT, q, optT])
  have h' : forL (gT 2 (gsC (gN 3) (gsC (gN 4) gsN))) m_tree_of_b1 (b.trees.map encKT) [some ⟨b.enc, .sh⟩, some ⟨.str key, .sh⟩, some ⟨.none, .sh⟩, none, none] = .nx [some ⟨b.enc, .sh⟩, some ⟨.str key, .sh⟩, some ⟨optT (b.treeOf key), .sh⟩, none, none] := h
  simp [m_tree_of, ix_trees, h']
theorem treeOf_mem {b : Bk} (hn : (b.trees.map (·.1)).Nodup) {p : Str × Tr} (m : p ∈ b.trees) : b.treeOf p.1 = some p.2 := by
  unfold Bk.treeOf
  obtain ⟨l, r, e⟩ := List.append_of_mem m
  rw [e] at hn ⊢
  rw [List.foldl_append, List.foldl_cons, if_pos rfl]
  have hr : ∀ q ∈ r, q.1 ≠ p.1 := by
    rw [List.map_append, List.map_cons, List.nodup_append] at hn
    have := (List.nodup_cons.mp hn.2.1).1
    intro q mq eq
    exact this (by rw [← eq]; exact List.mem_map_of_mem mq)
  have : ∀ (qs : List (Str × Tr)) (acc : Option Tr), (∀ q ∈ qs, q.1 ≠ p.1) → qs.foldl (fun acc q => if q.1 = p.1 then some q.2 else acc) acc = acc := by
    intro qs
    induction qs with
    | nil => intros; rfl
    | cons q qs ih => intro acc h; rw [List.foldl_cons, if_neg (h q (by simp)), ih acc fun q m => h q (by simp [m])]
  exact this r _ hr
def Tr.want : Tr → Option (Bool × Str × Bool)
  | .hole n => some (false, n, true)
  | .knot _ (some (m, b)) _ => some (true, m, b)
  | _ => none
def encW : Option (Bool × Str × Bool) → D
  | none => .none
  | some (g, n, b) => .tuple [.bool g, .str n, .bool b]
def WantSp (F : FF) : Prop := ∀ t : Tr, F [some ⟨t.enc, .sh⟩] = .ok (.sh (encW t.want)) [none]
theorem wanted_ok : WantSp (fnF 1 1 m_wanted) := fun t => by
  rw [m_wanted_eq]
  cases t with
  | knot n tk ks =>
    cases tk with
    | none => simp [m_wanted, Tr.enc, Tr.want, encTk, encW]
    | some p => simp [m_wanted, Tr.enc, Tr.want, encTk, encW]
  | _ => simp [m_wanted, Tr.enc, Tr.want, encW]
def Tr.isGraft (t : Tr) : Bool := decide (t.feet.length = 1)
def Bk.takers (b : Bk) (u : Tr) : List Str := match u.want with
  | none => []
  | some (g, n, _) => (b.trees.filter fun p => decide (p.2.isGraft = g) && decide (p.2.name = n)).map (·.1)
structure BkOk (n : Nat) (b : Bk) : Prop where
  len : b.trees.length ≤ 1000
  ht : ∀ p ∈ b.trees, p.2.ht ≤ n
  sz : ∀ p ∈ b.trees, p.2.pieces.length ≤ 100000
  nv : ∀ p ∈ b.trees, p.2 ≠ .void
def TakersSp (n : Nat) (F : FF) : Prop := ∀ (b : Bk) (u : Tr), BkOk n b → F [some ⟨b.enc, .sh⟩, some ⟨u.enc, .sh⟩] = .ok (.fr (.list ((b.takers u).map .str))) [none, none]
theorem takers_ok {n : Nat} {Fn Fg Fw : FF} (hn : NameOfSp n Fn) (hg : GraftSp n Fg) (hw : WantSp Fw) : TakersSp n (fnF 5 2 (m_takers Fn Fg Fw)) := fun b u hb => by
  rw [m_takers_eq]
  have ew := hw u
  unfold Bk.takers
  cases hq : u.want with
  | none => rw [hq] at ew; simp [m_takers, ew, encW]
  | some w =>
    obtain ⟨g, nm, mu⟩ := w
    rw [hq] at ew
    have h := lcL_up (vs := [3, 4]) (g := gT 2 (gsC (gN 3) (gsC (gN 4) gsN))) (ft := eNox (m_takers_ct1 Fn Fg Fw)) (fe := eNox (m_takers_ce2 Fn Fg Fw)) [some ⟨b.enc, .sh⟩, some ⟨u.enc, .sh⟩, some ⟨.tuple [.bool g, .str nm, .bool mu], .sh⟩, none, none] encKT
      (fun p => [some ⟨b.enc, .sh⟩, some ⟨u.enc, .sh⟩, some ⟨.tuple [.bool g, .str nm, .bool mu], .sh⟩, some ⟨.str p.1, .sh⟩, some ⟨p.2.enc, .sh⟩]) (fun p => decide (p.2.isGraft = g) && decide (p.2.name = nm)) (fun p => .str p.1) b.trees [] (fits (by have := hb.len; simp; omega)) (fun p m => by
        have e1 := hn p.2 (hb.ht p m) (hb.sz p m) (hb.nv p m)
        have e2 := hg p.2 (hb.ht p m) (hb.sz p m)
        change _ = RE.ok (Hd.sh (.bool p.2.isGraft)) _ at e2
        cases q1 : p.2.isGraft <;> cases g <;> by_cases q2 : p.2.name = nm <;> rw [q1] at e2 <;> simp [m_takers_ct1, m_takers_ce2, encKT, e1, e2, q1, q2])
    rw [List.nil_append] at h
    simp [m_takers, ew, encW, ix_trees, h]
theorem strs_clean {ks : List Str} (h : ∀ k ∈ ks, PyData.strOk k = true) : cleanB (.list (ks.map .str)) = true ∧ (PyData.list (ks.map .str)).depth ≤ 190 := by
  refine ⟨?_, ?_⟩
  · rw [cleanB]
    refine cleanL_of fun d m => ?_
    obtain ⟨k, mk, rfl⟩ := List.mem_map.mp m
    exact h k mk
  · rw [PyData.depth]
    have := depthAll_of (ds := ks.map PyData.str) (n := 0) fun d m => by
      obtain ⟨k, mk, rfl⟩ := List.mem_map.mp m
      rw [PyData.depth]; omega
    omega
end GM
namespace GM
open PySem L2 GS
end GM
namespace GM
open PySem L2 GS
def tkW : Option (Str × Bool) → List Str
  | none => []
  | some (m, b) => [Str.ofString (if b then "!" else "?") ++ m]
mutual
def Tr.words : Tr → List Str
  | .sign s => [s]
  | .void => [Str.ofString "-"]
  | .hole n => [Str.ofString "+" ++ n]
  | .foot n => [Str.ofString "*" ++ n]
  | .knot n tk ks => Str.ofString "[" :: n :: (tkW tk ++ (Tr.wordsL ks ++ [Str.ofString "]"]))
def Tr.wordsL : List Tr → List Str
  | [] => []
  | t :: ts => t.words ++ Tr.wordsL ts
end
theorem l1 (w : String) (h : w.toList.length = 1) (n : Str) (hn : n.length ≤ 100000) : (Str.ofString w).length + n.length ≤ sizeLine := fits (by rw [ofS_len, h]; omega)
theorem knot_parts {n : Str} {tk : Option (Str × Bool)} {ks : List Tr} (h : (Tr.knot n tk ks).ok = true) : nameB n = true ∧ okTk tk = true ∧ 1 ≤ ks.length ∧ ks.length ≤ 8 ∧ ∀ k ∈ ks, k.ok = true := by
  rw [Tr.ok] at h
  simp only [Bool.and_eq_true, decide_eq_true_eq] at h
  exact ⟨h.1, h.2.1, h.2.2.1, h.2.2.2.1, okL_mem h.2.2.2.2⟩
theorem enc_knot (n : Str) (tk : Option (Str × Bool)) (ks : List Tr) : Tr.enc (.knot n tk ks) = .tuple [.str (Str.ofString "knot"), .str n, encTk tk, .tuple (ks.map Tr.enc)] := by rw [Tr.enc, encL_map]
end GM
namespace GM
open PySem L2 GS
end GM
namespace GM
open PySem L2 GS
abbrev BL : Str := Str.ofString " "
/-- words parted by blanks -/
def lineT (ws : List Str) : Str := Txt.join BL ws
theorem sum_le {ws : List Str} {b : Nat} (h : ∀ w ∈ ws, w.length ≤ b) : (ws.map (·.length)).sum ≤ b * ws.length := by
  induction ws with
  | nil => simp
  | cons w ws ih =>
    have h1 := h w (by simp)
    have h2 := ih fun w m => h w (by simp [m])
    rw [List.map_cons, List.sum_cons, List.length_cons, Nat.mul_succ]
    omega
theorem joinL_len (S : List Nat) : ∀ ps : List (List Nat), (TL.joinL S ps).length ≤ (ps.map List.length).sum + ps.length * S.length
  | [] => by simp [TL.joinL]
  | [p] => by simp [TL.joinL]
  | p :: q :: r => by
    have ih := joinL_len S (q :: r)
    rw [TL.joinL, List.length_append, List.length_append, List.map_cons, List.sum_cons, List.length_cons, Nat.succ_mul]
    omega
end GM
namespace GS
open PySem L2 GM
theorem forL_cons2 {ρ : Rho} (g : D → Rho → Option Rho) (b : SF) (d : D) (ds : List D) : forL g b (d :: ds) ρ = turnR (forL g b ds) (optR (g d ρ) b) := by
  rw [forL_cons]
  cases g d ρ <;> rfl
theorem seq_of {f g : SF} {ρ : Rho} {q : RS} (ρ' : Rho) (h : f ρ = .nx ρ') (h2 : g ρ' = q) : sSeq f g ρ = q := by rw [sSeq_eq, h]; exact h2
theorem kill_of {vs : List Nat} {f : SF} {ρ ρ' : Rho} (ρ1 : Rho) (hio : vs.all (fun i => !ioAt ρ i) = true) (h : f ρ = .nx ρ1) (hw : wipeR ρ1 vs = ρ') : sKill vs f ρ = .nx ρ' := by
  rw [sKill_eq, if_pos hio, h]
  show RS.nx (wipeR ρ1 vs) = _
  rw [hw]
theorem fin_seq {n : Nat} {f g : SF} {ρ : Rho} {q : RE} (ρ' : Rho) (h : f ρ = .nx ρ') (h2 : finR n (g ρ') = q) : finR n (sSeq f g ρ) = q := by rw [sSeq_eq, h]; exact h2
abbrev DT : Str := Str.ofString "."
theorem cpDT : DT.cps.toList = [46] := by decide +kernel
theorem joinL_mem (S : List Nat) (x : Nat) : ∀ ps : List (List Nat), x ∈ TL.joinL S ps → x ∈ S ∨ ∃ p ∈ ps, x ∈ p
  | [], h => by simp [TL.joinL] at h
  | [p], h => .inr ⟨p, by simp, by simpa [TL.joinL] using h⟩
  | p :: q :: r, h => by
    rw [TL.joinL, List.mem_append, List.mem_append] at h
    rcases h with h | h | h
    · exact .inr ⟨p, by simp, h⟩
    · exact .inl h
    · rcases joinL_mem S x (q :: r) h with h | ⟨z, m, h⟩
      · exact .inl h
      · exact .inr ⟨z, by simp at m ⊢; exact .inr m, h⟩
theorem join_cps (y : Str) (ws : List Str) : (Txt.join y ws).cps.toList = TL.joinL y.cps.toList (ws.map fun w => w.cps.toList) := by
  rw [TL.join_eq]; exact TL.tl_join y ws
theorem join_mem {y : Str} {ws : List Str} {c : Nat} (h : c ∈ (Txt.join y ws).cps.toList) : c ∈ y.cps.toList ∨ ∃ w ∈ ws, c ∈ w.cps.toList := by
  rw [join_cps] at h
  rcases joinL_mem _ _ _ h with h | ⟨p, m, h⟩
  · exact .inl h
  · obtain ⟨w, mw, rfl⟩ := List.mem_map.mp m
    exact .inr ⟨w, mw, h⟩
theorem join_len (y : Str) (ws : List Str) : (Txt.join y ws).length ≤ (ws.map (·.length)).sum + ws.length * y.length := by
  rw [len_eq, join_cps]
  have h1 := joinL_len y.cps.toList (ws.map fun w => w.cps.toList)
  rw [List.map_map, List.length_map] at h1
  have h3 : (ws.map (List.length ∘ fun w : Str => w.cps.toList)).sum = (ws.map (·.length)).sum := by
    rw [show (List.length ∘ fun w : Str => w.cps.toList) = fun w : Str => w.length from funext fun w => (len_eq w).symm]
  rw [h3, ← len_eq] at h1
  exact h1
theorem joinOk_of {y : Str} {ws : List Str} {b n : Nat} (h : ∀ w ∈ ws, w.length ≤ b) (hn : ws.length ≤ n) (hz : b * n + n * y.length ≤ 16000000) : joinOk y ws = true := by
  unfold joinOk
  have h1 := sum_le h
  have h2 : b * ws.length ≤ b * n := Nat.mul_le_mul_left _ hn
  have h3 : ws.length * y.length ≤ n * y.length := Nat.mul_le_mul_right _ hn
  exact Nat.ble_eq_true_of_le (by omega)
end GS
namespace GS
open PySem L2 PySem.Spec PyProof.Rows
section
variable {κ : Type} [DecidableEq κ]
end
local instance (priority := high) keyBEq : BEq Key := instBEqOfDecidableEq
local instance keyLaw : LawfulBEq Key := inferInstanceAs (@LawfulBEq Key instBEqOfDecidableEq)
section
variable {prog : Program} {w : World} {A : Around} {R : Result → Shared → Prop} {I : Addr} {fp wr : List Addr} {G : Array GenState → Array GenState → Prop} {n : Nat} {P : Nat → Value → Prop} {St : Nat → Shared → Prop}
end
section
variable {prog : Program} {w : World} {A : Around} {E : Value → Shared → Prop} {s : Shared}
end
end GS
namespace GS
open PySem L2 PySem.Spec PyProof.Rows
section
variable {X : Cx} {C : Ct} {a b : Expr} {ta tb : TE} {fa fb : EF} {p p2 q pos apos : Pos}
def idxD : D → D → Option Hd
  | .list ds, d => if okEq d && okEq (.list ds) then (ds.findIdx? fun z => PyData.eqv z d).map fun j => .sh (.int (j : Nat)) else none
  | _, _ => none
/-- a method of a list with one argument -/
def lGo (o : D → D → Option Hd) (fa : EF) (ha : Hd) (d : Option D) (ρ1 : Rho) : RE := match d with
  | some (.list _) => bindE (eSet fa ρ1) fun hb ρ2 => mRes o (getH ρ2 ha) (getH ρ2 hb) ρ2
  | _ => .stuck
def eL1 (o : D → D → Option Hd) (fr fa : EF) : EF := fun ρ => bindE (eSet fr ρ) fun ha ρ1 => lGo o fa ha (getH ρ1 ha) ρ1
theorem lk_l1 {r : V → List V → Hp → VK → Prop} {o : D → D → Option Hd} (hr : OpL C.K (fun x y H Q => r x [y] H Q) o) (la : LkE C ta fa) (lb : LkE C tb fb) : LkE C (tBM C.K "list" r ta (tCons tb tNil)) (eL1 o fa fb) := fun ρ σ B H Q S g => by
  refine la.setBind S g fun ha ρ1 x B1 H1 S1 e1 y1 g1 => ?_
  unfold lGo at g1
  split at g1
  · rename_i z ez
    obtain ⟨l, vs, rfl, hl, rl⟩ := S1.tp y1 ez
    refine ⟨.inl ⟨rfl, _, hl⟩, ?_⟩
    refine lb.setBind S1 g1 fun hb ρ2 y B2 H2 S2 e2 y2 g2 => ?_
    unfold mRes at g2
    split at g2
    · rename_i da db ea eb
      split at g2
      · rename_i h eh
        exact hr ρ2 σ B2 H2 _ y da db h Q S2 (S2.tp (N := fun _ => True) (HdOk.ext e2 y1) ea) (S2.tp y2 eb) eh g2
      · exact g2.elim
    · exact g2.elim
  · exact g1.elim
theorem ol_index {K : KW} : OpL K (fun x y H Q => rIndexD K x [y] H Q) idxD := fun ρ σ B H x y dx dy h Q S tx ty e k => by
  cases dx <;> first | (cases (show none = some h from e); done) | skip
  rename_i ds
  have e : (if okEq dy && okEq (.list ds) then (ds.findIdx? fun z => PyData.eqv z dy).map fun j => Hd.sh (.int (j : Nat)) else none) = some h := e
  split at e
  · rename_i c
    obtain ⟨j, ej, rfl⟩ := Option.map_eq_some_iff.mp e
    simp only [okEq, Bool.and_eq_true] at c
    have tx' := tx.rp S.bh
    obtain ⟨l, vs, rfl, hl, rl⟩ := tx
    obtain ⟨hj, h1, h2⟩ := List.findIdx?_eq_some_iff_getElem.mp ej
    refine ⟨l, y, dy, ds, j, ds[j], rfl, rfl, tx'.dp _ c.2.1, (ty.rp S.bh).dp _ c.1.1, c.2.2, c.1.2, List.getElem?_eq_getElem hj, h1, fun m z hm hz => ?_, now S (.int _) k⟩
    obtain ⟨hml, rfl⟩ := List.getElem?_eq_some_iff.mp hz
    have := h2 m hm
    simpa using this
  · cases e
theorem se_index (hu : X.A.units + 65 < cLine) (la : SE X C a ta fa) (lb : SE X C b tb fb) (hk : X.K = C.K := by rfl)
    (hbase : attributeBase a "index" X.env (eval a X.env) = eval a X.env := by rfl)
    (hfew : ((backTo pos (starEach [b] X.env)).all (fun x => !x.1) && (backToKw pos (keywordEach [] X.env)).all (fun x => x.1.isSome) && decide ([b].length + ([] : List Keyword).length + (if ([] : List Keyword).isEmpty then 0 else 1) < 30)) = true := by rfl)
    (hline : (apos.endLine == pos.line) = true := by rfl) (hs : starEach [b] X.env = (false, eval b X.env) :: starEach [] X.env := by rfl) (hplain : (backTo pos (starEach [] X.env)).any (·.1) = false := by rfl) :
    SE X C (.Call (.Attribute a "index" apos) [b] [] pos) (tBM C.K "list" (rIndexD C.K) ta (tCons tb tNil)) (eL1 idxD fa fb) :=
  ⟨by rw [← hk]; exact pe_bm PySem.F.plainAttrs_list PySem.F.slot_list_index PySem.F.type_list_index (mt_indexD hu) la.pe (pa_cons lb.pe pa_nil hs) hbase hfew hline hs hplain, lk_l1 ol_index la.lk lb.lk⟩
end
section
variable {X : Cx} {C : Ct} {x : Str} {c : Value} {body suite : List Stmt} {b₀ : Stmt} {np pos pos' : Pos} {ts : TS} {fb fh : SF} {ns cs : List Str}
end
end GS
namespace GS
open PySem L2
section
variable {X : Cx} {C : Ct} {o e f : Expr} {td tk tx : TE} {fd fk fx : EF} {apos pos : Pos}
end
end GS
namespace GS
open PySem L2
section
variable {ρ ρ1 : Rho} {c : Prop} [Decidable c]
@[simp] theorem lGo_l (o : D → D → Option Hd) (fa : EF) (ha : Hd) (ds : List D) : lGo o fa ha (some (.list ds)) ρ = bindE (eSet fa ρ) fun hb ρ2 => mRes o (getH ρ2 ha) (getH ρ2 hb) ρ2 := rfl
@[simp] theorem eL1_eq (o : D → D → Option Hd) (fr fa : EF) : eL1 o fr fa ρ = bindE (eSet fr ρ) fun ha ρ1 => lGo o fa ha (getH ρ1 ha) ρ1 := rfl
theorem idxD_l (ds : List D) (d : D) (h1 : okEq d = true) (h2 : okEq (.list ds) = true) : idxD (.list ds) d = (ds.findIdx? fun z => PyData.eqv z d).map fun j => .sh (.int (j : Nat)) := by
  show (if _ then _ else _) = _
  rw [h1, h2]; rfl
end
end GS
namespace GM
open PySem L2 GS
end GM
namespace GM
open PySem L2 GS
theorem keyB_len {s : Str} (h : keyB s = true) : 1 ≤ s.length ∧ s.length ≤ 24 := by
  rw [len_eq]
  unfold keyB at h
  cases hc : s.cps.toList with
  | nil => rw [hc] at h; cases h
  | cons c cs =>
    rw [hc] at h
    simp only [nameL, Bool.and_eq_true, decide_eq_true_eq] at h
    exact ⟨by simp, h.1.1⟩
def figs : List Str := [Str.ofString "0", Str.ofString "1", Str.ofString "2", Str.ofString "3", Str.ofString "4", Str.ofString "5", Str.ofString "6", Str.ofString "7"]
def fgN (f : Str) : Int := (PySem.intText? f).getD 0
theorem okEq_str {s : Str} (h : PyData.strOk s = true) : okEq (.str s) = true := okEq_of (by rw [cleanB]; exact h) (by rw [PyData.depth]; omega)
end GM
namespace GM
open PySem L2 GS
end GM
namespace GM
open PySem L2 GS
end GM
namespace GM
open PySem L2 GS
structure KidsT (n : Nat) (ks : List Tr) : Prop where
  all : ∀ t ∈ ks, t.ok = true ∧ t.ht ≤ n
  num : ks.length ≤ 8
theorem KidsT.snoc {n : Nat} {ks : List Tr} {t : Tr} (h : KidsT n ks) (ht : t.ok = true ∧ t.ht ≤ n) (hl : ¬ ks.length = 8) : KidsT n (ks ++ [t]) :=
  ⟨fun u m => (List.mem_append.mp m).elim (h.all u) fun q => by simp at q; subst q; exact ht, by have := h.num; simp; omega⟩
@[simp] theorem isD_enc (neg : Bool) (t : Tr) : isD neg t.enc .none = some (.sh (.bool neg)) := by
  obtain ⟨w, r, h⟩ := enc_word t
  rw [h]; rfl
section
variable {n : Nat} {Fw Ft Fx Fk Fn : FF}
end
end GM
namespace GM
open PySem L2 GS
section
variable {n : Nat} {Fd Fn Fl : FF}
end
end GM
namespace GM
open PySem L2 GS
/-- _law_kid(state, left); slots 0:state 1:left 2:cell 3:sign 4:name 5:takes 6:kids 7:k -/
def m_law_kid_b1 (F__law_kid F__law_cell : FF) : SF := (sKill [7] (sApp 6 (eCall 2 (some 0) F__law_kid (aCons (eVb 0) (aCons (eBin subD (eVb 1) (eC (.int 1))) aNil)))))
def m_law_kid (F__law_kid F__law_cell : FF) : SF := (sSeq (sSet 2 (eCall 1 (some 0) F__law_cell (aCons (eVb 0) aNil))) (sSeq (sSet 3 (eTup (aCons (eC (.str (Str.ofString "sign"))) (aCons (eBin ixA (eLst (aCons (eC (.str (Str.ofString "a"))) (aCons (eC (.str (Str.ofString "b"))) (aCons (eC (.str (Str.ofString "ab"))) aNil)))) (eBin modD (eBin divD (eVb 2) (eC (.int 5))) (eC (.int 3)))) aNil)))) (sSeq (sSet 4 (eBin ixA (eLst (aCons (eC (.str (Str.ofString "S"))) (aCons (eC (.str (Str.ofString "S1"))) (aCons (eC (.str (Str.ofString "S2"))) aNil)))) (eBin modD (eBin divD (eVb 2) (eC (.int 15))) (eC (.int 3))))) (sSeq (sIf (eOr (eB (eBin (eqB false) (eVb 1) (eC (.int 0)))) (eB (eBin (ltI fun i j => decide (i < j)) (eBin modD (eVb 2) (eC (.int 5))) (eC (.int 3))))) (sEnd (sRet (eBin ixA (eLst (aCons (eMv 3) (aCons (eMv 3) (aCons (eTup (aCons (eC (.str (Str.ofString "void"))) aNil)) (aCons (eTup (aCons (eC (.str (Str.ofString "hole"))) (aCons (eMv 4) aNil))) aNil))))) (eBin modD (eBin divD (eVb 2) (eC (.int 45))) (eC (.int 4)))))) sNil) (sSeq (sSet 5 (eBin ixA (eLst (aCons (eC .none) (aCons (eTup (aCons (eMv 4) (aCons (eC (.bool false)) aNil))) (aCons (eTup (aCons (eC (.str (Str.ofString "Z"))) (aCons (eC (.bool false)) aNil))) (aCons (eTup (aCons (eMv 4) (aCons (eC (.bool true)) aNil))) aNil))))) (eBin modD (eBin divD (eVb 2) (eC (.int 45))) (eC (.int 4))))) (sSeq (sSet 6 (eLst aNil)) (sSeq (sFor (iR1 (eBin addD (eC (.int 1)) (eBin modD (eBin divD (eVb 2) (eC (.int 180))) (eC (.int 3))))) (gN 7) (m_law_kid_b1 F__law_kid F__law_cell)) (sEnd (sRet (eTup (aCons (eC (.str (Str.ofString "knot"))) (aCons (eBin ixA (eLst (aCons (eC (.str (Str.ofString "S"))) (aCons (eC (.str (Str.ofString "S1"))) (aCons (eC (.str (Str.ofString "S2"))) aNil)))) (eBin modD (eBin divD (eVb 2) (eC (.int 540))) (eC (.int 3)))) (aCons (eMv 5) (aCons (eCB (un1 tupleD) (aCons (eVb 6) aNil)) aNil))))))))))))))
theorem m_law_kid_eq (F__law_kid F__law_cell : FF) (ρ : Rho) : fnF 8 2 (m_law_kid F__law_kid F__law_cell) ρ = finR 2 (m_law_kid F__law_kid F__law_cell (ρ ++ [none, none, none, none, none, none])) := fnF_eq 8 2 _
/-- _law_footed(tree, foot, cell); slots 0:tree 1:foot 2:cell 3:knots 4:at 5:inner 6:k -/
def m_law_footed_ct1 (F__law_footed : FF) : EF := (eB (eBin (eqB false) (eBin ixA (eBin ixA (eBin ixA (eVb 0) (eC (.int 3))) (eVb 6)) (eC (.int 0))) (eC (.str (Str.ofString "knot")))))
def m_law_footed_ce2 (F__law_footed : FF) : EF := (eMv 6)
def m_law_footed (F__law_footed : FF) : SF := (sSeq (sSet 3 (eLc [6] (iR1 (eCB (un1 lenD) (aCons (eBin ixA (eVb 0) (eC (.int 3))) aNil))) (gN 6) (eNox (m_law_footed_ct1 F__law_footed)) (eNox (m_law_footed_ce2 F__law_footed)))) (sSeq (sKill [4, 5] (sIf (eAnd (eB (eBin (ltI fun i j => decide (j < i)) (eCB (un1 lenD) (aCons (eVb 3) aNil)) (eC (.int 0)))) (eB (eBin (eqB false) (eBin modD (eVb 2) (eC (.int 2))) (eC (.int 1))))) (sSeq (sSet 4 (eBin ixA (eVb 3) (eBin modD (eBin divD (eVb 2) (eC (.int 2))) (eCB (un1 lenD) (aCons (eVb 3) aNil))))) (sSeq (sSet 5 (eCall 3 none F__law_footed (aCons (eBin ixA (eBin ixA (eVb 0) (eC (.int 3))) (eVb 4)) (aCons (eMv 1) (aCons (eBin divD (eVb 2) (eC (.int 6))) aNil))))) (sEnd (sRet (eBin addD (eSl (eVb 0) none (some (eC (.int 3)))) (eTup (aCons (eBin addD (eBin addD (eSl (eBin ixA (eVb 0) (eC (.int 3))) none (some (eVb 4))) (eTup (aCons (eMv 5) aNil))) (eSl (eBin ixA (eVb 0) (eC (.int 3))) (some (eBin addD (eVb 4) (eC (.int 1)))) none)) aNil))))))) sNil)) (sSeq (sSet 4 (eBin modD (eBin divD (eVb 2) (eC (.int 2))) (eBin addD (eCB (un1 lenD) (aCons (eBin ixA (eVb 0) (eC (.int 3))) aNil)) (eC (.int 1))))) (sEnd (sRet (eBin addD (eSl (eVb 0) none (some (eC (.int 3)))) (eTup (aCons (eBin addD (eBin addD (eSl (eBin ixA (eVb 0) (eC (.int 3))) none (some (eVb 4))) (eTup (aCons (eMv 1) aNil))) (eSl (eBin ixA (eVb 0) (eC (.int 3))) (some (eVb 4)) none)) aNil))))))))
theorem m_law_footed_eq (F__law_footed : FF) (ρ : Rho) : fnF 7 3 (m_law_footed F__law_footed) ρ = finR 3 (m_law_footed F__law_footed (ρ ++ [none, none, none, none])) := fnF_eq 7 3 _
/-- _law_drawn(state, left); slots 0:state 1:left 2:cell 3:takes 4:kids 5:k 6:tree -/
def m_law_drawn_b1 (F__law_footed F__law_kid F__law_cell : FF) : SF := (sKill [5] (sIns 4 (eBin modD (eBin divD (eVb 2) (eC (.int 24))) (eBin addD (eCB (un1 lenD) (aCons (eVb 4) aNil)) (eC (.int 1)))) (eCall 2 (some 0) F__law_kid (aCons (eVb 0) (aCons (eMv 1) aNil)))))
def m_law_drawn (F__law_footed F__law_kid F__law_cell : FF) : SF := (sSeq (sSet 2 (eCall 1 (some 0) F__law_cell (aCons (eVb 0) aNil))) (sSeq (sSet 3 (eBin ixA (eLst (aCons (eC .none) (aCons (eTup (aCons (eC (.str (Str.ofString "S1"))) (aCons (eC (.bool false)) aNil))) (aCons (eTup (aCons (eC (.str (Str.ofString "S2"))) (aCons (eC (.bool false)) aNil))) (aCons (eTup (aCons (eC (.str (Str.ofString "S1"))) (aCons (eC (.bool true)) aNil))) aNil))))) (eBin modD (eVb 2) (eC (.int 4))))) (sSeq (sSet 4 (eLst (aCons (eTup (aCons (eC (.str (Str.ofString "sign"))) (aCons (eBin ixA (eLst (aCons (eC (.str (Str.ofString "a"))) (aCons (eC (.str (Str.ofString "b"))) aNil))) (eBin modD (eBin divD (eVb 2) (eC (.int 4))) (eC (.int 2)))) aNil))) aNil))) (sSeq (sFor (iR1 (eBin modD (eBin divD (eVb 2) (eC (.int 8))) (eC (.int 3)))) (gN 5) (m_law_drawn_b1 F__law_footed F__law_kid F__law_cell)) (sSeq (sSet 6 (eTup (aCons (eC (.str (Str.ofString "knot"))) (aCons (eBin ixA (eLst (aCons (eC (.str (Str.ofString "S"))) (aCons (eC (.str (Str.ofString "S1"))) (aCons (eC (.str (Str.ofString "S2"))) aNil)))) (eBin modD (eBin divD (eVb 2) (eC (.int 72))) (eC (.int 3)))) (aCons (eMv 3) (aCons (eCB (un1 tupleD) (aCons (eVb 4) aNil)) aNil)))))) (sSeq (sIf (eB (eBin (eqB false) (eBin modD (eBin divD (eVb 2) (eC (.int 216))) (eC (.int 2))) (eC (.int 0)))) (sEnd (sRet (eRv 6))) sNil) (sEnd (sRet (eCall 3 none F__law_footed (aCons (eMv 6) (aCons (eTup (aCons (eC (.str (Str.ofString "foot"))) (aCons (eBin ixA (eLst (aCons (eC (.str (Str.ofString "S"))) (aCons (eC (.str (Str.ofString "S1"))) (aCons (eC (.str (Str.ofString "S2"))) aNil)))) (eBin modD (eBin divD (eVb 2) (eC (.int 432))) (eC (.int 3)))) aNil))) (aCons (eBin divD (eVb 2) (eC (.int 1296))) aNil))))))))))))
theorem m_law_drawn_eq (F__law_footed F__law_kid F__law_cell : FF) (ρ : Rho) : fnF 7 2 (m_law_drawn F__law_footed F__law_kid F__law_cell) ρ = finR 2 (m_law_drawn F__law_footed F__law_kid F__law_cell (ρ ++ [none, none, none, none, none])) := fnF_eq 7 2 _
/-- _law_book(state, many, left); slots 0:state 1:many 2:left 3:cell 4:trees 5:k 6:name 7:foot 8:kids 9:key -/
def m_law_book_b1 (F__law_drawn F__law_cell : FF) : SF := (sKill [5, 9] (sSeq (sSet 9 (eBin ixA (eLst (aCons (eC (.str (Str.ofString "p"))) (aCons (eC (.str (Str.ofString "qq"))) (aCons (eC (.str (Str.ofString "r2"))) (aCons (eC (.str (Str.ofString "tall"))) (aCons (eC (.str (Str.ofString "u"))) aNil)))))) (eVb 5))) (sIns 4 (eBin modD (eBin divD (eVb 3) (eBin addD (eVb 5) (eC (.int 7)))) (eBin addD (eCB (un1 lenD) (aCons (eVb 4) aNil)) (eC (.int 1)))) (eTup (aCons (eMv 9) (aCons (eCall 2 (some 0) F__law_drawn (aCons (eVb 0) (aCons (eMv 2) aNil))) aNil))))))
def m_law_book_b2 (F__law_drawn F__law_cell : FF) : SF := (sKill [5, 6, 7, 8] (sSeq (sSet 6 (eBin ixA (eLst (aCons (eC (.str (Str.ofString "S"))) (aCons (eC (.str (Str.ofString "S1"))) (aCons (eC (.str (Str.ofString "S2"))) aNil)))) (eVb 5))) (sSeq (sApp 4 (eTup (aCons (eBin ixA (eLst (aCons (eC (.str (Str.ofString "s"))) (aCons (eC (.str (Str.ofString "x0"))) (aCons (eC (.str (Str.ofString "keytree"))) aNil)))) (eVb 5)) (aCons (eTup (aCons (eC (.str (Str.ofString "knot"))) (aCons (eMv 6) (aCons (eC .none) (aCons (eTup (aCons (eTup (aCons (eC (.str (Str.ofString "sign"))) (aCons (eBin ixA (eLst (aCons (eC (.str (Str.ofString "a"))) (aCons (eC (.str (Str.ofString "b"))) (aCons (eC (.str (Str.ofString "a"))) aNil)))) (eVb 5)) aNil))) aNil)) aNil))))) aNil)))) (sSeq (sSet 7 (eTup (aCons (eC (.str (Str.ofString "foot"))) (aCons (eMv 6) aNil)))) (sSeq (sSet 8 (eBin ixA (eLst (aCons (eTup (aCons (eTup (aCons (eC (.str (Str.ofString "sign"))) (aCons (eC (.str (Str.ofString "b"))) aNil))) (aCons (eMv 7) aNil))) (aCons (eTup (aCons (eMv 7) (aCons (eTup (aCons (eC (.str (Str.ofString "sign"))) (aCons (eC (.str (Str.ofString "a"))) aNil))) aNil))) aNil))) (eBin modD (eBin divD (eVb 3) (eBin addD (eVb 5) (eC (.int 1)))) (eC (.int 2))))) (sApp 4 (eTup (aCons (eBin ixA (eLst (aCons (eC (.str (Str.ofString "g"))) (aCons (eC (.str (Str.ofString "h1"))) (aCons (eC (.str (Str.ofString "graftofaone"))) aNil)))) (eVb 5)) (aCons (eTup (aCons (eC (.str (Str.ofString "knot"))) (aCons (eMv 6) (aCons (eC .none) (aCons (eMv 8) aNil))))) aNil)))))))))
def m_law_book (F__law_drawn F__law_cell : FF) : SF := (sSeq (sSet 3 (eCall 1 (some 0) F__law_cell (aCons (eVb 0) aNil))) (sSeq (sSet 4 (eLst aNil)) (sSeq (sFor (iR1 (eC (.int 3))) (gN 5) (m_law_book_b2 F__law_drawn F__law_cell)) (sSeq (sFor (iR1 (eVb 1)) (gN 5) (m_law_book_b1 F__law_drawn F__law_cell)) (sEnd (sRet (eTup (aCons (eBin ixA (eLst (aCons (eC (.str (Str.ofString "S"))) (aCons (eC (.str (Str.ofString "S"))) (aCons (eC (.str (Str.ofString "S1"))) aNil)))) (eBin modD (eBin divD (eVb 3) (eC (.int 3))) (eC (.int 3)))) (aCons (eCB (un1 tupleD) (aCons (eVb 4) aNil)) aNil)))))))))
theorem m_law_book_eq (F__law_drawn F__law_cell : FF) (ρ : Rho) : fnF 10 3 (m_law_book F__law_drawn F__law_cell) ρ = finR 3 (m_law_book F__law_drawn F__law_cell (ρ ++ [none, none, none, none, none, none, none])) := fnF_eq 10 3 _
end GM
namespace GM
open PySem L2 GS
def capN : Nat → Nat
  | 0 => 1
  | l + 1 => 1 + 3 * capN l
theorem capN_few {n : Nat} (h : capN n ≤ 15) : 3 * capN n + 2 ≤ 42 + 2 * n := by
  match n, h with
  | 0, _ => simp [capN]
  | 1, _ => simp [capN]
  | 2, _ => simp [capN]
  | n + 3, h =>
    have h' : 1 + 3 * (1 + 3 * (1 + 3 * capN n)) ≤ 15 := h
    omega
theorem capN_pos (l : Nat) : 1 ≤ capN l := by cases l <;> simp [capN]
/-- no knot has more than three kids -/
def Nar (t : Tr) : Prop := ∀ u ∈ t.pieces, u.kids.length ≤ 3
theorem Nar.kid {t k : Tr} (h : Nar t) (m : k ∈ t.kids) : Nar k := fun u mu => h u (by
  rw [pieces_kids t]
  exact List.mem_cons_of_mem _ (List.mem_flatMap.mpr ⟨k, m, mu⟩))
theorem Nar.knot {n : Str} {tk : Option (Str × Bool)} {ks : List Tr} (hl : ks.length ≤ 3) (h : ∀ k ∈ ks, Nar k) : Nar (.knot n tk ks) := fun u mu => by
  rw [pieces_kids] at mu
  rcases List.mem_cons.mp mu with rfl | mu
  · exact hl
  · obtain ⟨k, mk, mu⟩ := List.mem_flatMap.mp mu
    exact h k mk u mu
/-- what must be put has one of three names -/
def nm3 : List Str := [Str.ofString "S", Str.ofString "S1", Str.ofString "S2"]
def wtk : Option (Str × Bool) → Bool
  | some (n, c) => decide (n ∈ nm3) || (!c && decide (n = Str.ofString "Z"))
  | none => true
def sg3 : List Str := [Str.ofString "a", Str.ofString "b", Str.ofString "ab"]
def WnB : Tr → Bool
  | .hole n => decide (n ∈ nm3)
  | .knot n tk _ => decide (n ∈ nm3) && wtk tk
  | .foot n => decide (n ∈ nm3)
  | .sign s => decide (s ∈ sg3)
  | .void => true
def Wn (t : Tr) : Prop := ∀ u ∈ t.pieces, WnB u = true
theorem Wn.knot {n : Str} {tk : Option (Str × Bool)} {ks : List Tr} (h : (decide (n ∈ nm3) && wtk tk) = true) (hk : ∀ k ∈ ks, Wn k) : Wn (.knot n tk ks) := fun u mu => by
  rw [pieces_kids] at mu
  rcases List.mem_cons.mp mu with rfl | mu
  · exact h
  · obtain ⟨k, mk, mu⟩ := List.mem_flatMap.mp mu
    exact hk k mk u mu
theorem Wn.kid {t k : Tr} (h : Wn t) (m : k ∈ t.kids) : Wn k := fun u mu => h u (by
  rw [pieces_kids]
  exact List.mem_cons_of_mem _ (List.mem_flatMap.mpr ⟨k, m, mu⟩))
theorem Wn.self {t : Tr} (h : Wn t) : WnB t = true := h t (by rw [pieces_kids]; simp)
theorem Wn.one {t : Tr} (h : t.kids = []) (hw : WnB t = true) : Wn t := fun u mu => by
  rw [pieces_kids, h] at mu
  simp at mu
  subst mu
  exact hw
structure KidOk (l : Nat) (t : Tr) : Prop where
  ok : t.ok = true
  ht : t.ht ≤ l
  feet : t.feet = []
  sz : t.pieces.length ≤ capN l
  nar : Nar t
  wn : Wn t
theorem kid_leaf {l : Nat} {t : Tr} (h : t.kids = []) (ok : t.ok = true) (hh : t.ht = 0) (hf : t.footN = none) (hw : WnB t = true := by rfl) : KidOk l t := by
  have hp : t.pieces = [t] := by rw [pieces_kids, h]; rfl
  refine ⟨ok, by omega, by unfold Tr.feet; rw [hp]; simp [hf], by rw [hp]; exact capN_pos l, fun u mu => ?_, Wn.one h hw⟩
  rw [hp] at mu
  simp at mu
  subst mu
  rw [h]; simp
def KidGen (n : Nat) (F : FF) : Prop := ∀ (ns : List Int) (a : Nat) (ex : Option Int) (l : Nat), l ≤ n → ∃ (t : Tr) (a' : Nat), F [some ⟨stD ns a ex, .io⟩, some ⟨.int l, .sh⟩] = .ok (.sh t.enc) [some ⟨stD ns a' ex, .io⟩, none] ∧ KidOk l t
theorem n3 (c : Int) : ∃ z : Str, pick [PyData.str (Str.ofString "S"), .str (Str.ofString "S1"), .str (Str.ofString "S2")] (c % 3) = .str z ∧ nameB z = true ∧ decide (z ∈ nm3) = true :=
  pick3 (P := fun d => ∃ z : Str, d = .str z ∧ nameB z = true ∧ decide (z ∈ nm3) = true) c ⟨_, rfl, by decide +kernel, by decide +kernel⟩ ⟨_, rfl, by decide +kernel, by decide +kernel⟩ ⟨_, rfl, by decide +kernel, by decide +kernel⟩
theorem law_kid_ok {n : Nat} {Fk Fc : FF} (hc : CellSp Fc) (hk : ∀ m, m + 1 = n → KidGen m Fk) : KidGen n (fnF 8 2 (m_law_kid Fk Fc)) := fun ns a ex l hle => by
  obtain ⟨c, a0, h1⟩ := hc ns a ex
  obtain ⟨sg, esg, osg, wsg⟩ := pick3 (P := fun d => ∃ z : Str, d = .str z ∧ signB z = true ∧ decide (z ∈ sg3) = true) (a := .str (Str.ofString "a")) (b := .str (Str.ofString "b")) (d := .str (Str.ofString "ab")) (c / 5) ⟨_, rfl, by decide +kernel, by decide +kernel⟩ ⟨_, rfl, by decide +kernel, by decide +kernel⟩ ⟨_, rfl, by decide +kernel, by decide +kernel⟩
  obtain ⟨nm, enm, onm, wnm⟩ := n3 (c / 15)
  by_cases q : l = 0 ∨ c % 5 < 3
  · obtain ⟨t, et, ht⟩ := pick4 (P := fun d => ∃ t : Tr, d = t.enc ∧ KidOk l t) (a := Tr.enc (.sign sg)) (b := Tr.enc (.sign sg)) (d := Tr.enc .void) (f := Tr.enc (.hole nm)) (c / 45) ⟨_, rfl, kid_leaf rfl osg rfl rfl wsg⟩ ⟨_, rfl, kid_leaf rfl osg rfl rfl wsg⟩ ⟨_, rfl, kid_leaf rfl rfl rfl rfl⟩ ⟨_, rfl, kid_leaf rfl onm rfl rfl wnm⟩
    refine ⟨t, a0, ?_, ht⟩
    rw [m_law_kid_eq]
    simp only [Tr.enc] at et
    by_cases q1 : l = 0
    · simp [m_law_kid, h1, esg, enm, q1, et]
    · have q2 : c % 5 < 3 := by omega
      simp [m_law_kid, h1, esg, enm, q1, q2, et]
  · have q1 : ¬ l = 0 := by omega
    have q2 : ¬ c % 5 < 3 := by omega
    obtain ⟨tk, etk, otk, wkt⟩ := pick4 (P := fun d => ∃ tk : Option (Str × Bool), d = encTk tk ∧ okTk tk = true ∧ wtk tk = true) (a := .none) (b := .tuple [.str nm, .bool false]) (d := .tuple [.str (Str.ofString "Z"), .bool false]) (f := .tuple [.str nm, .bool true]) (c / 45) ⟨none, rfl, rfl, rfl⟩ ⟨some (nm, false), rfl, onm, by rw [wtk, wnm]; rfl⟩ ⟨some (_, false), rfl, by decide +kernel, by decide +kernel⟩ ⟨some (nm, true), rfl, onm, by rw [wtk, wnm]; rfl⟩
    obtain ⟨nm2, enm2, onm2, wnm2⟩ := n3 (c / 540)
    obtain ⟨m, hm, hm3⟩ : ∃ m : Nat, (1 : Int) + c / 180 % 3 = m ∧ 1 ≤ m ∧ m ≤ 3 := ⟨(1 + c / 180 % 3).toNat, by omega, by omega, by omega⟩
    have hk' := hk (n - 1) (by omega)
    obtain ⟨⟨ts, a'⟩, hf, hf1, hf2⟩ := forL_by (S := List Tr × Nat) (g := gN 7) (b := m_law_kid_b1 Fk Fc) (fun p => [some ⟨stD ns p.2 ex, .io⟩, some ⟨.int l, .sh⟩, some ⟨.int c, .sh⟩, some ⟨.tuple [.str (Str.ofString "sign"), .str sg], .sh⟩, some ⟨.str nm, .sh⟩, some ⟨encTk tk, .sh⟩, some ⟨.list (p.1.map Tr.enc), .ow⟩, none])
      (fun pre p => p.1.length = pre.length ∧ ∀ t ∈ p.1, KidOk (l - 1) t) (rgD 0 m) ([], a0) ⟨rfl, by simp⟩ (fun pre d post ⟨ts, a1⟩ hd ⟨g1, g2⟩ => by
        obtain ⟨hk1, rfl⟩ := rgD_mid hd
        obtain ⟨t, a2, e, ot⟩ := hk' ns a1 ex (l - 1) (by omega)
        rw [show ((l - 1 : Nat) : Int) = (l : Int) - 1 by omega] at e
        dsimp only at g1 g2
        have hz : ts.length < sizeLine := fitsl (by omega)
        refine ⟨(ts ++ [t], a2), ?_, by simp [g1], fun t' mt => ?_⟩
        · simp [m_law_kid_b1, e, hz]
        · rcases List.mem_append.mp mt with mt | mt
          · exact g2 t' mt
          · simp at mt; subst mt; exact ot)
    rw [rgD_len] at hf1
    dsimp only at hf hf1 hf2
    rw [List.map_nil] at hf
    have ok : okR (m : Int) = true := okR_nat (by omega)
    refine ⟨.knot nm2 tk ts, a', ?_, ?_, ?_, ?_, ?_, ?_, Wn.knot (by rw [wnm2, wkt]; rfl) fun t mt => (hf2 t mt).wn⟩
    · rw [m_law_kid_eq]
      simp [m_law_kid, h1, esg, enm, q1, q2, etk, hm, ok, hf, enm2, Tr.enc, encL_map]
    · simp only [Tr.ok, Bool.and_eq_true, decide_eq_true_eq]
      exact ⟨onm2, otk, by omega, by omega, okL_of fun t mt => (hf2 t mt).ok⟩
    · have := htL_of (ts := ts) (n := l - 1) fun t mt => (hf2 t mt).ht
      rw [Tr.ht]; omega
    · rw [feet_knot, List.flatMap_eq_nil_iff]
      exact fun t mt => (hf2 t mt).feet
    · rw [pieces_knot]
      have := flat_le (f := Tr.pieces) (n := capN (l - 1)) ts fun t mt => (hf2 t mt).sz
      have e : capN l = 1 + 3 * capN (l - 1) := by
        rw [show l = (l - 1) + 1 by omega]; rfl
      rw [e]
      have : ts.length * capN (l - 1) ≤ 3 * capN (l - 1) := Nat.mul_le_mul_right _ (by omega)
      omega
    · exact Nar.knot (by omega) fun t mt => (hf2 t mt).nar
/-- a foot is put in -/
structure Footed (nm : Str) (t t' : Tr) : Prop where
  ok : t'.ok = true
  ht : t'.ht ≤ t.ht
  feet : t'.feet = [nm]
  sz : t'.pieces.length = t.pieces.length + 1
  signs : t'.signs = t.signs
  kn : ∃ n tk ks ks', t = .knot n tk ks ∧ t' = .knot n tk ks'
  wn : decide (nm ∈ nm3) = true → Wn t → Wn t'
def FootedSp (n : Nat) (F : FF) : Prop := ∀ (t : Tr) (nm : Str) (cell : Int), t.ok = true → t.ht ≤ n → t.feet = [] → Nar t → t.isKnot = true → nameB nm = true → ∃ t', F [some ⟨t.enc, .sh⟩, some ⟨Tr.enc (.foot nm), .sh⟩, some ⟨.int cell, .sh⟩] = .ok (.sh t'.enc) [none, none, none] ∧ Footed nm t t'
theorem flat_feet_nil {ks : List Tr} (h : ks.flatMap Tr.feet = []) {k : Tr} (m : k ∈ ks) : k.feet = [] := List.flatMap_eq_nil_iff.mp h k m
theorem split_at {ks : List Tr} {i : Nat} {k : Tr} (h : ks[i]? = some k) : ks = ks.take i ++ k :: ks.drop (i + 1) := by
  have hi := (List.getElem?_eq_some_iff.mp h).1
  conv => lhs; rw [← List.take_append_drop i ks]
  congr 1
  rw [List.drop_eq_getElem_cons hi]
  congr 1
  exact (List.getElem?_eq_some_iff.mp h).2
theorem law_footed_ok {n : Nat} {Ff : FF} (hf : ∀ m, m + 1 = n → FootedSp m Ff) : FootedSp n (fnF 7 3 (m_law_footed Ff)) := fun t nm cell ok hh ft nar kn onm => by
  cases t with
  | knot tn tk ks =>
    have okt := ok
    rw [Tr.ok] at ok
    simp only [Bool.and_eq_true, decide_eq_true_eq] at ok
    obtain ⟨o1, o2, o3, o4, o5⟩ := ok
    have hl3 : ks.length ≤ 3 := nar (.knot tn tk ks) (by rw [pieces_kids]; simp)
    rw [feet_knot] at ft
    rw [Tr.ht] at hh
    have ek : Tr.encL ks = ks.map Tr.enc := encL_map ks
    have c3 : cutD [PyData.str (Str.ofString "knot"), .str tn, encTk tk, .tuple (ks.map Tr.enc)] none (some 3) = [PyData.str (Str.ofString "knot"), .str tn, encTk tk] := cutD_to _ 3
    have s3 : 3 + 1 ≤ sizeLine := by decide
    have ekn : Tr.enc (.knot tn tk ks) = .tuple [.str (Str.ofString "knot"), .str tn, encTk tk, .tuple (ks.map Tr.enc)] := by rw [Tr.enc, ek]
    rw [m_law_footed_eq]
    -- which kids are knots
    have hcm := lcL_up (vs := [6]) (g := gN 6) (ft := eNox (m_law_footed_ct1 Ff)) (fe := eNox (m_law_footed_ce2 Ff)) [some ⟨Tr.enc (.knot tn tk ks), .sh⟩, some ⟨Tr.enc (.foot nm), .sh⟩, some ⟨.int cell, .sh⟩, none, none, none, none] (fun i : Nat => PyData.int ((0 : Int) + (i : Int)))
      (fun i => [some ⟨Tr.enc (.knot tn tk ks), .sh⟩, some ⟨Tr.enc (.foot nm), .sh⟩, some ⟨.int cell, .sh⟩, none, none, none, some ⟨.int ((0 : Int) + (i : Int)), .sh⟩]) (fun i => (ks[i]?.map Tr.isKnot).getD false) (fun i : Nat => PyData.int (i : Int)) (List.range ks.length) [] (fits (by simp; omega)) (fun i mi => by
        have hi : i < ks.length := List.mem_range.mp mi
        have e1 : L2.atI (ks.map Tr.enc) (i : Int) = some (ks[i]).enc := by
          rw [atI_nat (xs := ks.map Tr.enc) (j := i) (v := (ks[i]).enc) (by simp [hi])]
        have e2 : ks[i]? = some ks[i] := List.getElem?_eq_getElem hi
        rw [e2]
        generalize ks[i] = k at e1
        cases k <;> simp [m_law_footed_ct1, m_law_footed_ce2, Tr.enc, ek, e1, Tr.isKnot])
    obtain ⟨kl, hkl⟩ : ∃ kl, (List.range ks.length).filter (fun i => (ks[i]?.map Tr.isKnot).getD false) = kl := ⟨_, rfl⟩
    rw [hkl, List.nil_append] at hcm
    have hkm : ∀ i ∈ kl, ∃ k, ks[i]? = some k ∧ k.isKnot = true := by
      intro i mi
      rw [← hkl, List.mem_filter] at mi
      cases hx : ks[i]? with
      | none => rw [hx] at mi; simp at mi
      | some k => rw [hx] at mi; exact ⟨k, rfl, by simpa using mi.2⟩
    have hrg : rgD 0 ks.length = (List.range ks.length).map fun i : Nat => PyData.int ((0 : Int) + (i : Int)) := rfl
    rw [← hrg] at hcm
    have okl : okR (ks.length : Int) = true := okR_nat (by omega)
    have tn2 : ((ks.length : Int)).toNat = ks.length := by omega
    by_cases q : 0 < kl.length ∧ cell % 2 = 1
    · obtain ⟨q1, q2⟩ := q
      have q1' : (0 : Int) < (kl.length : Int) := by omega
      have hm0 := Int.emod_nonneg (cell / 2) (show (kl.length : Int) ≠ 0 by omega)
      have hm1 := Int.emod_lt_of_pos (cell / 2) q1'
      obtain ⟨j, hj⟩ : ∃ j : Nat, cell / 2 % (kl.length : Int) = j := ⟨(cell / 2 % (kl.length : Int)).toNat, by omega⟩
      have hjl : j < kl.length := by omega
      have ej : L2.atI (kl.map fun i : Nat => PyData.int (i : Int)) (j : Int) = some (.int (kl[j] : Int)) := by
        rw [atI_nat (xs := kl.map fun i : Nat => PyData.int (i : Int)) (j := j) (v := .int (kl[j] : Int)) (by simp [hjl])]
      obtain ⟨k, hk, kk⟩ := hkm (kl[j]) (List.getElem_mem hjl)
      generalize kl[j] = i at ej hk
      have mk : k ∈ ks := List.mem_of_getElem? hk
      have hi := (List.getElem?_eq_some_iff.mp hk).1
      have ei : L2.atI (ks.map Tr.enc) (i : Int) = some k.enc := by
        rw [atI_nat (xs := ks.map Tr.enc) (j := i) (v := k.enc) (by rw [List.getElem?_map, hk]; rfl)]
      have hkh := ht_mem mk
      obtain ⟨k', ek', fk⟩ := hf (n - 1) (by omega) k nm (cell / 6) (okL_mem o5 k mk) (by omega) (flat_feet_nil ft mk) (nar.kid mk) kk onm
      have ct : cutD (ks.map Tr.enc) none (some (i : Int)) = (ks.take i).map Tr.enc := by rw [cutD_to, List.map_take]
      have cf : cutD (ks.map Tr.enc) (some ((i : Int) + 1)) none = (ks.drop (i + 1)).map Tr.enc := by
        rw [show (i : Int) + 1 = ((i + 1 : Nat) : Int) by omega, cutD_from, List.map_drop]
      have sp := split_at hk
      have z1 : min i ks.length + 1 ≤ sizeLine := fits (by omega)
      have z2 : min i ks.length + 1 + (ks.length - (i + 1)) ≤ sizeLine := fits (by omega)
      have z2' : min i ks.length + (ks.length - (i + 1) + 1) ≤ sizeLine := fits (by omega)
      refine ⟨.knot tn tk (ks.take i ++ k' :: ks.drop (i + 1)), ?_, ?_, ?_, ?_, ?_, ?_, ⟨tn, tk, ks, _, rfl, rfl⟩, fun w3 W => Wn.knot W.self fun z mz => ?_⟩
      · rw [ekn] at hcm ⊢
        have ek2 : Ff [some ⟨k.enc, .sh⟩, some ⟨Tr.enc (.foot nm), .sh⟩, some ⟨.int (cell / 6), .sh⟩] = .ok (.sh k'.enc) [none, none, none] := ek'
        simp [m_law_footed, okl, tn2, hcm, q1, q2, resO_mod, hj, ej, ei, ek2, c3, ct, cf, z1, z2, z2', s3]
        simp [Tr.enc, encL_map]
      · simp only [Tr.ok, Bool.and_eq_true, decide_eq_true_eq]
        have hlen : (ks.take i ++ k' :: ks.drop (i + 1)).length = ks.length := by conv => rhs; rw [sp]
                                                                                  simp
        refine ⟨o1, o2, by omega, by omega, okL_of fun t mt => ?_⟩
        rcases List.mem_append.mp mt with mt | mt
        · exact okL_mem o5 t (List.mem_of_mem_take mt)
        · rcases List.mem_cons.mp mt with rfl | mt
          · exact fk.ok
          · exact okL_mem o5 t (List.mem_of_mem_drop mt)
      · rw [Tr.ht, Tr.ht]
        have := htL_of (ts := ks.take i ++ k' :: ks.drop (i + 1)) (n := Tr.htL ks) fun t mt => by
          rcases List.mem_append.mp mt with mt | mt
          · exact ht_mem (List.mem_of_mem_take mt)
          · rcases List.mem_cons.mp mt with rfl | mt
            · exact Nat.le_trans fk.ht hkh
            · exact ht_mem (List.mem_of_mem_drop mt)
        omega
      · rw [feet_knot, List.flatMap_append, List.flatMap_cons, fk.feet]
        have h1 : (ks.take i).flatMap Tr.feet = [] := List.flatMap_eq_nil_iff.mpr fun t mt => flat_feet_nil ft (List.mem_of_mem_take mt)
        have h2 : (ks.drop (i + 1)).flatMap Tr.feet = [] := List.flatMap_eq_nil_iff.mpr fun t mt => flat_feet_nil ft (List.mem_of_mem_drop mt)
        rw [h1, h2]; rfl
      · rw [pieces_knot, pieces_knot]
        conv => rhs; rw [sp]
        simp only [List.flatMap_append, List.flatMap_cons, List.length_append, fk.sz]
        omega
      · rw [signs_knot, signs_knot]
        conv => rhs; rw [sp]
        simp only [List.flatMap_append, List.flatMap_cons, fk.signs]
      · rcases List.mem_append.mp mz with mz | mz
        · exact W.kid (List.mem_of_mem_take mz)
        · rcases List.mem_cons.mp mz with rfl | mz
          · exact fk.wn w3 (W.kid mk)
          · exact W.kid (List.mem_of_mem_drop mz)
    · have p0 : (0 : Int) < (ks.length : Int) + 1 := by omega
      have hm0 := Int.emod_nonneg (cell / 2) (show (ks.length : Int) + 1 ≠ 0 by omega)
      have hm1 := Int.emod_lt_of_pos (cell / 2) p0
      obtain ⟨i, hi⟩ : ∃ i : Nat, cell / 2 % ((ks.length : Int) + 1) = i := ⟨(cell / 2 % ((ks.length : Int) + 1)).toNat, by omega⟩
      have hil : i ≤ ks.length := by omega
      have ct : cutD (ks.map Tr.enc) none (some (i : Int)) = (ks.take i).map Tr.enc := by rw [cutD_to, List.map_take]
      have cf : cutD (ks.map Tr.enc) (some (i : Int)) none = (ks.drop i).map Tr.enc := by rw [cutD_from, List.map_drop]
      have z1 : min i ks.length + 1 ≤ sizeLine := fits (by omega)
      have z2 : min i ks.length + 1 + (ks.length - i) ≤ sizeLine := fits (by omega)
      have z2' : min i ks.length + (ks.length - i + 1) ≤ sizeLine := fits (by omega)
      have hlen : (ks.take i ++ Tr.foot nm :: ks.drop i).length = ks.length + 1 := by simp; omega
      refine ⟨.knot tn tk (ks.take i ++ .foot nm :: ks.drop i), ?_, ?_, ?_, ?_, ?_, ?_, ⟨tn, tk, ks, _, rfl, rfl⟩, fun w3 W => Wn.knot W.self fun z mz => ?_⟩
      · rw [ekn] at hcm ⊢
        by_cases qa : 0 < kl.length
        · have qb : ¬ cell % 2 = 1 := fun e => q ⟨qa, e⟩
          simp [m_law_footed, okl, tn2, hcm, qa, qb, resO_mod p0, hi, c3, ct, cf, z1, z2, z2', s3]
          simp [Tr.enc, encL_map]
        · simp [m_law_footed, okl, tn2, hcm, qa, resO_mod p0, hi, c3, ct, cf, z1, z2, z2', s3]
          simp [Tr.enc, encL_map]
      · simp only [Tr.ok, Bool.and_eq_true, decide_eq_true_eq]
        refine ⟨o1, o2, by omega, by omega, okL_of fun t mt => ?_⟩
        rcases List.mem_append.mp mt with mt | mt
        · exact okL_mem o5 t (List.mem_of_mem_take mt)
        · rcases List.mem_cons.mp mt with rfl | mt
          · exact onm
          · exact okL_mem o5 t (List.mem_of_mem_drop mt)
      · rw [Tr.ht, Tr.ht]
        have := htL_of (ts := ks.take i ++ Tr.foot nm :: ks.drop i) (n := Tr.htL ks) fun t mt => by
          rcases List.mem_append.mp mt with mt | mt
          · exact ht_mem (List.mem_of_mem_take mt)
          · rcases List.mem_cons.mp mt with rfl | mt
            · simp [Tr.ht]
            · exact ht_mem (List.mem_of_mem_drop mt)
        omega
      · rw [feet_knot, List.flatMap_append, List.flatMap_cons]
        have h1 : (ks.take i).flatMap Tr.feet = [] := List.flatMap_eq_nil_iff.mpr fun t mt => flat_feet_nil ft (List.mem_of_mem_take mt)
        have h2 : (ks.drop i).flatMap Tr.feet = [] := List.flatMap_eq_nil_iff.mpr fun t mt => flat_feet_nil ft (List.mem_of_mem_drop mt)
        rw [h1, h2]; rfl
      · rw [pieces_knot, pieces_knot]
        conv => rhs; rw [← List.take_append_drop i ks]
        simp only [List.flatMap_append, List.flatMap_cons, List.length_append]
        rw [show (Tr.foot nm).pieces = [.foot nm] from rfl, List.length_singleton]
        omega
      · rw [signs_knot, signs_knot]
        conv => rhs; rw [← List.take_append_drop i ks]
        simp only [List.flatMap_append, List.flatMap_cons]
        rfl
      · rcases List.mem_append.mp mz with mz | mz
        · exact W.kid (List.mem_of_mem_take mz)
        · rcases List.mem_cons.mp mz with rfl | mz
          · exact Wn.one rfl w3
          · exact W.kid (List.mem_of_mem_drop mz)
  | _ => cases kn
/-- a start or a graft that is drawn -/
structure TreeOk (h : Nat) (t : Tr) : Prop where
  ok : t.ok = true
  kn : t.isKnot = true
  feet : t.feet.length ≤ 1
  ht : t.ht ≤ h
  sz : t.pieces.length ≤ 50
  s4 : t.pieces.length ≤ 40 + 2 * h
  sg : 1 ≤ t.signs.length
  wn : Wn t
def DrawnGen (n : Nat) (F : FF) : Prop := ∀ (ns : List Int) (a : Nat) (ex : Option Int), ∃ (t : Tr) (a' : Nat), F [some ⟨stD ns a ex, .io⟩, some ⟨.int n, .sh⟩] = .ok (.sh t.enc) [some ⟨stD ns a' ex, .io⟩, none] ∧ TreeOk (n + 1) t
theorem ins_mem {α : Type} {xs : List α} {i : Nat} {x y : α} (h : y ∈ xs.take i ++ [x] ++ xs.drop i) : y = x ∨ y ∈ xs := by
  simp only [List.mem_append, List.mem_cons, List.not_mem_nil, or_false] at h
  rcases h with (h | h) | h
  · exact .inr (List.mem_of_mem_take h)
  · exact .inl h
  · exact .inr (List.mem_of_mem_drop h)
theorem ins_perm {α : Type} (xs : List α) (i : Nat) (x : α) : (xs.take i ++ [x] ++ xs.drop i).Perm (x :: xs) := by
  rw [List.append_assoc, List.singleton_append]
  exact List.perm_middle.trans (by rw [List.take_append_drop])
theorem ins_len {α : Type} (xs : List α) (i : Nat) (x : α) : (xs.take i ++ [x] ++ xs.drop i).length = xs.length + 1 := (ins_perm xs i x).length_eq
theorem perm_flat {f : Tr → List Str} {xs ys : List Tr} (h : xs.Perm ys) : (xs.flatMap f).length = (ys.flatMap f).length := (h.flatMap_right f).length_eq
theorem law_drawn_ok {n : Nat} {Ff Fk Fc : FF} (hn : capN n ≤ 15) (hc : CellSp Fc) (hk : KidGen n Fk) (hf : FootedSp (n + 1) Ff) : DrawnGen n (fnF 7 2 (m_law_drawn Ff Fk Fc)) := fun ns a ex => by
  obtain ⟨c, a0, h1⟩ := hc ns a ex
  obtain ⟨tk, etk, otk, wkt⟩ := pick4 (P := fun d => ∃ tk : Option (Str × Bool), d = encTk tk ∧ okTk tk = true ∧ wtk tk = true) (a := .none) (b := .tuple [.str (Str.ofString "S1"), .bool false]) (d := .tuple [.str (Str.ofString "S2"), .bool false]) (f := .tuple [.str (Str.ofString "S1"), .bool true]) c ⟨none, rfl, rfl, rfl⟩ ⟨some (_, false), rfl, by decide +kernel, by decide +kernel⟩ ⟨some (_, false), rfl, by decide +kernel, by decide +kernel⟩ ⟨some (_, true), rfl, by decide +kernel, by decide +kernel⟩
  obtain ⟨sg, esg, osg, wsg⟩ := pick2 (P := fun d => ∃ z : Str, d = .str z ∧ signB z = true ∧ decide (z ∈ sg3) = true) (a := .str (Str.ofString "a")) (b := .str (Str.ofString "b")) (c / 4) ⟨_, rfl, by decide +kernel, by decide +kernel⟩ ⟨_, rfl, by decide +kernel, by decide +kernel⟩
  obtain ⟨nm, enm, onm, w72⟩ := n3 (c / 72)
  obtain ⟨fm, efm, ofm, w432⟩ := n3 (c / 432)
  obtain ⟨m, hm, hm2⟩ : ∃ m : Nat, c / 8 % 3 = m ∧ m ≤ 2 := ⟨(c / 8 % 3).toNat, by omega, by omega⟩
  obtain ⟨⟨ks, a'⟩, f1, g1, g2, g3⟩ := forL_by (S := List Tr × Nat) (g := gN 5) (b := m_law_drawn_b1 Ff Fk Fc) (fun p => [some ⟨stD ns p.2 ex, .io⟩, some ⟨.int n, .sh⟩, some ⟨.int c, .sh⟩, some ⟨encTk tk, .sh⟩, some ⟨.list (p.1.map Tr.enc), .ow⟩, none, none])
    (fun pre p => p.1.length = pre.length + 1 ∧ (∀ k ∈ p.1, KidOk n k) ∧ 1 ≤ (p.1.flatMap Tr.signs).length) (rgD 0 m) ([.sign sg], a0) ⟨rfl, by
      intro k mk
      simp at mk
      subst mk
      exact kid_leaf rfl osg rfl rfl wsg, by simp [Tr.signs, Tr.pieces, Tr.signN]⟩ (fun pre d post ⟨ks, a1⟩ hd ⟨q1, q2, q3⟩ => by
      obtain ⟨hkk, rfl⟩ := rgD_mid hd
      dsimp only at q1 q2 q3 ⊢
      obtain ⟨t, a2, e, ot⟩ := hk ns a1 ex n (Nat.le_refl _)
      have p0 : (0 : Int) < (ks.length : Int) + 1 := by omega
      have hm0 := Int.emod_nonneg (c / 24) (show (ks.length : Int) + 1 ≠ 0 by omega)
      have hm1 := Int.emod_lt_of_pos (c / 24) p0
      obtain ⟨i, hi⟩ : ∃ i : Nat, c / 24 % ((ks.length : Int) + 1) = i := ⟨(c / 24 % ((ks.length : Int) + 1)).toNat, by omega⟩
      have oki : okI (i : Int) = true := okI_nat (by omega)
      have hz : ks.length < sizeLine := fitsl (by omega)
      refine ⟨(ks.take i ++ [t] ++ ks.drop i, a2), ?_, by rw [ins_len, q1]; simp, fun k mk => ?_, ?_⟩
      · simp [m_law_drawn_b1, resO_mod p0, hi, e, hz, oki]
      · rcases ins_mem mk with rfl | mk
        · exact ot
        · exact q2 k mk
      · have := perm_flat (f := Tr.signs) (ins_perm ks i t)
        dsimp only at this ⊢
        rw [this, List.flatMap_cons, List.length_append]
        omega)
  rw [rgD_len] at g1
  dsimp only at f1 g1 g2 g3
  have f1' : forL (gN 5) (m_law_drawn_b1 Ff Fk Fc) (rgD 0 m) [some ⟨stD ns a0 ex, .io⟩, some ⟨.int n, .sh⟩, some ⟨.int c, .sh⟩, some ⟨encTk tk, .sh⟩, some ⟨.list [.tuple [.str (Str.ofString "sign"), .str sg]], .ow⟩, none, none] = _ := f1
  have ok : okR (m : Int) = true := okR_nat (by omega)
  have okt : (Tr.knot nm tk ks).ok = true := by
    simp only [Tr.ok, Bool.and_eq_true, decide_eq_true_eq]
    exact ⟨onm, otk, by omega, by omega, okL_of fun t mt => (g2 t mt).ok⟩
  have hht : (Tr.knot nm tk ks).ht ≤ n + 1 := by
    have := htL_of (ts := ks) (n := n) fun t mt => (g2 t mt).ht
    rw [Tr.ht]; omega
  have hft : (Tr.knot nm tk ks).feet = [] := by
    rw [feet_knot, List.flatMap_eq_nil_iff]
    exact fun t mt => (g2 t mt).feet
  have hs4 : (Tr.knot nm tk ks).pieces.length + 1 ≤ 42 + 2 * n := by
    rw [pieces_knot]
    have h2 := flat_le (f := Tr.pieces) (n := capN n) ks fun t mt => (g2 t mt).sz
    have h3 : ks.length * capN n ≤ 3 * capN n := Nat.mul_le_mul_right _ (by omega)
    have h4 := capN_few hn
    omega
  have hsz : (Tr.knot nm tk ks).pieces.length ≤ 49 := by
    rw [pieces_knot]
    have h2 := flat_le (f := Tr.pieces) (n := capN n) ks fun t mt => (g2 t mt).sz
    have h3 : ks.length * capN n ≤ 3 * capN n := Nat.mul_le_mul_right _ (by omega)
    omega
  have hsg : 1 ≤ (Tr.knot nm tk ks).signs.length := by rw [signs_knot]; exact g3
  have wkn : Wn (.knot nm tk ks) := Wn.knot (by rw [w72, wkt]; rfl) fun t mt => (g2 t mt).wn
  have ee : Tr.enc (.knot nm tk ks) = .tuple [.str (Str.ofString "knot"), .str nm, encTk tk, .tuple (ks.map Tr.enc)] := by rw [Tr.enc, encL_map]
  by_cases q : c / 216 % 2 = 0
  · refine ⟨.knot nm tk ks, a', ?_, okt, rfl, by rw [hft]; simp, hht, by omega, by omega, hsg, wkn⟩
    rw [m_law_drawn_eq]
    simp [m_law_drawn, h1, etk, esg, hm, ok, f1', enm, q, ee]
  · obtain ⟨t', e', fk⟩ := hf (.knot nm tk ks) fm (c / 1296) okt hht hft (Nar.knot (by omega) fun t mt => (g2 t mt).nar) rfl ofm
    obtain ⟨_, _, _, ks', _, et'⟩ := fk.kn
    refine ⟨t', a', ?_, fk.ok, by rw [et']; rfl, by rw [fk.feet]; simp, Nat.le_trans fk.ht hht, by rw [fk.sz]; omega, by rw [fk.sz]; omega, by rw [fk.signs]; exact hsg, fk.wn w432 wkn⟩
    rw [ee, Tr.enc] at e'
    rw [m_law_drawn_eq]
    simp [m_law_drawn, h1, etk, esg, hm, ok, f1', enm, q, efm, e']
def baseK : List Str := [Str.ofString "s", Str.ofString "g", Str.ofString "x0", Str.ofString "h1", Str.ofString "keytree", Str.ofString "graftofaone"]
def moreK : List Str := [Str.ofString "p", Str.ofString "qq", Str.ofString "r2", Str.ofString "tall", Str.ofString "u"]
theorem allK_nd : (baseK ++ moreK).Nodup := by decide +kernel
theorem allK_ok : ∀ k ∈ baseK ++ moreK, keyB k = true := by decide +kernel
/-- the six trees that stand in each book -/
structure Base (ts : List (Str × Tr)) : Prop where
  st : ∀ n ∈ [Str.ofString "S", Str.ofString "S1", Str.ofString "S2"], ∃ p ∈ ts, p.1 ∈ baseK ∧ p.2.isGraft = false ∧ p.2.name = n
  gr : ∀ n ∈ [Str.ofString "S", Str.ofString "S1", Str.ofString "S2"], ∃ p ∈ ts, p.1 ∈ baseK ∧ p.2.isGraft = true ∧ p.2.name = n
/-- nothing can be put in -/
def noW : Tr → Bool
  | .hole _ => false
  | .knot _ (some _) _ => false
  | _ => true
def NoW (t : Tr) : Prop := ∀ u ∈ t.pieces, noW u = true
/-- .. and the tree is low -/
structure NoWh (m : Nat) (t : Tr) : Prop where
  w : NoW t
  h : t.ht ≤ 3
  h1 : t.ht ≤ max 1 (m - 2)
structure BookOk (h : Nat) (b : Bk) : Prop where
  top : nameB b.top = true
  len : b.trees.length ≤ 11
  pos : 6 ≤ b.trees.length
  nd : (b.trees.map (·.1)).Nodup
  keys : ∀ p ∈ b.trees, p.1 ∈ baseK ++ moreK
  trees : ∀ p ∈ b.trees, TreeOk h p.2
  base : Base b.trees
  bs : ∀ p ∈ b.trees, p.1 ∈ baseK → NoWh h p.2
def BookGen (n : Nat) (F : FF) : Prop := ∀ (ns : List Int) (a : Nat) (ex : Option Int) (m : Nat), m ≤ 5 → ∃ (b : Bk) (a' : Nat), F [some ⟨stD ns a ex, .io⟩, some ⟨.int m, .sh⟩, some ⟨.int n, .sh⟩] = .ok (.sh b.enc) [some ⟨stD ns a' ex, .io⟩, none, none] ∧ BookOk (n + 1) b ∧ b.trees.length = 6 + m ∧ b.top ∈ nm3
theorem base_start (h : Nat) {n s : Str} (hn : nameB n = true) (hs : signB s = true) (h3 : n ∈ nm3) (s3 : s ∈ sg3) : TreeOk (h + 1) (.knot n none [.sign s]) :=
  ⟨by simp [Tr.ok, Tr.okL, okTk, hn, hs], rfl, by simp [Tr.feet, Tr.pieces, Tr.piecesL, Tr.footN, List.filterMap_cons], by simp [Tr.ht, Tr.htL], by simp [Tr.pieces, Tr.piecesL], by simp [Tr.pieces, Tr.piecesL] <;> omega, by simp [Tr.signs, Tr.pieces, Tr.piecesL, Tr.signN, List.filterMap_cons], by simp [Wn, Tr.pieces, Tr.piecesL, WnB, wtk, h3, s3]⟩
theorem base_graft (h : Nat) {n s m : Str} (hn : nameB n = true) (hs : signB s = true) (hm : nameB m = true) (h3 : n ∈ nm3) (s3 : s ∈ sg3) (m3 : m ∈ nm3) : TreeOk (h + 1) (.knot n none [.sign s, .foot m]) ∧ TreeOk (h + 1) (.knot n none [.foot m, .sign s]) :=
  ⟨⟨by simp [Tr.ok, Tr.okL, okTk, hn, hs, hm], rfl, by simp [Tr.feet, Tr.pieces, Tr.piecesL, Tr.footN, List.filterMap_cons], by simp [Tr.ht, Tr.htL], by simp [Tr.pieces, Tr.piecesL], by simp [Tr.pieces, Tr.piecesL] <;> omega, by simp [Tr.signs, Tr.pieces, Tr.piecesL, Tr.signN, List.filterMap_cons], by simp [Wn, Tr.pieces, Tr.piecesL, WnB, wtk, h3, s3, m3]⟩,
   ⟨by simp [Tr.ok, Tr.okL, okTk, hn, hs, hm], rfl, by simp [Tr.feet, Tr.pieces, Tr.piecesL, Tr.footN, List.filterMap_cons], by simp [Tr.ht, Tr.htL], by simp [Tr.pieces, Tr.piecesL], by simp [Tr.pieces, Tr.piecesL] <;> omega, by simp [Tr.signs, Tr.pieces, Tr.piecesL, Tr.signN, List.filterMap_cons], by simp [Wn, Tr.pieces, Tr.piecesL, WnB, wtk, h3, s3, m3]⟩⟩
theorem encKT_eq (k n : Str) (ks : List Tr) : encKT (k, .knot n none ks) = .tuple [.str k, .tuple [.str (Str.ofString "knot"), .str n, .none, .tuple (ks.map Tr.enc)]] := by
  rw [encKT, Tr.enc, encL_map]; rfl
theorem law_book_ok {n : Nat} {Fd Fc : FF} (hc : CellSp Fc) (hd : DrawnGen n Fd) : BookGen n (fnF 10 3 (m_law_book Fd Fc)) := fun ns a ex m hm => by
  obtain ⟨c, a0, h1⟩ := hc ns a ex
  -- the six
  have gk : ∀ (x : Int) (nm : Str), nameB nm = true → nm ∈ nm3 → ∃ ks : List Tr, pick [PyData.tuple [.tuple [.str (Str.ofString "sign"), .str (Str.ofString "b")], .tuple [.str (Str.ofString "foot"), .str nm]], .tuple [.tuple [.str (Str.ofString "foot"), .str nm], .tuple [.str (Str.ofString "sign"), .str (Str.ofString "a")]]] (x % 2) = .tuple (ks.map Tr.enc) ∧ TreeOk (n + 1) (.knot nm none ks) ∧ ∃ s, Tr.knot nm none ks = .knot nm none [.sign s, .foot nm] ∨ Tr.knot nm none ks = .knot nm none [.foot nm, .sign s] := fun x nm onm n3' =>
    pick2 (P := fun d => ∃ ks : List Tr, d = .tuple (ks.map Tr.enc) ∧ TreeOk (n + 1) (.knot nm none ks) ∧ ∃ s, Tr.knot nm none ks = .knot nm none [.sign s, .foot nm] ∨ Tr.knot nm none ks = .knot nm none [.foot nm, .sign s]) x
      ⟨[.sign (Str.ofString "b"), .foot nm], rfl, (base_graft n onm (by decide +kernel) onm n3' (by decide +kernel) n3').1, _, .inl rfl⟩ ⟨[.foot nm, .sign (Str.ofString "a")], rfl, (base_graft n onm (by decide +kernel) onm n3' (by decide +kernel) n3').2, _, .inr rfl⟩
  obtain ⟨k0, e0, o0, b0⟩ := gk c (Str.ofString "S") (by decide +kernel) (by decide +kernel)
  obtain ⟨k1, e1, o1, b1⟩ := gk (c / 2) (Str.ofString "S1") (by decide +kernel) (by decide +kernel)
  obtain ⟨k2, e2, o2, b2⟩ := gk (c / 3) (Str.ofString "S2") (by decide +kernel) (by decide +kernel)
  let six : List (Str × Tr) := [(Str.ofString "s", .knot (Str.ofString "S") none [.sign (Str.ofString "a")]), (Str.ofString "g", .knot (Str.ofString "S") none k0), (Str.ofString "x0", .knot (Str.ofString "S1") none [.sign (Str.ofString "b")]), (Str.ofString "h1", .knot (Str.ofString "S1") none k1),
    (Str.ofString "keytree", .knot (Str.ofString "S2") none [.sign (Str.ofString "a")]), (Str.ofString "graftofaone", .knot (Str.ofString "S2") none k2)]
  have hsix : six = [(Str.ofString "s", .knot (Str.ofString "S") none [.sign (Str.ofString "a")]), (Str.ofString "g", .knot (Str.ofString "S") none k0), (Str.ofString "x0", .knot (Str.ofString "S1") none [.sign (Str.ofString "b")]), (Str.ofString "h1", .knot (Str.ofString "S1") none k1),
    (Str.ofString "keytree", .knot (Str.ofString "S2") none [.sign (Str.ofString "a")]), (Str.ofString "graftofaone", .knot (Str.ofString "S2") none k2)] := rfl
  have z : ∀ k : Nat, k ≤ 5 → k < sizeLine := fun k h => fitsl (by omega)
  have f1 : forL (gN 5) (m_law_book_b2 Fd Fc) (rgD 0 3) [some ⟨stD ns a0 ex, .io⟩, some ⟨.int m, .sh⟩, some ⟨.int n, .sh⟩, some ⟨.int c, .sh⟩, some ⟨.list [], .ow⟩, none, none, none, none, none] = .nx [some ⟨stD ns a0 ex, .io⟩, some ⟨.int m, .sh⟩, some ⟨.int n, .sh⟩, some ⟨.int c, .sh⟩, some ⟨.list (six.map encKT), .ow⟩, none, none, none, none, none] := by
    rw [show rgD 0 3 = [.int 0, .int 1, .int 2] from rfl]
    rw [hsix]
    simp only [List.map_cons, List.map_nil, encKT_eq]
    simp [forL_cons, m_law_book_b2, z, e0, e1, e2, Tr.enc]
  have six_len : six.length = 6 := rfl
  have six_keys : six.map (·.1) = baseK := rfl
  have six_ok : ∀ p ∈ six, TreeOk (n + 1) p.2 := by
    intro p mp
    rw [hsix] at mp
    simp only [List.mem_cons, List.not_mem_nil, or_false] at mp
    rcases mp with rfl | rfl | rfl | rfl | rfl | rfl
    · exact base_start n (by decide +kernel) (by decide +kernel) (by decide +kernel) (by decide +kernel)
    · exact o0
    · exact base_start n (by decide +kernel) (by decide +kernel) (by decide +kernel) (by decide +kernel)
    · exact o1
    · exact base_start n (by decide +kernel) (by decide +kernel) (by decide +kernel) (by decide +kernel)
    · exact o2
  have bst : ∀ (nm s : Str), (Tr.knot nm none [.sign s]).isGraft = false ∧ (Tr.knot nm none [.sign s]).name = nm := fun nm s => by simp [Tr.isGraft, Tr.name, Tr.word, Tr.feet, Tr.pieces, Tr.piecesL, Tr.footN, List.filterMap_cons]
  have bgr : ∀ {nm : Str} {t : Tr}, (∃ s, t = .knot nm none [.sign s, .foot nm] ∨ t = .knot nm none [.foot nm, .sign s]) → t.isGraft = true ∧ t.name = nm := by
    rintro nm t ⟨s, rfl | rfl⟩ <;> simp [Tr.isGraft, Tr.name, Tr.word, Tr.feet, Tr.pieces, Tr.piecesL, Tr.footN, List.filterMap_cons]
  have six_base : Base six := by
    refine ⟨fun nm mn => ?_, fun nm mn => ?_⟩
    · simp only [List.mem_cons, List.not_mem_nil, or_false] at mn
      rcases mn with rfl | rfl | rfl
      · exact ⟨_, by rw [hsix]; exact .head _, by decide +kernel, bst _ _⟩
      · exact ⟨_, by rw [hsix]; exact .tail _ (.tail _ (.head _)), by decide +kernel, bst _ _⟩
      · exact ⟨_, by rw [hsix]; exact .tail _ (.tail _ (.tail _ (.tail _ (.head _)))), by decide +kernel, bst _ _⟩
    · simp only [List.mem_cons, List.not_mem_nil, or_false] at mn
      rcases mn with rfl | rfl | rfl
      · exact ⟨_, by rw [hsix]; exact .tail _ (.head _), by dsimp only; decide +kernel, bgr b0⟩
      · exact ⟨_, by rw [hsix]; exact .tail _ (.tail _ (.tail _ (.head _))), by dsimp only; decide +kernel, bgr b1⟩
      · exact ⟨_, by rw [hsix]; exact .tail _ (.tail _ (.tail _ (.tail _ (.tail _ (.head _))))), by dsimp only; decide +kernel, bgr b2⟩
  have six_bs : ∀ p ∈ six, NoWh (n + 1) p.2 := by
    have gs : ∀ nm s : Str, NoWh (n + 1) (.knot nm none [.sign s]) := fun nm s => ⟨by simp [NoW, Tr.pieces, Tr.piecesL, noW], by simp [Tr.ht, Tr.htL], by simp [Tr.ht, Tr.htL]; omega⟩
    have gb : ∀ {nm : Str} {t : Tr}, (∃ s, t = .knot nm none [.sign s, .foot nm] ∨ t = .knot nm none [.foot nm, .sign s]) → NoWh (n + 1) t := by
      rintro nm t ⟨s, rfl | rfl⟩ <;> exact ⟨by simp [NoW, Tr.pieces, Tr.piecesL, noW], by simp [Tr.ht, Tr.htL], by simp [Tr.ht, Tr.htL]; omega⟩
    intro p mp
    rw [hsix] at mp
    simp only [List.mem_cons, List.not_mem_nil, or_false] at mp
    rcases mp with rfl | rfl | rfl | rfl | rfl | rfl
    · exact gs _ _
    · exact gb b0
    · exact gs _ _
    · exact gb b1
    · exact gs _ _
    · exact gb b2
  clear_value six
  obtain ⟨⟨ts, a'⟩, f2, g1, g2, g3, g4, g5⟩ := forL_by (S := List (Str × Tr) × Nat) (g := gN 5) (b := m_law_book_b1 Fd Fc) (fun p => [some ⟨stD ns p.2 ex, .io⟩, some ⟨.int m, .sh⟩, some ⟨.int n, .sh⟩, some ⟨.int c, .sh⟩, some ⟨.list (p.1.map encKT), .ow⟩, none, none, none, none, none])
    (fun pre p => p.1.length = 6 + pre.length ∧ (p.1.map (·.1)).Perm ((moreK.take pre.length).reverse ++ baseK) ∧ (∀ q ∈ p.1, TreeOk (n + 1) q.2) ∧ (∀ q ∈ six, q ∈ p.1) ∧ ∀ q ∈ p.1, q.1 ∈ baseK → NoWh (n + 1) q.2) (rgD 0 m) (six, a0) ⟨by simpa using six_len, by simp [six_keys], six_ok, fun _ h => h, fun q mq _ => six_bs q mq⟩ (fun pre d post ⟨ts, a1⟩ hd' ⟨q1, q2, q3, q4, q5⟩ => by
      obtain ⟨hkk, rfl⟩ := rgD_mid hd'
      generalize hkp : pre.length = k at hkk q1 q2
      rw [show (0 : Int) + (k : Int) = k by omega]
      dsimp only at q1 q2 q3 q4 q5 ⊢
      obtain ⟨t, a2, e, ot⟩ := hd ns a1 ex
      have hk5 : k < moreK.length := by have : moreK.length = 5 := rfl; omega
      have ek : L2.atI [PyData.str (Str.ofString "p"), .str (Str.ofString "qq"), .str (Str.ofString "r2"), .str (Str.ofString "tall"), .str (Str.ofString "u")] (k : Int) = some (.str moreK[k]) := by
        have := atI_nat (xs := moreK.map PyData.str) (j := k) (v := .str (moreK[k])) (by simp [hk5])
        exact this
      have p1 : (0 : Int) < (k : Int) + 7 := by omega
      have p2 : (k : Int) + 7 < 1073741824 := by omega
      have p0 : (0 : Int) < (ts.length : Int) + 1 := by omega
      have hm0 := Int.emod_nonneg (c / ((k : Int) + 7)) (show (ts.length : Int) + 1 ≠ 0 by omega)
      have hm1 := Int.emod_lt_of_pos (c / ((k : Int) + 7)) p0
      obtain ⟨i, hi⟩ : ∃ i : Nat, c / ((k : Int) + 7) % ((ts.length : Int) + 1) = i := ⟨(c / ((k : Int) + 7) % ((ts.length : Int) + 1)).toNat, by omega⟩
      have oki : okI (i : Int) = true := okI_nat (by omega)
      have hz : ts.length < sizeLine := fitsl (by omega)
      refine ⟨(ts.take i ++ [(moreK[k], t)] ++ ts.drop i, a2), ?_, by rw [ins_len, q1, List.length_append, List.length_singleton, hkp]; omega, ?_, fun q mq => ?_, fun q mq => ?_, fun q mq bq => ?_⟩
      · simp [m_law_book_b1, ek, resO_div p1 p2, resO_mod p0, hi, e, hz, oki, encKT]
      · have h3 := (ins_perm ts i (moreK[k], t)).map (·.1)
        refine h3.trans ?_
        rw [List.map_cons, List.length_append, List.length_singleton, hkp]
        have h4 : moreK.take (k + 1) = moreK.take k ++ [moreK[k]] := by rw [List.take_succ, List.getElem?_eq_getElem hk5]; rfl
        rw [h4, List.reverse_append]
        exact q2.cons _
      · rcases ins_mem mq with rfl | mq
        · exact ot
        · exact q3 q mq
      · have := (ins_perm ts i (moreK[k], t)).symm.mem_iff (a := q)
        exact this.mp (by simp [q4 q mq])
      · rcases ins_mem mq with rfl | mq
        · exact absurd (List.getElem_mem hk5) fun h => by
            have := (List.nodup_append.mp allK_nd).2.2 _ bq _ h
            exact this rfl
        · exact q5 q mq bq)
  rw [rgD_len] at g1 g2
  dsimp only at f2 g1 g2 g3 g4 g5
  obtain ⟨top, etop, otop, top3⟩ := pick3 (P := fun d => ∃ z : Str, d = .str z ∧ nameB z = true ∧ z ∈ nm3) (a := .str (Str.ofString "S")) (b := .str (Str.ofString "S")) (d := .str (Str.ofString "S1")) (c / 3) ⟨_, rfl, by decide +kernel, by decide +kernel⟩ ⟨_, rfl, by decide +kernel, by decide +kernel⟩ ⟨_, rfl, by decide +kernel, by decide +kernel⟩
  have hsub : ∀ k ∈ ts.map (·.1), k ∈ baseK ++ moreK := fun k mk => by
    have := g2.mem_iff.mp mk
    simp only [List.mem_append, List.mem_reverse] at this
    rcases this with h | h
    · exact List.mem_append_right _ (List.mem_of_mem_take h)
    · exact List.mem_append_left _ h
  refine ⟨⟨top, ts⟩, a', ?_, ⟨otop, by dsimp only; omega, by dsimp only; omega, ?_, fun p mp => hsub p.1 (List.mem_map_of_mem mp), g3, ?_, g5⟩, g1, top3⟩
  · rw [m_law_book_eq]
    have okm : okR (m : Int) = true := okR_nat (by omega)
    have ok3 : okR 3 = true := rfl
    have t3 : (3 : Int).toNat = 3 := rfl
    simp [m_law_book, h1, ok3, f1, okm, f2, etop, Bk.enc]
  · refine (g2.nodup_iff).mpr ?_
    have h5 : ((moreK.take m).reverse ++ baseK).Perm (baseK ++ moreK.take m) := List.perm_append_comm.trans ((List.Perm.refl _).append (List.reverse_perm _))
    refine (h5.nodup_iff).mpr ?_
    exact List.Nodup.sublist (List.Sublist.append (List.Sublist.refl _) (List.take_sublist _ _)) allK_nd
  · refine ⟨fun nm mn => ?_, fun nm mn => ?_⟩
    · obtain ⟨p, mp, r⟩ := six_base.st nm mn
      exact ⟨p, g4 p mp, r⟩
    · obtain ⟨p, mp, r⟩ := six_base.gr nm mn
      exact ⟨p, g4 p mp, r⟩
end GM
namespace GM
open PySem L2 GS
/-- piece_at(tree, place); slots 0:tree 1:place 2:found 3:number 4:kids -/
def m_piece_at_2_b1 (F_NoPlace F_kids_of : FF) : SF := (sKill [3, 4] (sSeq (sSet 4 (eCall 1 none F_kids_of (aCons (eMv 2) aNil))) (sSeq (sIf (eNot (eB (eChain (ltI fun i j => decide (i ≤ j)) (ltI fun i j => decide (i < j)) (eC (.int 0)) (eVb 3) (eCB (un1 lenD) (aCons (eVb 4) aNil))))) (sRaise F_NoPlace "NoPlace" ["place"] (aCons (eMv 1) aNil)) sNil) (sSet 2 (eBin ixA (eVb 4) (eVb 3))))))
def m_piece_at_2 (F_NoPlace F_kids_of : FF) : SF := (sSeq (sSet 2 (eMv 0)) (sSeq (sFor (iSq (eMv 1)) (gN 3) (m_piece_at_2_b1 F_NoPlace F_kids_of)) (sEnd (sRet (eRv 2)))))
theorem m_piece_at_2_eq (F_NoPlace F_kids_of : FF) (ρ : Rho) : fnF 5 2 (m_piece_at_2 F_NoPlace F_kids_of) ρ = finR 2 (m_piece_at_2 F_NoPlace F_kids_of (ρ ++ [none, none, none])) := fnF_eq 5 2 _
end GM
namespace GM
open PySem L2 GS
theorem map_int_mid {p : List Nat} {pre post : List D} {d : D} (hd : (p.map fun n : Nat => PyData.int (n : Int)) = pre ++ d :: post) : ∃ k, p[pre.length]? = some k ∧ d = .int (k : Int) := by
  have h2 : (p.map fun n : Nat => PyData.int (n : Int))[pre.length]? = some d := by rw [hd, List.getElem?_append_right (Nat.le_refl _), Nat.sub_self]; rfl
  rw [List.getElem?_map] at h2
  obtain ⟨k, h3, h4⟩ := Option.map_eq_some_iff.mp h2
  exact ⟨k, h3, h4.symm⟩
theorem piece_at_2_ok {Fx Fk : FF} (hk : KidsSp Fk) : PieceSp (fnF 5 2 (m_piece_at_2 Fx Fk)) := fun t p u hu => by
  rw [m_piece_at_2_eq]
  obtain ⟨v, hf, hv⟩ := forL_by (S := Tr) (g := gN 3) (b := m_piece_at_2_b1 Fx Fk) (fun v => [some ⟨t.enc, .sh⟩, some ⟨encP p, .sh⟩, some ⟨v.enc, .sh⟩, none, none])
    (fun pre v => t.at (p.take pre.length) = some v) (p.map fun n : Nat => PyData.int (n : Int)) t (by simp [Tr.at]) (fun pre d post v hd hv => by
      obtain ⟨k, hk1, rfl⟩ := map_int_mid hd
      have htk : p.take (pre.length + 1) = p.take pre.length ++ [k] := by rw [List.take_succ, hk1]; rfl
      obtain ⟨w, hw⟩ := at_pre (t := t) (p := p.take (pre.length + 1)) (q := p.drop (pre.length + 1)) (u := u) (by rw [List.take_append_drop]; exact hu)
      have hw2 := hw
      rw [htk, at_snoc, hv] at hw2
      simp only [Option.bind_some] at hw2
      have hlt : k < v.kids.length := (List.getElem?_eq_some_iff.mp hw2).1
      have ea : L2.atI (v.kids.map Tr.enc) (k : Int) = some w.enc := by
        rw [atI_nat (xs := v.kids.map Tr.enc) (j := k) (v := w.enc) (by rw [List.getElem?_map, hw2]; rfl)]
      refine ⟨w, ?_, by rw [List.length_append, List.length_singleton]; exact hw⟩
      simp [m_piece_at_2_b1, hk v, hlt, ea])
  rw [List.length_map, List.take_length, hu] at hv
  cases hv
  have hf' : forL (gN 3) (m_piece_at_2_b1 Fx Fk) (p.map fun n : Nat => PyData.int (n : Int)) [some ⟨t.enc, .sh⟩, some ⟨encP p, .sh⟩, some ⟨t.enc, .sh⟩, none, none] = .nx [some ⟨t.enc, .sh⟩, some ⟨encP p, .sh⟩, some ⟨u.enc, .sh⟩, none, none] := hf
  simp only [encP] at hf' ⊢
  simp [m_piece_at_2, hf']
def Tr.deep (t : Tr) : Bool := t.places.any fun p => decide (12 ≤ p.length)
def am (t : Tr) : Option Str := if t.isKnot = false then some (Str.ofString "knot") else if 1 < t.feet.length then some (Str.ofString "feet") else if t.signs = [] then some (Str.ofString "sign")
  else if 60 < t.places.length ∨ t.deep = true then some (Str.ofString "great") else none
end GM
namespace GM
open PySem L2 GS
end GM
namespace GM
open PySem L2 GS
section
variable {n : Nat} {Fm Fr Fn Fx : FF}
end
def rowW (p : Str × Tr) : Str := p.1 ++ Str.ofString " : " ++ lineT p.2.words
def Bk.rows (b : Bk) : List Str := (Str.ofString "top " ++ b.top) :: b.trees.map rowW
structure BookW (n : Nat) (b : Bk) : Prop where
  len : b.trees.length ≤ 1000
  top : b.top.length ≤ 1000
  all : ∀ p ∈ b.trees, p.2.ok = true ∧ p.2.ht ≤ n ∧ p.2.pieces.length ≤ 5000 ∧ p.1.length ≤ 1000
end GM
namespace GM
open PySem L2 GS
/-- a book that is well -/
structure BkW (h : Nat) (b : Bk) : Prop where
  top : nameB b.top = true
  pos : 1 ≤ b.trees.length
  len : b.trees.length ≤ 400
  nd : (b.trees.map (·.1)).Nodup
  keys : ∀ p ∈ b.trees, keyB p.1 = true
  trees : ∀ p ∈ b.trees, TreeOk h p.2
theorem BookOk.w {h : Nat} {b : Bk} (B : BookOk h b) : BkW h b := ⟨B.top, by have := B.pos; omega, by have := B.len; omega, B.nd, fun p m => allK_ok _ (B.keys p m), B.trees⟩
theorem am_none {h : Nat} {t : Tr} (T : TreeOk h t) (hh : h ≤ 11) : am t = none := by
  unfold am
  have h1 := T.feet
  have h2 : t.signs ≠ [] := fun e => by have := T.sg; rw [e] at this; simp at this
  have h3 : t.deep = false := by
    unfold Tr.deep
    rw [Bool.eq_false_iff]
    intro q
    obtain ⟨p, mp, hp⟩ := List.any_eq_true.mp q
    have := place_len t p mp
    have := T.ht
    rw [decide_eq_true_eq] at hp
    omega
  rw [if_neg (by rw [T.kn]; simp), if_neg (by omega), if_neg h2, if_neg (by rw [places_len, h3]; have := T.sz; simp; omega)]
theorem BkW.bw {h : Nat} {b : Bk} (B : BkW h b) : BookW h b := ⟨by have := B.len; omega, by have := nameB_len B.top; omega, fun p m => ⟨(B.trees p m).ok, (B.trees p m).ht, by have := (B.trees p m).sz; omega, by have := keyB_len (B.keys p m); omega⟩⟩
theorem BkW.known {h : Nat} {b : Bk} (B : BkW h b) (hh : h ≤ 11) : (nameB b.top && decide (1 ≤ b.trees.length) && decide (b.trees.length ≤ 400) && (b.trees.all fun p => keyB p.1 && (am p.2).isNone) && decide (b.trees.map (·.1)).Nodup) = true := by
  have h1 : (b.trees.all fun p => keyB p.1 && (am p.2).isNone) = true := List.all_eq_true.mpr fun p m => by rw [B.keys p m, am_none (B.trees p m) hh]; rfl
  simp [B.top, B.pos, B.len, B.nd, h1]
end GM
namespace GM
open PySem L2 GS
end GM
namespace GM
open PySem L2 GS
end GM
namespace GM
open PySem L2 GS
/-- _law_all(tree, place); slots 0:tree 1:place 2:found 3:k -/
def m_law_all_2_b1 (F__law_all : FF) : SF := (sKill [3] (sExt 2 (eCall 2 none F__law_all (aCons (eBin ixA (eBin ixA (eVb 0) (eC (.int 3))) (eVb 3)) (aCons (eBin addD (eVb 1) (eTup (aCons (eMv 3) aNil))) aNil)))))
def m_law_all_2 (F__law_all : FF) : SF := (sSeq (sSet 2 (eLst (aCons (eTup (aCons (eMv 1) (aCons (eMv 0) aNil))) aNil))) (sSeq (sKill [3] (sIf (eB (eBin (eqB false) (eBin ixA (eVb 0) (eC (.int 0))) (eC (.str (Str.ofString "knot"))))) (sFor (iR1 (eCB (un1 lenD) (aCons (eBin ixA (eVb 0) (eC (.int 3))) aNil))) (gN 3) (m_law_all_2_b1 F__law_all)) sNil)) (sEnd (sRet (eRv 2)))))
theorem m_law_all_2_eq (F__law_all : FF) (ρ : Rho) : fnF 4 2 (m_law_all_2 F__law_all) ρ = finR 2 (m_law_all_2 F__law_all (ρ ++ [none, none])) := fnF_eq 4 2 _
end GM
namespace GM
open PySem L2 GS
section
variable {n : Nat} {Fn Fr Fs : FF}
end
end GM
namespace GM
open PySem L2 GS
mutual
def Tr.pps (q : List Nat) : Tr → List (List Nat × Tr)
  | .knot n tk ks => (q, .knot n tk ks) :: Tr.ppsL q 0 ks
  | .sign s => [(q, .sign s)]
  | .void => [(q, .void)]
  | .hole s => [(q, .hole s)]
  | .foot s => [(q, .foot s)]
def Tr.ppsL (q : List Nat) (k : Nat) : List Tr → List (List Nat × Tr)
  | [] => []
  | t :: ts => Tr.pps (q ++ [k]) t ++ Tr.ppsL q (k + 1) ts
end
theorem ppsL_snoc (t : Tr) (q : List Nat) : ∀ (k : Nat) (ts : List Tr), Tr.ppsL q k (ts ++ [t]) = Tr.ppsL q k ts ++ t.pps (q ++ [k + ts.length])
  | k, [] => by simp [Tr.ppsL]
  | k, u :: ts => by
    rw [List.cons_append, Tr.ppsL, Tr.ppsL, ppsL_snoc t q (k + 1) ts, List.append_assoc, List.length_cons, show k + 1 + ts.length = k + (ts.length + 1) by omega]
mutual
theorem pps_snd : ∀ (t : Tr) (q : List Nat), (t.pps q).map (·.2) = t.pieces
  | .knot n tk ks, q => by rw [Tr.pps, Tr.pieces, List.map_cons, ppsL_snd ks q 0]
  | .sign s, q => by rw [Tr.pps, Tr.pieces]; rfl; intros; simp_all
  | .void, q => by rw [Tr.pps, Tr.pieces]; rfl; intros; simp_all
  | .hole s, q => by rw [Tr.pps, Tr.pieces]; rfl; intros; simp_all
  | .foot s, q => by rw [Tr.pps, Tr.pieces]; rfl; intros; simp_all
theorem ppsL_snd : ∀ (ts : List Tr) (q : List Nat) (k : Nat), (Tr.ppsL q k ts).map (·.2) = Tr.piecesL ts
  | [], q, k => rfl
  | t :: ts, q, k => by rw [Tr.ppsL, Tr.piecesL, List.map_append, pps_snd t, ppsL_snd ts]
end
mutual
theorem pps_fst : ∀ (t : Tr) (q : List Nat), (t.pps q).map (·.1) = t.places.map (q ++ ·)
  | .knot n tk ks, q => by rw [Tr.pps, places_kids, List.map_cons, List.map_cons, ppsL_fst ks q 0]; simp [Tr.kids]
  | .sign s, q => by rw [Tr.pps, places_kids]; simp [Tr.kids, Tr.placesL]
  | .void, q => by rw [Tr.pps, places_kids]; simp [Tr.kids, Tr.placesL]
  | .hole s, q => by rw [Tr.pps, places_kids]; simp [Tr.kids, Tr.placesL]
  | .foot s, q => by rw [Tr.pps, places_kids]; simp [Tr.kids, Tr.placesL]
theorem ppsL_fst : ∀ (ts : List Tr) (q : List Nat) (k : Nat), (Tr.ppsL q k ts).map (·.1) = (Tr.placesL k ts).map (q ++ ·)
  | [], q, k => rfl
  | t :: ts, q, k => by
    rw [Tr.ppsL, Tr.placesL, List.map_append, List.map_append, pps_fst t, ppsL_fst ts, List.map_map]
    congr 1
    refine List.map_congr_left fun p _ => ?_
    simp
end
theorem pps_len (t : Tr) (q : List Nat) : (t.pps q).length = t.pieces.length := by rw [← pps_snd t q, List.length_map]
def encPT (p : List Nat × Tr) : D := .tuple [encP p.1, p.2.enc]
def AllP (n : Nat) (F : FF) : Prop := ∀ (t : Tr) (q : List Nat), t.ht ≤ n → t.pieces.length ≤ 100000 → q.length + t.ht ≤ 1000 → F [some ⟨t.enc, .sh⟩, some ⟨encP q, .sh⟩] = .ok (.fr (.list ((t.pps q).map encPT))) [none, none]
theorem encP_snoc (q : List Nat) (k : Nat) (h : q.length ≤ 100000) : addD (encP q) (.tuple [.int (k : Int)]) = some (.sh (encP (q ++ [k]))) := by
  unfold encP
  have : q.length + 1 ≤ sizeLine := fits (by omega)
  simp [this]
theorem law_all_2_ok {n : Nat} {Fa : FF} (ha : ∀ m, m + 1 = n → AllP m Fa) : AllP n (fnF 4 2 (m_law_all_2 Fa)) := fun t q hh hz hq => by
  rw [m_law_all_2_eq]
  cases t with
  | knot nm tk ks =>
    have p4 : ks.length ≤ 100000 := by
      have h1 : ks.length ≤ (Tr.piecesL ks).length := by
        rw [piecesL_flat]
        clear hh hz hq ha
        induction ks with
        | nil => simp
        | cons k ks ih => rw [List.flatMap_cons, List.length_append, List.length_cons, pieces_kids k, List.length_cons]; omega
      rw [Tr.pieces, List.length_cons] at hz
      omega
    have okr : okR (ks.length : Int) = true := okR_nat (by omega)
    obtain ⟨acc, hf, hacc⟩ := forL_by (S := List (List Nat × Tr)) (g := gN 3) (b := m_law_all_2_b1 Fa) (fun acc => [some ⟨Tr.enc (.knot nm tk ks), .sh⟩, some ⟨encP q, .sh⟩, some ⟨.list (acc.map encPT), .ow⟩, none])
      (fun pre acc => acc = (q, Tr.knot nm tk ks) :: Tr.ppsL q 0 (ks.take pre.length)) (rgD 0 ks.length) [(q, .knot nm tk ks)] (by simp [Tr.ppsL]) (fun pre d post acc hd hacc => by
        obtain ⟨hk, rfl⟩ := rgD_mid hd
        rw [Int.zero_add]
        have hg : ks[pre.length]? = some ks[pre.length] := List.getElem?_eq_getElem hk
        generalize ks[pre.length] = k at hg
        have mk : k ∈ ks := List.mem_of_getElem? hg
        have hkh : k.ht ≤ Tr.htL ks := ht_mem mk
        simp only [Tr.ht] at hh hq
        obtain ⟨n', rfl⟩ : ∃ n', n = n' + 1 := ⟨n - 1, by omega⟩
        have kz : k.pieces.length ≤ 100000 := Nat.le_trans (pieces_kid_le (t := .knot nm tk ks) mk) hz
        have e := ha n' rfl k (q ++ [pre.length]) (by omega) kz (by simp; omega)
        have es := encP_snoc q pre.length (by omega)
        have htk : ks.take (pre.length + 1) = ks.take pre.length ++ [k] := by rw [List.take_succ, hg]; rfl
        have hsn := ppsL_snoc k q 0 (ks.take pre.length)
        rw [Nat.zero_add, List.length_take, Nat.min_eq_left (by omega)] at hsn
        have hle : (Tr.ppsL q 0 (ks.take (pre.length + 1))).length ≤ 100000 := by
          have h1 : (Tr.ppsL q 0 (ks.take (pre.length + 1))).length = (Tr.piecesL (ks.take (pre.length + 1))).length := by rw [← ppsL_snd _ q 0, List.length_map]
          rw [h1, piecesL_flat]
          rw [Tr.pieces, List.length_cons, piecesL_flat] at hz
          have : ks.flatMap Tr.pieces = (ks.take (pre.length + 1)).flatMap Tr.pieces ++ (ks.drop (pre.length + 1)).flatMap Tr.pieces := by rw [← List.flatMap_append, List.take_append_drop]
          rw [this, List.length_append] at hz
          omega
        rw [htk, hsn, List.length_append] at hle
        have z : acc.length + (k.pps (q ++ [pre.length])).length ≤ sizeLine := fits (by rw [hacc, List.length_cons]; omega)
        have ea : L2.atI (ks.map Tr.enc) (pre.length : Int) = some k.enc := by
          rw [atI_nat (xs := ks.map Tr.enc) (j := pre.length) (v := k.enc) (by rw [List.getElem?_map, hg]; rfl)]
        refine ⟨acc ++ k.pps (q ++ [pre.length]), ?_, by rw [List.length_append, List.length_singleton, htk, hsn, hacc]; simp⟩
        rw [enc_knot]
        simp [m_law_all_2_b1, ea, es, e, z])
    rw [rgD_len, List.take_length] at hacc
    subst hacc
    have hf' : forL (gN 3) (m_law_all_2_b1 Fa) (rgD 0 ks.length) [some ⟨Tr.enc (.knot nm tk ks), .sh⟩, some ⟨encP q, .sh⟩, some ⟨.list [.tuple [encP q, Tr.enc (.knot nm tk ks)]], .ow⟩, none] = _ := hf
    rw [enc_knot] at hf' ⊢
    rw [Tr.pps]
    simp [m_law_all_2, okr, hf']
  | sign s => simp [m_law_all_2, Tr.enc, Tr.pps, encPT]
  | void => simp [m_law_all_2, Tr.enc, Tr.pps, encPT]
  | hole s => simp [m_law_all_2, Tr.enc, Tr.pps, encPT]
  | foot s => simp [m_law_all_2, Tr.enc, Tr.pps, encPT]
def Tr.kind : Tr → Str
  | .sign _ => Str.ofString "sign"
  | .void => Str.ofString "void"
  | .hole _ => Str.ofString "hole"
  | .foot _ => Str.ofString "foot"
  | .knot _ _ _ => Str.ofString "knot"
end GM
namespace GM
open PySem L2 GS
end GM
namespace GM
open PySem L2 GS
def fl1 (x : Xc) : D := (x.fs.head?.map (·.2)).getD .none
def fl2 (x : Xc) : D := ((x.fs.drop 1).head?.map (·.2)).getD .none
def xd (x : Xc) : D := if x.cls = "NoRow" then .tuple [.str (Str.ofString "row"), fl1 x] else if x.cls = "NoKey" then .tuple [.str (Str.ofString "key"), fl1 x] else if x.cls = "Twice" then .tuple [.str (Str.ofString "twice"), fl1 x] else .tuple [.str (Str.ofString "tree"), fl2 x, fl1 x]
section
variable {n : Nat} {Fa Fk Fr Fn : FF}
end
end GM
namespace GM
open PySem L2 GS
end GM
namespace GM
open PySem L2 GS
end GM
namespace GM
open PySem L2 GS
end GM
namespace GM
open PySem L2 GS
abbrev OP : Str := Str.ofString "("
abbrev CL : Str := Str.ofString ")"
abbrev Rd := Except Nat (Str × List D × Nat)
section
variable {n : Nat} {Fw Ft Fx Fp Fk : FF}
end
section
variable {n : Nat} {Fd Fp Fk : FF}
end
end GM
namespace GM
open PySem L2 GS
end GM
namespace GS
open PySem L2
@[simp] theorem atI_last2 {α : Type} (xs : List α) (x : α) : atI (xs ++ [x]) (-1) = some x := by
  unfold L2.atI ixN
  have h1 : ¬ (0 : Int) ≤ -1 := by omega
  have h2 : -((xs ++ [x]).length : Int) ≤ -1 := by rw [List.length_append, List.length_singleton]; omega
  rw [if_neg h1, if_pos h2]
  have h3 : ((-1 : Int) + ((xs ++ [x]).length : Int)).toNat = xs.length := by rw [List.length_append, List.length_singleton]; omega
  rw [h3]
  simp
theorem sub_sum {l m : List Nat} (h : l.Sublist m) : l.sum ≤ m.sum := by
  induction h with
  | slnil => simp
  | cons a _ ih => rw [List.sum_cons]; omega
  | cons_cons a _ ih => rw [List.sum_cons, List.sum_cons]; omega
end GS
namespace GM
open PySem L2 GS
structure Wd (b : Nat) (w : Str) : Prop where
  len : w.length ≤ b
  chr : ∀ c ∈ w.cps.toList, c < 128
  one : w.cps.toList.count 40 ≤ 1
structure Ws (b k m : Nat) (ws : List Str) : Prop where
  all : ∀ w ∈ ws, Wd b w
  cnt : (ws.map fun w => w.cps.toList.count 40).sum ≤ k
  num : ws.length ≤ m
theorem Wd.up {b b' : Nat} {w : Str} (h : Wd b w) (l : b ≤ b') : Wd b' w := ⟨by have := h.len; omega, h.chr, h.one⟩
theorem Ws.up {b b' k k' m m' : Nat} {ws : List Str} (h : Ws b k m ws) (l : b ≤ b') (l2 : k ≤ k') (l3 : m ≤ m') : Ws b' k' m' ws := ⟨fun w q => (h.all w q).up l, Nat.le_trans h.cnt l2, Nat.le_trans h.num l3⟩
theorem Ws.app {b k k' m m' : Nat} {ws vs : List Str} (h : Ws b k m ws) (h' : Ws b k' m' vs) : Ws b (k + k') (m + m') (ws ++ vs) :=
  ⟨fun w q => (List.mem_append.mp q).elim (h.all w) (h'.all w), by rw [List.map_append, List.sum_append]; exact Nat.add_le_add h.cnt h'.cnt, by rw [List.length_append]; exact Nat.add_le_add h.num h'.num⟩
theorem Ws.one {b : Nat} {w : Str} (h : Wd b w) : Ws b 1 1 [w] := ⟨fun v q => by simp at q; subst q; exact h, by simpa using h.one, by simp⟩
theorem Ws.zero {b : Nat} {w : Str} (h : Wd b w) (z : w.cps.toList.count 40 = 0) : Ws b 0 1 [w] := ⟨fun v q => by simp at q; subst q; exact h, by rw [List.map_singleton, z]; simp, by simp⟩
theorem Ws.sub {b k m : Nat} {ws vs : List Str} (h : Ws b k m ws) (s : vs.Sublist ws) : Ws b k m vs :=
  ⟨fun w q => h.all w (s.subset q), Nat.le_trans (sub_sum (s.map _)) h.cnt, Nat.le_trans s.length_le h.num⟩
theorem str8 (x : Int) : ∃ f, strD (.int (x % 8)) = some (.sh (.str f)) ∧ f ∈ figs := by
  have h : x % 8 = 0 ∨ x % 8 = 1 ∨ x % 8 = 2 ∨ x % 8 = 3 ∨ x % 8 = 4 ∨ x % 8 = 5 ∨ x % 8 = 6 ∨ x % 8 = 7 := by omega
  rcases h with h | h | h | h | h | h | h | h <;> rw [h]
  · exact ⟨_, rfl, by decide +kernel⟩
  · exact ⟨_, rfl, by decide +kernel⟩
  · exact ⟨_, rfl, by decide +kernel⟩
  · exact ⟨_, rfl, by decide +kernel⟩
  · exact ⟨_, rfl, by decide +kernel⟩
  · exact ⟨_, rfl, by decide +kernel⟩
  · exact ⟨_, rfl, by decide +kernel⟩
  · exact ⟨_, rfl, by decide +kernel⟩
noncomputable def s8 (x : Int) : Str := (str8 x).choose
end GM
namespace GM
open PySem L2 GS
end GM
namespace GM
open PySem L2 GS
end GM
namespace GS
open PySem L2
@[simp] theorem atI_last {α : Type} (xs : List α) (x : α) : atI (xs ++ [x]) (-1) = some x := by
  unfold L2.atI ixN
  have h1 : ¬ (0 : Int) ≤ -1 := by omega
  have h2 : -((xs ++ [x]).length : Int) ≤ -1 := by rw [List.length_append, List.length_singleton]; omega
  rw [if_neg h1, if_pos h2]
  have h3 : ((-1 : Int) + ((xs ++ [x]).length : Int)).toNat = xs.length := by rw [List.length_append, List.length_singleton]; omega
  rw [h3]
  simp
end GS
namespace GM
open PySem L2 GS
/-- all trees that can be asked -/
theorem BookOk.bk {h : Nat} {b : Bk} (B : BookOk h b) : BkOk h b :=
  ⟨by have := B.len; omega, fun p m => (B.trees p m).ht, fun p m => by have := (B.trees p m).sz; omega, fun p m e => by have := (B.trees p m).kn; rw [e] at this; cases this⟩
theorem TreeOk.graft {h : Nat} {t : Tr} (o : TreeOk h t) : t.isGraft = decide (0 < t.feet.length) ∧ L2.atI (t.feet.map PyData.str ++ [.str t.word]) 0 = some (.str t.name) := by
  have := o.feet
  unfold Tr.isGraft Tr.name
  cases hq : t.feet with
  | nil => simp
  | cons a r =>
    rw [hq] at this
    cases r with
    | nil => simp
    | cons b r => simp at this
end GM
namespace GS
open PySem L2 PySem.Spec PyProof.Rows
section
variable {X : Cx} {C : Ct} {e : Expr} {es : List Expr} {ta : TA} {fa : AF} {te : TE} {fe : EF} {p pos : Pos} {x : Str} {fns : List Str}
end
end GS
namespace GS
open PySem L2
section
variable {ρ : Rho}
end
end GS
namespace GS
open PySem L2
section
variable {ρ : Rho}
theorem slot_one (c : Option Cel) (x : Cel) (outs : Rho) : slot (c :: some x :: outs) 1 = some x := rfl
@[simp] theorem backR_io1 (i : Nat) (h0 : Hd) (hs : List Hd) (d : D) (d' : D) (fl : Fl) (c0 : Option Cel) (outs : Rho) : backR ρ (some 1) (h0 :: .bw i :: hs) (.ok (.sh d) (c0 :: some ⟨d', fl⟩ :: outs)) = match slot ρ i with
    | some c => .ok (.sh d) (ρ.set i (some ⟨d', c.fl⟩))
    | none => .stuck := by
  unfold backR
  dsimp only
  rw [putB_bw i 1 _ _ rfl, slot_one]
  cases slot ρ i <;> rfl
@[simp] theorem backR_io1x (i : Nat) (h0 : Hd) (hs : List Hd) (x : Xc) (d' : D) (fl : Fl) (c0 : Option Cel) (outs : Rho) : backR ρ (some 1) (h0 :: .bw i :: hs) (.exc x (c0 :: some ⟨d', fl⟩ :: outs)) = match slot ρ i with
    | some c => .exc x (ρ.set i (some ⟨d', c.fl⟩))
    | none => .stuck := by
  unfold backR
  dsimp only
  rw [putB_bw i 1 _ _ rfl, slot_one]
  cases slot ρ i <;> rfl
@[simp] theorem backR_io0x (i : Nat) (hs : List Hd) (x : Xc) (d' : D) (fl : Fl) (outs : Rho) : backR ρ (some 0) (.bw i :: hs) (.exc x (some ⟨d', fl⟩ :: outs)) = match slot ρ i with
    | some c => .exc x (ρ.set i (some ⟨d', c.fl⟩))
    | none => .stuck := by
  unfold backR
  dsimp only
  rw [putB_bw i 0 _ _ rfl, slot_zero]
  cases slot ρ i <;> rfl
end
end GS
namespace GS
open PySem L2 PySem.Spec PyProof.Rows
end GS
namespace GS
open PySem L2 PySem.Spec PyProof.Rows PySem.W PySem.Calls
/-- v is a tuple of these numbers -/
def IsTI (h : Heap) (v : Value) (ns : List Int) : Prop := ∃ (a : Addr) (its : List Value), v = .ref a ∧ h.IsTuple a its.toArray ∧ IntsAre its ns
theorem IsTI.keeps {h h' : Heap} {v : Value} {ns : List Int} (x : IsTI h v ns) (k : ∀ b o, v = .ref b → h.get? b = some o → h'.get? b = some o) : IsTI h' v ns := by
  obtain ⟨a, its, e, ⟨o, ho, hc, n, hd⟩, hi⟩ := x
  exact ⟨a, its, e, ⟨o, k a o e ho, hc, n, hd⟩, hi⟩
section
variable {M : Model} {A : Around} {E : Value → Shared → Prop} {s : Shared}
theorem IsTI.type {v : Value} {ns : List Int} (x : IsTI s.heap v ns) : Looks M s.heap (typeOf v) (.type "tuple") := by
  obtain ⟨a, its, rfl, ⟨o, ho, hc, n, hd⟩, hi⟩ := x
  rw [← hc]
  exact (Looks.ld ho).andThen .now
theorem ti_firsts : ∀ (vs : List Value) (k : Value → List Int), (∀ v ∈ vs, IsTI s.heap v (k v)) → ∃ fs : List (Option Value), (∀ v r, vs = v :: r → k v = [] → ∃ fr, fs = none :: fr) ∧ ∀ {Q : List (Option Value) → Shared → Prop}, Q fs s → wpAny M A (vs.mapM firstOfTuple') Q E s
  | [], k, _ => ⟨[], fun _ _ e => (by cases e), fun {Q} h => by rw [List.mapM_nil]; exact wpAny_pure h⟩
  | v :: vs, k, H => by
    obtain ⟨fs, _, run⟩ := ti_firsts vs k fun u hu => H u (List.mem_cons_of_mem _ hu)
    have hv := H v List.mem_cons_self
    obtain ⟨a, its, rfl, ⟨o, ho, hc, n, hd⟩, hi⟩ := hv
    refine ⟨its.toArray[0]? :: fs, fun v r e h0 => ?_, fun {Q} h => ?_⟩
    · cases e
      rw [h0] at hi
      cases hi
      exact ⟨fs, rfl⟩
    · rw [List.mapM_cons]
      refine wpAny_bind ?_
      rw [kas_first_eq]
      refine wpAny_bind (Looks.here (show Looks M s.heap (typeOf (.ref a)) o.cls from (Looks.ld ho).andThen .now) ?_)
      rw [hc, if_neg (by first | decide | simp)]
      refine wpAny_bind (listItems_at ho hd (wpAny_pure ?_))
      exact wpAny_bind (run (Q := fun bs s' => wpAny M A (pure (its.toArray[0]? :: bs)) Q E s') (wpAny_pure h))
theorem ti_kind {vs : List Value} {k : Value → List Int} {Q : SortKind → Shared → Prop} (H : ∀ v ∈ vs, IsTI s.heap v (k v)) (v0 : Value) (r : List Value) (e : vs = v0 :: r) (h0 : k v0 = []) (h : Q oneType' s) : wpAny M A (keyKind' vs.toArray) Q E s := by
  obtain ⟨fs, hf, run⟩ := ti_firsts (M := M) (A := A) (E := E) (s := s) vs k H
  obtain ⟨fr, rfl⟩ := hf v0 r e h0
  rw [keyKind'_eq, List.mapM_toArray, map_eq_pure_bind]
  refine wpAny_bind (wpAny_bind (run (wpAny_pure ?_)))
  rw [if_neg (by simp), if_neg (by simp)]
  subst e
  rw [oneTypeOnly'_eq, List.mapM_toArray, map_eq_pure_bind]
  refine wpAny_bind (wpAny_bind (wpAny_bind (kas_mapM (r := Value.type "tuple") _ (fun v hv Q' hq => (H v hv).type.here hq) (wpAny_pure ?_))))
  have hall : ((List.map (fun _ => Value.type "tuple") (v0 :: r)).toArray.all fun x => x == Value.type "tuple") = true := by
    simp only [List.all_toArray, List.all_map, List.all_eq_true]
    intro _ _
    rfl
  have h1 : (List.map (fun _ => Value.type "tuple") (v0 :: r)).toArray[0]? = some (Value.type "tuple") := by simp
  rw [h1]
  simp only [hall, if_true]
  exact wpAny_pure (wpAny_pure h)
end
section
variable {prog : Program} {w : World} {A : Around} {E : Value → Shared → Prop} {s : Shared}
theorem ti_lt {v u : Value} {ns ms : List Int} {Q : Bool → Shared → Prop} (hu : A.units < cLine) (hv : IsTI s.heap v ns) (hw : IsTI s.heap u ms) (h : Q (HT.lexLt ns ms) s) : wpAny (model prog w) A (keyLt' oneType' v u) Q E s := by
  have iu : ∀ M : Model, Looks M s.heap (isInstance u (.type "tuple")) true := fun M => by
    have := hw.type (M := M)
    exact this.andThen (by first | exact .now | exact Looks.of_pure (by rfl))
  obtain ⟨a, its, rfl, ⟨⟨cls, dd, data, sl⟩, ga, hc, n, hd⟩, ia⟩ := hv
  obtain ⟨b, its2, rfl, ⟨⟨cls2, dd2, data2, sl2⟩, gb, hc2, n2, hd2⟩, ib⟩ := hw
  simp only at hc hd hc2 hd2
  subst hc hd hc2 hd2
  rw [keyLt'_oneType, oneLt'_eq]
  simp only [if_true]
  refine wpAny_bind (wpAny_cRoomFor hu ?_)
  refine wpAny_bind (wpAny_callSpecialIfBound?_slot (T := "tuple") ⟨_, ga, rfl⟩ PySem.F.slot_tuple_lt (call_meets PySem.F.slot_tuple_lt ⟨_, ga, rfl⟩ PySem.F.entry_tuple_lt (PySem.F.args_tuple_lt_2 _ _) (NtL.nt_lt_ints a b (.type "tuple") (.type "tuple") its.toArray its2.toArray n n2 dd dd2 sl sl2 ns ms (by simpa using ia) (by simpa using ib)) ⟨ga, gb, iu, ?_⟩))
  exact wpAny_truthy_bool h
end
section
variable {prog : Program} {w : World} {A : Around} {E : Value → Shared → Prop} {s : Shared}
end
section
variable {X : Cx}
end
end GS
namespace GS
open PySem L2 PySem.Spec PyProof.Rows
def TI (K : PySem.W.Frag) (H : Hp) (x : V) (ns : List Int) : Prop := ∃ t, x = V.ref t ∧ SqT K H t (ns.map V.int)
section
variable {X : Cx}
end
def tupsI : List D → Option (List (List Int))
  | [] => some []
  | .tuple ds :: r => match intsL ds, tupsI r with
    | some ns, some nss => some (ns :: nss)
    | _, _ => none
  | _ :: _ => none
section
variable {K : KW} {B H : Hp}
end
end GS
namespace GS
open PySem L2
end GS
namespace GM
open PySem L2 GS
/-- _law_pieces(tree, place); slots 0:tree 1:place 2:found 3:k -/
def m_law_pieces_b1 (F__law_pieces : FF) : SF := (sKill [3] (sExt 2 (eCall 2 none F__law_pieces (aCons (eBin ixA (eBin ixA (eVb 0) (eC (.int 3))) (eVb 3)) (aCons (eBin addD (eVb 1) (eTup (aCons (eMv 3) aNil))) aNil)))))
def m_law_pieces (F__law_pieces : FF) : SF := (sSeq (sSet 2 (eLst (aCons (eTup (aCons (eMv 1) (aCons (eMv 0) aNil))) aNil))) (sSeq (sKill [3] (sIf (eB (eBin (eqB false) (eBin ixA (eVb 0) (eC (.int 0))) (eC (.str (Str.ofString "knot"))))) (sFor (iR1 (eCB (un1 lenD) (aCons (eBin ixA (eVb 0) (eC (.int 3))) aNil))) (gN 3) (m_law_pieces_b1 F__law_pieces)) sNil)) (sEnd (sRet (eRv 2)))))
/-- _law_called(tree); slots 0:tree 1:feet 2:place 3:piece -/
def m_law_called_ct1 (F__law_pieces : FF) : EF := (eB (eBin (eqB false) (eBin ixA (eVb 3) (eC (.int 0))) (eC (.str (Str.ofString "foot")))))
def m_law_called_ce2 (F__law_pieces : FF) : EF := (eBin ixA (eVb 3) (eC (.int 1)))
def m_law_called (F__law_pieces : FF) : SF := (sSeq (sSet 1 (eLc [2, 3] (iSq (eCall 2 none F__law_pieces (aCons (eMv 0) (aCons (eTup aNil) aNil)))) (gT 2 (gsC (gN 2) (gsC (gN 3) gsN))) (eNox (m_law_called_ct1 F__law_pieces)) (eNox (m_law_called_ce2 F__law_pieces)))) (sEnd (sRet (eIf (eB (eBin (ltI fun i j => decide (j < i)) (eCB (un1 lenD) (aCons (eVb 1) aNil)) (eC (.int 0)))) (eTup (aCons (eC (.bool true)) (aCons (eBin ixA (eVb 1) (eC (.int 0))) aNil))) (eTup (aCons (eC (.bool false)) (aCons (eBin ixA (eVb 0) (eC (.int 1))) aNil)))))))
theorem m_law_called_eq (F__law_pieces : FF) (ρ : Rho) : fnF 4 1 (m_law_called F__law_pieces) ρ = finR 1 (m_law_called F__law_pieces (ρ ++ [none, none, none])) := fnF_eq 4 1 _
/-- _law_takers(book, piece); slots 0:book 1:piece 2:key 3:tree -/
def m_law_takers_ct1 (F__law_called : FF) : EF := (eB (eBin (eqB false) (eCall 1 none F__law_called (aCons (eMv 3) aNil)) (eTup (aCons (eC (.bool true)) (aCons (eBin ixA (eBin ixA (eVb 1) (eC (.int 2))) (eC (.int 0))) aNil)))))
def m_law_takers_ce2 (F__law_called : FF) : EF := (eMv 2)
def m_law_takers_ct3 (F__law_called : FF) : EF := (eB (eBin (eqB false) (eCall 1 none F__law_called (aCons (eMv 3) aNil)) (eTup (aCons (eC (.bool false)) (aCons (eBin ixA (eVb 1) (eC (.int 1))) aNil)))))
def m_law_takers_ce4 (F__law_called : FF) : EF := (eMv 2)
def m_law_takers (F__law_called : FF) : SF := (sSeq (sIf (eB (eBin (eqB false) (eBin ixA (eVb 1) (eC (.int 0))) (eC (.str (Str.ofString "hole"))))) (sEnd (sRet (eLc [2, 3] (iSq (eBin ixA (eVb 0) (eC (.int 1)))) (gT 2 (gsC (gN 2) (gsC (gN 3) gsN))) (eNox (m_law_takers_ct3 F__law_called)) (eNox (m_law_takers_ce4 F__law_called))))) sNil) (sSeq (sIf (eAnd (eB (eBin (eqB false) (eBin ixA (eVb 1) (eC (.int 0))) (eC (.str (Str.ofString "knot"))))) (eB (eBin (isD true) (eBin ixA (eVb 1) (eC (.int 2))) (eC .none)))) (sEnd (sRet (eLc [2, 3] (iSq (eBin ixA (eVb 0) (eC (.int 1)))) (gT 2 (gsC (gN 2) (gsC (gN 3) gsN))) (eNox (m_law_takers_ct1 F__law_called)) (eNox (m_law_takers_ce2 F__law_called))))) sNil) (sEnd (sRet (eLst aNil)))))
theorem m_law_takers_eq (F__law_called : FF) (ρ : Rho) : fnF 4 2 (m_law_takers F__law_called) ρ = finR 2 (m_law_takers F__law_called (ρ ++ [none, none])) := fnF_eq 4 2 _
end GM
namespace GM
open PySem L2 GS
theorem law_pieces_ok {n : Nat} {Fa : FF} (ha : ∀ m, m + 1 = n → AllP m Fa) : AllP n (fnF 4 2 (m_law_pieces Fa)) := law_all_2_ok ha
def bsD (c : Bool × Str) : D := .tuple [.bool c.1, .str c.2]
theorem okW_bs {c : Bool × Str} (h : PyData.strOk c.2 = true) : okW (bsD c) = true := okW_of (by unfold bsD; simp [cleanB, cleanL, h]) (by unfold bsD; simp [PyData.depth, PyData.depthAll])
theorem eqB_bs {c e : Bool × Str} (neg : Bool) (h : PyData.strOk c.2 = true) (h' : PyData.strOk e.2 = true) : eqB neg (bsD c) (bsD e) = some (.sh (.bool (neg ^^ decide (c = e)))) := by
  rw [eqB_of neg (okW_bs h) (okW_bs h')]
  obtain ⟨a, x⟩ := c
  obtain ⟨b, y⟩ := e
  have q : PyData.eqv (bsD (a, x)) (bsD (b, y)) = decide ((a, x) = (b, y)) := by
    unfold bsD
    rw [PyData.eqv, PyData.eqvAll, PyData.eqvAll, PyData.eqvAll, PyData.eqv, PyData.eqv]
    by_cases q1 : a = b <;> by_cases q2 : x = y <;> simp [q1, q2]
  rw [q]
def Tr.called (t : Tr) : Bool × Str := match t.feet with
  | f :: _ => (true, f)
  | [] => (false, t.word)
def CalledSp (n : Nat) (F : FF) : Prop := ∀ t : Tr, t.ht ≤ n → t.pieces.length ≤ 100000 → t ≠ .void → F [some ⟨t.enc, .sh⟩] = .ok (.sh (bsD t.called)) [none]
theorem filter_some {α β γ : Type} [Inhabited β] (f : α → Option β) (g : β → γ) : ∀ l : List α, (l.filter fun x => (f x).isSome).map (fun x => g ((f x).getD default)) = (l.filterMap f).map g
  | [] => rfl
  | x :: l => by
    cases h : f x with
    | none => simp [h, filter_some f g l]
    | some y => simp [h, filter_some f g l]
theorem feet_pps (t : Tr) (q : List Nat) : (t.pps q).filterMap (fun x => x.2.footN) = t.feet := by
  unfold Tr.feet
  rw [← pps_snd t q, List.filterMap_map]
  rfl
theorem foot_enc (u : Tr) : ∃ w r, u.enc = .tuple (.str w :: r) ∧ ((decide (w = Str.ofString "foot")) = u.footN.isSome) ∧ (∀ nm, u.footN = some nm → r = [.str nm]) := by
  cases u <;> refine ⟨_, _, rfl, ?_, ?_⟩ <;> simp [Tr.footN] <;> decide +kernel
theorem word_enc {t : Tr} (h : t ≠ .void) : ∃ w r, t.enc = .tuple (.str w :: .str t.word :: r) := by
  cases t <;> first | exact ⟨_, _, rfl⟩ | exact absurd rfl h
theorem law_called_ok {n : Nat} {Fp : FF} (hn : n ≤ 1000) (hp : AllP n Fp) : CalledSp n (fnF 4 1 (m_law_called Fp)) := fun t ht hz hv => by
  rw [m_law_called_eq]
  have e1 := hp t [] ht hz (by simp; omega)
  have e1' : Fp [some ⟨t.enc, .sh⟩, some ⟨.tuple [], .sh⟩] = .ok (.fr (.list ((t.pps []).map encPT))) [none, none] := e1
  have hl : (t.pps []).length ≤ 100000 := by rw [pps_len]; exact hz
  have h := lcL_up (vs := [2, 3]) (g := gT 2 (gsC (gN 2) (gsC (gN 3) gsN))) (ft := eNox (m_law_called_ct1 Fp)) (fe := eNox (m_law_called_ce2 Fp)) [some ⟨t.enc, .sh⟩, none, none, none] encPT (fun p => [some ⟨t.enc, .sh⟩, none, some ⟨encP p.1, .sh⟩, some ⟨p.2.enc, .sh⟩])
    (fun p => p.2.footN.isSome) (fun p => .str (p.2.footN.getD default)) (t.pps []) [] (fits (by simp; omega)) (fun p _ => by
      obtain ⟨w, r, ew, q1, q2⟩ := foot_enc p.2
      refine ⟨by simp [encPT], ?_, by simp, fun h => ?_⟩
      · rw [ew, ← q1]
        by_cases q : w = Str.ofString "foot" <;> simp [m_law_called_ct1, q]
      · obtain ⟨nm, hnm⟩ := Option.isSome_iff_exists.mp h
        rw [q2 nm hnm] at ew
        rw [ew, hnm]
        simp [m_law_called_ce2])
  rw [List.nil_append, filter_some (fun x : List Nat × Tr => x.2.footN) PyData.str, feet_pps] at h
  obtain ⟨w, r, ew⟩ := word_enc hv
  unfold Tr.called
  cases hf : t.feet with
  | nil =>
    rw [hf] at h
    rw [ew] at e1' h ⊢
    simp [m_law_called, e1', h, bsD]
  | cons f fs =>
    rw [hf] at h
    have z : (0 : Int) < (fs.length : Int) + 1 := by omega
    simp [m_law_called, e1', h, bsD, z]
/-- the law's own takers -/
structure BkN (n : Nat) (b : Bk) : Prop where
  bk : BkOk n b
  ft : ∀ p ∈ b.trees, p.2.feet.length ≤ 1
  ok : ∀ p ∈ b.trees, p.2.ok = true
  kn : ∀ p ∈ b.trees, p.2.isKnot = true
theorem called_is {t : Tr} (h : t.feet.length ≤ 1) : t.called = (t.isGraft, t.name) := by
  unfold Tr.called Tr.isGraft Tr.name
  cases hf : t.feet with
  | nil => simp
  | cons f fs =>
    rw [hf, List.length_cons] at h
    have : fs = [] := List.eq_nil_of_length_eq_zero (by omega)
    subst this
    simp
mutual
theorem piece_ok : ∀ {t : Tr}, t.ok = true → ∀ u ∈ t.pieces, u.ok = true
  | .knot n tk ks, h, u, m => by
    rw [Tr.pieces] at m
    rcases List.mem_cons.mp m with rfl | m
    · exact h
    · rw [Tr.ok] at h
      simp only [Bool.and_eq_true, decide_eq_true_eq] at h
      exact piecesL_ok h.2.2.2.2 u m
  | .sign s, h, u, m => by simp [Tr.pieces] at m; subst m; exact h
  | .void, h, u, m => by simp [Tr.pieces] at m; subst m; exact h
  | .hole s, h, u, m => by simp [Tr.pieces] at m; subst m; exact h
  | .foot s, h, u, m => by simp [Tr.pieces] at m; subst m; exact h
theorem piecesL_ok : ∀ {ts : List Tr}, Tr.okL ts = true → ∀ u ∈ Tr.piecesL ts, u.ok = true
  | [], _, u, m => by simp [Tr.piecesL] at m
  | t :: ts, h, u, m => by
    rw [Tr.okL, Bool.and_eq_true] at h
    rw [Tr.piecesL] at m
    rcases List.mem_append.mp m with m | m
    · exact piece_ok h.1 u m
    · exact piecesL_ok h.2 u m
end
theorem feet_ok {t : Tr} (h : t.ok = true) : ∀ f ∈ t.feet, nameB f = true := fun f m => by
  obtain ⟨u, mu, e⟩ := List.mem_filterMap.mp m
  have ou := piece_ok h u mu
  cases u <;> cases e
  exact ou
theorem called_strOk {t : Tr} (ho : t.ok = true) (hk : t.isKnot = true) : PyData.strOk t.called.2 = true := by
  unfold Tr.called
  cases hf : t.feet with
  | nil =>
    cases t with
    | knot n tk ks =>
      rw [Tr.ok] at ho
      simp only [Bool.and_eq_true] at ho
      exact nameB_strOk ho.1
    | _ => cases hk
  | cons f fs => exact nameB_strOk (feet_ok ho f (by rw [hf]; simp))
def LTakers (n : Nat) (F : FF) : Prop := ∀ (b : Bk) (u : Tr), BkN n b → u.ok = true → F [some ⟨b.enc, .sh⟩, some ⟨u.enc, .sh⟩] = .ok (.fr (.list ((b.takers u).map .str))) [none, none]
theorem law_takers_ok {n : Nat} {Fc : FF} (hc : CalledSp n Fc) : LTakers n (fnF 4 2 (m_law_takers Fc)) := fun b u B ou => by
  rw [m_law_takers_eq]
  have hl := B.bk.len
  have ec : ∀ p ∈ b.trees, Fc [some ⟨p.2.enc, .sh⟩] = .ok (.sh (bsD (p.2.isGraft, p.2.name))) [none] := fun p m => by
    have e := hc p.2 (B.bk.ht p m) (B.bk.sz p m) (B.bk.nv p m)
    rw [called_is (B.ft p m)] at e
    exact e
  have so : ∀ p ∈ b.trees, PyData.strOk p.2.name = true := fun p m => by
    have := called_strOk (B.ok p m) (B.kn p m)
    rw [called_is (B.ft p m)] at this
    exact this
  cases u with
  | hole nm =>
    have onm : PyData.strOk nm = true := nameB_strOk ou
    have h := lcL_up (vs := [2, 3]) (g := gT 2 (gsC (gN 2) (gsC (gN 3) gsN))) (ft := eNox (m_law_takers_ct3 Fc)) (fe := eNox (m_law_takers_ce4 Fc)) [some ⟨b.enc, .sh⟩, some ⟨Tr.enc (.hole nm), .sh⟩, none, none] encKT (fun p => [some ⟨b.enc, .sh⟩, some ⟨Tr.enc (.hole nm), .sh⟩, some ⟨.str p.1, .sh⟩, some ⟨p.2.enc, .sh⟩])
      (fun p => decide (p.2.isGraft = false) && decide (p.2.name = nm)) (fun p => .str p.1) b.trees [] (fits (by simp; omega)) (fun p mp => by
        have e := ec p mp
        have q := eqB_bs (c := (p.2.isGraft, p.2.name)) (e := (false, nm)) false (so p mp) onm
        rw [Bool.false_xor] at q
        unfold bsD at e q
        refine ⟨by simp [encKT], ?_, by simp, fun _ => by simp [m_law_takers_ce4]⟩
        simp [m_law_takers_ct3, e, Tr.enc, q])
    rw [List.nil_append] at h
    simp only [Tr.enc] at h ⊢
    simp [m_law_takers, ix_trees, h, Bk.takers, Tr.want]
  | knot nm tk ks =>
    cases tk with
    | none => simp [m_law_takers, Tr.enc, encTk, Bk.takers, Tr.want]
    | some w =>
      obtain ⟨m, must⟩ := w
      have onm : PyData.strOk m = true := by
        rw [Tr.ok] at ou
        simp only [Bool.and_eq_true] at ou
        exact nameB_strOk ou.2.1
      have h := lcL_up (vs := [2, 3]) (g := gT 2 (gsC (gN 2) (gsC (gN 3) gsN))) (ft := eNox (m_law_takers_ct1 Fc)) (fe := eNox (m_law_takers_ce2 Fc)) [some ⟨b.enc, .sh⟩, some ⟨Tr.enc (.knot nm (some (m, must)) ks), .sh⟩, none, none] encKT (fun p => [some ⟨b.enc, .sh⟩, some ⟨Tr.enc (.knot nm (some (m, must)) ks), .sh⟩, some ⟨.str p.1, .sh⟩, some ⟨p.2.enc, .sh⟩])
        (fun p => decide (p.2.isGraft = true) && decide (p.2.name = m)) (fun p => .str p.1) b.trees [] (fits (by simp; omega)) (fun p mp => by
          have e := ec p mp
          have q := eqB_bs (c := (p.2.isGraft, p.2.name)) (e := (true, m)) false (so p mp) onm
          rw [Bool.false_xor] at q
          unfold bsD at e q
          refine ⟨by simp [encKT], ?_, by simp, fun _ => by simp [m_law_takers_ce2]⟩
          simp [m_law_takers_ct1, e, Tr.enc, encTk, q])
      rw [List.nil_append] at h
      simp only [Tr.enc, encTk] at h ⊢
      simp [m_law_takers, ix_trees, h, Bk.takers, Tr.want]
  | _ => simp [m_law_takers, Tr.enc, Bk.takers, Tr.want]
end GM
namespace L2
open PySem PySem.W PySem.Calls PySem.Spec PyProof.Rows
/-- a list or a tuple of pairs at the addresses ps -/
def SeqAt2 (K : PySem.W.Frag) (H : Hp) (a : Addr) (ps : List Addr) : Prop := SqL K H a (ps.map V.ref) ∨ XT H a (ps.map V.ref)
def rDictX (K : PySem.W.Frag) (w : World) : List V → Hp → VK → Prop := fun xs H Q => ∃ (a : Addr) (ps : List Addr), xs = [.ref a] ∧ SeqAt2 K H a ps ∧
  ((∃ kvs : List (Key × V), Paired (fun p kv => XT H p [kV kv.1, kv.2]) ps kvs ∧ ∀ p ep ys us, H p = none → SOk ys → KV kvs us → pairK ys = merged [] us → Q (.ref p) (upd H p (dX w p ep (ys.map valK)))) ∨
   (∃ kvs : List (NestedKey × Addr × V), Paired (fun p y => XT H p [.ref y.2.1, y.2.2] ∧ NK H (.ref y.2.1) y.1 ∧ y.1.depth ≤ 8) ps kvs ∧ ∀ p ep zs, H p = none → Paired (fun y z => z.1 = y.1 ∧ z.2.1 = y.2.1 ∧ RelV y.2.2 z.2.2) kvs zs → Q (.ref p) (upd H p (dX w p ep ((storedAllH [] zs).map refK)))))
section
variable {X : Cx} {pins : List (Addr × Obj)} {σ : St} {H : Hp} {s : Shared}
theorem pairsS_of (J : Inv X pins σ H s) : ∀ {ps : List Addr} {kvs : List (Key × V)}, Paired (fun p kv => XT H p [kV kv.1, kv.2]) ps kvs →
    ∃ us : List (Key × Value × Value), KV kvs (pairK us) ∧ SOk us ∧ us.length = ps.length ∧ ∀ (j : Nat) (y : Key × Value × Value), us[j]? = some y → ∃ b, ps[j]? = some b ∧ s.heap.IsTuple b #[y.2.1, y.2.2]
  | _, _, .nil => ⟨[], .nil, (fun _ m => by cases m), rfl, fun j y e => by simp at e⟩
  | _, _, .cons (a := p) (b := kv) h t => by
    obtain ⟨us, r, so, hl, hp⟩ := pairsS_of J t
    obtain ⟨ws, rv, ht, _⟩ := J.tuple h.sq
    obtain ⟨u1, u2, rfl, r1, r2⟩ := vals2 rv
    have k1 : keyIs kv.1 u1 = true := kV_is (P := X.prog) (w := X.w) r1
    refine ⟨(kv.1, u1, u2) :: us, .cons ⟨rfl, r2⟩ r, fun y m => ?_, by simp [hl], fun j y e => ?_⟩
    · cases m with
      | head => exact k1
      | tail _ m => exact so y m
    · cases j with
      | zero => cases (Option.some.inj e); exact ⟨p, rfl, ht⟩
      | succ j =>
        obtain ⟨b, e1, e2⟩ := hp j y (by simpa using e)
        exact ⟨b, by simpa using e1, e2⟩
theorem pairsT_of (J : Inv X pins σ H s) : ∀ {ps : List Addr} {kvs : List (NestedKey × Addr × V)}, Paired (fun p y => XT H p [.ref y.2.1, y.2.2] ∧ NK H (.ref y.2.1) y.1 ∧ y.1.depth ≤ 8) ps kvs →
    ∃ zs : List (NestedKey × Addr × Value), Paired (fun y z => z.1 = y.1 ∧ z.2.1 = y.2.1 ∧ RelV y.2.2 z.2.2) kvs zs ∧ KOk H zs ∧ zs.length = ps.length ∧ ∀ (j : Nat) (z : NestedKey × Addr × Value), zs[j]? = some z → ∃ b, ps[j]? = some b ∧ s.heap.IsTuple b #[.ref z.2.1, z.2.2]
  | _, _, .nil => ⟨[], .nil, (fun _ m => by cases m), rfl, fun j y e => by simp at e⟩
  | _, _, .cons (a := p) (b := y) h t => by
    obtain ⟨zs, r, so, hl, hp⟩ := pairsT_of J t
    obtain ⟨h, hk⟩ := h
    obtain ⟨ws, rv, ht, _⟩ := J.tuple h.sq
    obtain ⟨u1, u2, rfl, r1, r2⟩ := vals2 rv
    cases r1
    refine ⟨(y.1, y.2.1, u2) :: zs, .cons ⟨rfl, rfl, r2⟩ r, fun y m => ?_, by simp [hl], fun j y e => ?_⟩
    · cases m with
      | head => exact hk
      | tail _ m => exact so y m
    · cases j with
      | zero => cases (Option.some.inj e); exact ⟨p, rfl, ht⟩
      | succ j =>
        obtain ⟨b, e1, e2⟩ := hp j y (by simpa using e)
        exact ⟨b, by simpa using e1, e2⟩
/-- the argument, as the library asks for it -/
theorem arg_of (J : Inv X pins σ H s) {a : Addr} {ps : List Addr} (h : SeqAt2 X.K H a ps) (prs : List (Value × Value)) (hl : prs.length = ps.length) (hp : ∀ (j : Nat) (k v : Value), prs[j]? = some (k, v) → ∃ b, ps[j]? = some b ∧ s.heap.IsTuple b #[k, v]) :
    ps.length ≤ sizeLine ∧ ∃ (T : String) (fp : List Addr) (OK : Heap → Prop), PairArg X.prog X.w T a fp [] prs.length (PairRel prs) OK ∧ OK s.heap := by
  have pi : ∀ us : List Value, us = ps.map Value.ref → PairItems s.heap us.toArray (fun j => ps.getD j 0) prs := fun us e => by
    subst e
    refine ⟨by simp [hl], fun j k v q => ?_⟩
    obtain ⟨b, e1, e2⟩ := hp j k v q
    refine ⟨by simp [e1], .inl ?_⟩
    have eb : ps.getD j 0 = b := by simp [e1]
    show s.heap.IsTuple (ps.getD j 0) #[k, v]
    rw [eb]
    exact e2
  rcases h with h | h
  · obtain ⟨us, rv, pl, hz⟩ := J.list h
    have eu := refs_at rv
    rw [List.length_map] at hz
    obtain ⟨o, n, ho, hc, hd, hdat⟩ := pl
    exact ⟨hz, "list", _, _, PairArg.list a us.toArray _ prs, ⟨⟨o, n, ho, hc, hd, hdat⟩, pi us eu⟩⟩
  · obtain ⟨o, e, hd⟩ := h
    obtain ⟨e1, hz, us, rv, o', e2, c, n, dd⟩ := J.hok _ _ e
    rw [e1] at e2
    cases e2
    have eu := refs_at rv
    rw [List.length_map] at hz
    exact ⟨hz, "tuple", _, _, PairArg.tuple a us.toArray _ prs, ⟨⟨o, n, e1, c, hd, dd⟩, pi us eu⟩⟩
theorem storedAllH_len (zs : List (NestedKey × Addr × Value)) : ∀ acc : List (NestedKey × Addr × Value), (storedAllH acc zs).length ≤ acc.length + zs.length := by
  induction zs with
  | nil => intro acc; exact Nat.le_refl _
  | cons z zs ih =>
    intro acc
    have h1 := ih (storedH acc z.1 z.2.1 z.2.2)
    have h2 := storedH_len acc z.1 z.2.1 z.2.2
    rw [List.length_cons]
    show (storedAllH (storedH acc z.1 z.2.1 z.2.2) zs).length ≤ _
    omega
theorem merged_len (zs : List (Key × Value)) : ∀ acc : List (Key × Value), (merged acc zs).length ≤ acc.length + zs.length := by
  induction zs with
  | nil => intro acc; exact Nat.le_refl _
  | cons z zs ih =>
    intro acc
    have h1 := ih (stored acc z.1 z.2)
    have h2 := stored_len acc z.1 z.2
    rw [List.length_cons]
    show (merged (stored acc z.1 z.2) zs).length ≤ _
    omega
theorem call_dictX (hc : X.calm = true) (hu : X.A.units + 65 < cLine) : CallR X (.type "dict") (rDictX X.K X.w) := by
  rintro pins s σ H xs us Q J r ⟨a, ps, rfl, hs, h⟩
  obtain ⟨u, rfl, rx⟩ := vals1 r
  cases rx
  have big : (s.heap.objs.size == sysModules) = false := beq_eq_false_iff_ne.mpr (Nat.ne_of_gt J.big)
  have fr : H s.heap.objs.size = none := J.hok.fresh (Nat.le_refl _)
  rcases h with ⟨kvs, hp, q⟩ | ⟨kvs, hp, q⟩
  · obtain ⟨ys, r1, r2, r3, r4⟩ := pairsS_of J hp
    obtain ⟨hz, T, fp, OK, PA, ok⟩ := arg_of J hs (ys.map fun y => (y.2.1, y.2.2)) (by simp [r3]) fun j k v e => by
      rw [List.getElem?_map] at e
      obtain ⟨y, e1, e2⟩ := Option.map_eq_some_iff.mp e
      cases e2
      exact r4 j y e1
    refine PySem.call_dict_pairs (knd := mixKind X.prog X.w) (kvs := pairK ys) PA (J.ok.hd hc) ok ⟨by simp [pairK], fun i k v e => ?_⟩ (by simp [r3]; exact hz) fun h' tk hd' k => ?_
    · unfold PairRel at e
      rw [List.getElem?_map] at e
      obtain ⟨y, e1, e2⟩ := Option.map_eq_some_iff.mp e
      cases e2
      exact ⟨y.1, by simp [pairK, e1], r2 y (List.mem_of_getElem? e1)⟩
    · obtain ⟨ep, zs, z1, z2, oko⟩ := dX_okS hd' (by have := merged_len (pairK ys) []; simp [pairK] at this ⊢; omega) big
      exact ⟨.ref s.heap.objs.size, _, J.laid (t' := tk) (fun b o e => k b o (fun m => by cases m) e) (Nat.le_refl _) (oko _), rfl, q _ ep zs _ fr z1 r1 z2⟩
  · obtain ⟨zs, r1, r2, r3, r4⟩ := pairsT_of J hp
    obtain ⟨hz, T, fp, OK, PA, ok⟩ := arg_of J hs (zs.map fun z => (.ref z.2.1, z.2.2)) (by simp [r3]) fun j k v e => by
      rw [List.getElem?_map] at e
      obtain ⟨y, e1, e2⟩ := Option.map_eq_some_iff.mp e
      cases e2
      exact r4 j y e1
    refine call_dict_pairsH (knd := nestedKind X.prog X.w) (ps := zs) PA (J.ok.hd hc) (by show X.A.units + 1 + 1 + 8 < cLine; omega) ok ⟨by simp, fun i k v e => ?_⟩ (fun h' kp x m => ?_) (by simp [r3]; exact hz) fun h' tk hd' k => ?_
    · unfold PairRel at e
      rw [List.getElem?_map] at e
      obtain ⟨y, e1, e2⟩ := Option.map_eq_some_iff.mp e
      cases e2
      exact ⟨y.1, y.2.1, e1, rfl⟩
    · have k0 : (nestedKind X.prog X.w).is s.heap x.1 x.2.1 := ⟨(r2 x m).1.is J.hok rfl, (r2 x m).2⟩
      exact nestedKind_stays.stays (fun b o _ _ e _ => kp b o (Nat.ne_of_lt (Heap.lt_size e)) (fun m => by cases m) e) k0
    · obtain ⟨ep, oko⟩ := dX_okT hd' (by have := storedAllH_len zs []; simp at this; omega) big
      exact ⟨.ref s.heap.objs.size, _, J.laid (t' := tk) (fun b o e => k b o (fun m => by cases m) e) (Nat.le_refl _) (oko _), rfl, q _ ep zs fr r1⟩
end
end L2
namespace GS
open PySem L2
/-- pairs -/
def pairsD : List D → Option (List (D × D))
  | [] => some []
  | .tuple [k, v] :: ds => (pairsD ds).map fun ps => (k, v) :: ps
  | _ => none
/-- keys of one sort -/
def okPs (b : Bool) (ps : List (D × D)) : Bool := ps.all fun p => isK p.1 && (tupB p.1 == b)
def dictP (ds : List D) : Option Hd := (pairsD ds).bind fun ps => if okPs false ps || okPs true ps then some (.fr (.dict (dMerge ps))) else none
def dictD : D → Option Hd
  | .list ds => dictP ds
  | .tuple ds => dictP ds
  | _ => none
section
variable {K : KW} {ρ : Rho} {σ : St} {B H : Hp} {v x y : V} {Q : VK}
theorem pairs_rp : ∀ {vs : List V} {ds : List D} {ps : List (D × D)}, RpL K B vs ds → pairsD ds = some ps → ∃ as : List Addr, vs = as.map V.ref ∧ Paired (fun a p => ∃ k v, XT B a [k, v] ∧ Rp K B k p.1 ∧ Rp K B v p.2) as ps
  | _, [], _, .nil, e => by cases e; exact ⟨[], rfl, .nil⟩
  | _, d :: ds, ps, .cons h t, e => by
    match d, h, e with
    | .tuple [k, v], h, e =>
      obtain ⟨qs, e1, rfl⟩ := Option.map_eq_some_iff.mp (show (pairsD ds).map (fun ps => (k, v) :: ps) = some ps from e)
      obtain ⟨as, rfl, r⟩ := pairs_rp t e1
      cases h with
      | tup hx hr =>
        cases hr with
        | cons r1 hr =>
          cases hr with
          | cons r2 hr =>
            cases hr
            exact ⟨_ :: as, rfl, .cons ⟨_, _, hx, r1, r2⟩ r⟩
theorem pairs_S {H : Hp} (s : Same B H) : ∀ {as : List Addr} {ps : List (D × D)}, Paired (fun a p => ∃ k v, XT B a [k, v] ∧ Rp K B k p.1 ∧ Rp K B v p.2) as ps → okPs false ps = true → ∃ kvs : List (Key × V), Paired (fun p kv => XT H p [kV kv.1, kv.2]) as kvs ∧ RpK K B kvs ps
  | _, _, .nil, _ => ⟨[], .nil, .nil⟩
  | _, _, .cons (b := p) h t, e => by
    unfold okPs at e
    rw [List.all_cons, Bool.and_eq_true] at e
    obtain ⟨kvs, q1, q2⟩ := pairs_S s t e.2
    obtain ⟨k, v, hx, r1, r2⟩ := h
    have e1 := e.1
    rw [Bool.and_eq_true] at e1
    obtain ⟨nk, hn⟩ := isK_key e1.1
    obtain ⟨kd, d⟩ := p
    obtain ⟨kk, rfl, e2, _⟩ := sk_of r1 hn (by simpa using e1.2)
    simp only at e2
    subst e2
    exact ⟨(kk, v) :: kvs, .cons (same_x s hx) q1, .cons r2 q2⟩
theorem pairs_T {H : Hp} (s : Same B H) : ∀ {as : List Addr} {ps : List (D × D)}, Paired (fun a p => ∃ k v, XT B a [k, v] ∧ Rp K B k p.1 ∧ Rp K B v p.2) as ps → okPs true ps = true → ∃ kvs : List (NestedKey × Addr × V),
    Paired (fun p y => XT H p [.ref y.2.1, y.2.2] ∧ NK H (.ref y.2.1) y.1 ∧ y.1.depth ≤ 8) as kvs ∧ Paired (fun y p => keyD p.1 = some y.1 ∧ tupB p.1 = true ∧ Rp K B (.ref y.2.1) p.1 ∧ Rp K B y.2.2 p.2) kvs ps
  | _, _, .nil, _ => ⟨[], .nil, .nil⟩
  | _, _, .cons (b := p) h t, e => by
    unfold okPs at e
    rw [List.all_cons, Bool.and_eq_true] at e
    obtain ⟨kvs, q1, q2⟩ := pairs_T s t e.2
    obtain ⟨k, v, hx, r1, r2⟩ := h
    have e1 := e.1
    rw [Bool.and_eq_true] at e1
    obtain ⟨nk, hn⟩ := isK_key e1.1
    have ht : tupB p.1 = true := by simpa using e1.2
    obtain ⟨b, rfl, k1, k2⟩ := tk_of s r1 hn ht
    exact ⟨(nk, b, v) :: kvs, .cons ⟨same_x s hx, k1, k2⟩ q1, .cons ⟨hn, ht, r1, r2⟩ q2⟩
theorem rps_merge : ∀ {us : List (Key × Value)} {ps : List (D × D)}, RpS K B us ps → ∀ {u0 : List (Key × Value)} {p0 : List (D × D)}, RpS K B u0 p0 → RpS K B (merged u0 us) (ps.foldl (fun acc p => dPut acc p.1 p.2) p0)
  | _, _, .nil, _, _, h0 => h0
  | _, _, .cons (a := u) (b := p) h t, u0, p0, h0 => by
    obtain ⟨kd, d⟩ := p
    obtain ⟨e, v, r1, r2⟩ := h
    simp only at e
    subst e
    exact rps_merge t (rps_put r1 r2 h0)
theorem rpx_merge : ∀ {kvs : List (NestedKey × Addr × V)} {zs : List (NestedKey × Addr × Value)} {ps : List (D × D)}, Paired (fun y p => keyD p.1 = some y.1 ∧ tupB p.1 = true ∧ Rp K B (.ref y.2.1) p.1 ∧ Rp K B y.2.2 p.2) kvs ps → Paired (fun y z => z.1 = y.1 ∧ z.2.1 = y.2.1 ∧ RelV y.2.2 z.2.2) kvs zs →
    ∀ {z0 : List (NestedKey × Addr × Value)} {p0 : List (D × D)}, RpX K B true (z0.map refK) p0 → RpX K B true ((storedAllH z0 zs).map refK) (ps.foldl (fun acc p => dPut acc p.1 p.2) p0)
  | _, _, _, .nil, .nil, _, _, h0 => h0
  | _, _, _, .cons (a := y) (b := p) h t, .cons (b := z) q r, z0, p0, h0 => by
    obtain ⟨z1, z2, z3⟩ := z
    obtain ⟨e1, e2, e3⟩ := q
    simp only at e1 e2 e3
    subst e1 e2
    exact rpx_merge t r (rpx_put h.1 h.2.1 h.2.2.1 e3 h.2.2.2 h0)
/-- a new dict that nobody holds -/
theorem newD (S : Sim K ρ σ B H) {ps : List (D × D)} {p : Addr} {ep : Nat} {b : Bool} {xs : List (NestedKey × Value × Value)} (hp : H p = none) (h : RpX K B b xs ps) (k : ∀ v B' H', Sim K ρ σ B' H' → Ext ρ σ B H ρ σ B' H' → HdOk K (New ρ σ H) ρ σ B' H' v (.fr (.dict ps)) → Q v H') :
    Q (.ref p) (upd H p (dX K.w p ep xs)) := by
  obtain ⟨S', x⟩ := S.newH hp (dX K.w p ep xs)
  obtain ⟨bb, n⟩ := S.free hp
  exact k _ _ _ S' x ⟨p, rfl, bb, ⟨ep, b, xs, upd_same, h⟩, n, .inl hp⟩
theorem cl_dict : CalL K (rDictX K K.w) (un1 dictD) := CalL.one fun ρ σ B H x d h Q S t e k => by
  have main : ∀ {a : Addr} {vs : List V} {ds : List D}, RpL K B vs ds → dictP ds = some h → (∀ as, vs = as.map V.ref → SeqAt2 K H a as) → rDictX K K.w [.ref a] H Q := fun {a vs ds} ra e hs => by
    obtain ⟨ps, e1, e2⟩ := Option.bind_eq_some_iff.mp e
    obtain ⟨c, rfl⟩ := if_some e2
    obtain ⟨as, rfl, r⟩ := pairs_rp ra e1
    rw [Bool.or_eq_true] at c
    refine ⟨a, as, rfl, hs as rfl, ?_⟩
    rcases c with c | c
    · obtain ⟨kvs, q1, q2⟩ := pairs_S S.bh r c
      refine .inl ⟨kvs, q1, fun p ep ys us hp so kv e => ?_⟩
      exact newD S hp (rps_X so (by rw [e]; exact rps_merge (rpk_S q2 kv) .nil)) k
    · obtain ⟨kvs, q1, q2⟩ := pairs_T S.bh r c
      refine .inr ⟨kvs, q1, fun p ep zs hp kv => ?_⟩
      exact newD S hp (rpx_merge q2 kv (z0 := []) .nil) k
  cases d with
  | list ds =>
    obtain ⟨a, vs, rfl, ha, ra⟩ := t
    exact main ra e fun as q => by subst q; exact .inl ha
  | tuple ds =>
    obtain ⟨a, vs, rfl, ha, ra⟩ := Tp.tupX t
    exact main ra e fun as q => by subst q; exact .inr (same_x S.bh ha)
  | _ => cases e
end
section
variable {X : Cx} {C : Ct} {pos : Pos}
end
end GS
namespace GM
open PySem L2 GS
/-- _law_plan(state, book, key, left); slots 0:state 1:book 2:key 3:left 4:cell 5:puts 6:place 7:piece 8:some 9:must 10:one -/
def m_law_plan_ct1 (F__law_pieces F__law_plan F__law_takers F__law_cell : FF) : EF := (eB (eBin (inB false) (eVb 10) (eTup (aCons (eC (.str (Str.ofString "s"))) (aCons (eC (.str (Str.ofString "x0"))) (aCons (eC (.str (Str.ofString "keytree"))) (aCons (eC (.str (Str.ofString "g"))) (aCons (eC (.str (Str.ofString "h1"))) (aCons (eC (.str (Str.ofString "graftofaone"))) aNil)))))))))
def m_law_plan_ce2 (F__law_pieces F__law_plan F__law_takers F__law_cell : FF) : EF := (eMv 10)
def m_law_plan_b3 (F__law_pieces F__law_plan F__law_takers F__law_cell : FF) : SF := (sKill [6, 7, 8, 9] (sSeq (sSet 8 (eCall 2 none F__law_takers (aCons (eMv 1) (aCons (eMv 7) aNil)))) (sSeq (sSet 9 (eOr (eB (eBin (eqB false) (eBin ixA (eVb 7) (eC (.int 0))) (eC (.str (Str.ofString "hole"))))) (eAnd (eB (eBin (eqB false) (eBin ixA (eVb 7) (eC (.int 0))) (eC (.str (Str.ofString "knot"))))) (eAnd (eB (eBin (isD true) (eBin ixA (eVb 7) (eC (.int 2))) (eC .none))) (eBin ixA (eBin ixA (eVb 7) (eC (.int 2))) (eC (.int 1))))))) (sSeq (sIf (eOr (eB (eBin (eqB false) (eVb 3) (eC (.int 0)))) (eOr (eB (eBin (eqB false) (eBin modD (eVb 4) (eC (.int 3))) (eC (.int 2)))) (eB (eBin (ltI fun i j => decide (j < i)) (eBin ixA (eVb 0) (eC (.str (Str.ofString "keys")))) (eC (.int 5)))))) (sSet 8 (eLc [10] (iSq (eMv 8)) (gN 10) (eNox (m_law_plan_ct1 F__law_pieces F__law_plan F__law_takers F__law_cell)) (eNox (m_law_plan_ce2 F__law_pieces F__law_plan F__law_takers F__law_cell)))) sNil) (sIf (eOr (eB (eVb 9)) (eAnd (eB (eBin (ltI fun i j => decide (j < i)) (eCB (un1 lenD) (aCons (eVb 8) aNil)) (eC (.int 0)))) (eAnd (eB (eBin (ltI fun i j => decide (j < i)) (eVb 3) (eC (.int 0)))) (eB (eBin (ltI fun i j => decide (j < i)) (eBin modD (eBin divD (eVb 4) (eC (.int 3))) (eC (.int 3))) (eC (.int 0))))))) (sSeq (sApp 5 (eTup (aCons (eMv 6) (aCons (eCall 4 (some 0) F__law_plan (aCons (eVb 0) (aCons (eMv 1) (aCons (eBin ixA (eVb 8) (eBin modD (eBin divD (eVb 4) (eC (.int 9))) (eCB (un1 lenD) (aCons (eVb 8) aNil)))) (aCons (eCB (un2 maxD) (aCons (eC (.int 0)) (aCons (eBin subD (eVb 3) (eC (.int 1))) aNil))) aNil))))) aNil)))) (sSet 4 (eBin addD (eBin divD (eVb 4) (eC (.int 5))) (eC (.int 1))))) sNil)))))
def m_law_plan (F__law_pieces F__law_plan F__law_takers F__law_cell : FF) : SF := (sSeq (sSet 4 (eCall 1 (some 0) F__law_cell (aCons (eVb 0) aNil))) (sSeq (sPut 0 (eC (.str (Str.ofString "keys"))) (eBin addD (eBin ixA (eVb 0) (eC (.str (Str.ofString "keys")))) (eC (.int 1)))) (sSeq (sSet 3 (eIf (eB (eBin (ltI fun i j => decide (i < j)) (eBin ixA (eVb 0) (eC (.str (Str.ofString "keys")))) (eC (.int 6)))) (eMv 3) (eC (.int 0)))) (sSeq (sSet 5 (eLst aNil)) (sSeq (sFor (iSq (eCall 2 none F__law_pieces (aCons (eBin ixA (eCB (un1 dictD) (aCons (eBin ixA (eVb 1) (eC (.int 1))) aNil)) (eVb 2)) (aCons (eTup aNil) aNil)))) (gT 2 (gsC (gN 6) (gsC (gN 7) gsN))) (m_law_plan_b3 F__law_pieces F__law_plan F__law_takers F__law_cell)) (sEnd (sRet (eTup (aCons (eMv 2) (aCons (eCB (un1 tupleD) (aCons (eVb 5) aNil)) aNil))))))))))
theorem m_law_plan_eq (F__law_pieces F__law_plan F__law_takers F__law_cell : FF) (ρ : Rho) : fnF 11 4 (m_law_plan F__law_pieces F__law_plan F__law_takers F__law_cell) ρ = finR 4 (m_law_plan F__law_pieces F__law_plan F__law_takers F__law_cell (ρ ++ [none, none, none, none, none, none, none])) := fnF_eq 11 4 _
end GM
namespace GM
open PySem L2 GS
def StrK (ps : List (D × D)) : Prop := ∀ p ∈ ps, ∃ s, p.1 = PyData.str s
theorem dGet_put (x y : Str) (v : D) : ∀ {ps : List (D × D)}, StrK ps → dGet (dPut ps (.str x) v) (.str y) = if x = y then some v else dGet ps (.str y) := fun {ps} h => by
  unfold dPut
  have mp : ∀ {ps : List (D × D)}, StrK ps → dGet (ps.map fun p => if kEq p.1 (.str x) then (p.1, v) else p) (.str y) = if ps.any (fun p => kEq p.1 (.str x)) && decide (x = y) then some v else dGet ps (.str y) := fun {ps} h => by
    induction ps with
    | nil => rfl
    | cons p ps ih =>
      obtain ⟨s, hs⟩ := h p (by simp)
      obtain ⟨k, d⟩ := p
      simp only at hs
      subst hs
      have ih := ih fun p m => h p (by simp [m])
      rw [List.map_cons, List.any_cons, kEq_s]
      by_cases q1 : s = x
      · subst q1
        by_cases q2 : s = y
        · simp [q2]
        · simp [q2, ih]
      · by_cases q2 : s = y
        · have q3 : ¬ x = y := fun e => q1 (by rw [q2, e])
          rw [if_neg (by simpa using q1)]
          simp [q2, q3]
        · rw [if_neg (by simpa using q1)]
          rw [dGet_cons, kEq_s, decide_eq_false q2, ih, dGet_cons, kEq_s, decide_eq_false q2, decide_eq_false q1, Bool.false_or]
          rfl
  have ap : ∀ {ps : List (D × D)}, StrK ps → ps.any (fun p => kEq p.1 (.str x)) = false → dGet (ps ++ [(.str x, v)]) (.str y) = if x = y then some v else dGet ps (.str y) := fun {ps} h hn => by
    induction ps with
    | nil => by_cases q : x = y <;> simp [q]
    | cons p ps ih =>
      obtain ⟨s, hs⟩ := h p (by simp)
      obtain ⟨k, d⟩ := p
      simp only at hs
      subst hs
      rw [List.any_cons, Bool.or_eq_false_iff] at hn
      have ih := ih (fun p m => h p (by simp [m])) hn.2
      have q1 : ¬ s = x := by simpa using hn.1
      rw [List.cons_append]
      by_cases q2 : s = y
      · have q3 : ¬ x = y := fun e => q1 (by rw [q2, e])
        simp [q2, q3]
      · simp [q2, ih]
  split
  · rename_i c
    rw [mp h, c, Bool.true_and]
    by_cases q : x = y <;> simp [q]
  · rename_i c
    exact ap h (by simpa using c)
theorem strK_put {ps : List (D × D)} (h : StrK ps) (x : Str) (v : D) : StrK (dPut ps (.str x) v) := by
  unfold dPut
  split
  · intro p m
    obtain ⟨q, mq, rfl⟩ := List.mem_map.mp m
    obtain ⟨s, hs⟩ := h q mq
    refine ⟨s, ?_⟩
    split <;> exact hs
  · intro p m
    rcases List.mem_append.mp m with m | m
    · exact h p m
    · simp at m; subst m; exact ⟨x, rfl⟩
/-- dict(book[1]) -/
def ktD (p : Str × Tr) : D × D := (.str p.1, p.2.enc)
def Bk.dict (b : Bk) : D := .dict (dMerge (b.trees.map ktD))
theorem fold_get (k : Str) : ∀ (ts : List (Str × Tr)) {acc : List (D × D)} (o : Option Tr), StrK acc → dGet acc (.str k) = o.map Tr.enc →
    dGet ((ts.map ktD).foldl (fun acc p => dPut acc p.1 p.2) acc) (.str k) = (ts.foldl (fun acc p => if p.1 = k then some p.2 else acc) o).map Tr.enc := by
  intro ts
  induction ts with
  | nil => intro acc o _ h; exact h
  | cons t ts ih =>
    intro acc o hs h
    refine ih _ (strK_put hs t.1 t.2.enc) ?_
    show dGet (dPut acc (.str t.1) t.2.enc) (.str k) = _
    rw [dGet_put _ _ _ hs, h]
    by_cases q : t.1 = k <;> simp [q]
theorem book_get (b : Bk) (k : Str) : dGet (dMerge (b.trees.map ktD)) (.str k) = (b.treeOf k).map Tr.enc := fold_get k b.trees none (fun _ m => by cases m) rfl
theorem pairsD_kt : ∀ ts : List (Str × Tr), pairsD (ts.map encKT) = some (ts.map ktD)
  | [] => rfl
  | t :: ts => by
    show (pairsD (ts.map encKT)).map (fun ps => (PyData.str t.1, t.2.enc) :: ps) = _
    rw [pairsD_kt ts]
    rfl
@[simp] theorem dict_book (b : Bk) : dictD (.tuple (b.trees.map encKT)) = some (.fr b.dict) := by
  show dictP (b.trees.map encKT) = _
  unfold dictP
  rw [pairsD_kt, Option.bind_some]
  have : okPs false (b.trees.map ktD) = true := by
    unfold okPs
    rw [List.all_map, List.all_eq_true]
    intro p _
    rfl
  rw [this, Bool.true_or]
  rfl
theorem ix_dict {b : Bk} {k : Str} {t : Tr} (h : b.treeOf k = some t) : ixA b.dict (.str k) = some (.sh t.enc) := by
  show ixA (.dict _) _ = _
  rw [ixA_d, isK_s, book_get, h]
  rfl
inductive Pl where
  | mk (key : Str) (puts : List (List Nat × Pl))
  deriving Inhabited
def Pl.key : Pl → Str
  | .mk k _ => k
def Pl.puts : Pl → List (List Nat × Pl)
  | .mk _ ps => ps
mutual
def Pl.enc : Pl → D
  | .mk k ps => .tuple [.str k, .tuple (Pl.encL ps)]
def Pl.encL : List (List Nat × Pl) → List D
  | [] => []
  | x :: r => Pl.encX x :: Pl.encL r
def Pl.encX : List Nat × Pl → D
  | (p, q) => .tuple [encP p, q.enc]
end
theorem pencL_map : ∀ ps : List (List Nat × Pl), Pl.encL ps = ps.map Pl.encX
  | [] => rfl
  | x :: r => by rw [Pl.encL, pencL_map r, List.map_cons]
theorem penc_eq (q : Pl) : q.enc = .tuple [.str q.key, .tuple (q.puts.map Pl.encX)] := by
  cases q with
  | mk k ps => rw [Pl.enc, pencL_map]; rfl
theorem pencX_eq (x : List Nat × Pl) : Pl.encX x = .tuple [encP x.1, x.2.enc] := by
  obtain ⟨p, q⟩ := x
  rw [Pl.encX]
mutual
/-- how many keys -/
def Pl.size : Pl → Nat
  | .mk _ ps => 1 + Pl.sizeL ps
def Pl.sizeL : List (List Nat × Pl) → Nat
  | [] => 0
  | x :: r => Pl.sizeX x + Pl.sizeL r
def Pl.sizeX : List Nat × Pl → Nat
  | (_, q) => q.size
end
mutual
/-- how many within one another -/
def Pl.dep : Pl → Nat
  | .mk _ ps => Pl.depL ps + 1
def Pl.depL : List (List Nat × Pl) → Nat
  | [] => 0
  | x :: r => max (Pl.depX x) (Pl.depL r)
def Pl.depX : List Nat × Pl → Nat
  | (_, q) => q.dep
end
theorem sizeL_snoc (ps : List (List Nat × Pl)) (x : List Nat × Pl) : Pl.sizeL (ps ++ [x]) = Pl.sizeL ps + x.2.size := by
  induction ps with
  | nil => obtain ⟨p, q⟩ := x; simp [Pl.sizeL, Pl.sizeX]
  | cons y ps ih => rw [List.cons_append, Pl.sizeL, ih, Pl.sizeL]; omega
theorem depL_snoc (ps : List (List Nat × Pl)) (x : List Nat × Pl) : Pl.depL (ps ++ [x]) = max (Pl.depL ps) x.2.dep := by
  induction ps with
  | nil => obtain ⟨p, q⟩ := x; simp [Pl.depL, Pl.depX]
  | cons y ps ih => rw [List.cons_append, Pl.depL, ih, Pl.depL]; omega
def Tr.must (t : Tr) : Bool := match t.want with
  | some (_, _, b) => b
  | none => false
mutual
/-- a plan of a book -/
inductive PlOk (b : Bk) : Pl → Prop
  | mk {k : Str} {t : Tr} {ps : List (List Nat × Pl)} : b.treeOf k = some t → PutsOk b (t.pps []) ps → PlOk b (.mk k ps)
/-- what is put at pieces, in their order -/
inductive PutsOk (b : Bk) : List (List Nat × Tr) → List (List Nat × Pl) → Prop
  | nil : PutsOk b [] []
  | skip {p : List Nat} {u : Tr} {us : List (List Nat × Tr)} {ps : List (List Nat × Pl)} : u.must = false → PutsOk b us ps → PutsOk b ((p, u) :: us) ps
  | put {p : List Nat} {u : Tr} {q : Pl} {us : List (List Nat × Tr)} {ps : List (List Nat × Pl)} : q.key ∈ b.takers u → PlOk b q → PutsOk b us ps → PutsOk b ((p, u) :: us) ((p, q) :: ps)
end
theorem PutsOk.app {b : Bk} : ∀ {us vs : List (List Nat × Tr)} {ps qs : List (List Nat × Pl)}, PutsOk b us ps → PutsOk b vs qs → PutsOk b (us ++ vs) (ps ++ qs)
  | _, _, _, _, .nil, h => h
  | _, _, _, _, .skip m r, h => .skip m (PutsOk.app r h)
  | _, _, _, _, .put m o r, h => .put m o (PutsOk.app r h)
end GM
namespace GM
open PySem L2 GS
theorem BookOk.bkN {h : Nat} {b : Bk} (B : BookOk h b) : BkN h b := ⟨B.bk, fun p m => (B.trees p m).feet, fun p m => (B.trees p m).ok, fun p m => (B.trees p m).kn⟩
theorem st_keys (ns : List Int) (a : Int) (k : Int) : ixA (stD ns a (some k)) (.str (Str.ofString "keys")) = some (.sh (.int k)) := by simp [stD]
theorem st_put (ns : List Int) (a : Int) (k v : Int) : setD (.str (Str.ofString "keys")) (.int v) (stD ns a (some k)) = some (stD ns a (some v)) := by
  have l3 : 3 < sizeLine := by decide
  simp [stD, dPut, l3]
theorem want_no {u : Tr} (h : noW u = true) : u.want = none := by
  cases u with
  | knot n tk ks => cases tk with
    | none => rfl
    | some w => cases h
  | hole n => cases h
  | _ => rfl
theorem must_wn {u : Tr} (h : WnB u = true) (m : u.must = true) : ∃ g n, u.want = some (g, n, true) ∧ n ∈ nm3 := by
  cases u with
  | hole n => exact ⟨false, n, rfl, by simpa [WnB] using h⟩
  | knot n tk ks =>
    cases tk with
    | none => cases m
    | some w =>
      obtain ⟨x, c⟩ := w
      cases c with
      | false => cases m
      | true => exact ⟨true, x, rfl, by have h := h; simp [WnB, wtk] at h; exact h.2⟩
  | _ => cases m
theorem mem_takers {b : Bk} {u : Tr} {g : Bool} {n : Str} {m : Bool} (h : u.want = some (g, n, m)) {p : Str × Tr} (mp : p ∈ b.trees) (hg : p.2.isGraft = g) (hn : p.2.name = n) : p.1 ∈ b.takers u := by
  unfold Bk.takers
  rw [h]
  exact List.mem_map.mpr ⟨p, List.mem_filter.mpr ⟨mp, by simp [hg, hn]⟩, rfl⟩
/-- what must be put can be, by one of the sixQ -/
theorem base_taker {h : Nat} {b : Bk} (B : BookOk h b) {u : Tr} (w : WnB u = true) (m : u.must = true) : ∃ k ∈ b.takers u, k ∈ baseK := by
  obtain ⟨g, n, hw, hn⟩ := must_wn w m
  cases g with
  | false =>
    obtain ⟨p, mp, bk, e1, e2⟩ := B.base.st n hn
    exact ⟨p.1, mem_takers hw mp e1 e2, bk⟩
  | true =>
    obtain ⟨p, mp, bk, e1, e2⟩ := B.base.gr n hn
    exact ⟨p.1, mem_takers hw mp e1 e2, bk⟩
theorem takers_keys {b : Bk} {u : Tr} {k : Str} (h : k ∈ b.takers u) : ∃ t, (k, t) ∈ b.trees := by
  unfold Bk.takers at h
  split at h
  · cases h
  · obtain ⟨p, mp, rfl⟩ := List.mem_map.mp h
    exact ⟨p.2, (List.mem_filter.mp mp).1⟩
theorem takers_len (b : Bk) (u : Tr) : (b.takers u).length ≤ b.trees.length := by
  unfold Bk.takers
  split
  · simp
  · rw [List.length_map]; exact List.length_filter_le _ _
/-- sixQ keys in a tuple -/
def sixQ : List Str := [Str.ofString "s", Str.ofString "x0", Str.ofString "keytree", Str.ofString "g", Str.ofString "h1", Str.ofString "graftofaone"]
theorem six_base (k : Str) : decide (k ∈ sixQ) = decide (k ∈ baseK) := by
  have : k ∈ sixQ ↔ k ∈ baseK := by
    unfold sixQ baseK
    simp only [List.mem_cons, List.not_mem_nil, or_false]
    constructor <;> (rintro (h | h | h | h | h | h) <;> simp [h])
  simp only [this]
def rankP (l : Nat) (k : Str) : Nat := if k ∈ baseK then 0 else l + 1
/-- how many keys a plan may have, by the number of its first -/
def limP (c s : Nat) : Nat := if 6 ≤ c then 51 else 2551 * min s (6 - c)
mutual
/-- how many keys are none of the sixQ -/
def Pl.nb : Pl → Nat
  | .mk k ps => (if k ∈ baseK then 0 else 1) + Pl.nbL ps
def Pl.nbL : List (List Nat × Pl) → Nat
  | [] => 0
  | x :: r => Pl.nbX x + Pl.nbL r
def Pl.nbX : List Nat × Pl → Nat
  | (_, q) => q.nb
end
theorem nbL_snoc (ps : List (List Nat × Pl)) (x : List Nat × Pl) : Pl.nbL (ps ++ [x]) = Pl.nbL ps + x.2.nb := by
  induction ps with
  | nil => obtain ⟨p, q⟩ := x; simp [Pl.nbL, Pl.nbX]
  | cons y ps ih => rw [List.cons_append, Pl.nbL, ih, Pl.nbL]; omega
mutual
theorem nb_size : ∀ q : Pl, q.nb ≤ q.size
  | .mk k ps => by
    have := nbL_size ps
    rw [Pl.nb, Pl.size]
    split <;> omega
theorem nbL_size : ∀ ps : List (List Nat × Pl), Pl.nbL ps ≤ Pl.sizeL ps
  | [] => by simp [Pl.nbL]
  | x :: r => by
    have h1 := nbX_size x
    have h2 := nbL_size r
    rw [Pl.nbL, Pl.sizeL]
    omega
theorem nbX_size : ∀ x : List Nat × Pl, Pl.nbX x ≤ Pl.sizeX x
  | (p, q) => by
    have := nb_size q
    rw [Pl.nbX, Pl.sizeX]
    omega
end
structure GoodP (b : Bk) (n c : Nat) (key : Str) (q : Pl) : Prop where
  ok : PlOk b q
  key : q.key = key
  dep : q.dep ≤ n + 1
  size : q.size ≤ limP c q.size
  nb : q.nb ≤ if q.key ∈ baseK then 0 else max 1 (7 - c)
def PlanGen (n : Nat) (F : FF) : Prop := ∀ (h : Nat) (b : Bk) (ns : List Int) (a kx : Nat) (l : Nat) (key : Str), BookOk h b → h ≤ 100 → key ∈ b.trees.map (·.1) → rankP l key ≤ n → l ≤ 1000 → ∃ (q : Pl) (a' : Nat),
  F [some ⟨stD ns a (some kx), .io⟩, some ⟨b.enc, .sh⟩, some ⟨.str key, .sh⟩, some ⟨.int l, .sh⟩] = .ok (.sh q.enc) [some ⟨stD ns a' (some ((kx + q.size : Nat) : Int)), .io⟩, none, none, none] ∧ GoodP b n (kx + 1) key q
section
variable {Fp Fl Ft Fc : FF}
def stP (ns : List Int) (a kx : Nat) (b : Bk) (key : Str) (l : Nat) (c : Int) (ps : List (List Nat × Pl)) (x6 x7 x8 x9 x10 : Option Cel) : Rho :=
  [some ⟨stD ns a (some kx), .io⟩, some ⟨b.enc, .sh⟩, some ⟨.str key, .sh⟩, some ⟨.int l, .sh⟩, some ⟨.int c, .sh⟩, some ⟨.list (ps.map Pl.encX), .ow⟩, x6, x7, x8, x9, x10]
theorem must_val (u : Tr) (r : Rho) (r0 : Option Cel) (r1 r2 r3 r4 r5 r6 : Option Cel) : sSet 9 (eOr (eB (eBin (eqB false) (eBin ixA (eVb 7) (eC (.int 0))) (eC (.str (Str.ofString "hole"))))) (eAnd (eB (eBin (eqB false) (eBin ixA (eVb 7) (eC (.int 0))) (eC (.str (Str.ofString "knot"))))) (eAnd (eB (eBin (isD true) (eBin ixA (eVb 7) (eC (.int 2))) (eC .none))) (eBin ixA (eBin ixA (eVb 7) (eC (.int 2))) (eC (.int 1))))))
    [r0, r1, r2, r3, r4, r5, r6, some ⟨u.enc, .sh⟩, r8, none, none] = .nx [r0, r1, r2, r3, r4, r5, r6, some ⟨u.enc, .sh⟩, r8, some ⟨.bool u.must, .sh⟩, none] := by
  cases u with
  | knot n tk ks =>
    cases tk with
    | none => simp [Tr.enc, encTk, Tr.must, Tr.want]
    | some w => obtain ⟨m, c⟩ := w; cases c <;> simp [Tr.enc, encTk, Tr.must, Tr.want]
  | _ => simp [Tr.enc, Tr.must, Tr.want]
end
section
variable {Fp Fl Ft Fc : FF}
/-- those of the sixQ alone, or all -/
theorem some_val {h : Nat} {b : Bk} (B : BookOk h b) (u : Tr) (wu : WnB u = true) (ns : List Int) (a kx l : Nat) (key : Str) (c : Int) (ps : List (List Nat × Pl)) (x6 x7 x9 : Option Cel) : ∃ sm : List Str, (∀ k ∈ sm, k ∈ b.takers u) ∧ sm.length ≤ 11 ∧ (l = 0 ∨ 5 < kx → ∀ k ∈ sm, k ∈ baseK) ∧ (u.must = true → sm ≠ []) ∧
    sIf (eOr (eB (eBin (eqB false) (eVb 3) (eC (.int 0)))) (eOr (eB (eBin (eqB false) (eBin modD (eVb 4) (eC (.int 3))) (eC (.int 2)))) (eB (eBin (ltI fun i j => decide (j < i)) (eBin ixA (eVb 0) (eC (.str (Str.ofString "keys")))) (eC (.int 5)))))) (sSet 8 (eLc [10] (iSq (eMv 8)) (gN 10) (eNox (m_law_plan_ct1 Fp Fl Ft Fc)) (eNox (m_law_plan_ce2 Fp Fl Ft Fc)))) sNil
      (stP ns a kx b key l c ps x6 x7 (some ⟨.list ((b.takers u).map .str), .ow⟩) x9 none) = .nx (stP ns a kx b key l c ps x6 x7 (some ⟨.list (sm.map .str), .ow⟩) x9 none) := by
  have tl : (b.takers u).length ≤ 11 := Nat.le_trans (takers_len b u) B.len
  have ek := st_keys ns a kx
  by_cases q : l = 0 ∨ c % 3 = 2 ∨ 5 < kx
  · refine ⟨(b.takers u).filter fun k => decide (k ∈ baseK), fun k m => (List.mem_filter.mp m).1, Nat.le_trans (List.length_filter_le _ _) tl, fun _ k m => by simpa using (List.mem_filter.mp m).2, fun m e => ?_, ?_⟩
    · obtain ⟨k, mk, bk⟩ := base_taker B wu m
      have : k ∈ (b.takers u).filter fun k => decide (k ∈ baseK) := List.mem_filter.mpr ⟨mk, by simpa using bk⟩
      rw [e] at this
      cases this
    · have hl := lcL_up (vs := [10]) (g := gN 10) (ft := eNox (m_law_plan_ct1 Fp Fl Ft Fc)) (fe := eNox (m_law_plan_ce2 Fp Fl Ft Fc)) (stP ns a kx b key l c ps x6 x7 (some ⟨.list ((b.takers u).map .str), .sh⟩) x9 none) PyData.str
        (fun k => stP ns a kx b key l c ps x6 x7 (some ⟨.list ((b.takers u).map .str), .sh⟩) x9 (some ⟨.str k, .sh⟩)) (fun k => decide (k ∈ baseK)) PyData.str (b.takers u) [] (fits (by simp; omega)) (fun k _ => by
          refine ⟨by simp [stP], ?_, by simp [stP], fun _ => by simp [stP, m_law_plan_ce2]⟩
          have bq : ∀ x : Str, (x == k) = decide (k = x) := fun x => by
            by_cases e : k = x
            · simp [e]
            · have e' : ¬ x = k := fun z => e z.symm
              simp [e, e']
          rw [← six_base]
          simp [stP, m_law_plan_ct1, flatD, PyData.eqv, sixQ, bq])
      rw [List.nil_append] at hl
      unfold stP at hl ⊢
      generalize stD ns a (some kx) = sd at ek hl ⊢
      generalize (b.takers u).map PyData.str = tks at hl ⊢
      generalize ((b.takers u).filter fun k => decide (k ∈ baseK)).map PyData.str = fks at hl ⊢
      by_cases q1 : l = 0
      · simp [q1] at hl ⊢
        simp [hl]
      · by_cases q2 : c % 3 = 2
        · simp [q1, q2, hl]
        · have q3 : (5 : Int) < kx := by omega
          simp [q1, q2, ek, q3, hl]
  · refine ⟨b.takers u, fun k m => m, tl, fun h => ?_, fun m e => ?_, ?_⟩
    · exact absurd (h.elim .inl fun h => .inr (.inr h)) q
    · obtain ⟨k, mk, _⟩ := base_taker B wu m
      rw [e] at mk
      cases mk
    · have q1 : ¬ l = 0 := fun e => q (.inl e)
      have q2 : ¬ c % 3 = 2 := fun e => q (.inr (.inl e))
      have q3 : ¬ (5 : Int) < kx := fun e => q (.inr (.inr (by omega)))
      unfold stP
      generalize stD ns a (some kx) = sd at ek ⊢
      simp [q1, q2, ek, q3]
end
end GM
namespace GM
open PySem L2 GS
section
variable {Fp Fl Ft Fc : FF}
/-- one piece: nothing, or a plan -/
theorem plan_turn {n h : Nat} {b : Bk} (B : BookOk h b) (hh : h ≤ 100) (ht : LTakers h Ft) (hl : ∀ m, m + 1 = n → PlanGen m Fl) (ns : List Int) (a kx l : Nat) (key : Str) (c : Int) (ps : List (List Nat × Pl)) (p : List Nat) (u : Tr)
    (ou : u.ok = true) (wu : WnB u = true) (hb : key ∈ baseK → noW u = true) (hr : key ∉ baseK → l + 1 ≤ n) (hl0 : l ≤ 1000) (hps : ps.length ≤ 1000) :
    ∃ ρ', optR (gT 2 (gsC (gN 6) (gsC (gN 7) gsN)) (encPT (p, u)) (stP ns a kx b key l c ps none none none none none)) (m_law_plan_b3 Fp Fl Ft Fc) = .nx ρ' ∧
      ((u.must = false ∧ ρ' = stP ns a kx b key l c ps none none none none none) ∨
       ∃ (q : Pl) (a' : Nat), ρ' = stP ns a' (kx + q.size) b key l (c / 5 + 1) (ps ++ [(p, q)]) none none none none none ∧ q.key ∈ b.takers u ∧ (l = 0 ∨ 5 < kx → q.key ∈ baseK) ∧ key ∉ baseK ∧ GoodP b (n - 1) (kx + 1) q.key q) := by
  obtain ⟨sm, s1, s2, s3, s4, s5⟩ := some_val (Fp := Fp) (Fl := Fl) (Ft := Ft) (Fc := Fc) B u wu ns a kx l key c ps (some ⟨encP p, .sh⟩) (some ⟨u.enc, .sh⟩) (some ⟨.bool u.must, .sh⟩)
  have et := ht b u B.bkN ou
  have eg : gT 2 (gsC (gN 6) (gsC (gN 7) gsN)) (encPT (p, u)) (stP ns a kx b key l c ps none none none none none) = some (stP ns a kx b key l c ps (some ⟨encP p, .sh⟩) (some ⟨u.enc, .sh⟩) none none none) := by simp [stP, encPT]
  rw [eg, optR_s]
  -- the first three steps
  have st1 : sSet 8 (eCall 2 none Ft (aCons (eMv 1) (aCons (eMv 7) aNil))) (stP ns a kx b key l c ps (some ⟨encP p, .sh⟩) (some ⟨u.enc, .sh⟩) none none none) = .nx (stP ns a kx b key l c ps (some ⟨encP p, .sh⟩) (some ⟨u.enc, .sh⟩) (some ⟨.list ((b.takers u).map .str), .ow⟩) none none) := by
    unfold stP
    generalize stD ns a (some kx) = sd
    simp [et]
  have zk : (b.takers u = []) → u.must = false := fun e => by
    cases hm : u.must with
    | false => rfl
    | true =>
      obtain ⟨k, mk, _⟩ := base_taker B wu hm
      rw [e] at mk
      cases mk
  by_cases q : u.must = true ∨ (sm ≠ [] ∧ 0 < l ∧ 0 < c / 3 % 3)
  · -- put
    have hne : sm ≠ [] := q.elim s4 fun h => h.1
    have hlen : 0 < sm.length := List.length_pos_iff.mpr hne
    have hm0 := Int.emod_nonneg (c / 9) (show (sm.length : Int) ≠ 0 by omega)
    have hm1 := Int.emod_lt_of_pos (c / 9) (show (0 : Int) < (sm.length : Int) by omega)
    obtain ⟨j, hj⟩ : ∃ j : Nat, c / 9 % (sm.length : Int) = j := ⟨(c / 9 % (sm.length : Int)).toNat, by omega⟩
    have hjl : j < sm.length := by omega
    have ej : L2.atI (sm.map PyData.str) (j : Int) = some (.str (sm[j])) := by
      rw [atI_nat (xs := sm.map PyData.str) (j := j) (v := .str (sm[j])) (by simp [hjl])]
    have mk : sm[j] ∈ sm := List.getElem_mem hjl
    generalize sm[j] = k at ej mk
    have mkt := s1 k mk
    obtain ⟨tk, mtk⟩ := takers_keys mkt
    have nb : key ∉ baseK := fun e => by
      have := want_no (hb e)
      unfold Bk.takers at mkt
      rw [this] at mkt
      cases mkt
    have hn := hr nb
    obtain ⟨qp, a', e, G⟩ := hl (n - 1) (by omega) h b ns a kx (l - 1) k B hh (List.mem_map.mpr ⟨_, mtk, rfl⟩) (by
      unfold rankP
      split
      · omega
      · rename_i nk
        have : ¬ l = 0 := fun e => nk (s3 (.inl e) k mk)
        omega) (by omega)
    have hmax : (if (l : Int) - 1 > 0 then (l : Int) - 1 else 0) = ((l - 1 : Nat) : Int) := by split <;> omega
    have hmD : maxD (.int 0) (.int ((l : Int) - 1)) = some (.sh (.int ((l - 1 : Nat) : Int))) := by
      show some _ = _
      rw [hmax]
    refine ⟨_, ?_, .inr ⟨qp, a', rfl, by rw [G.key]; exact mkt, fun h => by rw [G.key]; exact s3 h k mk, nb, by rw [G.key]; exact G⟩⟩
    unfold m_law_plan_b3
    refine kill_of (stP ns a' (kx + qp.size) b key l (c / 5 + 1) (ps ++ [(p, qp)]) (some ⟨encP p, .sh⟩) (some ⟨u.enc, .sh⟩) (some ⟨.list (sm.map .str), .ow⟩) (some ⟨.bool u.must, .sh⟩) none) (by simp [stP]) (seq_of _ st1 (seq_of _ (must_val u [] _ _ _ _ _ _ _) (seq_of _ s5 ?_))) (by simp [stP])
    have z1 : ps.length < sizeLine := fitsl (by omega)
    have z0 : (0 : Int) < (sm.length : Int) := by omega
    have cond : (u.must || (decide ((0 : Int) < (sm.length : Int)) && (decide ((0 : Int) < (l : Int)) && decide (0 < c / 3 % 3)))) = true := by
      rcases q with q | ⟨_, q2, q3⟩
      · rw [q]; rfl
      · have q2' : (0 : Int) < (l : Int) := by omega
        rw [decide_eq_true z0, decide_eq_true q2', decide_eq_true q3]; simp
    have e' : Fl [some ⟨stD ns (a : Int) (some (kx : Int)), .io⟩, some ⟨b.enc, .sh⟩, some ⟨.str k, .sh⟩, some ⟨.int ((l - 1 : Nat) : Int), .sh⟩] = .ok (.sh qp.enc) [some ⟨stD ns (a' : Int) (some ((kx + qp.size : Nat) : Int)), .io⟩, none, none, none] := e
    unfold stP
    generalize stD ns (a : Int) (some (kx : Int)) = sd at e' ⊢
    generalize stD ns (a' : Int) (some ((kx + qp.size : Nat) : Int)) = sd' at e' ⊢
    have hx : Pl.encX (p, qp) = .tuple [encP p, qp.enc] := pencX_eq _
    rw [List.map_append, List.map_cons, List.map_nil, hx]
    cases hm : u.must with
    | true => simp [resO_mod z0, hj, ej, hmD, e', z1]
    | false =>
      rw [hm, Bool.false_or, Bool.and_eq_true, Bool.and_eq_true, decide_eq_true_eq, decide_eq_true_eq, decide_eq_true_eq] at cond
      have c1 : 0 < sm.length := hlen
      have c2 : 0 < l := by omega
      simp [cond.2.2, c1, c2, resO_mod z0, hj, ej, hmD, e', z1]
  · -- nothing
    have hm : u.must = false := by
      cases hm : u.must with
      | false => rfl
      | true => exact absurd (.inl hm) q
    refine ⟨_, ?_, .inl ⟨hm, rfl⟩⟩
    unfold m_law_plan_b3
    refine kill_of (stP ns a kx b key l c ps (some ⟨encP p, .sh⟩) (some ⟨u.enc, .sh⟩) (some ⟨.list (sm.map .str), .ow⟩) (some ⟨.bool u.must, .sh⟩) none) (by simp [stP]) (seq_of _ st1 (seq_of _ (must_val u [] _ _ _ _ _ _ _) (seq_of _ s5 ?_))) (by simp [stP])
    unfold stP
    generalize stD ns (a : Int) (some (kx : Int)) = sd
    rw [hm]
    by_cases q1 : sm = []
    · subst q1
      simp
    · have q1' : 0 < sm.length := List.length_pos_iff.mpr q1
      by_cases q2 : 0 < l
      · have q3 : ¬ 0 < c / 3 % 3 := fun e => q (.inr ⟨q1, q2, e⟩)
        simp [q1', q2, q3]
      · simp [q1', q2]
/-- the pieces, one behind the other -/
theorem plan_loop {n h : Nat} {b : Bk} (B : BookOk h b) (hh : h ≤ 100) (ht : LTakers h Ft) (hl : ∀ m, m + 1 = n → PlanGen m Fl) (ns : List Int) (l c0 : Nat) (key : Str)
    (hr : key ∉ baseK → l + 1 ≤ n) (hl0 : l ≤ 1000) (hc : 6 ≤ c0 → l = 0) : ∀ (us : List (List Nat × Tr)) (a kx : Nat) (c : Int) (ps : List (List Nat × Pl)), (∀ x ∈ us, x.2.ok = true ∧ WnB x.2 = true ∧ (key ∈ baseK → noW x.2 = true)) → ps.length + us.length ≤ 50 →
      kx = c0 + Pl.sizeL ps → Pl.sizeL ps ≤ 51 * ps.length + 2551 * min (Pl.sizeL ps) (5 - c0) → Pl.depL ps ≤ n → (6 ≤ c0 → Pl.sizeL ps ≤ ps.length) → Pl.nbL ps ≤ min (Pl.sizeL ps) (6 - c0) →
    ∃ (qs : List (List Nat × Pl)) (a' : Nat) (c' : Int), forL (gT 2 (gsC (gN 6) (gsC (gN 7) gsN))) (m_law_plan_b3 Fp Fl Ft Fc) (us.map encPT) (stP ns a kx b key l c ps none none none none none) = .nx (stP ns a' (c0 + Pl.sizeL (ps ++ qs)) b key l c' (ps ++ qs) none none none none none) ∧
      PutsOk b us qs ∧ qs.length ≤ us.length ∧ Pl.sizeL (ps ++ qs) ≤ 51 * (ps ++ qs).length + 2551 * min (Pl.sizeL (ps ++ qs)) (5 - c0) ∧ Pl.depL (ps ++ qs) ≤ n ∧ (6 ≤ c0 → Pl.sizeL (ps ++ qs) ≤ (ps ++ qs).length) ∧ (key ∈ baseK → qs = []) ∧ Pl.nbL (ps ++ qs) ≤ 6 - c0
  | [], a, kx, c, ps, _, _, hk, h1, h2, h3, h4 => ⟨[], a, c, by rw [hk, List.append_nil]; rfl, .nil, Nat.le_refl _, by rw [List.append_nil]; exact h1, by rw [List.append_nil]; exact h2, by rw [List.append_nil]; exact h3, fun _ => rfl, by rw [List.append_nil]; omega⟩
  | (p, u) :: us, a, kx, c, ps, hu, hle, hk, h1, h2, h3, h4 => by
    rw [List.length_cons] at hle
    obtain ⟨ou, wu, bu⟩ := hu (p, u) (by simp)
    obtain ⟨ρ', e, hc'⟩ := plan_turn (Fp := Fp) (Fc := Fc) B hh ht hl ns a kx l key c ps p u ou wu bu hr hl0 (by omega)
    rw [List.map_cons, forL_cons2, e, turnR_nx]
    rcases hc' with ⟨m, rfl⟩ | ⟨q, a1, rfl, mt, qb, nb, G⟩
    · obtain ⟨qs, a', c', r1, r2, r3, r4, r5, r6, r7, r8⟩ := plan_loop B hh ht hl ns l c0 key hr hl0 hc us a kx c ps (fun x mx => hu x (by simp [mx])) (by omega) hk h1 h2 h3 h4
      exact ⟨qs, a', c', r1, .skip m r2, by rw [List.length_cons]; omega, r4, r5, r6, r7, r8⟩
    · have hz := sizeL_snoc ps (p, q)
      have hd := depL_snoc ps (p, q)
      dsimp only at hz hd
      have hn := hr nb
      have Gs := G.size
      have Gd := G.dep
      have hb2 := nbL_snoc ps (p, q)
      dsimp only at hb2
      have Gn := G.nb
      have Gz := nb_size q
      have hone : (l = 0 ∨ 5 < kx) → q.size = 1 := fun h => by
        obtain ⟨t, ht'⟩ := takers_keys mt
        have bq := qb h
        cases G.ok with
        | @mk k t' ps' e1 e2 =>
          have : t' = t := by
            have := treeOf_mem B.nd ht'
            dsimp only [Pl.key] at this
            rw [e1] at this
            exact Option.some.inj this
          subst this
          have nw := B.bs _ ht' bq
          have none : ∀ {vs : List (List Nat × Tr)} {rs : List (List Nat × Pl)}, (∀ x ∈ vs, noW x.2 = true) → PutsOk b vs rs → rs = [] := fun {vs rs} hv r => by
            induction vs generalizing rs with
            | nil => cases r; rfl
            | cons v vs ih =>
              cases r with
              | skip _ r => exact ih (fun x mx => hv x (by simp [mx])) r
              | put m _ _ =>
                have := want_no (hv _ List.mem_cons_self)
                unfold Bk.takers at m
                dsimp only at this
                rw [this] at m
                cases m
          have := none (fun x mx => nw.w x.2 (by rw [← pps_snd t' []]; exact List.mem_map_of_mem mx)) e2
          subst this
          simp [Pl.size, Pl.sizeL]
      obtain ⟨qs, a', c', r1, r2, r3, r4, r5, r6, r7, r8⟩ := plan_loop B hh ht hl ns l c0 key hr hl0 hc us a1 (kx + q.size) (c / 5 + 1) (ps ++ [(p, q)]) (fun x mx => hu x (by simp [mx])) (by simp; omega) (by rw [hz]; omega) (by
          rw [hz, List.length_append, List.length_singleton]
          by_cases h6 : 5 ≤ kx
          · unfold limP at Gs
            rw [if_pos (by omega)] at Gs
            have : min (Pl.sizeL ps) (5 - c0) ≤ min (Pl.sizeL ps + q.size) (5 - c0) := by omega
            have := Nat.mul_le_mul_left 2551 this
            omega
          · unfold limP at Gs
            rw [if_neg (by omega)] at Gs
            have e1 : min (Pl.sizeL ps) (5 - c0) = Pl.sizeL ps := by omega
            have e2 : min (Pl.sizeL ps + q.size) (5 - c0) = Pl.sizeL ps + min q.size (6 - (kx + 1)) := by omega
            rw [e2, Nat.mul_add]
            rw [e1] at h1
            omega) (by rw [hd]; omega) (fun h6 => by rw [hz, List.length_append, List.length_singleton, hone (.inl (hc h6))]; have := h3 h6; omega) (by
          rw [hz, hb2]
          by_cases kb : q.key ∈ baseK
          · rw [if_pos kb] at Gn
            omega
          · rw [if_neg kb] at Gn
            have : ¬ 5 < kx := fun e => kb (qb (.inr e))
            omega)
      rw [List.append_assoc] at r1 r4 r5 r6 r8
      exact ⟨(p, q) :: qs, a', c', r1, .put mt G.ok r2, by simp; omega, r4, r5, r6, fun e => absurd e nb, r8⟩
end
/-- a plan of a tree of the book -/
theorem law_plan_ok {n : Nat} {Fp Fl Ft Fc : FF} (hp : ∀ h, h ≤ 100 → AllP h Fp) (hl : ∀ m, m + 1 = n → PlanGen m Fl) (ht : ∀ h, h ≤ 100 → LTakers h Ft) (hc : CellSp Fc) : PlanGen n (fnF 11 4 (m_law_plan Fp Fl Ft Fc)) := fun h b ns a kx l key B hh mk hr hl0 => by
  obtain ⟨c, a0, h1⟩ := hc ns a (some kx)
  obtain ⟨⟨k', t⟩, mt, rfl⟩ := List.mem_map.mp mk
  have T := B.trees _ mt
  have et := treeOf_mem B.nd mt
  dsimp only at T et hr ⊢
  have e1 := hp h hh t [] T.ht (by have := T.sz; omega) (by simp; have := T.ht; omega)
  have e1' : Fp [some ⟨t.enc, .sh⟩, some ⟨.tuple [], .sh⟩] = .ok (.fr (.list ((t.pps []).map encPT))) [none, none] := e1
  obtain ⟨l', hl', hl1, hl2⟩ : ∃ l' : Nat, (if kx + 1 < 6 then l else 0) = l' ∧ l' ≤ l ∧ (6 ≤ kx + 1 → l' = 0) := ⟨_, rfl, by split <;> omega, fun h => by rw [if_neg (by omega)]⟩
  have hus : ∀ x ∈ t.pps [], x.2.ok = true ∧ WnB x.2 = true ∧ (k' ∈ baseK → noW x.2 = true) := fun x mx => by
    have mp : x.2 ∈ t.pieces := by rw [← pps_snd t []]; exact List.mem_map_of_mem mx
    exact ⟨piece_ok T.ok _ mp, T.wn _ mp, fun bk => (B.bs _ mt bk).w _ mp⟩
  have hpl : (t.pps []).length ≤ 50 := by rw [pps_len]; exact T.sz
  obtain ⟨qs, a', c', r1, r2, r3, r4, r5, r6, r7, r8⟩ := plan_loop (Fp := Fp) (Fc := Fc) B hh (ht h hh) hl ns l' (kx + 1) k' (fun nb => by unfold rankP at hr; rw [if_neg nb] at hr; omega) (by omega) hl2 (t.pps []) a0 (kx + 1) c [] hus (by simpa using hpl) (by simp [Pl.sizeL]) (by simp [Pl.sizeL]) (by simp [Pl.depL]) (by simp [Pl.sizeL]) (by simp [Pl.nbL])
  rw [List.nil_append] at r1 r4 r5 r6 r8
  refine ⟨.mk k' qs, a', ?_, .mk et r2, rfl, by rw [Pl.dep]; omega, ?_, by
    show Pl.nb (.mk k' qs) ≤ if k' ∈ baseK then 0 else max 1 (7 - (kx + 1))
    rw [Pl.nb]
    by_cases kb : k' ∈ baseK
    · rw [if_pos kb, if_pos kb, r7 kb]
      simp [Pl.nbL]
    · rw [if_neg kb, if_neg kb]
      omega⟩
  · rw [m_law_plan_eq]
    unfold m_law_plan
    have ek := st_keys ns a0 kx
    have ek2 := st_keys ns a0 ((kx : Int) + 1)
    have ep := st_put ns a0 kx ((kx : Int) + 1)
    have hix : ixA b.enc (.int 1) = some (.sh (.tuple (b.trees.map encKT))) := ix_trees b
    have hdx := ix_dict et
    have kz : Pl.size (.mk k' qs) = 1 + Pl.sizeL qs := by rw [Pl.size]
    have r1' : forL (gT 2 (gsC (gN 6) (gsC (gN 7) gsN))) (m_law_plan_b3 Fp Fl Ft Fc) ((t.pps []).map encPT) (stP ns a0 (kx + 1) b k' l' c [] none none none none none) = .nx (stP ns a' (kx + (Pl.size (.mk k' qs))) b k' l' c' qs none none none none none) := by
      rw [r1]
      congr 1
      unfold stP
      rw [kz, show kx + 1 + Pl.sizeL qs = kx + (1 + Pl.sizeL qs) by omega]
    rw [penc_eq]
    refine fin_seq [some ⟨stD ns a0 (some kx), .io⟩, some ⟨b.enc, .sh⟩, some ⟨.str k', .sh⟩, some ⟨.int l, .sh⟩, some ⟨.int c, .sh⟩, none, none, none, none, none, none] (by
      generalize stD ns a (some kx) = s0 at h1 ⊢
      generalize stD ns a0 (some kx) = s1 at h1 ⊢
      simp [h1]) ?_
    refine fin_seq [some ⟨stD ns a0 (some ((kx : Int) + 1)), .io⟩, some ⟨b.enc, .sh⟩, some ⟨.str k', .sh⟩, some ⟨.int l, .sh⟩, some ⟨.int c, .sh⟩, none, none, none, none, none, none] (by
      generalize stD ns a0 (some ((kx : Int) + 1)) = s2 at ep ⊢
      generalize stD ns a0 (some kx) = s1 at ek ep ⊢
      simp [ek, ep]) ?_
    refine fin_seq [some ⟨stD ns a0 (some ((kx : Int) + 1)), .io⟩, some ⟨b.enc, .sh⟩, some ⟨.str k', .sh⟩, some ⟨.int l', .sh⟩, some ⟨.int c, .sh⟩, none, none, none, none, none, none] (by
      generalize stD ns a0 (some ((kx : Int) + 1)) = s2 at ek2 ⊢
      by_cases q : kx + 1 < 6
      · rw [if_pos q] at hl'
        have q' : (kx : Int) + 1 < 6 := by omega
        simp [ek2, q', hl']
      · rw [if_neg q] at hl'
        have q' : ¬ (kx : Int) + 1 < 6 := by omega
        simp [ek2, q', ← hl']) ?_
    refine fin_seq (stP ns a0 (kx + 1) b k' l' c [] none none none none none) (by simp [stP]) ?_
    refine fin_seq (stP ns a' (kx + (Pl.size (.mk k' qs))) b k' l' c' qs none none none none none) ?_ ?_
    · rw [← r1']
      unfold stP
      generalize stD ns (a0 : Int) (some ((kx + 1 : Nat) : Int)) = s2
      have hd : ∃ ps, b.dict = .dict ps := ⟨_, rfl⟩
      simp [hix, hdx, e1']
    · unfold stP
      generalize stD ns (a' : Int) (some ((kx + (Pl.size (.mk k' qs)) : Nat) : Int)) = s3
      have z : qs.length < sizeLine := fitsl (by omega)
      simp [Pl.key, Pl.puts]
  · rw [Pl.size]
    unfold limP
    split
    · rename_i h6
      have := r6 h6
      omega
    · rename_i h6
      have e : min (1 + Pl.sizeL qs) (6 - (kx + 1)) = 1 + min (Pl.sizeL qs) (5 - (kx + 1)) := by omega
      rw [e, Nat.mul_add]
      omega
end GM
namespace GM
open PySem L2 GS
end GM
namespace GM
open PySem L2 GS
def figW (d : Nat) : Str := ((toString (d : Int) : String) : Str)
def placeW (p : List Nat) : Str := if p = [] then DT else Txt.join DT (p.map figW)
mutual
def Pl.words : Pl → List Str
  | .mk k ps => OP :: k :: (Pl.wordsL ps ++ [CL])
def Pl.wordsL : List (List Nat × Pl) → List Str
  | [] => []
  | x :: r => Pl.wordsX x ++ Pl.wordsL r
def Pl.wordsX : List Nat × Pl → List Str
  | (p, q) => placeW p :: q.words
end
def plcOk (p : List Nat) : Bool := p.all (fun d => decide (d < 8)) && decide (p.length ≤ 20)
mutual
def Pl.tok : Pl → Bool
  | .mk k ps => keyB k && Pl.tokL ps
def Pl.tokL : List (List Nat × Pl) → Bool
  | [] => true
  | x :: r => Pl.tokX x && Pl.tokL r
def Pl.tokX : List Nat × Pl → Bool
  | (p, q) => plcOk p && q.tok
end
theorem fig_all : ∀ d, d < 8 → figW d ∈ figs ∧ fgN (figW d) = (d : Int) ∧ 46 ∉ (figW d).cps.toList ∧ 1 ≤ (figW d).length ∧ (figW d).length ≤ 1 ∧ ((d : Int).natAbs.log2 < 1920) := by
  intro d h
  have : ∀ d ∈ List.range 8, figW d ∈ figs ∧ fgN (figW d) = (d : Int) ∧ 46 ∉ (figW d).cps.toList ∧ 1 ≤ (figW d).length ∧ (figW d).length ≤ 1 ∧ ((d : Int).natAbs.log2 < 1920) := by decide +kernel
  exact this d (List.mem_range.mpr h)
theorem plc_mem {p : List Nat} (h : plcOk p = true) : (∀ d ∈ p, d < 8) ∧ p.length ≤ 20 := by
  unfold plcOk at h
  rw [Bool.and_eq_true, List.all_eq_true] at h
  exact ⟨fun d m => by simpa using h.1 d m, by simpa using h.2⟩
theorem dt1 : DT.length = 1 := by decide +kernel
theorem placeW_len {p : List Nat} (h : plcOk p = true) : (placeW p).length ≤ 40 := by
  unfold placeW
  split
  · rw [dt1]; omega
  · have h1 := join_len DT (p.map figW)
    have h2 := (plc_mem h).2
    have h3 : ((p.map figW).map (·.length)).sum ≤ 1 * (p.map figW).length := sum_le fun w m => by
      obtain ⟨d, md, rfl⟩ := List.mem_map.mp m
      exact (fig_all d ((plc_mem h).1 d md)).2.2.2.2.1
    rw [dt1, List.length_map] at *
    omega
theorem placeW_chr {p : List Nat} (h : plcOk p = true) : ∀ c ∈ (placeW p).cps.toList, c = 46 ∨ (48 ≤ c ∧ c ≤ 57) := fun c m => by
  have hd : DT.cps.toList = [46] := cpDT
  unfold placeW at m
  split at m
  · rw [hd] at m; simp at m; exact .inl m
  · rcases join_mem m with q | ⟨w, mw, q⟩
    · rw [hd] at q; simp at q; exact .inl q
    · obtain ⟨d, md, rfl⟩ := List.mem_map.mp mw
      have : ∀ d ∈ List.range 8, ∀ c ∈ (figW d).cps.toList, 48 ≤ c ∧ c ≤ 57 := by decide +kernel
      exact .inr (this d (List.mem_range.mpr ((plc_mem h).1 d md)) c q)
end GM
namespace GM
open PySem L2 GS
end GM
namespace GM
open PySem L2 GS
theorem encP_clean (p : List Nat) : cleanB (encP p) = true ∧ (encP p).depth ≤ 1 := by
  refine ⟨?_, ?_⟩
  · unfold encP
    rw [cleanB]
    refine cleanL_of fun d m => ?_
    obtain ⟨k, mk, rfl⟩ := List.mem_map.mp m
    rfl
  · unfold encP
    have := depthAll_of (ds := p.map fun n : Nat => PyData.int (n : Int)) (n := 0) fun d m => by
      obtain ⟨k, mk, rfl⟩ := List.mem_map.mp m
      simp [PyData.depth]
    rw [PyData.depth]
    omega
section
variable {n : Nat} {Fw Ft Fx Fp Fk : FF}
end
end GM
namespace GM
open PySem L2 GS
theorem kid_lt : ∀ (t : Tr) (p : List Nat), t.ok = true → p ∈ t.places → ∀ d ∈ p, d < 8 := fun t p => by
  induction p generalizing t with
  | nil => intro _ _ d m; cases m
  | cons k p ih =>
    intro ok mp d md
    rw [places_kids] at mp
    rcases List.mem_cons.mp mp with e | mp
    · cases e
    · have gen : ∀ (ts : List Tr) (j : Nat), (k :: p) ∈ Tr.placesL j ts → k < j + ts.length ∧ ∃ s ∈ ts, p ∈ s.places := fun ts => by
        induction ts with
        | nil => intro j m; simp [Tr.placesL] at m
        | cons s ts ih2 =>
          intro j m
          rw [Tr.placesL] at m
          rcases List.mem_append.mp m with m | m
          · obtain ⟨r, mr, e⟩ := List.mem_map.mp m
            cases e
            exact ⟨by simp, s, by simp, mr⟩
          · obtain ⟨h1, s', ms, h2⟩ := ih2 (j + 1) m
            exact ⟨by simp; omega, s', by simp [ms], h2⟩
      obtain ⟨h1, s, ms, h2⟩ := gen t.kids 0 mp
      cases t with
      | knot n tk ks =>
        rw [Tr.ok] at ok
        simp only [Bool.and_eq_true, decide_eq_true_eq] at ok
        have : ks.length ≤ 8 := ok.2.2.2.1
        rcases List.mem_cons.mp md with rfl | md
        · simp [Tr.kids] at h1; omega
        · exact ih s (okL_mem ok.2.2.2.2 s ms) h2 d md
      | _ => simp [Tr.kids] at ms
theorem pps_place {t : Tr} {x : List Nat × Tr} (m : x ∈ t.pps []) : x.1 ∈ t.places := by
  have : x.1 ∈ (t.pps []).map (·.1) := List.mem_map_of_mem m
  rw [pps_fst] at this
  simpa using this
theorem treeOf_in {b : Bk} {k : Str} {t : Tr} (h : b.treeOf k = some t) : (k, t) ∈ b.trees := by
  have gen : ∀ (ts : List (Str × Tr)) (o : Option Tr), ts.foldl (fun acc p => if p.1 = k then some p.2 else acc) o = some t → (k, t) ∈ ts ∨ o = some t := fun ts => by
    induction ts with
    | nil => intro o h; exact .inr h
    | cons p ts ih =>
      intro o h
      rcases ih _ h with m | e
      · exact .inl (by simp [m])
      · dsimp only at e
        split at e
        · rename_i q
          cases e
          exact .inl (by rw [← q]; simp)
        · exact .inr e
  rcases gen b.trees none h with m | e
  · exact m
  · cases e
section
variable {h : Nat} {b : Bk}
theorem BookOk.keyB (B : BookOk h b) {k : Str} {t : Tr} (m : (k, t) ∈ b.trees) : keyB k = true := allK_ok k (B.keys _ m)
mutual
theorem PlOk.tok (B : BookOk h b) (hh : h ≤ 20) : ∀ {q : Pl}, PlOk b q → q.tok = true
  | _, .mk (t := t) e r => by
    have mt := treeOf_in e
    have T := B.trees _ mt
    rw [Pl.tok, B.keyB mt, Bool.true_and]
    exact PutsOk.tok B hh r fun x mx => by
      have mp := pps_place mx
      unfold plcOk
      rw [Bool.and_eq_true, List.all_eq_true]
      refine ⟨fun d md => by simpa using kid_lt t x.1 T.ok mp d md, ?_⟩
      have := place_len t x.1 mp
      have := T.ht
      dsimp only at this
      simp
      omega
theorem PutsOk.tok (B : BookOk h b) (hh : h ≤ 20) : ∀ {us : List (List Nat × Tr)} {ps : List (List Nat × Pl)}, PutsOk b us ps → (∀ x ∈ us, plcOk x.1 = true) → Pl.tokL ps = true
  | _, _, .nil, _ => rfl
  | _, _, .skip _ r, hu => PutsOk.tok B hh r fun x m => hu x (by simp [m])
  | _, _, .put _ o r, hu => by
    rw [Pl.tokL, Pl.tokX, hu _ List.mem_cons_self, PlOk.tok B hh o, PutsOk.tok B hh r fun x m => hu x (by simp [m])]
    rfl
end
end
mutual
theorem pwords_len : ∀ q : Pl, q.words.length + 1 ≤ 4 * q.size
  | .mk k ps => by
    have := pwordsL_len ps
    rw [Pl.words, Pl.size]
    simp
    omega
theorem pwordsL_len : ∀ ps : List (List Nat × Pl), (Pl.wordsL ps).length ≤ 4 * Pl.sizeL ps
  | [] => by simp [Pl.wordsL]
  | x :: r => by
    have h1 := pwordsX_len x
    have h2 := pwordsL_len r
    rw [Pl.wordsL, Pl.sizeL, List.length_append]
    omega
theorem pwordsX_len : ∀ x : List Nat × Pl, (Pl.wordsX x).length ≤ 4 * Pl.sizeX x
  | (p, q) => by
    have := pwords_len q
    rw [Pl.wordsX, Pl.sizeX, List.length_cons]
    omega
end
structure WdQ (w : Str) : Prop where
  len : w.length ≤ 40
  chr : ∀ c ∈ w.cps.toList, 33 ≤ c ∧ c ≤ 122
theorem wq_key {k : Str} (h : keyB k = true) : WdQ k := by
  refine ⟨by have := keyB_len h; omega, fun c m => ?_⟩
  have hs : ∀ c ∈ SML.cps.toList, 33 ≤ c ∧ c ≤ 122 := by decide +kernel
  have hf : ∀ c ∈ FIG.cps.toList, 33 ≤ c ∧ c ≤ 122 := by decide +kernel
  exact (nameL_mem h c m).elim (hs c) (hf c)
theorem wq_place {p : List Nat} (h : plcOk p = true) : WdQ (placeW p) := ⟨placeW_len h, fun c m => by have := placeW_chr h c m; omega⟩
theorem wq_op : WdQ OP := ⟨by decide +kernel, by decide +kernel⟩
theorem wq_cl : WdQ CL := ⟨by decide +kernel, by decide +kernel⟩
mutual
theorem words_wq : ∀ q : Pl, q.tok = true → ∀ w ∈ q.words, WdQ w
  | .mk k ps, h, w, m => by
    rw [Pl.tok, Bool.and_eq_true] at h
    rw [Pl.words] at m
    rcases List.mem_cons.mp m with rfl | m
    · exact wq_op
    · rcases List.mem_cons.mp m with rfl | m
      · exact wq_key h.1
      · rcases List.mem_append.mp m with m | m
        · exact wordsL_wq ps h.2 w m
        · simp at m; subst m; exact wq_cl
theorem wordsL_wq : ∀ ps : List (List Nat × Pl), Pl.tokL ps = true → ∀ w ∈ Pl.wordsL ps, WdQ w
  | [], _, w, m => by simp [Pl.wordsL] at m
  | x :: r, h, w, m => by
    rw [Pl.tokL, Bool.and_eq_true] at h
    rw [Pl.wordsL] at m
    rcases List.mem_append.mp m with m | m
    · exact wordsX_wq x h.1 w m
    · exact wordsL_wq r h.2 w m
theorem wordsX_wq : ∀ x : List Nat × Pl, Pl.tokX x = true → ∀ w ∈ Pl.wordsX x, WdQ w
  | (p, q), h, w, m => by
    rw [Pl.tokX, Bool.and_eq_true] at h
    rw [Pl.wordsX] at m
    rcases List.mem_cons.mp m with rfl | m
    · exact wq_place h.1
    · exact words_wq q h.2 w m
end
section
variable {Fa Fc : FF}
end
end GM
namespace GM
open PySem L2 GS
end GM
namespace GM
open PySem L2 GS
structure PQ (q : Pl) : Prop where
  tok : q.tok = true
  dep : q.dep ≤ 6
  size : q.size ≤ 12755
theorem GoodP.pq {h n : Nat} {b : Bk} {key : Str} {q : Pl} (B : BookOk h b) (hh : h ≤ 20) (G : GoodP b n 1 key q) (hn : n ≤ 5) : PQ q := by
  refine ⟨G.ok.tok B hh, by have := G.dep; omega, ?_⟩
  have := G.size
  unfold limP at this
  rw [if_neg (by omega)] at this
  have : min q.size (6 - 1) ≤ 5 := by omega
  have := Nat.mul_le_mul_left 2551 this
  omega
theorem forL_same {α : Type} {g : D → Rho → Option Rho} {b : SF} (ρ : Rho) (it : α → D) (as : List α) (h : ∀ a ∈ as, optR (g (it a) ρ) b = .nx ρ) : forL g b (as.map it) ρ = .nx ρ := by
  have := forL_look (g := g) (b := b) ρ ρ it (fun _ => true) (.sh .none) as fun a m => by rw [h a m]; rfl
  rw [this, List.all_eq_true.mpr fun _ _ => rfl]
  rfl
theorem bl1 : BL.length = 1 := by decide +kernel
/-- the words may be joined and read -/
theorem PQ.line {q : Pl} (Q : PQ q) : joinOk BL q.words = true ∧ (lineT q.words).length ≤ 10000000 ∧ q.words.length ≤ 51019 ∧ (∀ w ∈ q.words, w.length ≤ 40) ∧ (∀ w ∈ q.words, 32 ∉ w.cps.toList) ∧ ∀ w ∈ q.words, PyData.strOk w = true := by
  have h1 := pwords_len q
  have h2 := Q.size
  have h3 := words_wq q Q.tok
  have h4 : ∀ w ∈ q.words, w.length ≤ 40 := fun w m => (h3 w m).len
  refine ⟨joinOk_of (b := 40) (n := 60000) h4 (by omega) (by rw [bl1]; decide), ?_, by omega, h4, fun w m e => by have := (h3 w m).chr 32 e; omega, fun w m => strOk_of fun c mc => by have := (h3 w m).chr c mc; omega⟩
  have h5 := join_len BL q.words
  have h6 := sum_le h4
  rw [bl1] at h5
  unfold lineT
  omega
section
variable {Ft Fx Fr Fw Fp Fa Fb Fc : FF}
end
end GM
namespace GS
open PySem L2 RT
section
variable {X : Cx} {C : Ct} {ρ ρ1 : Rho} {σ σ1 : St} {B H B1 H1 : Hp} {e tg : Expr} {te : TE} {fe : EF} {pos p : Pos} {K : KW}
def boolD : D → Option Hd
  | .int i => some (.sh (.bool (i != 0)))
  | .bool b => some (.sh (.bool b))
  | _ => none
theorem cl_bool : CalL K (fun xs H Q => (∃ i, xs = [.int i] ∧ Q (.bl (i != 0)) H) ∨ ∃ k, xs = [.bl k] ∧ Q (.bl k) H) (un1 boolD) := CalL.one fun ρ σ B H x d h Q S t e k => by
  cases d with
  | int i =>
    cases e
    rw [Tp.int t]
    exact .inl ⟨i, rfl, now S (.bl _) k⟩
  | bool b =>
    cases e
    rw [Tp.bl t]
    exact .inr ⟨b, rfl, now S (.bl _) k⟩
  | _ => cases e
end
end GS
namespace GS
open PySem L2 PySem.Spec PyProof.Rows PySem.W PySem.Calls
section
variable {prog : Program} {w : World} {A : Around} {E : Value → Shared → Prop} {s : Shared}
end
section
variable {X : Cx}
end
section
variable {K : KW} {B H : Hp}
end
end GS
namespace GS
open PySem L2 PySem.Spec PyProof.Rows
/-- a def's promise where no repr is under way -/
structure FnG (P : Program) (w : World) (K : PySem.W.Frag) (mg : Str → Option Value) (base : Heap) (k : Nat) (f : Addr) (fd : FuncData) (ps : List Str) (sp : Sp) : Prop where
  ln : ∀ vs H Q E, sp vs H Q E → vs.length = ps.length
  go : ∀ (A : Around) (out : List Env) (t : Shared) (H : Hp) (ar : Args) (zs : List Value) (vs : List V) (Q : VK) (E : XK),
    A.guards = some [] → Room k A → Env0 P w K mg base A out t H → BindsTo t fd ar (ps.zip zs) → Vals vs zs → sp vs H Q E →
    codeAny (model P w) A (.call (.ref f) ar) (CR (L2.CX P w) out P w H t Q E) t
theorem FnG.of {P : Program} {w : World} {K : PySem.W.Frag} {mg : Str → Option Value} {base : Heap} {k : Nat} {f : Addr} {fd : FuncData} {ps : List Str} {sp : Sp} (F : FnOk P w K mg base (L2.CX P w) k f fd ps sp) : FnG P w K mg base k f fd ps sp :=
  ⟨F.len, fun A o t H ar zs vs Q E _ => F.run A o t H ar zs vs Q E⟩
section
variable {P : Program} {w : World} {K : PySem.W.Frag} {mg : Str → Option Value} {base : Heap}
end
section
variable {P : Program} {w : World} {K : KW} {mg : Str → Option Value} {base : Heap} {cv : Str → Value}
end
section
variable {X : Cx} {C : Ct} {k n : Nat} {f : Addr} {fd : FuncData} {ps : List Str} {sp : Sp} {W : L2.St → XK} {x : Str} {p pos : Pos} {e e0 : Expr} {es : List Expr} {t : TA} {t0 : TE} {F : FF} {g : AF} {f0 : EF}
end
def reprD : D → Option Hd
  | .tuple ds => if okEq (.tuple ds) && ((PyData.tuple ds).showable && decide ((PyData.tuple ds).shown.length ≤ sizeLine)) then some (.sh (.str (PyData.tuple ds).shown)) else none
  | _ => none
def occB (i j : Str) : Bool := !(Builtin.Str.occurrences j i 0 j.length 1).isEmpty
def inT (neg : Bool) : D → D → Option Hd
  | .str i, .str j => some (.sh (.bool (neg ^^ occB i j)))
  | _, _ => none
@[simp] theorem inT_s (neg : Bool) (i j : Str) : inT neg (.str i) (.str j) = some (.sh (.bool (neg ^^ occB i j))) := rfl
end GS
namespace GS
open PySem L2 PySem.Spec PyProof.Rows
end GS
namespace L2
open PySem PySem.W PySem.Calls PySem.Spec PyProof.Rows
section
variable {X : Cx} {e1 e2 : Expr} {t : TA} {pz pd pos pos2 : Pos}
end
end L2
namespace GS
open PySem L2
section
variable {K : KW} {B H : Hp}
end
section
variable {X : Cx} {C : Ct} {e1 e2 : Expr} {t : TA} {f : AF} {pz pd pos pos2 : Pos}
end
end GS
namespace GS
open PySem L2
section
variable {K : KW} {C : Ct} {ρ ρ1 ρ2 : Rho} {σ σ1 σ2 : St} {B H B1 H1 B2 H2 : Hp} {a p : Addr} {o : HO} {Ed : Ends}
end
section
variable {X : Cx} {C : Ct} {e1 e2 c : Expr} {t1 t2 tc : TE} {f1 f2 fc : EF} {rest : List Stmt} {u : TS} {g : SF} {pos : Pos}
end
end GS
namespace GM
open PySem L2 GS
end GM
namespace GM
open PySem L2 GS
section
variable {n : Nat} {Fm Fr Fn Fx : FF}
end
end GM
namespace GS
open PySem L2 PySem.Spec PyProof.Rows PySem.W PySem.Calls
section
variable {prog : Program} {w : World} {A : Around} {E : Value → Shared → Prop} {s : Shared} {Q : Bool → Shared → Prop}
theorem kl_ints {fin : Bool} : ∀ {its its2 : List Value} {ns ms : List Int} (i : Nat), IntsAre its ns → IntsAre its2 ms → fin = decide (ns.length < ms.length) → Q (HT.lexLt ns ms) s → KatLex prog w A true fin Q (its.zip its2) i s
  | _, _, _, ms, i, .nil, hb, hf, h => by
    rw [List.zip_nil_left]
    refine kat_nil ?_
    rw [hf]
    cases ms with
    | nil => exact h
    | cons m ms => exact h
  | _, _, _, _, i, .cons n t ha, .nil, hf, h => by
    rw [List.zip_nil_right]
    refine kat_nil ?_
    rw [hf]
    exact h
  | _, _, _, _, i, .cons n t ha, .cons m u hb, hf, h => by
    rw [List.zip_cons_cons]
    refine kat_cons (SeqAt.EqAt.int_int n t m u prog w _ _ ?_)
    refine kat_go (fun e1 => ?_) (fun e1 => ?_)
    · have ex : n = m := by simpa using e1
      rw [HT.lexLt_cons, if_pos ex] at h
      exact kat_yes (kl_ints (i + 1) ha hb (by rw [hf]; simp) h)
    · have ex : ¬ n = m := by simpa using e1
      rw [HT.lexLt_cons, if_neg ex] at h
      refine kat_no ?_
      cases i with
      | zero => exact oneLt_int h
      | succ i => exact kat_one _ _ (lt_int h)
/-- the kind of the keys, and how it asks -/
theorem ti_kinds (hu : A.units < cLine) {vs : List Value} {k : Value → List Int} (H : ∀ v ∈ vs, IsTI s.heap v (k v)) (h0 : 0 < vs.length) : ∃ κ : SortKind, (∀ (Q : SortKind → Shared → Prop) (E : Value → Shared → Prop), Q κ s → wpAny (model prog w) A (keyKind' vs.toArray) Q E s) ∧
    ∀ v ∈ vs, ∀ u ∈ vs, ∀ (Q : Bool → Shared → Prop) (E : Value → Shared → Prop), Q (HT.lexLt (k v) (k u)) s → wpAny (model prog w) A (keyLt' κ v u) Q E s := by
  by_cases all : ∀ v ∈ vs, k v ≠ []
  · refine ⟨tuples' true, fun Q E hq => ?_, fun v mv u mu Q E hq => ?_⟩
    · have fs : ∀ (vs : List Value), (∀ v ∈ vs, IsTI s.heap v (k v)) → (∀ v ∈ vs, k v ≠ []) → ∃ fs : List Value, KatTups s.heap vs fs ∧ fs.length = vs.length ∧ ∀ f ∈ fs, ∃ x t, f = Value.int x t := by
        intro vs
        induction vs with
        | nil => intro _ _; exact ⟨[], .nil, rfl, fun f m => by cases m⟩
        | cons v vs ih =>
          intro H all
          obtain ⟨fs, h1, h2, h3⟩ := ih (fun u hu => H u (List.mem_cons_of_mem _ hu)) (fun u hu => all u (List.mem_cons_of_mem _ hu))
          obtain ⟨a, its, e, ⟨o, ho, hc, n, hd⟩, hi⟩ := H v List.mem_cons_self
          have ne := all v List.mem_cons_self
          subst e
          generalize k (.ref a) = ns at hi ne
          cases hi with
          | nil => exact absurd rfl ne
          | cons x t hi =>
            refine ⟨.int x t :: fs, .cons ho hc hd (by simp) h1, by simp [h2], fun f m => ?_⟩
            rcases List.mem_cons.mp m with rfl | m
            · exact ⟨x, t, rfl⟩
            · exact h3 f m
      obtain ⟨fs, h1, h2, h3⟩ := fs vs H all
      refine kat_kind (T := .type "int") h1 (by omega) (fun f hm => ?_) (by rfl) ?_
      · obtain ⟨x, t, rfl⟩ := h3 f hm
        exact Looks.now
      · have e : (Value.type "int" != Value.type "tuple") = true := by first | decide +kernel | rfl | decide
        rw [e]
        exact hq
    · obtain ⟨a, its, rfl, ⟨o, ho, hc, n, hd⟩, hi⟩ := H v mv
      obtain ⟨b, its2, rfl, ⟨o2, ho2, hc2, n2, hd2⟩, hi2⟩ := H u mu
      refine kat_lt ho hd ho2 hd2 ?_
      have l1 : its.length = (k (.ref a)).length := hi.length
      have l2 : its2.length = (k (.ref b)).length := hi2.length
      exact kl_ints 0 hi hi2 (by simp [l1, l2]) hq
  · obtain ⟨v0, r, e⟩ : ∃ v0 r, vs = v0 :: r := by
      cases vs with
      | nil => simp at h0
      | cons v0 r => exact ⟨v0, r, rfl⟩
    by_cases z : k v0 = []
    · exact ⟨oneType', fun Q E hq => ti_kind H v0 r e z hq, fun v mv u mu Q E hq => ti_lt hu (H v mv) (H u mu) hq⟩
    · refine ⟨general', fun Q E hq => ?_, fun v mv u mu Q E hq => ?_⟩
      · have fs : ∀ (vs : List Value), (∀ v ∈ vs, IsTI s.heap v (k v)) → ∃ fs : List (Option Value), fs.map (·.isSome) = vs.map (fun v => !(k v).isEmpty) ∧ ∀ {Q : List (Option Value) → Shared → Prop}, Q fs s → wpAny (model prog w) A (vs.mapM firstOfTuple') Q E s := by
          intro vs
          induction vs with
          | nil => intro _; exact ⟨[], rfl, fun {Q} h => by rw [List.mapM_nil]; exact wpAny_pure h⟩
          | cons v vs ih =>
            intro H
            obtain ⟨fs, h1, run⟩ := ih fun u hu => H u (List.mem_cons_of_mem _ hu)
            obtain ⟨a, its, e, ⟨o, ho, hc, n, hd⟩, hi⟩ := H v List.mem_cons_self
            subst e
            refine ⟨its.toArray[0]? :: fs, ?_, fun {Q} h => ?_⟩
            · rw [List.map_cons, List.map_cons, h1]
              congr 1
              generalize k (.ref a) = ns at hi
              cases hi <;> simp
            · rw [List.mapM_cons]
              refine wpAny_bind ?_
              rw [kas_first_eq]
              refine wpAny_bind (Looks.here (show Looks (model prog w) s.heap (typeOf (.ref a)) o.cls from (Looks.ld ho).andThen .now) ?_)
              rw [hc, if_neg (by first | decide | simp)]
              refine wpAny_bind (listItems_at ho hd (wpAny_pure ?_))
              exact wpAny_bind (run (Q := fun bs s' => wpAny (model prog w) A (pure (its.toArray[0]? :: bs)) Q E s') (wpAny_pure h))
        obtain ⟨fs, h1, run⟩ := fs vs H
        rw [kat_kind_eq, List.mapM_toArray, map_eq_pure_bind]
        refine wpAny_bind (wpAny_bind (run (wpAny_pure ?_)))
        have n1 : ¬ (fs.toArray.all fun x => x.isSome) = true := fun q => all fun v mv ev => by
          rw [List.all_toArray, List.all_eq_true] at q
          have : (fs.map (·.isSome)).all id = true := by rw [List.all_map]; exact List.all_eq_true.mpr fun x mx => q x mx
          rw [h1, List.all_map, List.all_eq_true] at this
          have := this v mv
          simp [ev] at this
        have n2 : ((fs.toArray[0]?).bind id).isSome = true := by
          subst e
          cases fs with
          | nil => simp at h1
          | cons f fs =>
            rw [List.map_cons, List.map_cons] at h1
            have := (List.cons.inj h1).1
            simp only [List.getElem?_toArray, List.getElem?_cons_zero, Option.bind_some, id]
            rw [this]
            cases hk : k v0 with
            | nil => exact absurd hk z
            | cons _ _ => rfl
        rw [if_neg n1, if_pos n2]
        exact wpAny_pure hq
      · obtain ⟨a, its, rfl, p1, hi⟩ := H v mv
        obtain ⟨b, its2, rfl, p2, hi2⟩ := H u mu
        show wpAny (model prog w) A (oneLt' false (.ref a) (.ref b)) Q E s
        exact kat_one _ _ (HT.lt_tupInts p1 p2 (by simpa using hi) (by simpa using hi2) hu hq)
theorem ti_sortG {a : Addr} {vs : List Value} {k : Value → List Int} (hu : A.units < cLine) (hv : ∀ v ∈ vs, IsTI s.heap v (k v)) (h0 : 0 < vs.length) (ha : ∀ v ∈ vs, v ≠ .ref a) :
    SrtO.SortableO prog w A s a vs fun v u => HT.lexLt (k v) (k u) := by
  intro h' keep
  have hv' : ∀ v ∈ vs, IsTI h' v (k v) := fun v hm => (hv v hm).keeps fun b o e g => keep b o (fun z => ha v hm (by rw [e, z])) g
  obtain ⟨κ, h1, h2⟩ := ti_kinds (prog := prog) (w := w) (s := { s with heap := h' }) hu hv' h0
  exact ⟨κ, h1, fun p q hp hq => h2 p.1 hp q.1 hq (fun r s' => s' = { s with heap := h' } ∧ r = HT.lexLt (k p.1) (k q.1)) (fun _ _ => False) ⟨rfl, rfl⟩⟩
end
end GS
namespace L2
open PySem PySem.Spec PyProof.Rows
section
variable {P : Program} {w : World} {A : Around} {E : Value → Shared → Prop} {s : Shared}
theorem isTI_of {h : Heap} {k : List Int} {b : Addr} (x : IsT P w h k b) : GS.IsTI h (.ref b) k := by
  obtain ⟨o, items, n, ho, hc, hd, hi⟩ := x
  exact ⟨b, items.toList, rfl, ⟨o, ho, hc, n, by simpa using hd⟩, ints_of_items hi⟩
theorem sorted_setG {a : Addr} {L : List (Addr × List Int)} {es : Array (Int × Value)} {ep : Nat} {t : SetTable} {Q : Value → Shared → Prop} (R : SetTR P w s.heap a L es ep t) (hh : A.handled = none) (hu : A.units + 3 < cLine)
    (hQ : ∀ s' p (out : List Value) (c : Nat) (L' : List (Addr × List Int)), (∀ b o, s.heap.get? b = some o → s'.heap.get? b = some o) → s'.gens = s.gens → s'.os = s.os → s.heap.objs.size ≤ p →
      s'.heap.get? p = some (seqObj "list" out.toArray c) → out = L'.map (fun q => Value.ref q.1) → L'.Perm L → L'.Pairwise (fun q r => HT.lexLt r.2 q.2 = false) → Q (.ref p) s') :
    wpAny (model P w) A (call (.builtin "sorted") [.ref a]) Q E s := by
  obtain ⟨o, ho, hex, hd⟩ := R.ob
  have hsz := R.size
  have hfew := R.few
  refine Calls.call_function_entry kind_sorted plain_sorted entry_sorted (args_sorted1 _) ?_
  unfold Builtin.«sorted»
  refine wpAny_bind (m := checkCount "sorted" 1 1 _) (wpAny_pure ?_)
  refine wpAny_bind (collect_set (A := A.in1) hh ⟨o, ho, hex.1, hd⟩ R.fits (by unfold scanBound; omega) R.tab.ris R.led fun s1 vs k1 hz g1 o1 pm => ?_)
  have hes : es.toList.map (·.2) = L.map fun q => Value.ref q.1 := by
    rw [R.rows]
    unfold rowsOf
    rw [List.map_map] <;> rfl
  rw [hes] at pm
  have ord : ∀ vs : List Value, (∀ v ∈ vs, ∃ q ∈ L, v = Value.ref q.1) → ∃ L1 : List (Addr × List Int), vs = L1.map (fun q => Value.ref q.1) ∧ ∀ q ∈ L1, q ∈ L := by
    intro vs
    induction vs with
    | nil => intro _; exact ⟨[], rfl, fun q hq => (by cases hq)⟩
    | cons v vs ih =>
      intro hv
      obtain ⟨q, hq, e⟩ := hv v List.mem_cons_self
      obtain ⟨L1, e1, hs⟩ := ih fun u hu => hv u (List.mem_cons_of_mem _ hu)
      refine ⟨q :: L1, by rw [List.map_cons, e, e1], fun r hr => ?_⟩
      rcases List.mem_cons.mp hr with z | z
      · rw [z]; exact hq
      · exact hs r z
  have one : ∀ q ∈ L, ∀ r ∈ L, q.1 = r.1 → q = r := fun q hq r hr e => by
    have a1 := R.tup q hq
    have a2 := R.tup r hr
    rw [e] at a1
    have e2 : q.2 = r.2 := a1.inj a2
    exact Prod.ext e e2
  have perm_of : ∀ L1 : List (Addr × List Int), (∀ q ∈ L1, q ∈ L) → (L1.map (fun q => Value.ref q.1)).Perm (L.map fun q => Value.ref q.1) → L1.Perm L := by
    intro L1 hs pm1
    have nL : L.Nodup := nodup_of_map R.nd
    have nref : (L.map fun q => Value.ref q.1).Nodup := by
      refine List.pairwise_map.mpr (List.Pairwise.imp_of_mem (fun {q r} hq hr hne e => ?_) nL)
      injection e with e
      exact hne (one q hq r hr e)
    have n1 : L1.Nodup := nodup_of_map (pm1.nodup_iff.mpr nref)
    refine (List.perm_ext_iff_of_nodup n1 nL).mpr fun q => ⟨hs q, fun hq => ?_⟩
    have hm : Value.ref q.1 ∈ L1.map (fun q => Value.ref q.1) := pm1.mem_iff.mpr (List.mem_map.mpr ⟨q, hq, rfl⟩)
    obtain ⟨r, hr, e⟩ := List.mem_map.mp hm
    injection e with e
    rw [← one r (hs r hr) q hq e]
    exact hr
  have hvl : vs.length < 64 := by rw [pm.length_eq, List.length_map]; exact hfew
  refine wpAny_bind (wpAny_newList ?_ (by rw [sizeLine_eq]; omega))
  have hoL : (s1.heap.push (seqObj "list" vs.toArray 0)).get? s1.heap.objs.size = some (seqObj "list" vs.toArray 0) := Heap.get?_push_size _ rfl
  have tk : ∀ q ∈ L, IsT P w (s1.heap.push (seqObj "list" vs.toArray 0)) q.2 q.1 := fun q hq => isT_keep (R.tup q hq) fun b u e => Heap.get?_push_of_some _ (k1 b u e)
  let k : Value → List Int := fun v => TS.intsOf (s1.heap.push (seqObj "list" vs.toArray 0)) v
  have kq : ∀ q ∈ L, k (.ref q.1) = q.2 := fun q hq => (tupInts_of (P := P) (w := w) (tk q hq)).ints
  have hv : ∀ v ∈ vs, ∃ q ∈ L, v = Value.ref q.1 := fun v hv => by
    obtain ⟨q, hq, e⟩ := List.mem_map.mp (pm.mem_iff.mp hv)
    exact ⟨q, hq, e.symm⟩
  have x : ∀ v ∈ vs, GS.IsTI (s1.heap.push (seqObj "list" vs.toArray 0)) v (k v) := fun v mv => by
    obtain ⟨q, hq, rfl⟩ := hv v mv
    rw [kq q hq]
    exact isTI_of (tk q hq)
  have nr : ∀ v ∈ vs, v ≠ .ref s1.heap.objs.size := fun v mv e => by
    obtain ⟨q, hq, rfl⟩ := hv v mv
    have e : q.1 = s1.heap.objs.size := by injection e
    obtain ⟨o2, _, _, ho2, _⟩ := R.tup q hq
    have := Heap.lt_size (k1 _ _ ho2)
    rw [e] at this
    exact Nat.lt_irrefl _ this
  refine wpAny_bind (wpAny_holding (wpAny_call_entry slot_list_sort ⟨_, hoL, rfl⟩ entry_list_sort (SrtO.list_sort_ord (s := { s1 with heap := s1.heap.push (seqObj "list" vs.toArray 0) }) (NtL.swo_lexL k) hoL (by rw [sizeLine_eq]; omega) (fun h2 => GS.ti_sortG (s := { s1 with heap := s1.heap.push (seqObj "list" vs.toArray 0) }) (by show A.units + 1 + 1 < cLine; omega) x (by omega) nr) fun out hs hb => ⟨_, rfl, ?_⟩) (args_list_sort _)))
  obtain ⟨c, hc⟩ := sortedHeap_at (vs := vs) (out := out.toArray) hoL
  obtain ⟨L', e', hs'⟩ := ord out fun v mv => hv v (hb.perm.mem_iff.mp mv)
  have pL : L'.Perm L := perm_of L' hs' (by rw [← e']; exact hb.perm.trans pm)
  have pw : L'.Pairwise (fun q r => HT.lexLt r.2 q.2 = false) := by
    have hs : out.Pairwise fun v u => HT.lexLt (k u) (k v) = false := hs
    rw [e'] at hs
    refine List.Pairwise.imp_of_mem (fun {q r} hq hr hle => ?_) (List.pairwise_map.mp hs)
    rw [kq q (hs' q hq), kq r (hs' r hr)] at hle
    exact hle
  refine wpAny_pure ⟨_, rfl, hQ _ s1.heap.objs.size out c L' (fun b u e => ?_) g1 o1 hz hc e' pL pw⟩
  have q := k1 b u e
  have hlt := Heap.lt_size q
  show (sortedHeap (s1.heap.push (seqObj "list" vs.toArray 0)) s1.heap.objs.size vs out.toArray).get? b = some u
  rw [sortedHeap_old (Nat.ne_of_lt hlt) (by rw [size_push']; exact Nat.lt_succ_of_lt hlt)]
  exact Heap.get?_push_of_some _ q
end
/-- sorted(set) -/
def rSortedG (K : PySem.W.Frag) (P : Program) (w : World) : List V → Hp → VK → Prop := fun vs H Q => ∃ (a : Addr) (L : List (Addr × List Int)), vs = [V.ref a] ∧ H a = some (SetTO P w a L) ∧ (∀ p ∈ L, SqT K H p.1 (p.2.map V.int)) ∧
  ∀ (L' : List (Addr × List Int)) (p : Addr), L'.Perm L → (L'.map (·.2)).Nodup → L'.Pairwise (fun q r => HT.lexLt r.2 q.2 = false) → H p = none → Q (.ref p) (upd H p (.lst (L'.map fun q => V.ref q.1)))
theorem cr_sortedG {X : Cx} (hc : X.calm = true) (hu : X.A.units + 64 < cLine) : CallR X (.builtin "sorted") (rSortedG X.K X.prog X.w) := by
  intro pins s σ H vs us Q I r h
  obtain ⟨a, L, rfl, ha, hk, q⟩ := h
  have R0 : SetT0 X.prog X.w s.heap a L := (I.hok a _ ha).1
  obtain ⟨es, ep, t, R⟩ := R0.full fun p hp => I.isT (hk p hp)
  rw [Vals.ref1 r]
  refine sorted_setG R (I.ok.hd hc) (by omega) fun s' p out c L' k g o hp hg hout pm pw => ?_
  have hfew : L'.length < 64 := by rw [pm.length_eq]; exact R.few
  have hlen : (L'.map fun q => V.ref q.1).length ≤ sizeLine := by rw [List.length_map, sizeLine_eq]; omega
  have hn : H p = none := I.hok.fresh hp
  have hv : Vals (L'.map fun q => V.ref q.1) out := by rw [hout]; exact vals_of_refs L'
  have J : Inv X pins σ (upd H p (.lst (L'.map fun q => V.ref q.1))) { s with heap := s'.heap, gens := s'.gens, drawn := s'.drawn, toks := s'.toks } :=
    I.call (ch := []) (Un.laid k hp hn) (I.hok.laid k hp ⟨hlen, out, c, hv, hg⟩) (by rw [g]; exact I.bare) (fun _ z => nomatch z)
  have e : s' = { s with heap := s'.heap, gens := s'.gens, drawn := s'.drawn, toks := s'.toks } := by
    cases s'
    cases s
    cases o
    rfl
  rw [e]
  exact ⟨.ref p, _, J, rfl, q L' p pm ((pm.map (·.2)).nodup_iff.mpr R.nd) pw hn⟩
end L2
namespace GS
open PySem L2 PySem.Spec PyProof.Rows
theorem lex_irr (p : List Int) : HT.lexLt p p = false := by
  induction p with
  | nil => rfl
  | cons x p ih => rw [HT.lexLt_cons, if_pos rfl]; exact ih
theorem lex_tri : ∀ {p q : List Int}, HT.lexLt p q = false → HT.lexLt q p = false → p = q
  | [], [], _, _ => rfl
  | [], _ :: _, h, _ => by cases h
  | _ :: _, [], _, h => by cases h
  | x :: p, y :: q, h1, h2 => by
    rw [HT.lexLt_cons] at h1 h2
    by_cases e : x = y
    · subst e
      rw [if_pos rfl] at h1 h2
      rw [lex_tri h1 h2]
    · rw [if_neg e] at h1
      rw [if_neg (Ne.symm e)] at h2
      have a := of_decide_eq_false h1
      have b := of_decide_eq_false h2
      omega
theorem lex_tr : ∀ {p q r : List Int}, HT.lexLt p q = true → HT.lexLt q r = true → HT.lexLt p r = true
  | [], [], _, h, _ => by cases h
  | [], _ :: _, [], _, h => by cases h
  | [], _ :: _, _ :: _, _, _ => rfl
  | _ :: _, [], _, h, _ => by cases h
  | _ :: _, _ :: _, [], _, h => by cases h
  | x :: p, y :: q, z :: r, h1, h2 => by
    rw [HT.lexLt_cons] at h1 h2 ⊢
    by_cases e : x = y
    · subst e
      rw [if_pos rfl] at h1
      by_cases e2 : x = z
      · rw [if_pos e2] at h2 ⊢
        exact lex_tr h1 h2
      · rw [if_neg e2] at h2 ⊢
        exact h2
    · rw [if_neg e] at h1
      have a := of_decide_eq_true h1
      by_cases e2 : y = z
      · subst e2
        rw [if_neg e]
        exact h1
      · rw [if_neg e2] at h2
        have b := of_decide_eq_true h2
        rw [if_neg (by omega)]
        exact decide_eq_true (by omega)
abbrev Rise (l : List (List Int)) : Prop := l.Pairwise fun a b => HT.lexLt a b = true
def insU (x : List Int) : List (List Int) → List (List Int)
  | [] => [x]
  | y :: r => if x = y then y :: r else if HT.lexLt x y = true then x :: y :: r else y :: insU x r
def ssL : List (List Int) → List (List Int)
  | [] => []
  | x :: r => insU x (ssL r)
theorem insU_mem (x : List Int) : ∀ (l : List (List Int)) (z : List Int), z ∈ insU x l ↔ z = x ∨ z ∈ l
  | [], z => by simp [insU]
  | y :: r, z => by
    rw [insU]
    by_cases e : x = y
    · rw [if_pos e]; subst e; simp
    · rw [if_neg e]
      by_cases e2 : HT.lexLt x y = true
      · rw [if_pos e2]; simp
      · rw [if_neg e2, List.mem_cons, insU_mem x r z, List.mem_cons]
        constructor
        · rintro (h | h | h) <;> simp [h]
        · rintro (h | h | h) <;> simp [h]
theorem ssL_mem (l : List (List Int)) (z : List Int) : z ∈ ssL l ↔ z ∈ l := by
  induction l with
  | nil => exact Iff.rfl
  | cons x r ih => rw [ssL, insU_mem, ih, List.mem_cons]
theorem insU_rise (x : List Int) : ∀ {l : List (List Int)}, Rise l → Rise (insU x l)
  | [], _ => by rw [insU]; exact List.pairwise_singleton _ _
  | y :: r, h => by
    have h' := List.pairwise_cons.mp h
    rw [insU]
    by_cases e : x = y
    · rw [if_pos e]; exact h
    · rw [if_neg e]
      by_cases e2 : HT.lexLt x y = true
      · rw [if_pos e2]
        refine List.pairwise_cons.mpr ⟨fun z mz => ?_, h⟩
        rcases List.mem_cons.mp mz with rfl | mz
        · exact e2
        · exact lex_tr e2 (h'.1 z mz)
      · rw [if_neg e2]
        refine List.pairwise_cons.mpr ⟨fun z mz => ?_, insU_rise x h'.2⟩
        rcases (insU_mem x r z).mp mz with rfl | mz
        · cases q : HT.lexLt y z with
          | true => rfl
          | false => exact absurd (lex_tri (by simpa using e2) q) e
        · exact h'.1 z mz
theorem ssL_rise : ∀ l : List (List Int), Rise (ssL l)
  | [] => .nil
  | x :: r => by rw [ssL]; exact insU_rise x (ssL_rise r)
theorem rise_uniq : ∀ {l m : List (List Int)}, Rise l → Rise m → (∀ z, z ∈ l ↔ z ∈ m) → l = m
  | [], [], _, _, _ => rfl
  | [], y :: m, _, _, h => by have := (h y).mpr (by simp); cases this
  | x :: l, [], _, _, h => by have := (h x).mp (by simp); cases this
  | x :: l, y :: m, h1, h2, h => by
    have a := List.pairwise_cons.mp h1
    have b := List.pairwise_cons.mp h2
    have e : x = y := by
      rcases List.mem_cons.mp ((h x).mp (by simp)) with e | mx
      · exact e
      · rcases List.mem_cons.mp ((h y).mpr (by simp)) with e | my
        · exact e.symm
        · have p := lex_tr (b.1 x mx) (a.1 y my)
          rw [lex_irr] at p
          cases p
    subst e
    refine congrArg _ (rise_uniq a.2 b.2 fun z => ⟨fun mz => ?_, fun mz => ?_⟩)
    · rcases List.mem_cons.mp ((h z).mp (by simp [mz])) with rfl | q
      · have := a.1 z mz; rw [lex_irr] at this; cases this
      · exact q
    · rcases List.mem_cons.mp ((h z).mpr (by simp [mz])) with rfl | q
      · have := b.1 z mz; rw [lex_irr] at this; cases this
      · exact q
theorem ssL_of {l m : List (List Int)} (nd : m.Nodup) (so : m.Pairwise fun a b => HT.lexLt b a = false) (h : ∀ z, z ∈ m ↔ z ∈ l) : m = ssL l := by
  refine rise_uniq ?_ (ssL_rise l) fun z => (h z).trans (ssL_mem l z).symm
  refine (List.pairwise_and_iff.mpr ⟨nd, so⟩).imp fun {a b} q => ?_
  cases e : HT.lexLt a b with
  | true => rfl
  | false => exact absurd (lex_tri e q.2) q.1
/-- a list is its own just where it rises -/
theorem ssL_self {l : List (List Int)} : ssL l = l ↔ Rise l := ⟨fun h => by rw [← h]; exact ssL_rise l, fun h => rise_uniq (ssL_rise l) h (ssL_mem l)⟩
def encTI (ns : List Int) : D := .tuple (ns.map .int)
def ssD : D → Option Hd
  | .list ds => match tupsI ds with
    | some nss => if nss.length < 64 then some (.fr (.list ((ssL nss).map encTI))) else none
    | none => none
  | _ => none
def eSS (f : EF) : EF := fun ρ => bindE (eSet f ρ) fun h ρ1 => match (getH ρ1 h).bind ssD with
  | some r => .ok r ρ1
  | none => .stuck
theorem intsL_eq : ∀ {ds : List D} {ns : List Int}, intsL ds = some ns → ds = ns.map .int
  | [], _, e => by cases e; rfl
  | d :: ds, ns, e => by
    cases d <;> first | (cases (show none = some ns from e); done) | skip
    rename_i b
    obtain ⟨r, er, rfl⟩ := Option.map_eq_some_iff.mp (show (intsL ds).map (b :: ·) = some ns from e)
    rw [intsL_eq er]
    rfl
section
variable {K : KW} {B H : Hp}
theorem tups_ks : ∀ {vs : List V} {ds : List D} {nss : List (List Int)}, RpL K B vs ds → tupsI ds = some nss → ∃ ks : List (Addr × List Int), vs = ks.map (fun p => V.ref p.1) ∧ nss = ks.map (·.2) ∧ ∀ p ∈ ks, XT B p.1 (p.2.map V.int) ∧ Rp K B (.ref p.1) (encTI p.2)
  | _, [], _, .nil, e => by cases e; exact ⟨[], rfl, rfl, fun p m => by cases m⟩
  | _, d :: ds, _, .cons h t, e => by
    cases d <;> first | (cases (show none = some _ from e); done) | skip
    rename_i es
    rw [tupsI] at e
    split at e
    · rename_i ns nss e1 e2
      cases e
      obtain ⟨ks, rfl, rfl, q⟩ := tups_ks t e2
      have hh := h
      cases h with
      | tup ha ra =>
        rename_i a xs
        have ei := intsL_ok ra e1
        subst ei
        have ed : es = ns.map .int := intsL_eq e1
        subst ed
        refine ⟨(a, ns) :: ks, rfl, rfl, fun p m => ?_⟩
        rcases List.mem_cons.mp m with rfl | m
        · exact ⟨ha, hh⟩
        · exact q p m
    · cases e
end
section
variable {X : Cx} {C : Ct} {e : Expr} {te : TE} {fe : EF} {p p2 pos pos2 : Pos}
theorem lk_ss {P : Program} {w : World} (l : LkE C te fe) : LkE C (tCB (rSortedG C.K P w) (tCons (tCB (rSetOfT C.K P w) (tCons te tNil)) tNil)) (eSS fe) := fun ρ σ B H Q S g => by
  show te σ H _
  refine l.setBind S g fun hd ρ1 x B1 H1 S1 x1 y1 g1 => ?_
  split at g1
  · rename_i r er
    obtain ⟨d, ed, es⟩ := Option.bind_eq_some_iff.mp er
    cases d with
    | list ds =>
      obtain ⟨a, vs, rfl, ha, ra⟩ := S1.tp y1 ed
      replace es : (match tupsI ds with | some nss => if nss.length < 64 then some (Hd.fr (.list ((ssL nss).map encTI))) else none | none => none) = some r := es
      split at es
      · rename_i nss en
        obtain ⟨hl, rfl⟩ := if_some es
        obtain ⟨ks, rfl, rfl, hk⟩ := tups_ks ra en
        refine ⟨a, ks, rfl, ha, fun p m => same_t S1.bh (hk p m).1.sq, by simpa using hl, fun q L hq sub cov => ?_⟩
        refine ⟨q, L, rfl, upd_same, fun p m => same_t (fun b u e => by have e' := S1.bh b u e; rw [upd_ne (ne_of_none e' hq)]; exact e') (hk p (sub p m)).1.sq, fun L' p' pm nd pw hp' => ?_⟩
        obtain ⟨S2, x2⟩ := S1.newH hq (SetTO P w q L)
        have em : L'.map (·.2) = ssL (ks.map (·.2)) := by
          refine ssL_of nd (List.pairwise_map.mpr pw) fun z => ⟨fun m => ?_, fun m => ?_⟩
          · obtain ⟨y, my, rfl⟩ := List.mem_map.mp m
            exact List.mem_map_of_mem (sub y (pm.mem_iff.mp my))
          · obtain ⟨y, my, rfl⟩ := List.mem_map.mp m
            exact (pm.map (·.2)).mem_iff.mpr (cov y my)
        have rp : ∀ L' : List (Addr × List Int), (∀ y ∈ L', y ∈ ks) → RpL C.K B1 (L'.map fun y => V.ref y.1) ((L'.map (·.2)).map encTI) := by
          intro L'
          induction L' with
          | nil => intro _; exact .nil
          | cons y L' ih => intro h; exact .cons (hk y (h y (by simp))).2 (ih fun z mz => h z (by simp [mz]))
        have r2 := rp L' fun y my => sub y (pm.mem_iff.mp my)
        rw [em] at r2
        exact newL S2 r2 (fun v B' H' s x y => g1 v B' H' s (x2.trans x) (y.mono fun _ z => x2.back z)) p' hp'
      · cases es
    | _ => cases es
  · exact g1.elim
theorem se_ss (hc : X.calm = true) (hu : X.A.units + 64 < cLine) (hm : X.mg "sorted" = none) (hm2 : X.mg "set" = none) (l : SE X C e te fe) (hk : X.K = C.K := by rfl) (hg : Gl X "sorted" := by rfl) (hg2 : Gl X "set" := by rfl)
    (hs : starEach [e] X.env = (false, eval e X.env) :: starEach [] X.env := by rfl) (hs2 : starEach [.Call (.Name "set" p2) [e] [] pos2] X.env = (false, eval (.Call (.Name "set" p2) [e] [] pos2) X.env) :: starEach [] X.env := by rfl) :
    SE X C (.Call (.Name "sorted" p) [.Call (.Name "set" p2) [e] [] pos2] [] pos) (tCB (rSortedG C.K X.prog X.w) (tCons (tCB (rSetOfT C.K X.prog X.w) (tCons te tNil)) tNil)) (eSS fe) :=
  ⟨by rw [← hk]; exact pe_callB (cr_sortedG hc hu) hg hm (by decide +kernel) (pa_cons (pe_callTy (cr_setOfT hc hu) hg2 hm2 (by decide +kernel) (pa_cons l.pe pa_nil hs) (by decide) (by decide) hs rfl) pa_nil hs2) (by decide) (by decide) hs2 rfl, lk_ss l.lk⟩
end
end GS
namespace L2
open PySem PySem.Spec PyProof.Rows RT
theorem nolen_rt : typeLookup (.type "reversed") "__len__" = pure none := by rw [typeLookup_type, builtinLookup_eq_fast]; kernel_rfl
theorem hint_rtL : typeLookup (.type "reversed") "__length_hint__" = pure (some (.builtin "reversed.__length_hint__")) := by rw [typeLookup_type, builtinLookup_eq_fast]; kernel_rfl
theorem entry_rt_hint : entryFor table "reversed.__length_hint__" = some Builtin.«reversed.__length_hint__» := entryFor_of_tree (by kernel_rfl)
theorem slot_rt_hint : Slot "reversed" "__length_hint__" "reversed.__length_hint__" :=
  .of (owner := "reversed") (n := "__length_hint__") (by rw [typeLookup_type, builtinLookup_eq_fast]; kernel_rfl) (by decide +kernel) (by decide +kernel) (by decide +kernel)
    (by first | exact .inl (by decide +kernel) | exact .inr (by decide +kernel)) (by rw [isSubtype_type]; kernel_rfl)
theorem args_rt_hint (a : Value) : argsOk "reversed.__length_hint__" ⟨[a], []⟩ := by
  unfold argsOk; rw [signature?_of (id := "reversed.__length_hint__") (n := ['_', '_', 't', 'n', 'i', 'h', '_', 'h', 't', 'g', 'n', 'e', 'l', '_', '_']) (o := ['d', 'e', 's', 'r', 'e', 'v', 'e', 'r']) (by kernel_rfl) owner_rt]; kernel_rfl
section
variable {prog : Program} {w : World} {A : Around} {E : Value → Shared → Prop} {s : Shared}
theorem hint_rt {it t : Addr} {items : Array Value} {Q : Bool → Shared → Prop} (hit : IsRt s.heap it t ((items.size : Int) - 1)) (ht : IsTup s.heap t items) (hsz : items.size ≤ sizeLine)
    (hlen : ∀ (A : Around) (E : Value → Shared → Prop) (Q : Value → Shared → Prop), Q (.int items.size (s.toks + 1)) { s with toks := s.toks + 1 + 1 } → wpAny (model prog w) A (call (.builtin "len") [.ref t]) Q E s)
    (h : ∀ b tk, s.toks ≤ tk → Q b { s with toks := tk }) : wpAny (model prog w) A (Builtin.List.listLengthHint (.ref it)) Q E s := by
  obtain ⟨o, ho, hc, hd⟩ := id hit
  unfold Builtin.List.listLengthHint
  refine wpAny_bind (wpAny_specialOf hit.typeIs nolen_rt ?_)
  show wpAny _ A (specialOf (Value.ref it) (Str.ofString "__length_hint__") >>= _) _ _ _
  refine wpAny_bind (wpAny_specialOf hit.typeIs hint_rtL ?_)
  (generalize hid : ("reversed.__length_hint__" : String) = id0; (fail_if_success (clear hid id0)); wp_delta; rw [show splitId id0 = some ("reversed", "__length_hint__") from by subst hid; decide +kernel]; subst hid)
  refine wpAny_bind (wpAny_isInstance (b := true) hit.typeIs (by rw [isSubtype_type]; kernel_rfl) ?_)
  refine wpAny_bind (wpAny_rule ?_)
  refine wpAny_bind (wpAny_of_eq (slot_rt_hint.bind _) ?_)
  dsimp only
  refine wpAny_bind (wpAny_attempt (wpAny_call_entry slot_rt_hint hit.typeIs entry_rt_hint ?_ (args_rt_hint _)))
  unfold Builtin.«reversed.__length_hint__»
  refine wpAny_bind (wpAny_of_eq (a := Value.ref it) rfl ?_)
  refine wpAny_bind (wpAny_field ho hd (x := .ref t) rfl ?_)
  have e0 : (Value.ref t == Value.none) = false := rfl
  rw [e0, if_neg Bool.false_ne_true]
  refine wpAny_bind (hlen _ _ _ ?_)
  refine wpAny_bind (wpAny_of_eq (a := some ((items.size : Nat) : Int)) rfl ?_)
  dsimp only
  refine wpAny_bind (wpAny_field (s := { s with toks := s.toks + 1 + 1 }) ho hd (x := rawInt ((items.size : Int) - 1)) rfl ?_)
  show wpAny _ _ (if ((items.size : Nat) : Int) < (items.size : Int) - 1 + 1 then _ else _) _ _ _
  rw [if_neg (by omega)]
  refine wpAny_bind (wpAny_mkInt ?_)
  refine wpAny_pure ⟨_, rfl, ?_⟩
  dsimp only
  refine wpAny_bind (wpAny_of_eq (a := some ((items.size : Int) - 1 + 1)) rfl ?_)
  dsimp only
  have e1 : (items.size : Int) - 1 + 1 = ((items.size : Nat) : Int) := by omega
  rw [e1]
  have f1 : Builtin.List.listFitsIndex ((items.size : Nat) : Int) = true := by
    rw [sizeLine_eq] at hsz
    unfold Builtin.List.listFitsIndex
    simp
    omega
  have f2 : Builtin.List.listTooLong (((items.size : Nat) : Int).toNat) = false := by
    rw [sizeLine_eq] at hsz
    unfold Builtin.List.listTooLong
    simp [sizeLine_eq]
    omega
  rw [f1, f2]
  rw [if_neg (by decide), if_neg (by omega), if_neg (by decide)]
  exact wpAny_pure (h _ (s.toks + 1 + 1 + 1) (by omega))
theorem walks_rt (hh : A.handled = none) (it t : Addr) (hne : t ≠ it) (items : Array Value) (hsz : items.size ≤ sizeLine) :
    WalksS prog w A it [it, t] [it] (fun a b => b = a) items.size (fun i v => items[items.size - 1 - i]? = some v) (fun i s => i ≤ items.size ∧ IsRt s.heap it t ((items.size : Int) - 1 - (i : Nat)) ∧ IsTup s.heap t items) where
  sub := fun b hb => by simp at hb; simp [hb]
  grefl := fun _ => rfl
  gtrans := fun a b c h1 h2 => h2.trans h1
  frame := fun i s h' tk st _ k => ⟨st.1, st.2.1.at fun o e => k it (by simp) o e, by
    obtain ⟨o, ho, r⟩ := st.2.2
    exact ⟨o, k t (by simp) o ho, r⟩⟩
  item := fun i s Q E hi st hQ => by
    obtain ⟨_, hit, ht⟩ := st
    have e1 : (items.size : Int) - 1 - ((i : Nat) : Int) = ((items.size - 1 - i : Nat) : Int) := by omega
    rw [e1] at hit
    have hx : items[items.size - 1 - i]? = some items[items.size - 1 - i] := by simp
    refine next_rt_item hit ht hx hsz fun h' st' sb => ?_
    have e2 : ((items.size - 1 - i : Nat) : Int) - 1 = (items.size : Int) - 1 - ((i + 1 : Nat) : Int) := by omega
    rw [e2] at st'
    refine hQ _ { s with heap := h', toks := s.toks + 1 } hx ⟨hi, st', ?_⟩ ⟨fun b o hb e => (sb.2 b (by simpa using hb)).trans e, rfl, rfl, rfl, Nat.le_succ _⟩
    obtain ⟨o, ho, r⟩ := ht
    exact ⟨o, (sb.2 t hne).trans ho, r⟩
  done := fun s Q E st hQ => by
    obtain ⟨_, hit, ht⟩ := st
    have e1 : (items.size : Int) - 1 - ((items.size : Nat) : Int) = -1 := by omega
    rw [e1] at hit
    refine next_rt_end hh hit fun h' eb => hQ { s with heap := h' } ⟨fun b o hb e => eb b o (by simpa using hb) e, rfl, rfl, rfl, Nat.le_refl _⟩
  self := fun i s Q E st h => iter_rt st.2.1 h
theorem call_list_rt {it t : Addr} {items : Array Value} {Q : Value → Shared → Prop} (hh : A.handled = none) (hit : IsRt s.heap it t ((items.size : Int) - 1)) (ht : IsTup s.heap t items) (hne : t ≠ it) (hsz : items.size ≤ sizeLine)
    (hlen : ∀ (s : Shared), IsTup s.heap t items → ∀ (A : Around) (E : Value → Shared → Prop) (Q : Value → Shared → Prop), Q (.int items.size (s.toks + 1)) { s with toks := s.toks + 1 + 1 } → wpAny (model prog w) A (call (.builtin "len") [.ref t]) Q E s)
    (hQ : ∀ s' acc' c', (∀ b o, b ≠ it → s.heap.get? b = some o → s'.heap.get? b = some o) → s'.gens = s.gens → s'.os = s.os →
      s'.heap.get? s.heap.objs.size = some { cls := .type "list", dict := none, data := .seq acc' c', slots := #[] } → ItemsOf (fun i v => items[items.size - 1 - i]? = some v) acc' items.size → Q (.ref s.heap.objs.size) s') :
    wpAny (model prog w) A (call (.type "list") [.ref it]) Q E s := by
  have W := walks_rt (prog := prog) (w := w) (A := A.in1.in1) hh it t hne items hsz
  have ltI : it < s.heap.objs.size := by obtain ⟨o, ho, _⟩ := hit; exact Heap.lt_size ho
  have ltT : t < s.heap.objs.size := by obtain ⟨o, ho, _⟩ := ht; exact Heap.lt_size ho
  have hSf : s.heap.objs.size ∉ [it, t] := fun hm => by
    simp only [List.mem_cons, List.not_mem_nil, or_false] at hm
    rcases hm with e | e
    · rw [e] at ltI; exact Nat.lt_irrefl _ ltI
    · rw [e] at ltT; exact Nat.lt_irrefl _ ltT
  have hst : (fun i (s : Shared) => i ≤ items.size ∧ IsRt s.heap it t ((items.size : Int) - 1 - (i : Nat)) ∧ IsTup s.heap t items) 0 s := ⟨Nat.zero_le _, by simpa using hit, ht⟩
  refine callType_codes (Q₁ := fun obj s₁ => obj = .ref s.heap.objs.size ∧ s₁ = { s with heap := s.heap.push { cls := .type "list", data := .seq #[] } }) F.called_list (F.typeCall_list_1 _) F.entry_list_init
    (code_list_new _ ⟨rfl, rfl⟩) fun obj s₁ h₁ => ?_
  obtain ⟨rfl, rfl⟩ := h₁
  have hS : (s.heap.push { cls := .type "list", data := .seq #[] }).get? s.heap.objs.size = some { cls := .type "list", data := .seq #[] } := Heap.get?_push_size _ rfl
  refine ⟨⟨_, hS, rfl⟩, F.args_list_init_2 _ _, ?_⟩
  generalize hSS : s.heap.objs.size = S at *
  have hst1 := W.frame 0 s (s.heap.push { cls := .type "list", data := .seq #[] }) s.toks hst (Nat.le_refl _) fun b _ o e => Heap.get?_push_of_some _ e
  have old : ∀ b o, s.heap.get? b = some o → (s.heap.push { cls := .type "list", data := .seq #[] }).get? b = some o := fun b o e => Heap.get?_push_of_some _ e
  have neS : ∀ b o, s.heap.get? b = some o → b ≠ S := fun b o e z => by have := Heap.lt_size e; rw [hSS, z] at this; exact Nat.lt_irrefl _ this
  generalize s.heap.push { cls := .type "list", data := .seq #[] } = h1 at *
  show wpAny _ A.in1.in1 (do let old ← Builtin.List.listItems (.ref S); Builtin.List.listUpdate (.ref S) (fun _ => #[]); letGo old.toList.reverse; Builtin.List.listExtendWith (.ref S) (.ref it) .none) _ _ _
  refine wpAny_bind ?_
  unfold Builtin.List.listItems
  refine wpAny_bind (wpAny_seqItems hS rfl (wpAny_pure ?_))
  show wpAny _ A.in1.in1 (updateSeq S (fun _ => #[]) >>= fun _ => letGo (#[] : Array Value).toList.reverse >>= fun _ => Builtin.List.listExtendWith (.ref S) (.ref it) .none) _ _ _
  refine wpAny_bind (wpAny_updateSeq hS rfl ?_)
  have hS2 := Heap.get?_update_self (Obj.mapSeq (fun _ => (#[] : Array Value))) hS rfl
  have oth : ∀ b o, b ≠ S → h1.get? b = some o → (h1.update S (Obj.mapSeq (fun _ => (#[] : Array Value)))).get? b = some o :=
    fun b o hb e => (Heap.get?_update_other _ _ (Ne.symm hb)).trans e
  refine wpAny_bind (wpAny_letGo ?_)
  have hst2 := W.frame 0 { s with heap := h1 } (h1.update S (Obj.mapSeq (fun _ => (#[] : Array Value)))) s.toks hst1 (Nat.le_refl _) fun b hb o e => oth b o (fun z => hSf (z ▸ hb)) e
  have keep2 : ∀ b o, s.heap.get? b = some o → (h1.update S (Obj.mapSeq (fun _ => (#[] : Array Value)))).get? b = some o := fun b o e => oth b o (neS b o e) (old b o e)
  generalize h1.update S (Obj.mapSeq (fun _ => (#[] : Array Value))) = h2 at *
  have hSI : S ≠ it := fun e => hSf (by simp [e])
  unfold Builtin.List.listExtendWith
  have hT : Shared.TypeIs { s with heap := h2 } (.ref it) "reversed" := hst2.2.1.typeIs
  refine wpAny_bind (wpAny_typeOf hT ?_)
  have q1 : Builtin.List.listSameRef (.ref S) (.ref it) = false := by simp [Builtin.List.listSameRef, hSI]
  have q2 : (Value.type "reversed" == Value.type "list") = false := by decide
  have q3 : (Value.type "reversed" == Value.type "tuple") = false := by decide
  simp only [q1, q2, q3, Bool.or_false, Bool.false_eq_true, if_false]
  refine wpAny_bind (W.self 0 _ _ _ hst2 ?_)
  refine wpAny_bind (wpAny_holding ?_)
  refine hint_rt (s := { s with heap := h2 }) (by simpa using hst2.2.1) hst2.2.2 hsz (hlen _ hst2.2.2) fun b tk htk => ?_
  have fin : ∀ (h3 : Heap) (c : Nat), h3.get? S = some { cls := .type "list", data := .seq #[] c } → (∀ b o, b ≠ S → h2.get? b = some o → h3.get? b = some o) →
      wpAny (model prog w) A.in1.in1 (again (.builtin "list.extend.loop" ⟨[.ref S, .ref it, .none], []⟩)) (fun fin s' =>
      match fin with
      | Fin.done f => wants (fun r s₂ => r = Value.none ∧ Q (Value.ref S) s₂) E (Except.ok f) s'
      | Fin.again c' =>
        c'.quiet = true ∧
          codeAny (model prog w) A.in1 c' (wants (fun r s₂ => r = Value.none ∧ Q (Value.ref S) s₂) E) s')
    (fun e s' => wants (fun r s₂ => r = Value.none ∧ Q (Value.ref S) s₂) E (Except.error e) s') { s with heap := h3, toks := tk } := fun h3 c hS3 k3 => by
    refine wpAny_pure ⟨plainId_quiet F.plain_extend_loop _, codeAny_extend_loopS W hsz _ hSf _ items.size 0 _ _ _ rfl (Nat.zero_le _)
      (W.frame 0 { s with heap := h2 } h3 tk hst2 htk fun b hb o e => k3 b o (fun z => hSf (z ▸ hb)) e) hS3 (ItemsOf.nil _) fun s' acc' c' hm hS' hacc => ?_⟩
    refine ⟨rfl, hQ s' acc' c' (fun b o hb e => ?_) hm.gens hm.os hS' hacc⟩
    exact hm.heap b o (by simp [neS b o e, hb]) (k3 b o (neS b o e) (keep2 b o e))
  split
  · refine wpAny_bind (wpAny_rule ?_)
    refine wpAny_bind ?_
    show wpAny _ _ (updateSeq S (·.push .none) >>= fun _ => updateSeq S (·.pop)) _ _ _
    refine wpAny_bind (wpAny_updateSeq hS2 rfl ?_)
    have hS4 := Heap.get?_update_self (Obj.mapSeq (·.push Value.none)) hS2 rfl
    refine wpAny_updateSeq (hz := by seq_fits) hS4 rfl ?_
    have hS5 := Heap.get?_update_self (Obj.mapSeq (·.pop)) hS4 rfl
    exact fin _ _ hS5 fun b o hb e => (Heap.get?_update_other _ _ (Ne.symm hb)).trans ((Heap.get?_update_other _ _ (Ne.symm hb)).trans e)
  · exact fin _ _ hS2 fun b o _ e => e
end
/-- list(reversed(x)), x a tuple: a new list -/
def tLstRev (K : PySem.W.Frag) (te : TE) : TE := fun σ H Q => te σ H fun v H1 => ∃ (a : Addr) (xs : List V), v = .ref a ∧ SqT K H1 a xs ∧ ∀ q, H1 q = none → Q (.ref q) (upd H1 q (.lst xs.reverse))
theorem pe_listRev {X : Cx} {e : Expr} {te : TE} {p p2 pos pos2 : Pos} (hc : X.calm = true) (hg : Gl X "list") (hm : X.mg "list" = none) (hg2 : Gl X "reversed") (hm2 : X.mg "reversed" = none) (he : PE X e te)
    (hs : starEach [e] X.env = (false, eval e X.env) :: starEach [] X.env := by rfl)
    (hs2 : starEach [.Call (.Name "reversed" p2) [e] [] pos2] X.env = (false, eval (.Call (.Name "reversed" p2) [e] [] pos2) X.env) :: starEach [] X.env := by rfl) :
    PE X (.Call (.Name "list" p) [.Call (.Name "reversed" p2) [e] [] pos2] [] pos) (tLstRev X.K te) := by
  refine ⟨fun pins s σ H Q I h => ?_⟩
  refine Call_ (ld_blt I hg hm boot_list (PyProof.Rows.callWith_type1 (args_cons (Call_ (ld_blt I hg2 hm2 PyProof.Rows.boot_reversed (PyProof.Rows.callWith_type1 (args_cons (thn (he.run pins s σ H _ I h) fun u s1 ⟨v, H1, I1, r1, q1⟩ => args_nil ?_) hs) hs rfl))) hs2) hs2 rfl))
  obtain ⟨a, xs, ev, hq, q⟩ := q1
  subst ev
  obtain rfl : u = Value.ref a := r1
  obtain ⟨its, rv, p', hz⟩ := I1.tuple hq
  have hn := line63
  have hl := rv.length
  have ln : ∀ (s : Shared), IsTup s.heap a its.toArray → ∀ (A : Around) (E : Value → Shared → Prop) (Q : Value → Shared → Prop), Q (.int its.toArray.size (s.toks + 1)) { s with toks := s.toks + 1 + 1 } → wpAny (model X.prog X.w) A (call (.builtin "len") [.ref a]) Q E s :=
    fun s p' A E Q k => len_tuple p' (by simp only [List.size_toArray] <;> omega) k
  refine call_reversed_tup p' (ln s1 p') (args_nil ?_)
  have k0 : ∀ b o, s1.heap.get? b = some o → (s1.heap.push (rtObj a ((its.toArray.size : Int) - 1))).get? b = some o := fun b o e => Heap.get?_push_of_some _ e
  have z0 : (s1.heap.push (rtObj a ((its.toArray.size : Int) - 1))).objs.size = s1.heap.objs.size + 1 := Heap.size_push ..
  have hIt : IsRt (s1.heap.push (rtObj a ((its.toArray.size : Int) - 1))) s1.heap.objs.size a ((its.toArray.size : Int) - 1) := ⟨_, Heap.get?_push_size _ rfl, rfl, rfl⟩
  have hTp : IsTup (s1.heap.push (rtObj a ((its.toArray.size : Int) - 1))) a its.toArray := by
    obtain ⟨o, ho, r⟩ := p'
    exact ⟨o, k0 a o ho, r⟩
  have hne : a ≠ s1.heap.objs.size := by
    obtain ⟨o, ho, _⟩ := p'
    exact Nat.ne_of_lt (Heap.lt_size ho)
  refine call_list_rt (s := { s1 with heap := s1.heap.push (rtObj a ((its.toArray.size : Int) - 1)), toks := s1.toks + 1 + 1 }) (I1.ok.hd hc) hIt hTp hne (by rw [List.size_toArray, ← hl]; exact hz) ln fun s' acc' c' kp eg eo hg' hi => ?_
  have k : ∀ b o, s1.heap.get? b = some o → s'.heap.get? b = some o := fun b o e => kp b o (Nat.ne_of_lt (Heap.lt_size e)) (k0 b o e)
  have le : s1.heap.objs.size ≤ (s1.heap.push (rtObj a ((its.toArray.size : Int) - 1))).objs.size := by rw [z0]; exact Nat.le_succ _
  have nn : H1 (s1.heap.push (rtObj a ((its.toArray.size : Int) - 1))).objs.size = none := I1.hok.fresh le
  have hlen : xs.reverse.length ≤ sizeLine := by rw [List.length_reverse]; exact hz
  have J : Inv X pins σ (upd H1 (s1.heap.push (rtObj a ((its.toArray.size : Int) - 1))).objs.size (.lst xs.reverse)) { s1 with heap := s'.heap, gens := s'.gens, drawn := s'.drawn, toks := s'.toks } :=
    I1.call (ch := []) (Un.laid k le nn) (I1.hok.laid k le ⟨hlen, acc'.toList, c', vals_rev rv hi, by rw [Array.toArray_toList]; exact hg'⟩) (by rw [eg]; exact I1.bare) (fun _ z => nomatch z)
  have e : s' = { s1 with heap := s'.heap, gens := s'.gens, drawn := s'.drawn, toks := s'.toks } := by
    cases s'
    cases s1
    cases eo
    rfl
  rw [e]
  exact ⟨.ref (s1.heap.push (rtObj a ((its.toArray.size : Int) - 1))).objs.size, _, J, rfl, q _ nn⟩
end L2
namespace GS
open PySem L2
def eLRv (fe : EF) : EF := fun ρ => bindE (eSet fe ρ) fun h ρ1 => match getH ρ1 h with
  | some (.tuple ds) => .ok (.fr (.list ds.reverse)) ρ1
  | _ => .stuck
section
variable {X : Cx} {C : Ct} {e : Expr} {te : TE} {fe : EF} {p p2 pos pos2 : Pos}
theorem se_lrv (hc : X.calm = true) (hm : X.mg "list" = none) (hm2 : X.mg "reversed" = none) (l : SE X C e te fe) (hk : X.K = C.K := by rfl) (hg : Gl X "list" := by rfl) (hg2 : Gl X "reversed" := by rfl)
    (hs : starEach [e] X.env = (false, eval e X.env) :: starEach [] X.env := by rfl) (hs2 : starEach [.Call (.Name "reversed" p2) [e] [] pos2] X.env = (false, eval (.Call (.Name "reversed" p2) [e] [] pos2) X.env) :: starEach [] X.env := by rfl) :
    SE X C (.Call (.Name "list" p) [.Call (.Name "reversed" p2) [e] [] pos2] [] pos) (tLstRev C.K te) (eLRv fe) := ⟨by rw [← hk]; exact pe_listRev hc hg hm hg2 hm2 l.pe hs hs2, fun ρ σ B H Q S g => by
  show te σ H _
  refine l.lk.setBind S g fun hd ρ1 x B1 H1 S1 e1 y1 g1 => ?_
  split at g1
  · rename_i ds ed
    obtain ⟨a, vs, rfl, ha, ra⟩ := Tp.tupX (S1.tp y1 ed)
    exact ⟨a, vs, rfl, same_t S1.bh ha.sq, newL S1 ra.reverse g1⟩
  · exact g1.elim⟩
end
end GS
namespace GS
open PySem L2
def eBack (v : Nat) (f : EF) : EF := fun ρ => match f ρ with
  | .ok h ρ1 => match slot ρ v with
    | some ⟨d, .sh⟩ => match ρ1[v]? with
      | some none => .ok h (ρ1.set v (some ⟨d, .sh⟩))
      | _ => .ok h ρ1
    | _ => .ok h ρ1
  | r => r
theorem lk_back {C : Ct} {t : TE} {f : EF} (v : Nat) (l : LkE C t f) : LkE C t (eBack v f) := fun ρ σ B H Q S g => by
  refine l ρ σ B H Q S ?_
  unfold eBack at g
  cases e : f ρ with
  | stuck => rw [e] at g; exact g
  | exc x ρ1 => rw [e] at g; exact g
  | ok h ρ1 =>
    rw [e] at g
    dsimp only at g
    split at g
    · rename_i d es
      split at g
      · rename_i hv
        have hs := slot_some es
        obtain ⟨u, eu, ok⟩ := S.sl v _ hs
        have rp : Rp C.K B u d := by
          rcases ok with ⟨_, q⟩ | ⟨q, _⟩
          · exact q
          · exact absurd rfl q
        have hi : v < ρ1.length := by
          by_cases q : v < ρ1.length
          · exact q
          · rw [List.getElem?_eq_none (by omega)] at hv; cases hv
        have at1 : ∀ {j : Nat} {c : Cel}, (ρ1.set v (some ⟨d, .sh⟩))[j]? = some (some c) → (v = j ∧ c = ⟨d, .sh⟩) ∨ (v ≠ j ∧ ρ1[j]? = some (some c)) := fun {j c} h => by
          by_cases q : v = j
          · subst q
            rw [List.getElem?_set, if_pos rfl, if_pos hi] at h
            cases h
            exact .inl ⟨rfl, rfl⟩
          · rw [List.getElem?_set, if_neg q] at h
            exact .inr ⟨q, h⟩
        have ow : ∀ a, OwnA (ρ1.set v (some ⟨d, .sh⟩)) σ a → OwnA ρ1 σ a := fun a ⟨j, c, hj, nf, ej⟩ => by
          rcases at1 hj with ⟨_, rfl⟩ | ⟨_, hj⟩
          · exact absurd rfl nf
          · exact ⟨j, c, hj, nf, ej⟩
        intro w B1 H1 S1 x1 y1
        refine g w B1 H1 ⟨S1.bh, by rw [List.length_set]; exact S1.len, fun j c hj => ?_, fun i j ci cj a hi' hj' ni nj ei ej => ?_⟩ ⟨x1.bb, x1.nw, x1.kp, fun a ha => x1.sub a (ow a ha), fun j c hj hf => ?_, fun j c hj hf => ?_⟩ ?_
        · rcases at1 hj with ⟨rfl, rfl⟩ | ⟨_, hj⟩
          · exact ⟨u, eu, .inl ⟨rfl, rp.mono x1.bb⟩⟩
          · exact S1.sl j c hj
        · rcases at1 hi' with ⟨_, rfl⟩ | ⟨_, h1⟩
          · exact absurd rfl ni
          · rcases at1 hj' with ⟨_, rfl⟩ | ⟨_, h2⟩
            · exact absurd rfl nj
            · exact S1.dj i j ci cj a h1 h2 ni nj ei ej
        · obtain ⟨q1, c', q2, q3⟩ := x1.io j c hj hf
          have ne : v ≠ j := fun z => by subst z; rw [hv] at q2; cases q2
          exact ⟨q1, c', by rw [List.getElem?_set, if_neg ne]; exact q2, q3⟩
        · rcases at1 hj with ⟨_, rfl⟩ | ⟨_, hj⟩
          · cases hf
          · exact x1.oi j c hj hf
        · cases h with
          | sh _ => exact y1
          | bw _ => exact y1
          | fr _ =>
            obtain ⟨a, q1, q2, q3, q4, q5⟩ := y1
            exact ⟨a, q1, q2, q3, fun z => q4 (ow a z), q5⟩
      · exact g
    · exact g
theorem se_back {X : Cx} {C : Ct} {e : Expr} {t : TE} {f : EF} (v : Nat) (l : SE X C e t f) : SE X C e t (eBack v f) := ⟨l.pe, lk_back v l.lk⟩
end GS
namespace GM
open PySem L2 GS
/-- are_numbers(thing); slots 0:thing 1:one -/
def m_are_numbers_b1 : SF := (sKill [1] (sIf (eOr (eB (eIsi isBool (eVb 1))) (eNot (eB (eIsi isInt (eVb 1))))) (sEnd (sRet (eC (.bool false)))) sNil))
def m_are_numbers : SF := (sSeq (sIf (eNot (eB (eIsi isTup (eVb 0)))) (sEnd (sRet (eC (.bool false)))) sNil) (sSeq (sFor (iSq (eMv 0)) (gN 1) (m_are_numbers_b1)) (sEnd (sRet (eC (.bool true))))))
theorem m_are_numbers_eq (ρ : Rho) : fnF 2 1 (m_are_numbers) ρ = finR 1 (m_are_numbers (ρ ++ [none])) := fnF_eq 2 1 _
/-- are_puts(thing); slots 0:thing 1:ahead 2:one -/
def m_are_puts_b1 (F_are_numbers : FF) : SF := (sKill [2] (sSeq (sIf (eOr (eNot (eB (eIsi isTup (eVb 2)))) (eOr (eB (eBin (eqB true) (eCB (un1 lenD) (aCons (eVb 2) aNil)) (eC (.int 2)))) (eNot (eB (eCall 1 none F_are_numbers (aCons (eBin ixA (eVb 2) (eC (.int 0))) aNil)))))) (sEnd (sRet (eC (.bool false)))) sNil) (sSeq (sIf (eOr (eNot (eB (eIsi isTup (eBin ixA (eVb 2) (eC (.int 1)))))) (eOr (eB (eBin (eqB true) (eCB (un1 lenD) (aCons (eBin ixA (eVb 2) (eC (.int 1))) aNil)) (eC (.int 2)))) (eNot (eB (eIsi isStr (eBin ixA (eBin ixA (eVb 2) (eC (.int 1))) (eC (.int 0)))))))) (sEnd (sRet (eC (.bool false)))) sNil) (sSeq (sIf (eAnd (eB (eBin (isD true) (eVb 1) (eC .none))) (eNot (eB (eBin (ltI fun i j => decide (i < j)) (eVb 1) (eBin ixA (eVb 2) (eC (.int 0))))))) (sEnd (sRet (eC (.bool false)))) sNil) (sSet 1 (eBin ixA (eVb 2) (eC (.int 0))))))))
def m_are_puts (F_are_numbers : FF) : SF := (sSeq (sIf (eNot (eB (eIsi isTup (eVb 0)))) (sEnd (sRet (eC (.bool false)))) sNil) (sSeq (sSet 1 (eC .none)) (sSeq (sFor (iSq (eMv 0)) (gN 2) (m_are_puts_b1 F_are_numbers)) (sEnd (sRet (eC (.bool true)))))))
theorem m_are_puts_eq (F_are_numbers : FF) (ρ : Rho) : fnF 3 1 (m_are_puts F_are_numbers) ρ = finR 1 (m_are_puts F_are_numbers (ρ ++ [none, none])) := fnF_eq 3 1 _
/-- put_well(book, tree, puts); slots 0:book 1:tree 2:puts 3:told 4:place 5:piece 6:want -/
def m_put_well_ct1 (F_places F_takers F_wanted F_piece_at : FF) : EF := (eB (eBin (inB true) (eVb 4) (eCall 1 none F_places (aCons (eMv 1) aNil))))
def m_put_well_ce2 (F_places F_takers F_wanted F_piece_at : FF) : EF := (eMv 4)
def m_put_well_b3 (F_places F_takers F_wanted F_piece_at : FF) : SF := (sKill [4, 5, 6] (sSeq (sSet 5 (eCall 2 none F_piece_at (aCons (eMv 1) (aCons (eMv 4) aNil)))) (sSeq (sSet 6 (eCall 1 none F_wanted (aCons (eMv 5) aNil))) (sSeq (sIf (eAnd (eB (eBin (isD true) (eVb 6) (eC .none))) (eAnd (eB (eBin ixA (eVb 6) (eC (.int 2)))) (eB (eBin (inB true) (eVb 4) (eVb 3))))) (sEnd (sRet (eC (.bool false)))) sNil) (sIf (eAnd (eB (eBin (inB false) (eVb 4) (eVb 3))) (eB (eBin (inB true) (eBin ixA (eBin ixA (eVb 3) (eVb 4)) (eC (.int 0))) (eCall 2 none F_takers (aCons (eMv 0) (aCons (eMv 5) aNil)))))) (sEnd (sRet (eC (.bool false)))) sNil)))))
def m_put_well (F_places F_takers F_wanted F_piece_at : FF) : SF := (sSeq (sSet 3 (eCB (un1 dictD) (aCons (eVb 2) aNil))) (sSeq (sFor (iSq (eCall 1 none F_places (aCons (eMv 1) aNil))) (gN 4) (m_put_well_b3 F_places F_takers F_wanted F_piece_at)) (sEnd (sRet (eBin (eqB false) (eCB (un1 lenD) (aCons (eLc [4] (iSq (eMv 3)) (gN 4) (eNox (m_put_well_ct1 F_places F_takers F_wanted F_piece_at)) (eNox (m_put_well_ce2 F_places F_takers F_wanted F_piece_at))) aNil)) (eC (.int 0)))))))
theorem m_put_well_eq (F_places F_takers F_wanted F_piece_at : FF) (ρ : Rho) : fnF 7 3 (m_put_well F_places F_takers F_wanted F_piece_at) ρ = finR 3 (m_put_well F_places F_takers F_wanted F_piece_at (ρ ++ [none, none, none, none])) := fnF_eq 7 3 _
/-- is_plan(book, thing); slots 0:book 1:thing 2:tree 3:place 4:plan -/
def m_is_plan_b1 (F_is_plan F_put_well F_tree_of F_are_puts : FF) : SF := (sKill [3, 4] (sIf (eNot (eB (eCall 2 none F_is_plan (aCons (eMv 0) (aCons (eMv 4) aNil))))) (sEnd (sRet (eC (.bool false)))) sNil))
def m_is_plan (F_is_plan F_put_well F_tree_of F_are_puts : FF) : SF := (sSeq (sIf (eOr (eNot (eB (eIsi isTup (eVb 1)))) (eOr (eB (eBin (eqB true) (eCB (un1 lenD) (aCons (eVb 1) aNil)) (eC (.int 2)))) (eOr (eNot (eB (eIsi isStr (eBin ixA (eVb 1) (eC (.int 0)))))) (eNot (eB (eCall 1 none F_are_puts (aCons (eBin ixA (eVb 1) (eC (.int 1))) aNil))))))) (sEnd (sRet (eC (.bool false)))) sNil) (sSeq (sSet 2 (eCall 2 none F_tree_of (aCons (eMv 0) (aCons (eBin ixA (eVb 1) (eC (.int 0))) aNil)))) (sSeq (sIf (eOr (eB (eBin (isD false) (eVb 2) (eC .none))) (eNot (eB (eCall 3 none F_put_well (aCons (eMv 0) (aCons (eMv 2) (aCons (eBin ixA (eVb 1) (eC (.int 1))) aNil))))))) (sEnd (sRet (eC (.bool false)))) sNil) (sSeq (sFor (iSq (eBin ixA (eVb 1) (eC (.int 1)))) (gT 2 (gsC (gN 3) (gsC (gN 4) gsN))) (m_is_plan_b1 F_is_plan F_put_well F_tree_of F_are_puts)) (sEnd (sRet (eC (.bool true))))))))
theorem m_is_plan_eq (F_is_plan F_put_well F_tree_of F_are_puts : FF) (ρ : Rho) : fnF 5 2 (m_is_plan F_is_plan F_put_well F_tree_of F_are_puts) ρ = finR 2 (m_is_plan F_is_plan F_put_well F_tree_of F_are_puts (ρ ++ [none, none, none])) := fnF_eq 5 2 _
end GM
namespace GM
open PySem L2 GS
def numB : D → Bool
  | .int _ => true
  | _ => false
def numsB : D → Bool
  | .tuple ds => ds.all numB
  | _ => false
def NumsSp (F : FF) : Prop := ∀ d : D, F [some ⟨d, .sh⟩] = .ok (.sh (.bool (numsB d))) [none]
theorem are_numbers_ok : NumsSp (fnF 2 1 m_are_numbers) := fun d => by
  rw [m_are_numbers_eq]
  cases d with
  | tuple ds =>
    have h := forL_lookD (g := gN 1) (b := m_are_numbers_b1) [some ⟨.tuple ds, .sh⟩, none] [none, none] numB (.sh (.bool false)) ds (fun a _ => by
      cases a <;> simp [m_are_numbers_b1, numB, isBool, isInt])
    show _ = RE.ok (.sh (.bool (ds.all numB))) [none]
    cases q : ds.all numB <;> rw [q] at h <;> simp [m_are_numbers, isTup, h]
  | _ => simp [m_are_numbers, isTup, numsB]
/-- a put: its place, key, what is put within -/
abbrev Pt := List Int × Str × D
def putP : D → Option Pt
  | .tuple [.tuple ns, .tuple [.str k, r]] => (intsT ns).map fun p => (p, k, r)
  | _ => none
def encI (p : List Int) : D := .tuple (p.map .int)
def encPt (x : Pt) : D := .tuple [encI x.1, .tuple [.str x.2.1, x.2.2]]
theorem intsT_all : ∀ ds : List D, (∃ p, intsT ds = some p ∧ ds = p.map .int) ∨ (intsT ds = none ∧ ds.all numB = false)
  | [] => .inl ⟨[], rfl, rfl⟩
  | d :: ds => by
    cases d with
    | int i =>
      rcases intsT_all ds with ⟨p, e, rfl⟩ | ⟨e, q⟩
      · exact .inl ⟨i :: p, by simp [intsT, e], rfl⟩
      · exact .inr ⟨by simp [intsT, e], by simp [numB, q]⟩
    | _ => exact .inr ⟨rfl, by simp [numB]⟩
theorem intsT_map (p : List Int) : intsT (p.map .int) = some p := by
  induction p with
  | nil => rfl
  | cons i p ih => simp [intsT, ih]
theorem nums_map (p : List Int) : numsB (encI p) = true := by
  show (p.map PyData.int).all numB = true
  rw [List.all_map, List.all_eq_true]
  intro i _
  rfl
theorem putP_some {d : D} {x : Pt} (h : putP d = some x) : d = encPt x := by
  unfold putP at h
  split at h
  · rename_i ns k r
    obtain ⟨p, e, rfl⟩ := Option.map_eq_some_iff.mp h
    rcases intsT_all ns with ⟨p', e', rfl⟩ | ⟨e', _⟩
    · rw [e] at e'; cases e'; rfl
    · rw [e] at e'; cases e'
  · cases h
theorem putP_enc (x : Pt) : putP (encPt x) = some x := by
  obtain ⟨p, k, r⟩ := x
  show (intsT (p.map .int)).map _ = _
  rw [intsT_map]
  rfl
def ltO : Option (List Int) → List Int → Bool
  | none, _ => true
  | some a, p => HT.lexLt a p
def goP : Option (List Int) → List D → Option (List Pt)
  | _, [] => some []
  | a, d :: ds => match putP d with
    | none => none
    | some x => if ltO a x.1 then (goP (some x.1) ds).map fun l => x :: l else none
def putsP : D → Option (List Pt)
  | .tuple ds => goP none ds
  | _ => none
def optI : Option (List Int) → D
  | none => .none
  | some p => encI p
def PutsSp (F : FF) : Prop := ∀ d : D, F [some ⟨d, .sh⟩] = .ok (.sh (.bool (putsP d).isSome)) [none]
/-- one put: looked at -/
theorem put_turn {Fn : FF} (hn : NumsSp Fn) (d d0 : D) (a : Option (List Int)) : optR (gN 2 d [some ⟨d0, .sh⟩, some ⟨optI a, .sh⟩, none]) (m_are_puts_b1 Fn) = match putP d with
    | none => .rt (.sh (.bool false)) [none, none, none]
    | some x => if ltO a x.1 then .nx [some ⟨d0, .sh⟩, some ⟨encI x.1, .sh⟩, none] else .rt (.sh (.bool false)) [none, none, none] := by
  have lt0 : ∀ p q : List Int, ltI (fun i j => decide (i < j)) (encI p) (encI q) = some (.sh (.bool (HT.lexLt p q))) := fun p q => by
    show (if (decide ((0 : Int) < 1) && !decide ((0 : Int) < 0)) then (intsT (p.map .int)).bind fun a => (intsT (q.map .int)).map fun b => Hd.sh (.bool (HT.lexLt a b)) else none) = _
    rw [intsT_map, intsT_map]
    rfl
  have e := hn
  cases d with
  | tuple es =>
    match es with
    | [] => simp [m_are_puts_b1, putP, isTup]
    | [a'] => simp [m_are_puts_b1, putP, isTup]
    | u :: v :: w :: r =>
      have z : ¬ ((r.length : Int) + 1 + 1 + 1 = 2) := by omega
      simp [m_are_puts_b1, putP, isTup, z]
    | [u, v] =>
      have eu := hn u
      cases qn : numsB u with
      | false =>
        rw [qn] at eu
        have pn : putP (.tuple [u, v]) = none := by
          unfold putP
          split
          · rename_i ns k r e'
            cases e'
            rcases intsT_all ns with ⟨p, _, rfl⟩ | ⟨q, _⟩
            · have := nums_map p
              unfold encI at this
              rw [qn] at this
              cases this
            · rw [q]; rfl
          · rfl
        rw [pn]
        simp [m_are_puts_b1, isTup, eu]
      | true =>
        rw [qn] at eu
        obtain ⟨p, rfl⟩ : ∃ p, u = encI p := by
          cases u with
          | tuple ns =>
            rcases intsT_all ns with ⟨p, _, rfl⟩ | ⟨_, q⟩
            · exact ⟨p, rfl⟩
            · have qn : ns.all numB = true := qn
              rw [q] at qn
              cases qn
          | _ => cases qn
        have ee : ∃ ds, encI p = .tuple ds := ⟨_, rfl⟩
        cases v with
        | tuple fs =>
          match fs with
          | [] => simp [m_are_puts_b1, putP, isTup, eu]
          | [b] => simp [m_are_puts_b1, putP, isTup, eu]
          | b :: c :: f :: r =>
            have z : ¬ ((r.length : Int) + 1 + 1 + 1 = 2) := by omega
            simp [m_are_puts_b1, putP, isTup, eu, z]
          | [b, c] =>
            cases b with
            | str k =>
              have pe : putP (.tuple [encI p, .tuple [.str k, c]]) = some (p, k, c) := putP_enc (p, k, c)
              rw [pe]
              cases a with
              | none =>
                simp [m_are_puts_b1, isTup, isStr, eu, optI, ltO]
              | some a0 =>
                have l0 := lt0 a0 p
                have nn : ∀ neg, isD neg (encI a0) .none = some (.sh (.bool neg)) := fun neg => rfl
                cases ql : HT.lexLt a0 p with
                | true =>
                  rw [ql] at l0
                  simp [m_are_puts_b1, isTup, isStr, eu, optI, ltO, ql, nn, l0]
                | false =>
                  rw [ql] at l0
                  simp [m_are_puts_b1, isTup, isStr, eu, optI, ltO, ql, nn, l0]
            | _ => simp [m_are_puts_b1, putP, isTup, isStr, eu]
        | _ => simp [m_are_puts_b1, putP, isTup, eu]
  | _ => simp [m_are_puts_b1, putP, isTup]
theorem puts_loop {Fn : FF} (hn : NumsSp Fn) (d0 : D) : ∀ (ds : List D) (a : Option (List Int)), (∃ z, forL (gN 2) (m_are_puts_b1 Fn) ds [some ⟨d0, .sh⟩, some ⟨optI a, .sh⟩, none] = if (goP a ds).isSome then .nx [some ⟨d0, .sh⟩, some ⟨z, .sh⟩, none] else .rt (.sh (.bool false)) [none, none, none])
  | [], a => ⟨optI a, rfl⟩
  | d :: ds, a => by
    have st := put_turn hn d d0 a
    rw [forL_cons2, st]
    cases hp : putP d with
    | none =>
      have hg : (goP a (d :: ds)).isSome = false := by rw [goP, hp]; rfl
      rw [hg]
      exact ⟨.none, rfl⟩
    | some x =>
      have hg : (goP a (d :: ds)).isSome = (ltO a x.1 && (goP (some x.1) ds).isSome) := by
        rw [goP, hp]
        dsimp only
        cases ltO a x.1
        · rfl
        · show ((goP (some x.1) ds).map _).isSome = _
          rw [Option.isSome_map]
          rfl
      rw [hg]
      dsimp only
      cases q : ltO a x.1 with
      | true =>
        rw [if_pos rfl, turnR_nx, Bool.true_and]
        exact puts_loop hn d0 ds (some x.1)
      | false => exact ⟨.none, rfl⟩
theorem are_puts_ok {Fn : FF} (hn : NumsSp Fn) : PutsSp (fnF 3 1 (m_are_puts Fn)) := fun d => by
  rw [m_are_puts_eq]
  cases d with
  | tuple ds =>
    obtain ⟨z, e⟩ := puts_loop hn (.tuple ds) ds none
    have e' : forL (gN 2) (m_are_puts_b1 Fn) ds [some ⟨.tuple ds, .sh⟩, some ⟨.none, .sh⟩, none] = _ := e
    show _ = RE.ok (.sh (.bool (goP none ds).isSome)) [none]
    cases q : (goP none ds).isSome <;> rw [q] at e' <;> simp [m_are_puts, isTup, e']
  | _ => simp [m_are_puts, isTup, putsP]
end GM
namespace GM
open PySem L2 GS
def toI (p : List Nat) : List Int := p.map fun n : Nat => (n : Int)
theorem encP_I (p : List Nat) : encP p = encI (toI p) := by
  unfold encP encI toI
  rw [List.map_map]
  rfl
theorem toI_inj {p q : List Nat} (h : toI p = toI q) : p = q := by
  induction p generalizing q with
  | nil => cases q with
    | nil => rfl
    | cons _ _ => cases h
  | cons a p ih => cases q with
    | nil => cases h
    | cons b q =>
      unfold toI at h
      rw [List.map_cons, List.map_cons] at h
      injection h with h1 h2
      rw [ih h2, show a = b by omega]
theorem nkL_ints (p : List Int) : nkL (p.map .int) = some (p.map NestedKey.num) := by
  induction p with
  | nil => rfl
  | cons i p ih => rw [List.map_cons, nkL, ih]; rfl
theorem depth_nums (p : List Int) : NestedKey.depthAll (p.map NestedKey.num) = 0 := by
  induction p with
  | nil => rfl
  | cons i p ih => rw [List.map_cons, NestedKey.depthAll, ih]; rfl
theorem tkD_ints (p : List Int) : tkD (p.map .int) = some (.tup (p.map NestedKey.num)) := by
  unfold tkD
  rw [nkL_ints, Option.bind_some, if_pos (by rw [NestedKey.depth, depth_nums]; omega)]
theorem nums_inj {p q : List Int} (h : p.map NestedKey.num = q.map NestedKey.num) : p = q := by
  induction p generalizing q with
  | nil => cases q with
    | nil => rfl
    | cons _ _ => cases h
  | cons a p ih => cases q with
    | nil => cases h
    | cons b q =>
      rw [List.map_cons, List.map_cons] at h
      injection h with h1 h2
      injection h1 with h1
      rw [ih h2, h1]
@[simp] theorem kEq_I (p q : List Int) : kEq (encI p) (encI q) = decide (p = q) := by
  rw [kEq_key (show keyD (encI p) = _ from tkD_ints p) (show keyD (encI q) = _ from tkD_ints q)]
  by_cases h : p = q
  · simp [h]
  · have : ¬ NestedKey.tup (p.map NestedKey.num) = NestedKey.tup (q.map NestedKey.num) := fun e => h (nums_inj (by injection e))
    simp [h, this]
@[simp] theorem isK_I (p : List Int) : isK (encI p) = true := by
  show (tkD (p.map .int)).isSome = true
  rw [tkD_ints]
  rfl
/-- a dict with places as keys -/
def kvI {α : Type} (f : α → D) (x : List Int × α) : D × D := (encI x.1, f x.2)
def getI {α : Type} (L : List (List Int × α)) (p : List Int) : Option α := (L.find? fun x => decide (x.1 = p)).map (·.2)
theorem dGet_I {α : Type} (f : α → D) (L : List (List Int × α)) (p : List Int) : dGet (L.map (kvI f)) (encI p) = (getI L p).map f := by
  unfold getI
  induction L with
  | nil => rfl
  | cons x L ih =>
    rw [List.map_cons]
    show (if kEq (encI x.1) (encI p) then some (f x.2) else dGet (L.map (kvI f)) (encI p)) = _
    rw [kEq_I, List.find?_cons]
    by_cases h : x.1 = p
    · simp [h]
    · simp only [h, decide_false, Bool.false_eq_true, if_false]
      exact ih
theorem mixB_I {α : Type} (f : α → D) (L : List (List Int × α)) (p : List Int) : mixB (L.map (kvI f)) (encI p) = false ∧ xnB (L.map (kvI f)) = false := by
  cases L with
  | nil => exact ⟨rfl, rfl⟩
  | cons x L => exact ⟨rfl, rfl⟩
theorem any_I {α : Type} (f : α → D) (L : List (List Int × α)) (p : List Int) : ((L.map (kvI f)).any fun q => kEq q.1 (encI p)) = decide (p ∈ L.map (·.1)) := by
  induction L with
  | nil => rfl
  | cons x L ih =>
    rw [List.map_cons, List.any_cons, ih]
    show (kEq (encI x.1) (encI p) || _) = _
    rw [kEq_I]
    by_cases h : x.1 = p
    · simp [h]
    · have : ¬ p = x.1 := fun e => h e.symm
      simp [h, this]
theorem merge_I {α : Type} (f : α → D) : ∀ (L A : List (List Int × α)), ((A ++ L).map (·.1)).Nodup → (L.map (kvI f)).foldl (fun acc p => dPut acc p.1 p.2) (A.map (kvI f)) = (A ++ L).map (kvI f)
  | [], A, _ => by rw [List.append_nil]; rfl
  | x :: L, A, h => by
    have hx : x.1 ∉ A.map (·.1) := fun m => by
      rw [List.map_append, List.nodup_append] at h
      exact h.2.2 _ m _ (by simp) rfl
    have e : dPut (A.map (kvI f)) (encI x.1) (f x.2) = (A ++ [x]).map (kvI f) := by
      unfold dPut
      rw [any_I, decide_eq_false hx, if_neg Bool.false_ne_true, List.map_append]
      rfl
    rw [List.map_cons, List.foldl_cons]
    show (L.map (kvI f)).foldl _ (dPut (A.map (kvI f)) (encI x.1) (f x.2)) = _
    rw [e, merge_I f L (A ++ [x]) (by rw [List.append_assoc]; exact h), List.append_assoc]
    rfl
theorem dMerge_I {α : Type} (f : α → D) (L : List (List Int × α)) (h : (L.map (·.1)).Nodup) : dMerge (L.map (kvI f)) = L.map (kvI f) := by
  unfold dMerge
  exact merge_I f L [] h
theorem okPs_I {α : Type} (f : α → D) (L : List (List Int × α)) : okPs true (L.map (kvI f)) = true := by
  unfold okPs
  rw [List.all_map, List.all_eq_true]
  intro x _
  show (isK (encI x.1) && (tupB (encI x.1) == true)) = true
  rw [isK_I]
  rfl
theorem lexLt_irr (p : List Int) : HT.lexLt p p = false := by
  induction p with
  | nil => rfl
  | cons i p ih => rw [HT.lexLt_cons, if_pos rfl]; exact ih
theorem lexLt_trans : ∀ {p q r : List Int}, HT.lexLt p q = true → HT.lexLt q r = true → HT.lexLt p r = true
  | [], [], _, h, _ => by cases h
  | [], _ :: _, [], _, h => by cases h
  | [], _ :: _, _ :: _, _, _ => rfl
  | _ :: _, [], _, h, _ => by cases h
  | _ :: _, _ :: _, [], _, h => by cases h
  | a :: p, b :: q, c :: r, h1, h2 => by
    rw [HT.lexLt_cons] at h1 h2 ⊢
    by_cases e1 : a = b
    · subst e1
      rw [if_pos rfl] at h1
      by_cases e2 : a = c
      · subst e2
        rw [if_pos rfl] at h2 ⊢
        exact lexLt_trans h1 h2
      · rw [if_neg e2] at h2 ⊢
        exact h2
    · rw [if_neg e1, decide_eq_true_eq] at h1
      by_cases e2 : b = c
      · subst e2
        rw [if_neg e1, decide_eq_true_eq]
        exact h1
      · rw [if_neg e2, decide_eq_true_eq] at h2
        rw [if_neg (by omega), decide_eq_true_eq]
        omega
theorem goP_rising : ∀ {ds : List D} {a : Option (List Int)} {L : List Pt}, goP a ds = some L → ds = L.map encPt ∧ (∀ x ∈ L, ltO a x.1 = true) ∧ (L.map (·.1)).Pairwise (fun p q => HT.lexLt p q = true)
  | [], a, L, h => by
    cases h
    exact ⟨rfl, (fun x m => by cases m), .nil⟩
  | d :: ds, a, L, h => by
    unfold goP at h
    cases hp : putP d with
    | none => rw [hp] at h; cases h
    | some x =>
      rw [hp] at h
      dsimp only at h
      split at h
      · rename_i c
        obtain ⟨l, e, rfl⟩ := Option.map_eq_some_iff.mp h
        obtain ⟨q1, q2, q3⟩ := goP_rising e
        refine ⟨by rw [putP_some hp, q1, List.map_cons], fun y m => ?_, ?_⟩
        · cases m with
          | head => exact c
          | tail _ m =>
            have := q2 y m
            cases a with
            | none => rfl
            | some a0 => exact lexLt_trans c this
        · rw [List.map_cons]
          refine .cons (fun p m => ?_) q3
          obtain ⟨y, my, rfl⟩ := List.mem_map.mp m
          exact q2 y my
      · cases h
theorem rising_nodup {ps : List (List Int)} (h : ps.Pairwise (fun p q => HT.lexLt p q = true)) : ps.Nodup :=
  h.imp fun {p q} l e => by rw [e, lexLt_irr] at l; cases l
end GM
namespace GM
open PySem L2 GS
theorem pps_at (t : Tr) : ∀ x ∈ t.pps [], t.at x.1 = some x.2 := by
  have h := at_places t
  rw [← pps_snd t [], show t.places = (t.pps []).map (·.1) by rw [pps_fst]; simp, List.map_map, List.map_map] at h
  exact fun x m => List.map_inj_left.mp h x m
def krD (x : Str × D) : D := .tuple [.str x.1, x.2]
theorem encPt_kv (L : List Pt) : pairsD (L.map encPt) = some (L.map (kvI krD)) := by
  induction L with
  | nil => rfl
  | cons x L ih =>
    rw [List.map_cons]
    show (pairsD (L.map encPt)).map (fun ps => (encI x.1, PyData.tuple [.str x.2.1, x.2.2]) :: ps) = _
    rw [ih]
    rfl
theorem dict_puts {L : List Pt} (h : (L.map (·.1)).Nodup) : dictD (.tuple (L.map encPt)) = some (.fr (.dict (L.map (kvI krD)))) := by
  show dictP (L.map encPt) = _
  unfold dictP
  rw [encPt_kv, Option.bind_some, okPs_I, Bool.or_true, if_pos rfl, dMerge_I krD L h]
def okAt (b : Bk) (L : List Pt) (x : List Nat × Tr) : Bool := match getI L (toI x.1) with
  | none => !x.2.must
  | some kr => decide (kr.1 ∈ b.takers x.2)
def wellB (b : Bk) (t : Tr) (L : List Pt) : Bool := (t.pps []).all (okAt b L) && L.all fun x => decide (x.1 ∈ t.places.map toI)
structure BkS (n : Nat) (b : Bk) : Prop where
  ok : BkOk n b
  so : ∀ p ∈ b.trees, PyData.strOk p.1 = true
theorem takers_so {b : Bk} (h : ∀ p ∈ b.trees, PyData.strOk p.1 = true) (u : Tr) : ∀ k ∈ b.takers u, PyData.strOk k = true := fun k m => by
  obtain ⟨t, mt⟩ := takers_keys m
  exact h _ mt
def WellSp (n : Nat) (F : FF) : Prop := ∀ (b : Bk) (t : Tr) (L : List Pt), BkS n b → t.ht ≤ n → t.pieces.length ≤ 1000 → (L.map (·.1)).Nodup → L.length ≤ 100000 → (∀ x ∈ L, PyData.strOk x.2.1 = true) →
  F [some ⟨b.enc, .sh⟩, some ⟨t.enc, .sh⟩, some ⟨.tuple (L.map encPt), .sh⟩] = .ok (.sh (.bool (wellB b t L))) [none, none, none]
theorem okEq_I (p : List Int) : okEq (encI p) = true := okEq_of (by
  unfold encI
  rw [cleanB]
  refine cleanL_of fun d m => ?_
  obtain ⟨k, mk, rfl⟩ := List.mem_map.mp m
  rfl) (by
  unfold encI
  have := depthAll_of (ds := p.map PyData.int) (n := 0) fun d m => by
    obtain ⟨k, mk, rfl⟩ := List.mem_map.mp m
    simp [PyData.depth]
  rw [PyData.depth]
  omega)
theorem eqv_I (p q : List Int) : PyData.eqv (encI p) (encI q) = decide (p = q) := by
  unfold encI
  rw [PyData.eqv]
  induction p generalizing q with
  | nil => cases q <;> simp [PyData.eqvAll]
  | cons a p ih =>
    cases q with
    | nil => simp [PyData.eqvAll]
    | cons b q =>
      rw [List.map_cons, List.map_cons, PyData.eqvAll, ih]
      by_cases h1 : a = b <;> by_cases h2 : p = q <;> simp [PyData.eqv, h1, h2]
theorem okEq_places (ps : List (List Nat)) : okEq (.list (ps.map encP)) = true := okEq_of (by
  rw [cleanB]
  refine cleanL_of fun d m => ?_
  obtain ⟨k, mk, rfl⟩ := List.mem_map.mp m
  exact (encP_clean k).1) (by
  have := depthAll_of (ds := ps.map encP) (n := 1) fun d m => by
    obtain ⟨k, mk, rfl⟩ := List.mem_map.mp m
    exact (encP_clean k).2
  rw [PyData.depth]
  omega)
theorem in_places (neg : Bool) (p : List Int) (ps : List (List Nat)) : inB neg (encI p) (.list (ps.map encP)) = some (.sh (.bool (neg ^^ decide (p ∈ ps.map toI)))) := by
  rw [inB_l, okEq_I, okEq_places, Bool.true_and, if_pos rfl]
  congr 4
  rw [List.any_map]
  induction ps with
  | nil => rfl
  | cons q ps ih =>
    rw [List.any_cons, ih]
    show (PyData.eqv (encP q) (encI p) || _) = _
    rw [encP_I, eqv_I]
    by_cases h : toI q = p
    · simp [h]
    · have : ¬ p = toI q := fun e => h e.symm
      simp [h, this]
theorem in_strsQ (neg : Bool) {k : Str} {ks : List Str} (h1 : PyData.strOk k = true) (h2 : ∀ x ∈ ks, PyData.strOk x = true) : inB neg (.str k) (.list (ks.map .str)) = some (.sh (.bool (neg ^^ decide (k ∈ ks)))) := by
  rw [inB_l, okEq_str h1, okEq_of (strs_clean h2).1 (by
    have := depthAll_of (ds := ks.map PyData.str) (n := 0) fun d m => by
      obtain ⟨k, mk, rfl⟩ := List.mem_map.mp m
      simp [PyData.depth]
    rw [PyData.depth]
    omega), Bool.true_and, if_pos rfl]
  congr 4
  rw [List.any_map]
  clear h1 h2
  induction ks with
  | nil => rfl
  | cons q ks ih =>
    rw [List.any_cons, ih]
    show (PyData.eqv (.str q) (.str k) || _) = _
    rw [PyData.eqv]
    by_cases h : q = k
    · simp [h]
    · have : ¬ k = q := fun e => h e.symm
      simp [h, this]
section
variable {Fp Ft Fw Fa : FF}
theorem put_well_ok {n : Nat} (hp : PlacesSp n Fp) (ht : TakersSp n Ft) (hw : WantSp Fw) (ha : PieceSp Fa) : WellSp n (fnF 7 3 (m_put_well Fp Ft Fw Fa)) := fun b t L B hh hz nd hl so => by
  rw [m_put_well_eq]
  have e0 := dict_puts nd
  have e1 := hp t hh (by omega)
  have pe : t.places.map encP = (t.pps []).map fun x => encP x.1 := by rw [show t.places = (t.pps []).map (·.1) by rw [pps_fst]; simp, List.map_map]; rfl
  -- the loop
  have loop := forL_look (g := gN 4) (b := m_put_well_b3 Fp Ft Fw Fa) [some ⟨b.enc, .sh⟩, some ⟨t.enc, .sh⟩, some ⟨.tuple (L.map encPt), .sh⟩, some ⟨.dict (L.map (kvI krD)), .ow⟩, none, none, none] [none, none, none, none, none, none, none] (fun x : List Nat × Tr => encP x.1) (okAt b L) (.sh (.bool false)) (t.pps []) (fun x mx => by
    have f1 := ha t x.1 x.2 (pps_at t x mx)
    have f2 := hw x.2
    have f3 := ht b x.2 B.ok
    have sk := takers_so B.so x.2
    have g1 := dGet_I krD L (toI x.1)
    obtain ⟨m1, m2⟩ := mixB_I krD L (toI x.1)
    have i1 : ∀ neg, inB neg (encP x.1) (.dict (L.map (kvI krD))) = some (.sh (.bool (neg ^^ ((getI L (toI x.1)).map krD).isSome))) := fun neg => by
      rw [encP_I, inB_d, isK_I, m1, m2, g1]; rfl
    have i2 : ixA (.dict (L.map (kvI krD))) (encP x.1) = ((getI L (toI x.1)).map krD).map Hd.sh := by
      rw [encP_I, ixA_d, isK_I, if_pos rfl, g1]
    unfold okAt
    generalize hD : PyData.dict (L.map (kvI krD)) = DD at i1 i2 ⊢
    generalize hP : PyData.tuple (L.map encPt) = PP
    have dd : ∃ ps, DD = .dict ps := ⟨_, hD.symm⟩
    cases hg : getI L (toI x.1) with
    | none =>
      rw [hg] at i1 i2
      simp only [Option.map_none, Option.isSome_none, Bool.xor_false] at i1 i2
      cases hwn : x.2.want with
      | none =>
        rw [hwn] at f2
        simp [m_put_well_b3, f1, f2, i1, Tr.must, hwn, encW]
      | some w =>
        obtain ⟨g, nm, m⟩ := w
        rw [hwn] at f2
        cases m <;> simp [m_put_well_b3, f1, f2, i1, Tr.must, hwn, encW]
    | some kr =>
      obtain ⟨k, r⟩ := kr
      rw [hg] at i1 i2
      simp only [Option.map_some, Option.isSome_some, Bool.xor_true] at i1 i2
      have mL : ∃ p, (p, k, r) ∈ L := by
        unfold getI at hg
        obtain ⟨y, hy, e⟩ := Option.map_eq_some_iff.mp hg
        exact ⟨y.1, by rw [← e]; exact List.mem_of_find?_eq_some hy⟩
      obtain ⟨p0, mL⟩ := mL
      have i3 := in_strsQ true (so _ mL) sk
      dsimp only at i3 ⊢
      cases hwn : x.2.want with
      | none =>
        rw [hwn] at f2
        by_cases q : k ∈ b.takers x.2
        · rw [decide_eq_true q] at i3
          simp [m_put_well_b3, f1, f2, i1, i2, encW, f3, krD, i3, q]
        · rw [decide_eq_false q] at i3
          simp [m_put_well_b3, f1, f2, i1, i2, encW, f3, krD, i3, q]
      | some w =>
        obtain ⟨g, nm, m⟩ := w
        rw [hwn] at f2
        by_cases q : k ∈ b.takers x.2
        · rw [decide_eq_true q] at i3
          cases m <;> simp [m_put_well_b3, f1, f2, i1, i2, encW, f3, krD, i3, q]
        · rw [decide_eq_false q] at i3
          cases m <;> simp [m_put_well_b3, f1, f2, i1, i2, encW, f3, krD, i3, q])
  have lc := lcL_up (vs := [4]) (g := gN 4) (ft := eNox (m_put_well_ct1 Fp Ft Fw Fa)) (fe := eNox (m_put_well_ce2 Fp Ft Fw Fa)) [some ⟨b.enc, .sh⟩, some ⟨t.enc, .sh⟩, some ⟨.tuple (L.map encPt), .sh⟩, some ⟨.dict (L.map (kvI krD)), .sh⟩, none, none, none] (fun x : Pt => encI x.1)
    (fun x => [some ⟨b.enc, .sh⟩, some ⟨t.enc, .sh⟩, some ⟨.tuple (L.map encPt), .sh⟩, some ⟨.dict (L.map (kvI krD)), .sh⟩, some ⟨encI x.1, .sh⟩, none, none]) (fun x => !decide (x.1 ∈ t.places.map toI)) (fun x => encI x.1) L [] (fits (by simp; omega)) (fun x mx => by
      have i1 := in_places true x.1 t.places
      generalize PyData.dict (L.map (kvI krD)) = DD
      generalize PyData.tuple (L.map encPt) = PP
      generalize PyData.list (t.places.map encP) = LL at e1 i1
      have ie : ∃ ds, encI x.1 = .tuple ds := ⟨_, rfl⟩
      refine ⟨by simp, ?_, by simp, fun _ => by simp [m_put_well_ce2]⟩
      simp [m_put_well_ct1, e1, i1])
  rw [List.nil_append] at lc
  have ik : items (.dict (L.map (kvI krD))) = some (L.map fun x : Pt => encI x.1) := by
    show (if xnB (L.map (kvI krD)) then none else some ((L.map (kvI krD)).map (·.1))) = _
    rw [(mixB_I krD L []).2, if_neg Bool.false_ne_true, List.map_map]
    rfl
  unfold wellB
  rw [← pe] at loop
  have lz : decide ((((L.filter fun x => !decide (x.1 ∈ t.places.map toI)).map fun x : Pt => encI x.1).length : Int) = 0) = L.all fun x => decide (x.1 ∈ t.places.map toI) := by
    rw [List.length_map]
    rw [Bool.eq_iff_iff, decide_eq_true_eq, List.all_eq_true]
    constructor
    · intro h x mx
      have : L.filter (fun x => !decide (x.1 ∈ t.places.map toI)) = [] := List.eq_nil_of_length_eq_zero (by omega)
      have := List.filter_eq_nil_iff.mp this x mx
      simpa using this
    · intro h
      rw [List.filter_eq_nil_iff.mpr fun x mx => by have := h x mx; simp at this ⊢; exact this]
      rfl
  generalize (L.filter fun x => !decide (x.1 ∈ t.places.map toI)).map (fun x : Pt => encI x.1) = FF at lc lz
  generalize PyData.dict (L.map (kvI krD)) = DD at e0 loop lc ik
  generalize (L.map fun x : Pt => encI x.1) = KK at lc ik
  generalize PyData.tuple (L.map encPt) = PP at e0 loop lc ⊢
  generalize t.places.map encP = LL at e1 loop
  cases q : (t.pps []).all (okAt b L) with
  | false =>
    rw [q] at loop
    simp [m_put_well, e0, e1, loop]
  | true =>
    rw [q] at loop
    rw [Bool.true_and, ← lz]
    have sq : ∀ ρ, seqR (.sh DD) ρ = .ok KK ρ := fun ρ => by unfold seqR; simp only [ik]
    simp [m_put_well, e0, e1, loop, sq, lc]
end
end GM
namespace GM
open PySem L2 GS
def isPlanN (b : Bk) : Nat → D → Bool
  | 0, _ => false
  | n + 1, d => match d with
    | .tuple [.str k, ps] => match putsP ps, b.treeOf k with
      | some L, some t => wellB b t L && L.all fun x => isPlanN b n (krD x.2)
      | _, _ => false
    | _ => false
/-- what is_plan may be asked of -/
def preP : Nat → D → Prop
  | 0, d => ∀ k ps, d ≠ .tuple [.str k, ps]
  | n + 1, d => ∀ k ps L, d = .tuple [.str k, ps] → putsP ps = some L → L.length ≤ 100000 ∧ ∀ x ∈ L, PyData.strOk x.2.1 = true ∧ preP n (krD x.2)
structure BkZ (n : Nat) (b : Bk) : Prop where
  s : BkS n b
  z : ∀ p ∈ b.trees, p.2.pieces.length ≤ 1000
def IsPlanSp (h n : Nat) (F : FF) : Prop := ∀ (b : Bk) (d : D), BkZ h b → preP n d → F [some ⟨b.enc, .sh⟩, some ⟨d, .sh⟩] = .ok (.sh (.bool (isPlanN b n d))) [none, none]
theorem isPlan_no {b : Bk} {n : Nat} {d : D} (h : ∀ k ps, d ≠ .tuple [.str k, ps]) : isPlanN b n d = false := by
  cases n with
  | zero => rfl
  | succ n =>
    unfold isPlanN
    split
    · exact absurd rfl (h _ _)
    · rfl
section
variable {Fi Fw Ft Fa : FF}
theorem is_plan_ok {h n : Nat} (hi : ∀ m, m + 1 = n → IsPlanSp h m Fi) (hw : WellSp h Fw) (ht : TreeOfSp Ft) (ha : PutsSp Fa) : IsPlanSp h n (fnF 5 2 (m_is_plan Fi Fw Ft Fa)) := fun b d B hp => by
  rw [m_is_plan_eq]
  cases d with
  | tuple ds =>
    match ds, hp with
    | [], _ => rw [isPlan_no (by simp)]; simp [m_is_plan, isTup]
    | [a], _ => rw [isPlan_no (by simp)]; simp [m_is_plan, isTup]
    | u :: v :: w :: r, _ =>
      have z : ¬ ((r.length : Int) + 1 + 1 + 1 = 2) := by omega
      rw [isPlan_no (by simp)]
      simp [m_is_plan, isTup, z]
    | [a, ps], hp =>
      cases a with
      | str k =>
        have e1 := ha ps
        have e2 := ht b k
        cases n with
        | zero => exact absurd rfl (hp k ps)
        | succ n =>
          unfold isPlanN
          dsimp only
          cases hL : putsP ps with
          | none =>
            rw [hL] at e1
            simp [m_is_plan, isTup, isStr, e1]
          | some L =>
            rw [hL] at e1
            obtain ⟨q1, q2⟩ := hp k ps L rfl hL
            cases hk : b.treeOf k with
            | none =>
              rw [hk] at e2
              simp [m_is_plan, isTup, isStr, e1, e2, optT]
            | some t =>
              rw [hk] at e2
              have mt := treeOf_in hk
              have pe : ps = .tuple (L.map encPt) ∧ (L.map (·.1)).Nodup := by
                unfold putsP at hL
                split at hL
                · obtain ⟨r1, _, r3⟩ := goP_rising hL
                  exact ⟨by rw [r1], rising_nodup r3⟩
                · cases hL
              obtain ⟨rfl, nd⟩ := pe
              have e3 := hw b t L B.s (B.s.ok.ht _ mt) (B.z _ mt) nd q1 fun x m => (q2 x m).1
              have loop := forL_look (g := gT 2 (gsC (gN 3) (gsC (gN 4) gsN))) (b := m_is_plan_b1 Fi Fw Ft Fa) [some ⟨b.enc, .sh⟩, some ⟨.tuple [.str k, .tuple (L.map encPt)], .sh⟩, some ⟨t.enc, .sh⟩, none, none] [none, none, none, none, none] encPt (fun x => isPlanN b n (krD x.2)) (.sh (.bool false)) L (fun x mx => by
                have f := hi n rfl b (krD x.2) B (q2 x mx).2
                generalize PyData.tuple (L.map encPt) = PP
                unfold encPt
                unfold krD at f ⊢
                cases q : isPlanN b n (.tuple [.str x.2.1, x.2.2]) <;> rw [q] at f <;> simp [m_is_plan_b1, f])
              have et : ∃ w r, t.enc = .tuple (w :: r) := by cases t <;> exact ⟨_, _, rfl⟩
              have nn : ∀ neg, isD neg t.enc .none = some (.sh (.bool neg)) := fun neg => isD_enc neg t
              have so : optT (some t) = t.enc := rfl
              rw [so] at e2
              have sq : ∀ ρ, seqR (.sh (.tuple (L.map encPt))) ρ = .ok (L.map encPt) ρ := fun ρ => rfl
              generalize PyData.tuple (L.map encPt) = PP at e1 e3 loop sq ⊢
              generalize t.enc = tt at e2 e3 loop nn ⊢
              dsimp only
              cases q3 : wellB b t L with
              | false =>
                rw [q3] at e3
                simp [m_is_plan, isTup, isStr, e1, e2, nn, e3]
              | true =>
                rw [q3] at e3
                rw [Bool.true_and]
                cases q4 : L.all fun x => isPlanN b n (krD x.2) with
                | false =>
                  rw [q4] at loop
                  simp [m_is_plan, isTup, isStr, e1, e2, nn, e3, sq, loop]
                | true =>
                  rw [q4] at loop
                  simp [m_is_plan, isTup, isStr, e1, e2, nn, e3, sq, loop]
      | _ =>
        rw [isPlan_no (by simp)]
        simp [m_is_plan, isTup, isStr]
  | _ =>
    rw [isPlan_no (by simp)]
    simp [m_is_plan, isTup]
end
theorem lexLt_places : ∀ t : Tr, (t.places.map toI).Pairwise fun p q => HT.lexLt p q = true := fun t => by
  have gen : ∀ n : Nat, (∀ t : Tr, t.ht ≤ n → (t.places.map toI).Pairwise fun p q => HT.lexLt p q = true) := fun n => by
    induction n with
    | zero =>
      intro t h
      cases t with
      | knot a b c => rw [Tr.ht] at h; omega
      | _ => simp [Tr.places]
    | succ n ih =>
      intro t h
      have hk : ∀ u ∈ t.kids, u.ht ≤ n := fun u mu => by
        cases t with
        | knot a b c =>
          rw [Tr.ht] at h
          have := ht_mem (ts := c) mu
          omega
        | _ => simp [Tr.kids] at mu
      have kd : ∀ (ts : List Tr) (j : Nat), (∀ u ∈ ts, u.ht ≤ n) → ((Tr.placesL j ts).map toI).Pairwise (fun p q => HT.lexLt p q = true) ∧ ∀ p ∈ Tr.placesL j ts, ∃ k r, p = k :: r ∧ j ≤ k := fun ts => by
        induction ts with
        | nil => intro j _; exact ⟨by simp [Tr.placesL], fun p m => by simp [Tr.placesL] at m⟩
        | cons u ts ih2 =>
          intro j hu
          obtain ⟨g1, g2⟩ := ih2 (j + 1) fun u m => hu u (by simp [m])
          rw [Tr.placesL]
          constructor
          · rw [List.map_append, List.pairwise_append]
            refine ⟨?_, g1, ?_⟩
            · have := ih u (hu u (by simp))
              rw [List.map_map]
              rw [List.pairwise_map] at this ⊢
              refine this.imp fun {p q} l => ?_
              show HT.lexLt ((j : Int) :: toI p) ((j : Int) :: toI q) = true
              rw [HT.lexLt_cons, if_pos rfl]
              exact l
            · intro p mp q mq
              obtain ⟨p', mp', rfl⟩ := List.mem_map.mp mp
              obtain ⟨p'', _, rfl⟩ := List.mem_map.mp mp'
              obtain ⟨q', mq', rfl⟩ := List.mem_map.mp mq
              obtain ⟨k, r, rfl, hk⟩ := g2 q' mq'
              show HT.lexLt ((j : Int) :: toI p'') ((k : Int) :: toI r) = true
              rw [HT.lexLt_cons, if_neg (by omega), decide_eq_true_eq]
              omega
          · intro p mp
            rcases List.mem_append.mp mp with mp | mp
            · obtain ⟨p', _, rfl⟩ := List.mem_map.mp mp
              exact ⟨j, p', rfl, Nat.le_refl _⟩
            · obtain ⟨k, r, e, hk⟩ := g2 p mp
              exact ⟨k, r, e, by omega⟩
      obtain ⟨g1, g2⟩ := kd t.kids 0 hk
      rw [places_kids, List.map_cons]
      refine .cons (fun q mq => ?_) g1
      obtain ⟨q', mq', rfl⟩ := List.mem_map.mp mq
      obtain ⟨k, r, rfl, _⟩ := g2 q' mq'
      rfl
  exact gen t.ht t (Nat.le_refl _)
/-- a put as a datum -/
def ptOf (x : List Nat × Pl) : Pt := (toI x.1, x.2.key, .tuple (x.2.puts.map Pl.encX))
theorem ptOf_enc (x : List Nat × Pl) : Pl.encX x = encPt (ptOf x) := by
  rw [pencX_eq, encP_I, penc_eq]
  rfl
theorem krD_pt (x : List Nat × Pl) : krD (ptOf x).2 = x.2.enc := by rw [penc_eq]; rfl
theorem goP_of : ∀ (ps : List (List Nat × Pl)) (a : Option (List Int)), (∀ x ∈ ps, ltO a (toI x.1) = true) → (ps.map fun x => toI x.1).Pairwise (fun p q => HT.lexLt p q = true) → goP a (ps.map Pl.encX) = some (ps.map ptOf)
  | [], _, _, _ => rfl
  | x :: ps, a, h1, h2 => by
    rw [List.map_cons] at h2
    cases h2 with
    | cons q1 q2 =>
      have r := goP_of ps (some (toI x.1)) (fun y my => q1 _ (List.mem_map_of_mem (f := fun x : List Nat × Pl => toI x.1) my)) q2
      rw [List.map_cons, goP, ptOf_enc, putP_enc]
      dsimp only
      rw [show (ptOf x).1 = toI x.1 from rfl, h1 x (by simp), if_pos rfl, r]
      rfl
theorem PutsOk.sub {b : Bk} : ∀ {us : List (List Nat × Tr)} {ps : List (List Nat × Pl)}, PutsOk b us ps → (ps.map (·.1)).Sublist (us.map (·.1))
  | _, _, .nil => .slnil
  | _, _, .skip _ r => (PutsOk.sub r).cons _
  | _, _, .put _ _ r => (PutsOk.sub r).cons₂ _
theorem getI_no {ps : List (List Nat × Pl)} {p : List Nat} (h : p ∉ ps.map (·.1)) : getI (ps.map ptOf) (toI p) = none := by
  unfold getI
  rw [Option.map_eq_none_iff, List.find?_eq_none]
  intro x mx
  obtain ⟨y, my, rfl⟩ := List.mem_map.mp mx
  simp only [decide_eq_true_eq]
  intro e
  exact h (by rw [← toI_inj e]; exact List.mem_map_of_mem my)
theorem PutsOk.at {b : Bk} : ∀ {us : List (List Nat × Tr)} {ps : List (List Nat × Pl)}, PutsOk b us ps → (us.map (·.1)).Nodup → ∀ x ∈ us, okAt b (ps.map ptOf) x = true
  | _, _, .nil, _, x, m => by cases m
  | _, _, .skip (p := p) (u := u) (us := us) (ps := ps) hm r, nd, x, m => by
    rw [List.map_cons, List.nodup_cons] at nd
    rcases List.mem_cons.mp m with rfl | m
    · unfold okAt
      rw [getI_no fun m => nd.1 ((PutsOk.sub r).subset m), hm]
      rfl
    · exact PutsOk.at r nd.2 x m
  | _, _, .put (p := p) (u := u) (q := q) (us := us) (ps := ps) hk _ r, nd, x, m => by
    rw [List.map_cons, List.nodup_cons] at nd
    rcases List.mem_cons.mp m with rfl | m
    · unfold okAt getI
      rw [List.map_cons, List.find?_cons, show decide ((ptOf (p, q)).1 = toI p) = true from decide_eq_true rfl]
      exact decide_eq_true hk
    · have r := PutsOk.at r nd.2 x m
      have ne : ¬ (ptOf (p, q)).1 = toI x.1 := fun e => nd.1 (by
        have : p = x.1 := toI_inj e
        rw [this]
        exact List.mem_map.mpr ⟨x, m, rfl⟩)
      unfold okAt getI at r ⊢
      rw [List.map_cons, List.find?_cons, decide_eq_false ne]
      exact r
theorem pps_places (t : Tr) : (t.pps []).map (·.1) = t.places := by rw [pps_fst]; simp
theorem well_of {b : Bk} {t : Tr} {ps : List (List Nat × Pl)} (h : PutsOk b (t.pps []) ps) : wellB b t (ps.map ptOf) = true := by
  have hr := lexLt_places t
  have nd : ((t.pps []).map (·.1)).Nodup := by
    rw [pps_places]
    exact List.Pairwise.of_map toI (fun a b h e => h (by rw [e])) (rising_nodup hr)
  unfold wellB
  rw [Bool.and_eq_true, List.all_eq_true, List.all_eq_true]
  refine ⟨fun x m => h.at nd x m, fun x m => ?_⟩
  obtain ⟨y, my, rfl⟩ := List.mem_map.mp m
  refine decide_eq_true ?_
  refine List.mem_map_of_mem (f := toI) ?_
  rw [← pps_places]
  exact h.sub.subset (List.mem_map_of_mem my)
theorem puts_of {b : Bk} {t : Tr} {ps : List (List Nat × Pl)} (h : PutsOk b (t.pps []) ps) : putsP (.tuple (ps.map Pl.encX)) = some (ps.map ptOf) := by
  refine goP_of ps none (fun _ _ => rfl) ?_
  have hr := lexLt_places t
  rw [← pps_places] at hr
  have := hr.sublist (h.sub.map toI)
  rw [List.map_map] at this
  exact this
theorem depX_le {ps : List (List Nat × Pl)} {n : Nat} (h : Pl.depL ps ≤ n) : ∀ x ∈ ps, x.2.dep ≤ n := by
  induction ps with
  | nil => intro x m; cases m
  | cons y ps ih =>
    intro x m
    obtain ⟨p, q⟩ := y
    rw [Pl.depL, Pl.depX] at h
    rcases List.mem_cons.mp m with rfl | m
    · show q.dep ≤ n
      omega
    · exact ih (by omega) x m
theorem PutsOk.each {b : Bk} : ∀ {us : List (List Nat × Tr)} {ps : List (List Nat × Pl)}, PutsOk b us ps → ∀ x ∈ ps, PlOk b x.2
  | _, _, .nil, x, m => by cases m
  | _, _, .skip _ r, x, m => PutsOk.each r x m
  | _, _, .put _ o r, x, m => by
    rcases List.mem_cons.mp m with rfl | m
    · exact o
    · exact PutsOk.each r x m
theorem PlOk.is {b : Bk} : ∀ {n : Nat} {q : Pl}, PlOk b q → q.dep ≤ n → isPlanN b n q.enc = true
  | 0, .mk k ps, _, h => by rw [Pl.dep] at h; omega
  | n + 1, .mk k ps, .mk e r, h => by
    rw [Pl.dep] at h
    rw [penc_eq]
    unfold isPlanN
    dsimp only [Pl.key, Pl.puts]
    rw [puts_of r, e]
    dsimp only
    rw [well_of r, Bool.true_and, List.all_eq_true]
    intro x m
    obtain ⟨y, my, rfl⟩ := List.mem_map.mp m
    rw [krD_pt]
    exact PlOk.is (r.each y my) (depX_le (by omega) y my)
theorem PlOk.keyIn {b : Bk} {q : Pl} (h : PlOk b q) : ∃ t, b.treeOf q.key = some t := by
  cases h with
  | mk e _ => exact ⟨_, e⟩
theorem PlOk.pre {h : Nat} {b : Bk} (B : BkZ h b) : ∀ {n : Nat} {q : Pl}, PlOk b q → q.dep ≤ n → preP n q.enc
  | 0, .mk k ps, _, h => by rw [Pl.dep] at h; omega
  | n + 1, .mk k ps, .mk (t := t) e r, h => by
    rw [Pl.dep] at h
    rw [penc_eq]
    intro k' ps' L eq hL
    dsimp only [Pl.key, Pl.puts] at eq
    injection eq with eq
    injection eq with e1 eq
    injection eq with e2 _
    rw [← e2, puts_of r] at hL
    cases hL
    constructor
    · have h1 := r.sub.length_le
      have h2 := B.z _ (treeOf_in e)
      rw [List.length_map, List.length_map, pps_len] at h1
      dsimp only at h2
      rw [List.length_map]
      omega
    · intro x m
      obtain ⟨y, my, rfl⟩ := List.mem_map.mp m
      have o := r.each y my
      obtain ⟨t', et⟩ := o.keyIn
      refine ⟨B.s.so _ (treeOf_in et), ?_⟩
      rw [krD_pt]
      exact PlOk.pre B o (depX_le (by omega) y my)
end GM
namespace GM
open PySem L2 GS
end GM
namespace GM
open PySem L2 GS
def Tr.whole (t : Tr) (top : Str) : Bool := !decide (t.feet.length = 1) && decide (t.name = top)
theorem ix_key (q : Pl) : ixA q.enc (.int 0) = some (.sh (.str q.key)) := by rw [penc_eq]; simp
mutual
def Pl.within : Pl → List Pl
  | .mk k ps => .mk k ps :: Pl.withinL ps
def Pl.withinL : List (List Nat × Pl) → List Pl
  | [] => []
  | x :: r => Pl.withinX x ++ Pl.withinL r
def Pl.withinX : List Nat × Pl → List Pl
  | (_, q) => q.within
end
mutual
theorem PlOk.inner {b : Bk} : ∀ {q : Pl}, PlOk b q → ∀ r ∈ q.within, PlOk b r ∧ r.dep ≤ q.dep ∧ r.size ≤ q.size
  | .mk k ps, .mk e o, r, m => by
    rw [Pl.within] at m
    rcases List.mem_cons.mp m with rfl | m
    · exact ⟨.mk e o, Nat.le_refl _, Nat.le_refl _⟩
    · obtain ⟨h1, h2, h3⟩ := PutsOk.inner o r m
      rw [Pl.dep, Pl.size]
      exact ⟨h1, by omega, by omega⟩
theorem PutsOk.inner {b : Bk} : ∀ {us : List (List Nat × Tr)} {ps : List (List Nat × Pl)}, PutsOk b us ps → ∀ r ∈ Pl.withinL ps, PlOk b r ∧ r.dep ≤ Pl.depL ps ∧ r.size ≤ Pl.sizeL ps
  | _, _, .nil, r, m => by cases m
  | _, _, .skip _ o, r, m => PutsOk.inner o r m
  | _, _, .put _ q o, r, m => by
    rw [Pl.withinL, Pl.withinX] at m
    rw [Pl.depL, Pl.depX, Pl.sizeL, Pl.sizeX]
    rcases List.mem_append.mp m with m | m
    · obtain ⟨h1, h2, h3⟩ := PlOk.inner q r m
      exact ⟨h1, by omega, by omega⟩
    · obtain ⟨h1, h2, h3⟩ := PutsOk.inner o r m
      exact ⟨h1, by omega, by omega⟩
end
theorem BookOk.bkZ {h : Nat} {b : Bk} (B : BookOk h b) : BkZ h b :=
  ⟨⟨B.bk, fun p m => keyB_strOk (allK_ok _ (B.keys p m))⟩, fun p m => by have := (B.trees p m).sz; omega⟩
theorem kn_nv {t : Tr} (h : t.isKnot = true) : t ≠ .void := fun e => by subst e; cases h
end GM
namespace GS
open PySem L2
theorem reprD_t {ds : List D} (h1 : okEq (.tuple ds) = true) (h2 : (PyData.tuple ds).showable = true) (h3 : (PyData.tuple ds).shown.length ≤ sizeLine) : reprD (.tuple ds) = some (.sh (.str (PyData.tuple ds).shown)) := by
  show (if _ then _ else _) = _
  rw [h1, h2, decide_eq_true h3]
  rfl
end GS
namespace GM
open PySem L2 GS
theorem PutsOk.split {b : Bk} : ∀ {us vs : List (List Nat × Tr)} {ps : List (List Nat × Pl)}, PutsOk b (us ++ vs) ps → ∃ ps1 ps2, ps = ps1 ++ ps2 ∧ PutsOk b us ps1 ∧ PutsOk b vs ps2
  | [], vs, ps, h => ⟨[], ps, rfl, .nil, h⟩
  | (p, u) :: us, vs, ps, h => by
    cases h with
    | skip m r =>
      obtain ⟨a, c, e, h1, h2⟩ := PutsOk.split r
      exact ⟨a, c, e, .skip m h1, h2⟩
    | put m o r =>
      obtain ⟨a, c, e, h1, h2⟩ := PutsOk.split r
      exact ⟨_ :: a, c, by rw [e]; rfl, .put m o h1, h2⟩
/-- .. and nothing of a hole's own -/
def f0 {α : Type} (f : Tr → List α) : Tr → List α
  | .hole _ => []
  | t => f t
section
variable {α : Type} {f : Tr → List α} {h : Nat} {b : Bk} {g : List Nat → Option Tr} {G : Pl → Tr}
end
end GM
namespace GM
open PySem L2 GS
mutual
def Pl.keys : Pl → List Str
  | .mk k ps => k :: Pl.keysL ps
def Pl.keysL : List (List Nat × Pl) → List Str
  | [] => []
  | x :: r => Pl.keysX x ++ Pl.keysL r
def Pl.keysX : List Nat × Pl → List Str
  | (_, q) => q.keys
end
theorem base_nil {h : Nat} {b : Bk} (B : BookOk h b) {k : Str} {ps : List (List Nat × Pl)} (o : PlOk b (.mk k ps)) (hk : k ∈ baseK) : ps = [] := by
  cases o with
  | mk e r =>
    rename_i t
    have nw := (B.bs _ (treeOf_in e) hk).w
    have none : ∀ {vs : List (List Nat × Tr)} {rs : List (List Nat × Pl)}, (∀ x ∈ vs, noW x.2 = true) → PutsOk b vs rs → rs = [] := fun {vs rs} hv r => by
      induction vs generalizing rs with
      | nil => cases r; rfl
      | cons v vs ih =>
        cases r with
        | skip _ r => exact ih (fun x mx => hv x (by simp [mx])) r
        | put m _ _ =>
          have := want_no (hv _ List.mem_cons_self)
          unfold Bk.takers at m
          dsimp only at this
          rw [this] at m
          cases m
    exact none (fun x mx => nw x.2 (by rw [← pps_snd t []]; exact List.mem_map_of_mem mx)) r
mutual
/-- how many keys, by how many are none of the six -/
theorem PlOk.few {h : Nat} {b : Bk} (B : BookOk h b) : ∀ {q : Pl}, PlOk b q → q.size ≤ 1 + 50 * q.nb
  | .mk k ps, .mk (t := t) e r => by
    have h1 := PutsOk.few B r
    have h2 := (B.trees _ (treeOf_in e)).sz
    have h3 := r.sub.length_le
    rw [List.length_map, List.length_map, pps_len] at h3
    dsimp only at h2
    rw [Pl.size, Pl.nb]
    by_cases kb : k ∈ baseK
    · have := base_nil B (.mk e r) kb
      subst this
      simp [Pl.sizeL]
    · rw [if_neg kb]
      omega
theorem PutsOk.few {h : Nat} {b : Bk} (B : BookOk h b) : ∀ {us : List (List Nat × Tr)} {ps : List (List Nat × Pl)}, PutsOk b us ps → Pl.sizeL ps ≤ ps.length + 50 * Pl.nbL ps
  | _, _, .nil => by simp [Pl.sizeL]
  | _, _, .skip _ r => PutsOk.few B r
  | _, _, .put _ o r => by
    have h1 := PlOk.few B o
    have h2 := PutsOk.few B r
    rw [Pl.sizeL, Pl.sizeX, Pl.nbL, Pl.nbX, List.length_cons]
    omega
end
section
variable {b : Bk} {g : List Nat → Option Tr} {G : Pl → Tr} {H : Nat} {w : Pl → Nat}
end
end GM
namespace GM
open PySem L2 GS
end GM
namespace GM
open PySem L2 GS
section
variable {Fb Fw Fa Ft : FF}
end
end GM
namespace GM
open PySem L2 GS
/-- _law_deeper(book, cell); slots 0:book 1:cell 2:found 3:k 4:kids 5:near 6:here 7:turn 8:key 9:tree -/
def m_law_deeper_b1 : SF := (sKill [7] (sSet 4 (eTup (aCons (eTup (aCons (eC (.str (Str.ofString "knot"))) (aCons (eBin ixA (eLst (aCons (eC (.str (Str.ofString "S1"))) (aCons (eC (.str (Str.ofString "S2"))) (aCons (eC (.str (Str.ofString "Z"))) aNil)))) (eVb 7)) (aCons (eC .none) (aCons (eMv 4) aNil))))) aNil))))
def m_law_deeper_b2 : SF := (sKill [3, 4, 5, 6, 7, 8, 9] (sSeq (sUnp (gT 2 (gsC (gN 8) (gsC (gN 9) gsN))) (eBin ixA (eBin ixA (eVb 0) (eC (.int 1))) (eVb 3))) (sSeq (sSet 4 (eBin ixA (eVb 9) (eC (.int 3)))) (sSeq (sSet 5 (eBin divD (eBin modD (eBin powD (eBin addD (eBin modD (eVb 1) (eC (.int 1000003))) (eC (.int 1))) (eC (.int 5))) (eC (.int 2147483647))) (eC (.int 8)))) (sSeq (sSet 6 (eAnd (eB (eBin (eqB false) (eBin modD (eBin divD (eVb 5) (eC (.int 4))) (eCB (un1 lenD) (aCons (eBin ixA (eVb 0) (eC (.int 1))) aNil))) (eVb 3))) (eBin (inT true) (eC (.str (Str.ofString "'foot'"))) (eCB (un1 reprD) (aCons (eVb 9) aNil))))) (sSeq (sFor (iR1 (eBin mulA (eBin modD (eVb 5) (eC (.int 3))) (eCB (un1 intC) (aCons (eVb 6) aNil)))) (gN 7) (m_law_deeper_b1)) (sApp 2 (eTup (aCons (eMv 8) (aCons (eBin addD (eSl (eVb 9) none (some (eC (.int 3)))) (eTup (aCons (eMv 4) aNil))) aNil))))))))))
end GM
namespace GM
open PySem L2 GS
mutual
theorem show_enc : ∀ t : Tr, t.ok = true → t.enc.showable = true ∧ t.enc.intsShort 13 = true ∧ t.enc.weight ≤ 90 * t.pieces.length + (t.pieces.length - 1)
  | .sign s, h => by
    have := (signB_len h).2
    have e : (PyData.str (Str.ofString "sign")).weight = 4 := by decide +kernel
    have e2 : (PyData.str s).weight = s.length := rfl
    refine ⟨rfl, rfl, ?_⟩
    simp only [Tr.enc, PyData.weight, PyData.weightAll, Tr.pieces, List.length_singleton] at e e2 ⊢
    omega
  | .void, _ => ⟨rfl, rfl, by decide +kernel⟩
  | .hole s, h => by
    have := (nameB_len h).2
    have e : (PyData.str (Str.ofString "hole")).weight = 4 := by decide +kernel
    have e2 : (PyData.str s).weight = s.length := rfl
    refine ⟨rfl, rfl, ?_⟩
    simp only [Tr.enc, PyData.weight, PyData.weightAll, Tr.pieces, List.length_singleton] at e e2 ⊢
    omega
  | .foot s, h => by
    have := (nameB_len h).2
    have e : (PyData.str (Str.ofString "foot")).weight = 4 := by decide +kernel
    have e2 : (PyData.str s).weight = s.length := rfl
    refine ⟨rfl, rfl, ?_⟩
    simp only [Tr.enc, PyData.weight, PyData.weightAll, Tr.pieces, List.length_singleton] at e e2 ⊢
    omega
  | .knot n tk ks, h => by
    obtain ⟨o1, o2, o3, o4, o5⟩ := knot_parts h
    have h1 := (nameB_len o1).2
    obtain ⟨k1, k2, k3⟩ := showL_enc ks (okL_of o5)
    have e : (PyData.str (Str.ofString "knot")).weight = 4 := by decide +kernel
    have e2 : (PyData.str n).weight = n.length := rfl
    have tkw : (encTk tk).showable = true ∧ (encTk tk).intsShort 13 = true ∧ (encTk tk).weight ≤ 30 := by
      cases tk with
      | none => exact ⟨rfl, rfl, by decide⟩
      | some p =>
        obtain ⟨m, c⟩ := p
        have h2 := (nameB_len (show nameB m = true from o2)).2
        have e3 : (PyData.str m).weight = m.length := rfl
        refine ⟨rfl, rfl, ?_⟩
        simp only [encTk, PyData.weight, PyData.weightAll] at e3 ⊢
        omega
    refine ⟨?_, ?_, ?_⟩
    · simp only [Tr.enc, PyData.showable, PyData.showableAll, tkw.1, k1]; rfl
    · simp only [Tr.enc, PyData.intsShort, PyData.intsShortAll, tkw.2.1, k2]; rfl
    · have tw := tkw.2.2
      simp only [Tr.enc, PyData.weight, PyData.weightAll, Tr.pieces, List.length_cons] at e e2 tw ⊢
      omega
theorem showL_enc : ∀ ts : List Tr, Tr.okL ts = true → PyData.showableAll (Tr.encL ts) = true ∧ PyData.intsShortAll 13 (Tr.encL ts) = true ∧ PyData.weightAll (Tr.encL ts) ≤ 91 * (Tr.piecesL ts).length
  | [], _ => ⟨rfl, rfl, by simp [Tr.encL, PyData.weightAll]⟩
  | t :: ts, h => by
    rw [Tr.okL, Bool.and_eq_true] at h
    obtain ⟨a1, a2, a3⟩ := show_enc t h.1
    obtain ⟨b1, b2, b3⟩ := showL_enc ts h.2
    have p1 : 1 ≤ t.pieces.length := by rw [pieces_kids]; simp
    refine ⟨by rw [Tr.encL, PyData.showableAll, a1, b1]; rfl, by rw [Tr.encL, PyData.intsShortAll, a2, b2]; rfl, ?_⟩
    rw [Tr.encL, PyData.weightAll, Tr.piecesL, List.length_append]
    omega
end
theorem repr_enc {t : Tr} (ok : t.ok = true) (hh : t.ht ≤ 31) (hz : t.pieces.length ≤ 10000) : reprD t.enc = some (.sh (.str t.enc.shown)) := by
  obtain ⟨h1, h2, h3⟩ := show_enc t ok
  have hc := clean_enc t ok
  have oe := okEq_of hc (by have := depth_enc t; omega)
  have hs := PyData.shown_fits (B := 13) (by omega) (by omega) (PyData.leavesShort_of_canLay0 13 _ (clean_ok _ hc).2 h2) (by
    have : (2 : Nat) ^ 20 = 1048576 := by decide
    omega)
  obtain ⟨w, r, he⟩ := enc_word t
  rw [he] at h1 oe hs ⊢
  exact reprD_t oe h1 hs
def dpN (i : Nat) : Str := [Str.ofString "S1", Str.ofString "S2", Str.ofString "Z"].getD i default
def deepK : Nat → List Tr → List Tr
  | 0, ks => ks
  | n + 1, ks => [.knot (dpN n) none (deepK n ks)]
def Tr.deepen (n : Nat) : Tr → Tr
  | .knot nm tk ks => .knot nm tk (deepK n ks)
  | t => t
theorem deepK_pc (ks : List Tr) : ∀ n, ((deepK n ks).flatMap Tr.pieces).length = (ks.flatMap Tr.pieces).length + n
  | 0 => rfl
  | n + 1 => by
    rw [deepK, List.flatMap_cons, List.flatMap_nil, List.append_nil, pieces_knot, deepK_pc ks n]
    omega
theorem deepK_ft (ks : List Tr) : ∀ n, (deepK n ks).flatMap Tr.feet = ks.flatMap Tr.feet
  | 0 => rfl
  | n + 1 => by rw [deepK, List.flatMap_cons, List.flatMap_nil, List.append_nil, feet_knot, deepK_ft ks n]
theorem deepK_sg (ks : List Tr) : ∀ n, (deepK n ks).flatMap Tr.signs = ks.flatMap Tr.signs
  | 0 => rfl
  | n + 1 => by rw [deepK, List.flatMap_cons, List.flatMap_nil, List.append_nil, signs_knot, deepK_sg ks n]
theorem deepK_ht (ks : List Tr) : ∀ n, Tr.htL (deepK n ks) = Tr.htL ks + n
  | 0 => rfl
  | n + 1 => by
    rw [deepK, Tr.htL, Tr.htL, Tr.ht, deepK_ht ks n]
    omega
theorem dpN_ok : ∀ n, n ≤ 2 → nameB (dpN n) = true
  | 0, _ => by decide +kernel
  | 1, _ => by decide +kernel
  | 2, _ => by decide +kernel
  | n + 3, h => by omega
theorem dpN_3 : ∀ n, n ≤ 1 → dpN n ∈ nm3
  | 0, _ => by decide +kernel
  | 1, _ => by decide +kernel
  | n + 2, h => by omega
theorem deepK_ok {ks : List Tr} (h : Tr.okL ks = true) (h1 : 1 ≤ ks.length) (h8 : ks.length ≤ 8) : ∀ n, n ≤ 3 → Tr.okL (deepK n ks) = true ∧ 1 ≤ (deepK n ks).length ∧ (deepK n ks).length ≤ 8
  | 0, _ => ⟨h, h1, h8⟩
  | n + 1, hn => by
    obtain ⟨i1, i2, i3⟩ := deepK_ok h h1 h8 n (by omega)
    refine ⟨?_, by rw [deepK]; simp, by rw [deepK]; simp⟩
    rw [deepK, Tr.okL, Tr.okL, Tr.ok, dpN_ok n (by omega), i1, decide_eq_true i2, decide_eq_true i3]
    rfl
theorem deepK_wn {ks : List Tr} (h : ∀ k ∈ ks, Wn k) : ∀ n, n ≤ 2 → ∀ k ∈ deepK n ks, Wn k
  | 0, _ => h
  | n + 1, hn => fun k m => by
    rw [deepK] at m
    simp only [List.mem_cons, List.not_mem_nil, or_false] at m
    subst m
    exact Wn.knot (by rw [decide_eq_true (dpN_3 n (by omega))]; rfl) (deepK_wn h n (by omega))
theorem deepK_nw {ks : List Tr} (h : ∀ k ∈ ks, NoW k) : ∀ n, ∀ k ∈ deepK n ks, NoW k
  | 0 => h
  | n + 1 => fun k m => by
    rw [deepK] at m
    simp only [List.mem_cons, List.not_mem_nil, or_false] at m
    subst m
    intro u mu
    rw [Tr.pieces] at mu
    rcases List.mem_cons.mp mu with rfl | mu
    · rfl
    · rw [piecesL_flat] at mu
      obtain ⟨k, mk, mu⟩ := List.mem_flatMap.mp mu
      exact deepK_nw h n k mk u mu
theorem knot_all {P : Tr → Prop} {n : Str} {tk : Option (Str × Bool)} {ks : List Tr} (h : ∀ u ∈ (Tr.knot n tk ks).pieces, P u) : ∀ k ∈ ks, ∀ u ∈ k.pieces, P u := fun k mk u mu => h u (by
  rw [Tr.pieces, piecesL_flat]
  exact List.mem_cons_of_mem _ (List.mem_flatMap.mpr ⟨k, mk, mu⟩))
theorem knot_is {t : Tr} (h : t.isKnot = true) : ∃ n tk ks, t = .knot n tk ks := by
  cases t <;> first | exact ⟨_, _, _, rfl⟩ | cases h
theorem TreeOk.deep {h : Nat} {t : Tr} (T : TreeOk h t) (h3 : h ≤ 3) {n : Nat} (hn : n ≤ 2) : TreeOk (h + 2) (t.deepen n) ∧ (t.deepen n).feet = t.feet ∧ (t.deepen n).word = t.word ∧ (NoW t → NoW (t.deepen n)) ∧ (t.deepen n).ht = t.ht + n := by
  obtain ⟨nm, tk, ks, rfl⟩ := knot_is T.kn
  obtain ⟨o1, o2, o3, o4, o5⟩ := knot_parts T.ok
  obtain ⟨d1, d2, d3⟩ := deepK_ok (okL_of o5) o3 o4 n (by omega)
  have pc := deepK_pc ks n
  have ft : (Tr.knot nm tk (deepK n ks)).feet = (Tr.knot nm tk ks).feet := by rw [feet_knot, feet_knot, deepK_ft]
  have s4 := T.s4
  have hh := T.ht
  rw [pieces_knot] at s4
  rw [Tr.ht] at hh
  have hw := T.wn
  have nh : (Tr.knot nm tk (deepK n ks)).ht = (Tr.knot nm tk ks).ht + n := by rw [Tr.ht, Tr.ht, deepK_ht]; omega
  show TreeOk (h + 2) (.knot nm tk (deepK n ks)) ∧ _
  refine ⟨⟨?_, rfl, by rw [ft]; exact T.feet, ?_, ?_, ?_, ?_, ?_⟩, ft, rfl, fun hnw => ?_, nh⟩
  · simp only [Tr.ok, Bool.and_eq_true, decide_eq_true_eq]
    exact ⟨o1, o2, d2, d3, d1⟩
  · rw [Tr.ht, deepK_ht]; omega
  · rw [pieces_knot, pc]; omega
  · rw [pieces_knot, pc]; omega
  · rw [signs_knot, deepK_sg, ← signs_knot nm tk ks]; exact T.sg
  · exact Wn.knot hw.self (deepK_wn (knot_all hw) n hn)
  · intro u mu
    rw [Tr.deepen, Tr.pieces] at mu
    rcases List.mem_cons.mp mu with rfl | mu
    · have := hnw (.knot nm tk ks) (by rw [Tr.pieces]; simp)
      cases tk with
      | none => rfl
      | some w => exact this
    · rw [piecesL_flat] at mu
      obtain ⟨k, mk, mu⟩ := List.mem_flatMap.mp mu
      exact deepK_nw (knot_all hnw) n k mk u mu
theorem TreeOk.up {h h' : Nat} {t : Tr} (T : TreeOk h t) (hh : h ≤ h') : TreeOk h' t := ⟨T.ok, T.kn, T.feet, Nat.le_trans T.ht hh, T.sz, by have := T.s4; omega, T.sg, T.wn⟩
end GM
namespace GM
open PySem L2 GS
theorem BookOk.up {h h' : Nat} {b : Bk} (B : BookOk h b) (hh : h ≤ h') : BookOk h' b := ⟨B.top, B.len, B.pos, B.nd, B.keys, fun p m => (B.trees p m).up hh, B.base, fun p m k => ⟨(B.bs p m k).w, (B.bs p m k).h, by have := (B.bs p m k).h1; omega⟩⟩
def Deeper (ts us : List (Str × Tr)) : Prop := Paired (fun p q : Str × Tr => q.1 = p.1 ∧ ∃ n, n ≤ 2 ∧ q.2 = p.2.deepen n) ts us
theorem Deeper.keys {ts us : List (Str × Tr)} (h : Deeper ts us) : us.map (·.1) = ts.map (·.1) := by
  induction h with
  | nil => rfl
  | cons e _ ih => rw [List.map_cons, List.map_cons, ih, e.1]
theorem Deeper.fwd {ts us : List (Str × Tr)} (h : Deeper ts us) : ∀ p ∈ ts, ∃ q ∈ us, q.1 = p.1 ∧ ∃ n, n ≤ 2 ∧ q.2 = p.2.deepen n := by
  induction h with
  | nil => intro p m; cases m
  | cons e _ ih =>
    intro p m
    rcases List.mem_cons.mp m with rfl | m
    · exact ⟨_, List.mem_cons_self, e⟩
    · obtain ⟨q, mq, r⟩ := ih p m
      exact ⟨q, List.mem_cons_of_mem _ mq, r⟩
theorem Deeper.bwd {ts us : List (Str × Tr)} (h : Deeper ts us) : ∀ q ∈ us, ∃ p ∈ ts, q.1 = p.1 ∧ ∃ n, n ≤ 2 ∧ q.2 = p.2.deepen n := by
  induction h with
  | nil => intro p m; cases m
  | cons e _ ih =>
    intro p m
    rcases List.mem_cons.mp m with rfl | m
    · exact ⟨_, List.mem_cons_self, e⟩
    · obtain ⟨q, mq, r⟩ := ih p m
      exact ⟨q, List.mem_cons_of_mem _ mq, r⟩
theorem deep_name {h : Nat} {t : Tr} (T : TreeOk h t) (h3 : h ≤ 3) {n : Nat} (hn : n ≤ 2) : (t.deepen n).isGraft = t.isGraft ∧ (t.deepen n).name = t.name := by
  obtain ⟨_, e1, e2, _, _⟩ := T.deep h3 hn
  unfold Tr.isGraft Tr.name
  rw [e1, e2]
  exact ⟨rfl, rfl⟩
theorem Deeper.ok {b : Bk} (B : BookOk 3 b) {us : List (Str × Tr)} (D : Deeper b.trees us) : BookOk 5 ⟨b.top, us⟩ := by
  have hl : us.length = b.trees.length := by have := congrArg List.length D.keys; simpa using this
  refine ⟨B.top, by show us.length ≤ 11; rw [hl]; exact B.len, by show 6 ≤ us.length; rw [hl]; exact B.pos, by show (us.map (·.1)).Nodup; rw [D.keys]; exact B.nd, fun q mq => ?_, fun q mq => ?_, ⟨fun n mn => ?_, fun n mn => ?_⟩, fun q mq kb => ?_⟩
  · obtain ⟨p, mp, e, _⟩ := D.bwd q mq
    rw [e]; exact B.keys p mp
  · obtain ⟨p, mp, e, n, hn, e2⟩ := D.bwd q mq
    rw [e2]; exact ((B.trees p mp).deep (by omega) hn).1
  · obtain ⟨p, mp, bk, r1, r2⟩ := B.base.st n mn
    obtain ⟨q, mq, e, m, hm, e2⟩ := D.fwd p mp
    obtain ⟨g1, g2⟩ := deep_name (B.trees p mp) (by omega) hm
    exact ⟨q, mq, by rw [e]; exact bk, by rw [e2, g1]; exact r1, by rw [e2, g2]; exact r2⟩
  · obtain ⟨p, mp, bk, r1, r2⟩ := B.base.gr n mn
    obtain ⟨q, mq, e, m, hm, e2⟩ := D.fwd p mp
    obtain ⟨g1, g2⟩ := deep_name (B.trees p mp) (by omega) hm
    exact ⟨q, mq, by rw [e]; exact bk, by rw [e2, g1]; exact r1, by rw [e2, g2]; exact r2⟩
  · obtain ⟨p, mp, e, n, hn, e2⟩ := D.bwd q mq
    rw [e] at kb
    obtain ⟨_, _, _, w, hh⟩ := (B.trees p mp).deep (by omega) hn
    have bs := B.bs p mp kb
    have h1 := bs.h1
    rw [e2]
    exact ⟨w bs.w, by omega, by omega⟩
theorem deep_inner (x0 x1 x2 x3 x5 x6 x8 x9 : Option Cel) (h7 : True) (ks : List Tr) : ∀ n, n ≤ 2 → forL (gN 7) m_law_deeper_b1 (rgD 0 n) [x0, x1, x2, x3, some ⟨.tuple (ks.map Tr.enc), .sh⟩, x5, x6, none, x8, x9] = .nx [x0, x1, x2, x3, some ⟨.tuple ((deepK n ks).map Tr.enc), .sh⟩, x5, x6, none, x8, x9]
  | 0, _ => rfl
  | 1, _ => by
    rw [show rgD 0 1 = [.int 0] from rfl]
    simp [forL_cons, m_law_deeper_b1, deepK, Tr.enc, encL_map, encTk, dpN]
  | 2, _ => by
    rw [show rgD 0 2 = [.int 0, .int 1] from rfl]
    simp [forL_cons, m_law_deeper_b1, deepK, Tr.enc, encL_map, encTk, dpN]
  | n + 3, h => by omega
def nearV (c : Int) : Int := (c % 1000003 + 1) ^ (5 : Nat) % 2147483647 / 8
theorem deep_turn (b : Bk) (c : Int) (acc : List D) (k : Nat) (p : Str × Tr) (hp : b.trees[k]? = some p) (T : TreeOk 3 p.2) (ha : acc.length ≤ 100) (hl0 : b.trees.length ≤ 11) : ∃ n, n ≤ 2 ∧ (¬ nearV c / 4 % (b.trees.length : Int) = (k : Int) → n = 0) ∧
    optR (gN 3 (.int (k : Int)) [some ⟨b.enc, .sh⟩, some ⟨.int c, .sh⟩, some ⟨.list acc, .ow⟩, none, none, none, none, none, none, none]) m_law_deeper_b2 = .nx [some ⟨b.enc, .sh⟩, some ⟨.int c, .sh⟩, some ⟨.list (acc ++ [encKT (p.1, p.2.deepen n)]), .ow⟩, none, none, none, none, none, none, none] := by
  obtain ⟨key, t⟩ := p
  dsimp only at T ⊢
  suffices H : ∀ sel : Bool, decide (nearV c / 4 % (b.trees.length : Int) = (k : Int)) = sel → ∃ n, n ≤ 2 ∧ (sel = false → n = 0) ∧ optR (gN 3 (.int (k : Int)) [some ⟨b.enc, .sh⟩, some ⟨.int c, .sh⟩, some ⟨.list acc, .ow⟩, none, none, none, none, none, none, none]) m_law_deeper_b2 = .nx [some ⟨b.enc, .sh⟩, some ⟨.int c, .sh⟩, some ⟨.list (acc ++ [encKT (key, t.deepen n)]), .ow⟩, none, none, none, none, none, none, none] from by
    obtain ⟨n, g1, g2, g3⟩ := H _ rfl
    exact ⟨n, g1, fun h => g2 (decide_eq_false h), g3⟩
  intro sel hsel
  unfold nearV at hsel
  have rp := repr_enc T.ok (by have := T.ht; omega) (by have := T.sz; omega)
  obtain ⟨nm, tk, ks, rfl⟩ := knot_is T.kn
  have ea : L2.atI (b.trees.map encKT) (k : Int) = some (encKT (key, .knot nm tk ks)) := atI_nat (by rw [List.getElem?_map, hp]; rfl)
  have ix := ix_trees b
  have hlen : 0 < b.trees.length := by have := (List.getElem?_eq_some_iff.mp hp).1; omega
  have hl1 : (0 : Int) < (b.trees.length : Int) := by omega
  have h1 := Int.emod_nonneg c (show (1000003 : Int) ≠ 0 by decide)
  have h2 := Int.emod_lt_of_pos c (show (0 : Int) < 1000003 by decide)
  have h3 : ∀ ρ : Rho, resO (powD (.int (c % 1000003 + 1)) (.int 5)) ρ = .ok (.sh (.int ((c % 1000003 + 1) ^ (5 : Nat)))) ρ := fun ρ => by
    rw [resO_pow (by decide) (by decide) (by omega)]
    rfl
  generalize (c % 1000003 + 1) ^ (5 : Nat) = y at h3 hsel
  obtain ⟨nr, hnr⟩ : ∃ nr : Int, y % 2147483647 / 8 = nr := ⟨_, rfl⟩
  rw [hnr] at hsel
  obtain ⟨n3, hn3, en3⟩ : ∃ n : Nat, n ≤ 2 ∧ nr % 3 = (n : Int) := ⟨(nr % 3).toNat, by omega, by omega⟩
  have er : ∀ ρ : Rho, resO (modD (.int (nr / 4)) (.int (b.trees.length : Int))) ρ = .ok (.sh (.int (nr / 4 % (b.trees.length : Int)))) ρ := fun ρ => by rw [resO_mod hl1]
  have hdl : (b.trees.map encKT).length = b.trees.length := List.length_map ..
  have mu1 : ∀ ρ : Rho, resO (mulD (.int (n3 : Int)) (.int 1)) ρ = .ok (.sh (.int (n3 : Int))) ρ := fun ρ => by
    have : mulD (.int (n3 : Int)) (.int 1) = some (.sh (.int ((n3 : Int) * 1))) := by
      match n3, hn3 with
      | 0, _ => rfl
      | 1, _ => rfl
      | 2, _ => rfl
      | n + 3, h => omega
    rw [this, Int.mul_one]; rfl
  have mu0 : ∀ ρ : Rho, resO (mulD (.int (n3 : Int)) (.int 0)) ρ = .ok (.sh (.int ((0 : Nat) : Int))) ρ := fun ρ => by
    have : mulD (.int (n3 : Int)) (.int 0) = some (.sh (.int ((n3 : Int) * 0))) := by
      match n3, hn3 with
      | 0, _ => rfl
      | 1, _ => rfl
      | 2, _ => rfl
      | n + 3, h => omega
    rw [this, Int.mul_zero]; rfl
  have z : acc.length < sizeLine := fitsl (by omega)
  have c3 : ∀ a b c d : D, cutD [a, b, c, d] none (some 3) = [a, b, c] := fun a b c d => cutD_to _ 3
  have s3 : 3 + 1 ≤ sizeLine := by decide
  have okr : ∀ n : Nat, n ≤ 2 → okR (n : Int) = true := fun n h => okR_nat (by omega)
  rw [enc_knot] at rp
  have ek : encKT (key, .knot nm tk ks) = .tuple [.str key, .tuple [.str (Str.ofString "knot"), .str nm, encTk tk, .tuple (ks.map Tr.enc)]] := by unfold encKT; rw [enc_knot]
  rw [ek] at ea
  generalize hsh : (PyData.tuple [.str (Str.ofString "knot"), .str nm, encTk tk, .tuple (ks.map Tr.enc)]).shown = sh at rp
  have fin : ∀ n : Nat, n ≤ 2 → ∀ (hr : Bool), forL (gN 7) m_law_deeper_b1 (rgD 0 n) [some ⟨b.enc, .sh⟩, some ⟨.int c, .sh⟩, some ⟨.list acc, .ow⟩, some ⟨.int (k : Int), .sh⟩, some ⟨.tuple (ks.map Tr.enc), .sh⟩, some ⟨.int nr, .sh⟩, some ⟨.bool hr, .sh⟩, none, some ⟨.str key, .sh⟩, some ⟨.tuple [.str (Str.ofString "knot"), .str nm, encTk tk, .tuple (ks.map Tr.enc)], .sh⟩] = .nx [some ⟨b.enc, .sh⟩, some ⟨.int c, .sh⟩, some ⟨.list acc, .ow⟩, some ⟨.int (k : Int), .sh⟩, some ⟨.tuple ((deepK n ks).map Tr.enc), .sh⟩, some ⟨.int nr, .sh⟩, some ⟨.bool hr, .sh⟩, none, some ⟨.str key, .sh⟩, some ⟨.tuple [.str (Str.ofString "knot"), .str nm, encTk tk, .tuple (ks.map Tr.enc)], .sh⟩] := fun n hn hr => deep_inner _ _ _ _ _ _ _ _ trivial ks n hn
  have ed : ∀ n, encKT (key, Tr.deepen n (.knot nm tk ks)) = .tuple [.str key, .tuple [.str (Str.ofString "knot"), .str nm, encTk tk, .tuple ((deepK n ks).map Tr.enc)]] := fun n => by
    unfold encKT
    rw [Tr.deepen, enc_knot]
  generalize (b.trees.map encKT) = bt at ea ix hdl
  generalize b.trees.length = bl at er hdl hsel
  generalize b.enc = be at ix fin
  by_cases q : nr / 4 % (bl : Int) = (k : Int)
  · cases ho : occB (Str.ofString "'foot'") sh with
    | false =>
      refine ⟨n3, hn3, (fun h => by rw [← hsel, decide_eq_true q] at h; cases h), ?_⟩
      have f := fin n3 hn3 true
      have o := okr n3 hn3
      rw [ed]
      generalize (deepK n3 ks).map Tr.enc = dk at f
      generalize ks.map Tr.enc = kd at f ea rp
      simp [m_law_deeper_b2, ix, ea, h3, hnr, hdl, er, q, rp, ho, intC, en3, mu1, o, f, c3, s3, z]
    | true =>
      refine ⟨0, by omega, fun _ => rfl, ?_⟩
      have f := fin 0 (by omega) false
      have o := okr 0 (by omega)
      rw [ed]
      generalize (deepK 0 ks).map Tr.enc = dk at f
      generalize ks.map Tr.enc = kd at f ea rp
      simp only [Int.natCast_zero] at mu0 o
      simp [m_law_deeper_b2, ix, ea, h3, hnr, hdl, er, q, rp, ho, intC, en3, mu0, o, f, c3, s3, z]
  · refine ⟨0, by omega, fun _ => rfl, ?_⟩
    have f := fin 0 (by omega) false
    have o := okr 0 (by omega)
    rw [ed]
    generalize (deepK 0 ks).map Tr.enc = dk at f
    generalize ks.map Tr.enc = kd at f ea rp
    simp only [Int.natCast_zero] at mu0 o
    simp [m_law_deeper_b2, ix, ea, h3, hnr, hdl, er, q, intC, en3, mu0, o, f, c3, s3, z]
def trS (s : Str) : Str := if s = Str.ofString "a" then Str.ofString "b" else Str.ofString "a"
mutual
def Tr.turn : Tr → Tr
  | .sign s => .sign (trS s)
  | .knot n tk ks => .knot n tk (Tr.turnL ks)
  | .void => .void
  | .hole s => .hole s
  | .foot s => .foot s
def Tr.turnL : List Tr → List Tr
  | [] => []
  | t :: ts => t.turn :: Tr.turnL ts
end
end GM
namespace GM
open PySem L2 GS
/-- _law_is_put(one); slots 0:one 1:k -/
def m_law_is_put_ct1 : EF := (eOr (eB (eIsi isBool (eVb 1))) (eNot (eB (eIsi isInt (eVb 1)))))
def m_law_is_put_ce2 : EF := (eMv 1)
def m_law_is_put : SF := (sSeq (sIf (eOr (eNot (eB (eIsi isTup (eVb 0)))) (eOr (eB (eBin (eqB true) (eCB (un1 lenD) (aCons (eVb 0) aNil)) (eC (.int 2)))) (eNot (eB (eIsi isTup (eBin ixA (eVb 0) (eC (.int 0)))))))) (sEnd (sRet (eC (.bool false)))) sNil) (sEnd (sRet (eBin (eqB false) (eCB (un1 lenD) (aCons (eLc [1] (iSq (eBin ixA (eVb 0) (eC (.int 0)))) (gN 1) (eNox (m_law_is_put_ct1)) (eNox (m_law_is_put_ce2))) aNil)) (eC (.int 0))))))
theorem m_law_is_put_eq (ρ : Rho) : fnF 2 1 (m_law_is_put) ρ = finR 1 (m_law_is_put (ρ ++ [none])) := fnF_eq 2 1 _
end GM
namespace GM
open PySem L2 GS
def lputB : D → Bool
  | .tuple [a, _] => numsB a
  | _ => false
def LPutSp (F : FF) : Prop := ∀ d : D, (∀ ns o, d = .tuple [.tuple ns, o] → ns.length ≤ 100000) → F [some ⟨d, .sh⟩] = .ok (.sh (.bool (lputB d))) [none]
theorem law_is_put_ok : LPutSp (fnF 2 1 m_law_is_put) := fun d hd => by
  rw [m_law_is_put_eq]
  cases d with
  | tuple ds =>
    match ds, hd with
    | [], _ => simp [m_law_is_put, isTup, lputB]
    | [a], _ => simp [m_law_is_put, isTup, lputB]
    | a :: b :: c :: r, _ =>
      have n : ¬ ((r.length : Int) + 1 + 1 + 1 = 2) := by omega
      simp [m_law_is_put, isTup, lputB, n]
    | [a, b], hd =>
      cases a with
      | tuple ns =>
        have hl := hd ns b rfl
        have lc := lcL_up (vs := [1]) (g := gN 1) (ft := eNox m_law_is_put_ct1) (fe := eNox m_law_is_put_ce2) [some ⟨.tuple [.tuple ns, b], .sh⟩, none] (fun d : D => d) (fun d => [some ⟨.tuple [.tuple ns, b], .sh⟩, some ⟨d, .sh⟩]) (fun d => !numB d) (fun d => d) ns [] (fits (by simp; omega)) (fun d _ => by
          refine ⟨by simp, ?_, by simp, fun _ => by simp [m_law_is_put_ce2]⟩
          cases d <;> simp [m_law_is_put_ct1, isBool, isInt, numB])
        rw [List.map_id'' (f := fun d : D => d) (fun _ => rfl) ns, List.nil_append] at lc
        have e : ((ns.filter fun d => !numB d).length = 0) ↔ ns.all numB = true := by
          rw [List.length_eq_zero_iff, List.filter_eq_nil_iff, List.all_eq_true]
          simp
        show _ = RE.ok (.sh (.bool (ns.all numB))) [none]
        generalize hf : ((ns.filter fun d => !numB d).map fun d => d) = fl at lc
        have fl0 : fl.length = (ns.filter fun d => !numB d).length := by rw [← hf]; simp
        cases q : ns.all numB with
        | true =>
          have : fl.length = 0 := by rw [fl0]; exact e.mpr q
          simp [m_law_is_put, isTup, lc, this]
        | false =>
          have : ¬ fl.length = 0 := by rw [fl0]; exact fun z => by rw [e.mp z] at q; cases q
          have n2 : ¬ ((fl.length : Nat) : Int) = 0 := by omega
          simp [m_law_is_put, isTup, lc, n2, this]
      | _ => simp [m_law_is_put, isTup, lputB, numsB]
  | _ => simp [m_law_is_put, isTup, lputB]
end GM
namespace GM
open PySem L2 GS
end GM
namespace GM
open PySem L2 GS
def Tr.sort : Tr → Str
  | .knot _ _ _ => Str.ofString "knot"
  | .sign _ => Str.ofString "sign"
  | .void => Str.ofString "void"
  | .hole _ => Str.ofString "hole"
  | .foot _ => Str.ofString "foot"
section
variable {h n : Nat} {b : Bk} {q : Pl}
end
end GM
namespace GM
open PySem L2 GS
end GM
namespace GM
open PySem L2 GS
section
variable {Fc Fz Fg Fs Fp Fk Fr Fb : FF}
end
end GM
namespace GM
open PySem L2 GS
section
variable {Fc Fz Fg Fs Fp Fk Fr Fb : FF}
end
end GM
namespace GM
open PySem L2 GS
end GM
namespace GM
open PySem L2 GS
theorem PutsOk.set {b : Bk} : ∀ {us : List (List Nat × Tr)} {ps : List (List Nat × Pl)}, PutsOk b us ps → ∀ (i : Nat) (p : List Nat) (q : Pl), ps[i]? = some (p, q) → ∃ u, (p, u) ∈ us ∧ q.key ∈ b.takers u ∧ ∀ q', q'.key ∈ b.takers u → PlOk b q' → PutsOk b us (ps.take i ++ (p, q') :: ps.drop (i + 1))
  | _, _, .nil, i, p, q, h => by simp at h
  | _, _, .skip hm r, i, p, q, h => by
    obtain ⟨u, mu, mk, k⟩ := PutsOk.set r i p q h
    exact ⟨u, List.mem_cons_of_mem _ mu, mk, fun q' h1 h2 => .skip hm (k q' h1 h2)⟩
  | _, _, .put (u := u) hk o r, 0, p, q, h => by
    simp at h
    obtain ⟨rfl, rfl⟩ := h
    exact ⟨u, List.mem_cons_self, hk, fun q' h1 h2 => .put h1 h2 r⟩
  | _, _, .put hk o r, i + 1, p, q, h => by
    simp only [List.getElem?_cons_succ] at h
    obtain ⟨u, mu, mk, k⟩ := PutsOk.set r i p q h
    exact ⟨u, List.mem_cons_of_mem _ mu, mk, fun q' h1 h2 => .put hk o (k q' h1 h2)⟩
theorem getI_mem {α : Type} {L : List (List Int × α)} {p : List Int} {u : α} (nd : (L.map (·.1)).Nodup) (m : (p, u) ∈ L) : getI L p = some u := by
  unfold getI
  induction L with
  | nil => cases m
  | cons x L ih =>
    rw [List.map_cons, List.nodup_cons] at nd
    rw [List.find?_cons]
    rcases List.mem_cons.mp m with rfl | m
    · rw [decide_eq_true rfl]; rfl
    · have : ¬ x.1 = p := fun e => nd.1 (List.mem_map.mpr ⟨_, m, e.symm⟩)
      rw [decide_eq_false this]
      exact ih nd.2 m
def iPT (x : List Nat × Tr) : List Int × Tr := (toI x.1, x.2)
def dPcs (t : Tr) : D := .dict (((t.pps []).map iPT).map (kvI Tr.enc))
theorem dict_pcs (t : Tr) : dictD (.list ((t.pps []).map encPT)) = some (.fr (dPcs t)) := by
  show dictP ((t.pps []).map encPT) = _
  unfold dictP
  have pe : ∀ L : List (List Nat × Tr), pairsD (L.map encPT) = some ((L.map iPT).map (kvI Tr.enc)) := fun L => by
    induction L with
    | nil => rfl
    | cons x L ih =>
      rw [List.map_cons]
      show (pairsD (L.map encPT)).map (fun ps => (encP x.1, x.2.enc) :: ps) = _
      rw [ih, encP_I]
      rfl
  have nd : (((t.pps []).map iPT).map (·.1)).Nodup := by
    have := rising_nodup (lexLt_places t)
    rw [← pps_places, List.map_map] at this
    rw [List.map_map]
    exact this
  rw [pe, Option.bind_some, okPs_I, Bool.or_true, if_pos rfl, dMerge_I Tr.enc _ nd]
  rfl
theorem ix_pcs {t u : Tr} {p : List Nat} (m : (p, u) ∈ t.pps []) : ixA (dPcs t) (encP p) = some (.sh u.enc) := by
  have nd : (((t.pps []).map iPT).map (·.1)).Nodup := by
    have := rising_nodup (lexLt_places t)
    rw [← pps_places, List.map_map] at this
    rw [List.map_map]
    exact this
  unfold dPcs
  rw [encP_I, ixA_d, isK_I, if_pos rfl, dGet_I, getI_mem nd (List.mem_map.mpr ⟨_, m, rfl⟩)]
  rfl
section
variable {Fr Fi Fp Fa Ft Fb Fc : FF}
end
end GM
namespace GM
open PySem L2 GS
/-- _law_is_plan(book, thing); slots 0:book 1:thing 2:trees 3:where_put 4:pieces 5:place 6:piece 7:must 8:one 9:key 10:tree -/
def m_law_is_plan_b1 (F__law_takers F__law_is_plan F__law_pieces F__law_is_put : FF) : SF := (sKill [5, 8] (sSeq (sIf (eOr (eB (eBin (inB true) (eVb 5) (eVb 4))) (eNot (eB (eCall 2 none F__law_is_plan (aCons (eMv 0) (aCons (eMv 8) aNil)))))) (sEnd (sRet (eC (.bool false)))) sNil) (sIf (eB (eBin (inB true) (eBin ixA (eVb 8) (eC (.int 0))) (eCall 2 none F__law_takers (aCons (eMv 0) (aCons (eBin ixA (eVb 4) (eVb 5)) aNil))))) (sEnd (sRet (eC (.bool false)))) sNil)))
def m_law_is_plan_b2 (F__law_takers F__law_is_plan F__law_pieces F__law_is_put : FF) : SF := (sKill [5, 6, 7] (sSeq (sSet 6 (eBin ixA (eVb 4) (eVb 5))) (sSeq (sSet 7 (eOr (eB (eBin (eqB false) (eBin ixA (eVb 6) (eC (.int 0))) (eC (.str (Str.ofString "hole"))))) (eAnd (eB (eBin (eqB false) (eBin ixA (eVb 6) (eC (.int 0))) (eC (.str (Str.ofString "knot"))))) (eAnd (eB (eBin (isD true) (eBin ixA (eVb 6) (eC (.int 2))) (eC .none))) (eBin ixA (eBin ixA (eVb 6) (eC (.int 2))) (eC (.int 1))))))) (sIf (eAnd (eB (eVb 7)) (eB (eBin (inB true) (eVb 5) (eVb 3)))) (sEnd (sRet (eC (.bool false)))) sNil))))
def m_law_is_plan_ce3 (F__law_takers F__law_is_plan F__law_pieces F__law_is_put : FF) : EF := (eMv 5)
def m_law_is_plan_ct4 (F__law_takers F__law_is_plan F__law_pieces F__law_is_put : FF) : EF := (eNot (eB (eCall 1 none F__law_is_put (aCons (eMv 8) aNil))))
def m_law_is_plan_ce5 (F__law_takers F__law_is_plan F__law_pieces F__law_is_put : FF) : EF := (eMv 8)
def m_law_is_plan_ct6 (F__law_takers F__law_is_plan F__law_pieces F__law_is_put : FF) : EF := (eB (eBin (eqB false) (eVb 9) (eBin ixA (eVb 1) (eC (.int 0)))))
def m_law_is_plan_ce7 (F__law_takers F__law_is_plan F__law_pieces F__law_is_put : FF) : EF := (eMv 10)
def m_law_is_plan (F__law_takers F__law_is_plan F__law_pieces F__law_is_put : FF) : SF := (sSeq (sIf (eOr (eNot (eB (eIsi isTup (eVb 1)))) (eOr (eB (eBin (eqB true) (eCB (un1 lenD) (aCons (eVb 1) aNil)) (eC (.int 2)))) (eNot (eB (eIsi isStr (eBin ixA (eVb 1) (eC (.int 0)))))))) (sEnd (sRet (eC (.bool false)))) sNil) (sSeq (sSet 2 (eLc [9, 10] (iSq (eBin ixA (eVb 0) (eC (.int 1)))) (gT 2 (gsC (gN 9) (gsC (gN 10) gsN))) (eNox (m_law_is_plan_ct6 F__law_takers F__law_is_plan F__law_pieces F__law_is_put)) (eNox (m_law_is_plan_ce7 F__law_takers F__law_is_plan F__law_pieces F__law_is_put)))) (sSeq (sIf (eOr (eB (eBin (eqB false) (eCB (un1 lenD) (aCons (eVb 2) aNil)) (eC (.int 0)))) (eNot (eB (eIsi isTup (eBin ixA (eVb 1) (eC (.int 1))))))) (sEnd (sRet (eC (.bool false)))) sNil) (sSeq (sIf (eB (eBin (ltI fun i j => decide (j < i)) (eCB (un1 lenD) (aCons (eLc [8] (iSq (eBin ixA (eVb 1) (eC (.int 1)))) (gN 8) (eNox (m_law_is_plan_ct4 F__law_takers F__law_is_plan F__law_pieces F__law_is_put)) (eNox (m_law_is_plan_ce5 F__law_takers F__law_is_plan F__law_pieces F__law_is_put))) aNil)) (eC (.int 0)))) (sEnd (sRet (eC (.bool false)))) sNil) (sSeq (sSet 3 (eLc [5, 8] (iSq (eBin ixA (eVb 1) (eC (.int 1)))) (gT 2 (gsC (gN 5) (gsC (gN 8) gsN))) (eNox eYes) (eNox (m_law_is_plan_ce3 F__law_takers F__law_is_plan F__law_pieces F__law_is_put)))) (sSeq (sIf (eB (eBin (eqB true) (eVb 3) (eSS (eVb 3)))) (sEnd (sRet (eC (.bool false)))) sNil) (sSeq (sSet 4 (eCB (un1 dictD) (aCons (eCall 2 none F__law_pieces (aCons (eBin ixA (eVb 2) (eC (.int 0))) (aCons (eTup aNil) aNil))) aNil))) (sSeq (sFor (iSq (eMv 4)) (gN 5) (m_law_is_plan_b2 F__law_takers F__law_is_plan F__law_pieces F__law_is_put)) (sSeq (sFor (iSq (eBin ixA (eVb 1) (eC (.int 1)))) (gT 2 (gsC (gN 5) (gsC (gN 8) gsN))) (m_law_is_plan_b1 F__law_takers F__law_is_plan F__law_pieces F__law_is_put)) (sEnd (sRet (eC (.bool true)))))))))))))
theorem m_law_is_plan_eq (F__law_takers F__law_is_plan F__law_pieces F__law_is_put : FF) (ρ : Rho) : fnF 11 2 (m_law_is_plan F__law_takers F__law_is_plan F__law_pieces F__law_is_put) ρ = finR 2 (m_law_is_plan F__law_takers F__law_is_plan F__law_pieces F__law_is_put (ρ ++ [none, none, none, none, none, none, none, none, none])) := fnF_eq 11 2 _
end GM
namespace GM
open PySem L2 GS
abbrev Po := List Int × D
def encPo (x : Po) : D := .tuple [encI x.1, x.2]
theorem encI_inj {p q : List Int} (h : encI p = encI q) : p = q := by
  have := eqv_I p q
  rw [h, eqv_I] at this
  simpa using this.symm
theorem encPo_inj {x y : Po} (h : encPo x = encPo y) : x = y := by
  unfold encPo at h
  injection h with h
  injection h with h1 h2
  injection h2 with h2 _
  exact Prod.ext (encI_inj h1) h2
def poOf (x : Pt) : Po := (x.1, krD x.2)
theorem poOf_enc (x : Pt) : encPo (poOf x) = encPt x := rfl
theorem lput_po {d : D} (h : lputB d = true) : ∃ x : Po, d = encPo x := by
  unfold lputB at h
  split at h
  · rename_i a o
    cases a with
    | tuple ns =>
      rcases intsT_all ns with ⟨p, _, rfl⟩ | ⟨_, z⟩
      · exact ⟨(p, o), rfl⟩
      · rw [show numsB (.tuple ns) = ns.all numB from rfl, z] at h; cases h
    | _ => cases h
  · cases h
theorem po_lput (x : Po) : lputB (encPo x) = true := nums_map x.1
theorem lputs_po : ∀ {ds : List D}, ds.all lputB = true → ∃ L : List Po, ds = L.map encPo
  | [], _ => ⟨[], rfl⟩
  | d :: ds, h => by
    rw [List.all_cons, Bool.and_eq_true] at h
    obtain ⟨x, rfl⟩ := lput_po h.1
    obtain ⟨L, rfl⟩ := lputs_po h.2
    exact ⟨x :: L, rfl⟩
def key0 : D → Option Str
  | .tuple [.str k, _] => some k
  | _ => none
theorem key0_kr {d : D} {k : Str} (h : key0 d = some k) : ∃ r, d = krD (k, r) := by
  unfold key0 at h
  split at h
  · cases h; exact ⟨_, rfl⟩
  · cases h
def lOk (b : Bk) (t : Tr) (n : Nat) (x : Po) : Bool := match getI ((t.pps []).map iPT) x.1 with
  | none => false
  | some u => isPlanN b n x.2 && (match key0 x.2 with | some k => decide (k ∈ b.takers u) | none => false)
def mOk (L : List Po) (u : List Nat × Tr) : Bool := !u.2.must || decide (toI u.1 ∈ L.map (·.1))
theorem isPlan_key {b : Bk} {n : Nat} {d : D} (h : isPlanN b n d = true) : ∃ k, key0 d = some k := by
  cases n with
  | zero => cases h
  | succ n =>
    unfold isPlanN at h
    split at h
    · exact ⟨_, rfl⟩
    · cases h
theorem goP_back : ∀ (L : List Pt) (a : Option (List Int)), (∀ x ∈ L, ltO a x.1 = true) → Rise (L.map (·.1)) → goP a (L.map encPt) = some L
  | [], _, _, _ => rfl
  | x :: L, a, h1, h2 => by
    rw [List.map_cons] at h2
    cases h2 with
    | cons q1 q2 =>
      have r := goP_back L (some x.1) (fun y my => q1 _ (List.mem_map_of_mem my)) q2
      rw [List.map_cons, goP, putP_enc]
      dsimp only
      rw [h1 x (by simp), if_pos rfl, r]
      rfl
theorem map_pt_po {L : List Po} {M : List Pt} (h : L.map encPo = M.map encPt) : L = M.map poOf := by
  induction L generalizing M with
  | nil => cases M <;> simp at h ⊢
  | cons x L ih =>
    cases M with
    | nil => simp at h
    | cons y M =>
      rw [List.map_cons, List.map_cons, List.cons.injEq] at h
      rw [List.map_cons, ih h.2, encPo_inj (h.1.trans (poOf_enc y).symm)]
theorem pcs_nd (t : Tr) : (((t.pps []).map iPT).map (·.1)).Nodup := by
  have := rising_nodup (lexLt_places t)
  rw [← pps_places, List.map_map] at this
  rw [List.map_map]
  exact this
theorem pcs_get {t : Tr} {p : List Int} {u : Tr} (h : getI ((t.pps []).map iPT) p = some u) : ∃ q, (q, u) ∈ t.pps [] ∧ toI q = p := by
  unfold getI at h
  obtain ⟨y, hy, rfl⟩ := Option.map_eq_some_iff.mp h
  have m := List.mem_of_find?_eq_some hy
  have e := List.find?_some hy
  simp only [decide_eq_true_eq] at e
  obtain ⟨z, mz, rfl⟩ := List.mem_map.mp m
  exact ⟨z.1, mz, e⟩
theorem pcs_has {t : Tr} {x : List Nat × Tr} (m : x ∈ t.pps []) : getI ((t.pps []).map iPT) (toI x.1) = some x.2 := getI_mem (pcs_nd t) (List.mem_map.mpr ⟨x, m, rfl⟩)
theorem getI_pt_in {M : List Pt} {p : List Int} {kr : Str × D} (h : getI M p = some kr) : (p, kr) ∈ M := by
  unfold getI at h
  obtain ⟨y, hy, rfl⟩ := Option.map_eq_some_iff.mp h
  have e := List.find?_some hy
  simp only [decide_eq_true_eq] at e
  rw [← e]
  exact List.mem_of_find?_eq_some hy
theorem fst_po (M : List Pt) : (M.map poOf).map (·.1) = M.map (·.1) := by rw [List.map_map]; rfl
theorem law_core {b : Bk} {t : Tr} {k : Str} {n : Nat} (L : List Po) (et : b.treeOf k = some t) :
    isPlanN b (n + 1) (.tuple [.str k, .tuple (L.map encPo)]) = (decide (Rise (L.map (·.1))) && ((t.pps []).all (mOk L) && L.all (lOk b t n))) := by
  rw [Bool.eq_iff_iff]
  constructor
  · intro h
    unfold isPlanN at h
    dsimp only at h
    cases hp : putsP (.tuple (L.map encPo)) with
    | none => rw [hp] at h; cases h
    | some M =>
      rw [hp, et] at h
      dsimp only at h
      rw [Bool.and_eq_true] at h
      obtain ⟨hw, ha⟩ := h
      obtain ⟨r1, _, r3⟩ := goP_rising (show goP none (L.map encPo) = some M from hp)
      have eL := map_pt_po r1
      subst eL
      have nd := rising_nodup r3
      unfold wellB at hw
      rw [Bool.and_eq_true, List.all_eq_true, List.all_eq_true] at hw
      rw [List.all_eq_true] at ha
      rw [Bool.and_eq_true, Bool.and_eq_true, decide_eq_true_eq, fst_po]
      refine ⟨r3, List.all_eq_true.mpr fun u mu => ?_, List.all_eq_true.mpr fun y my => ?_⟩
      · have o := hw.1 u mu
        unfold okAt at o
        unfold mOk
        rw [fst_po]
        cases g : getI M (toI u.1) with
        | none => rw [g] at o; rw [show u.2.must = false by simpa using o]; rfl
        | some kr =>
          have := getI_pt_in g
          rw [decide_eq_true (List.mem_map.mpr ⟨_, this, rfl⟩), Bool.or_true]
      · obtain ⟨x, mx, rfl⟩ := List.mem_map.mp my
        have pl := hw.2 x mx
        rw [decide_eq_true_eq] at pl
        rw [← pps_places, List.map_map] at pl
        obtain ⟨u, mu, eu⟩ := List.mem_map.mp pl
        have eu : toI u.1 = x.1 := eu
        have gu := pcs_has mu
        rw [eu] at gu
        unfold lOk
        rw [show (poOf x).1 = x.1 from rfl, gu]
        dsimp only
        rw [show (poOf x).2 = krD x.2 from rfl, ha x mx, show key0 (krD x.2) = some x.2.1 from rfl]
        have o := hw.1 u mu
        unfold okAt at o
        rw [eu, getI_mem (u := x.2) nd mx] at o
        exact o
  · intro h
    rw [Bool.and_eq_true, Bool.and_eq_true, decide_eq_true_eq, List.all_eq_true, List.all_eq_true] at h
    obtain ⟨r, hm, hl⟩ := h
    have ex : ∃ M : List Pt, L = M.map poOf := by
      clear r hm
      induction L with
      | nil => exact ⟨[], rfl⟩
      | cons x L ih =>
        obtain ⟨M, rfl⟩ := ih fun y my => hl y (by simp [my])
        have hx := hl x (by simp)
        unfold lOk at hx
        split at hx
        · cases hx
        · rw [Bool.and_eq_true] at hx
          obtain ⟨kk, hk⟩ := isPlan_key hx.1
          obtain ⟨rr, er⟩ := key0_kr hk
          exact ⟨(x.1, kk, rr) :: M, by rw [List.map_cons]; congr 1; exact Prod.ext rfl er⟩
    obtain ⟨M, rfl⟩ := ex
    rw [fst_po] at r
    have nd := rising_nodup r
    have hp : putsP (.tuple ((M.map poOf).map encPo)) = some M := by
      show goP none _ = _
      rw [List.map_map, show encPo ∘ poOf = encPt from funext poOf_enc]
      exact goP_back M none (fun _ _ => rfl) r
    unfold isPlanN
    dsimp only
    rw [hp, et]
    dsimp only
    have lo : ∀ x ∈ M, ∃ u, u ∈ t.pps [] ∧ toI u.1 = x.1 ∧ isPlanN b n (krD x.2) = true ∧ x.2.1 ∈ b.takers u.2 := fun x mx => by
      have hx := hl (poOf x) (List.mem_map_of_mem mx)
      unfold lOk at hx
      split at hx
      · cases hx
      · rename_i u hu
        rw [Bool.and_eq_true, show (poOf x).2 = krD x.2 from rfl, show key0 (krD x.2) = some x.2.1 from rfl] at hx
        obtain ⟨q, mq, eq⟩ := pcs_get hu
        exact ⟨(q, u), mq, eq, hx.1, of_decide_eq_true hx.2⟩
    rw [Bool.and_eq_true, List.all_eq_true]
    refine ⟨?_, fun x mx => by obtain ⟨_, _, _, q, _⟩ := lo x mx; exact q⟩
    unfold wellB
    rw [Bool.and_eq_true, List.all_eq_true, List.all_eq_true]
    constructor
    · intro u mu
      unfold okAt
      cases g : getI M (toI u.1) with
      | none =>
        have hu := hm u mu
        unfold mOk at hu
        rw [fst_po] at hu
        have : toI u.1 ∉ M.map (·.1) := fun m => by
          obtain ⟨x, mx, ex⟩ := List.mem_map.mp m
          rw [← ex, getI_mem (u := x.2) nd mx] at g
          cases g
        rw [decide_eq_false this, Bool.or_false] at hu
        exact hu
      | some kr =>
        have := getI_pt_in g
        obtain ⟨v, mv, ev, _, tk⟩ := lo _ this
        have e2 : v.2 = u.2 := by
          have h1 := pcs_has mv
          have h2 := pcs_has mu
          rw [show toI v.1 = toI u.1 from ev, h2] at h1
          exact (Option.some.inj h1).symm
        rw [e2] at tk
        exact decide_eq_true tk
    · intro x mx
      obtain ⟨u, mu, eu, _, _⟩ := lo x mx
      rw [decide_eq_true_eq, ← pps_places, List.map_map]
      exact List.mem_map.mpr ⟨u, mu, eu⟩
theorem plan_bad {b : Bk} {n : Nat} {k : Str} {ds : List D} (h : ds.all lputB = false) : isPlanN b (n + 1) (.tuple [.str k, .tuple ds]) = false := by
  cases q : isPlanN b (n + 1) (.tuple [.str k, .tuple ds]) with
  | false => rfl
  | true =>
    exfalso
    unfold isPlanN at q
    dsimp only at q
    cases hp : putsP (.tuple ds) with
    | none => rw [hp] at q; cases q
    | some M =>
      obtain ⟨r1, _, _⟩ := goP_rising (show goP none ds = some M from hp)
      rw [r1] at h
      have : (M.map encPt).all lputB = true := List.all_eq_true.mpr fun d md => by
        obtain ⟨x, _, rfl⟩ := List.mem_map.mp md
        exact po_lput (poOf x)
      rw [this] at h
      cases h
/-- what the law's is_plan may be asked of -/
def preQ : Nat → D → Prop
  | 0, d => ∀ k ps, d ≠ .tuple [.str k, ps]
  | n + 1, d => ∀ k ps, d = .tuple [.str k, ps] → PyData.strOk k = true ∧ ∀ xs, ps = .tuple xs → xs.length ≤ 60 ∧ ∀ x ∈ xs, ∀ ns o, x = .tuple [.tuple ns, o] → ns.length ≤ 1000 ∧ preQ n o
theorem preQ.p : ∀ {n : Nat} {d : D}, preQ n d → preP n d
  | 0, _, h => h
  | n + 1, d, h => fun k ps L e hL => by
    obtain ⟨_, h2⟩ := h k ps e
    have pe : ps = .tuple (L.map encPt) := by
      unfold putsP at hL
      split at hL
      · obtain ⟨r1, _, _⟩ := goP_rising hL
        rw [r1]
      · cases hL
    obtain ⟨l, q⟩ := h2 _ pe
    rw [List.length_map] at l
    refine ⟨by omega, fun x mx => ?_⟩
    obtain ⟨_, r⟩ := q _ (List.mem_map_of_mem mx) (x.1.map .int) (krD x.2) rfl
    refine ⟨?_, preQ.p r⟩
    cases n with
    | zero => exact absurd rfl (r x.2.1 x.2.2)
    | succ n => exact (r x.2.1 x.2.2 rfl).1
end GM
namespace GM
open PySem L2 GS
def LIsPlanSp (h n : Nat) (F : FF) : Prop := ∀ (b : Bk) (d : D), BkZ h b → BkN h b → (b.trees.map (·.1)).Nodup → preQ n d → F [some ⟨b.enc, .sh⟩, some ⟨d, .sh⟩] = .ok (.sh (.bool (isPlanN b n d))) [none, none]
theorem tree_filter {b : Bk} (nd : (b.trees.map (·.1)).Nodup) (k : Str) : (b.trees.filter fun p => decide (p.1 = k)).map (fun p => p.2.enc) = match b.treeOf k with | none => [] | some t => [t.enc] := by
  cases e : b.treeOf k with
  | none =>
    dsimp only
    rw [List.map_eq_nil_iff, List.filter_eq_nil_iff]
    intro p mp h
    rw [decide_eq_true_eq] at h
    have := treeOf_mem nd mp
    rw [h, e] at this
    cases this
  | some t =>
    dsimp only
    have m := treeOf_in e
    suffices H : ∀ ts : List (Str × Tr), (ts.map (·.1)).Nodup → (k, t) ∈ ts → (ts.filter fun p => decide (p.1 = k)) = [(k, t)] by rw [H _ nd m]; rfl
    intro ts
    induction ts with
    | nil => intro _ m; cases m
    | cons x ts ih =>
      intro nd m
      rw [List.map_cons, List.nodup_cons] at nd
      rw [List.filter_cons]
      rcases List.mem_cons.mp m with rfl | m
      · rw [if_pos (decide_eq_true rfl), List.filter_eq_nil_iff.mpr]
        intro p mp h
        rw [decide_eq_true_eq] at h
        exact nd.1 (List.mem_map.mpr ⟨p, mp, h⟩)
      · have : ¬ x.1 = k := fun e => nd.1 (List.mem_map.mpr ⟨_, m, e.symm⟩)
        rw [if_neg (by simpa using this)]
        exact ih nd.2 m
theorem okW_Is (l : List (List Int)) : okW (.list (l.map encI)) = true := okW_of (by
  rw [cleanB]
  refine cleanL_of fun d m => ?_
  obtain ⟨p, mp, rfl⟩ := List.mem_map.mp m
  unfold encI
  rw [cleanB]
  refine cleanL_of fun d m => ?_
  obtain ⟨k, mk, rfl⟩ := List.mem_map.mp m
  rfl) (by
  have := depthAll_of (ds := l.map encI) (n := 1) fun d m => by
    obtain ⟨p, mp, rfl⟩ := List.mem_map.mp m
    unfold encI
    have := depthAll_of (ds := p.map PyData.int) (n := 0) fun d m => by
      obtain ⟨k, mk, rfl⟩ := List.mem_map.mp m
      simp [PyData.depth]
    rw [PyData.depth]
    omega
  rw [PyData.depth]
  omega)
theorem eqv_Is (l m : List (List Int)) : PyData.eqv (.list (l.map encI)) (.list (m.map encI)) = decide (l = m) := by
  rw [PyData.eqv]
  induction l generalizing m with
  | nil => cases m <;> simp [PyData.eqvAll]
  | cons a p ih =>
    cases m with
    | nil => simp [PyData.eqvAll]
    | cons b q =>
      rw [List.map_cons, List.map_cons, PyData.eqvAll, ih, eqv_I]
      by_cases h1 : a = b <;> by_cases h2 : p = q <;> simp [h1, h2]
theorem tupsI_Is (l : List (List Int)) : tupsI (l.map encI) = some l := by
  induction l with
  | nil => rfl
  | cons a l ih =>
    have ei : intsL (a.map PyData.int) = some a := by
      induction a with
      | nil => rfl
      | cons x a ih => rw [List.map_cons]; unfold intsL; rw [ih]; rfl
    rw [List.map_cons]
    unfold encI tupsI
    rw [ei, show tupsI (l.map fun p => PyData.tuple (p.map .int)) = some l from ih]
theorem ne_ss (l : List (List Int)) : eqB true (.list (l.map encI)) (.list ((ssL l).map encTI)) = some (.sh (.bool (!decide (Rise l)))) := by
  rw [show (encTI : List Int → D) = encI from rfl, eqB_of true (okW_Is l) (okW_Is _), eqv_Is, Bool.true_xor]
  congr 4
  exact decide_eq_decide.mpr ⟨fun e => ssL_self.mp e.symm, fun r => (ssL_self.mpr r).symm⟩
theorem in_Is (neg : Bool) (p : List Int) (l : List (List Int)) : inB neg (encI p) (.list (l.map encI)) = some (.sh (.bool (neg ^^ decide (p ∈ l)))) := by
  have ok : okEq (.list (l.map encI)) = true := okEq_of (by
    rw [cleanB]
    refine cleanL_of fun d m => ?_
    obtain ⟨p, mp, rfl⟩ := List.mem_map.mp m
    unfold encI
    rw [cleanB]
    refine cleanL_of fun d m => ?_
    obtain ⟨k, mk, rfl⟩ := List.mem_map.mp m
    rfl) (by
    have := depthAll_of (ds := l.map encI) (n := 1) fun d m => by
      obtain ⟨p, mp, rfl⟩ := List.mem_map.mp m
      unfold encI
      have := depthAll_of (ds := p.map PyData.int) (n := 0) fun d m => by
        obtain ⟨k, mk, rfl⟩ := List.mem_map.mp m
        simp [PyData.depth]
      rw [PyData.depth]
      omega
    rw [PyData.depth]
    omega)
  rw [inB_l, okEq_I, ok, Bool.true_and, if_pos rfl]
  congr 4
  rw [List.any_map]
  clear ok
  induction l with
  | nil => rfl
  | cons q ps ih =>
    rw [List.any_cons, ih]
    show (PyData.eqv (encI q) (encI p) || _) = _
    rw [eqv_I]
    by_cases h : q = p
    · simp [h]
    · have : ¬ p = q := fun e => h e.symm
      simp [h, this]
theorem must_enc (u : Tr) : ∃ w r, u.enc = .tuple (.str w :: r) ∧ (decide (w = Str.ofString "hole") = true → u.must = true) ∧
    (decide (w = Str.ofString "hole") = false → decide (w = Str.ofString "knot") = false → u.must = false) ∧
    (decide (w = Str.ofString "hole") = false → decide (w = Str.ofString "knot") = true → (∃ a c, r = [a, .none, c] ∧ u.must = false) ∨ ∃ a n m c, r = [a, .tuple [.str n, .bool m], c] ∧ u.must = m) := by
  cases u with
  | knot n tk ks =>
    refine ⟨Str.ofString "knot", _, enc_knot n tk ks, fun h => absurd h (by decide +kernel), fun _ h => absurd h (by decide +kernel), fun _ _ => ?_⟩
    cases tk with
    | none => exact .inl ⟨_, _, rfl, rfl⟩
    | some w => obtain ⟨m, c⟩ := w; exact .inr ⟨_, m, c, _, rfl, rfl⟩
  | hole n => exact ⟨Str.ofString "hole", _, by rw [Tr.enc], fun _ => rfl, fun h => absurd h (by decide +kernel), fun h => absurd h (by decide +kernel)⟩
  | foot n => exact ⟨Str.ofString "foot", _, by rw [Tr.enc], fun h => absurd h (by decide +kernel), fun _ _ => rfl, fun _ h => absurd h (by decide +kernel)⟩
  | sign n => exact ⟨Str.ofString "sign", _, by rw [Tr.enc], fun h => absurd h (by decide +kernel), fun _ _ => rfl, fun _ h => absurd h (by decide +kernel)⟩
  | void => exact ⟨Str.ofString "void", _, by rw [Tr.enc], fun h => absurd h (by decide +kernel), fun _ _ => rfl, fun _ h => absurd h (by decide +kernel)⟩
section
variable {Ft Fi Fp Fu : FF}
theorem loop_must (b : Bk) (d tl : D) (t : Tr) (L : List Po) : forL (gN 5) (m_law_is_plan_b2 Ft Fi Fp Fu) ((t.pps []).map fun x => encP x.1) [some ⟨b.enc, .sh⟩, some ⟨d, .sh⟩, some ⟨tl, .ow⟩, some ⟨.list ((L.map (·.1)).map encI), .ow⟩, some ⟨dPcs t, .sh⟩, none, none, none, none, none, none] =
    if (t.pps []).all (mOk L) then .nx [some ⟨b.enc, .sh⟩, some ⟨d, .sh⟩, some ⟨tl, .ow⟩, some ⟨.list ((L.map (·.1)).map encI), .ow⟩, some ⟨dPcs t, .sh⟩, none, none, none, none, none, none] else .rt (.sh (.bool false)) [none, none, none, none, none, none, none, none, none, none, none] :=
  forL_look _ _ _ (mOk L) _ (t.pps []) fun x mx => by
    have i1 := ix_pcs (p := x.1) (u := x.2) mx
    have i2 := in_Is true (toI x.1) (L.map (·.1))
    rw [← encP_I] at i2
    obtain ⟨w, r, e, h1, h2, h3⟩ := must_enc x.2
    rw [e] at i1
    have pe : ∃ ds, encP x.1 = .tuple ds := ⟨_, rfl⟩
    unfold mOk
    generalize PyData.list ((L.map (·.1)).map encI) = LL at i2 ⊢
    generalize dPcs t = PP at i1 ⊢
    cases q1 : decide (w = Str.ofString "hole") with
    | true =>
      have := h1 q1
      rw [decide_eq_true_eq] at q1
      cases q2 : decide (toI x.1 ∈ L.map (·.1)) <;> rw [q2] at i2 <;> simp [m_law_is_plan_b2, i1, q1, this, i2]
    | false =>
      cases q2 : decide (w = Str.ofString "knot") with
      | false =>
        have := h2 q1 q2
        rw [decide_eq_false_iff_not] at q1 q2
        simp [m_law_is_plan_b2, i1, q1, q2, this]
      | true =>
        rcases h3 q1 q2 with ⟨a, c, rfl, hm⟩ | ⟨a, n, m, c, rfl, hm⟩
        · rw [decide_eq_false_iff_not] at q1
          rw [decide_eq_true_eq] at q2
          have ne := q1
          rw [q2] at ne
          simp [m_law_is_plan_b2, i1, q2, hm, ne]
        · rw [decide_eq_false_iff_not] at q1
          rw [decide_eq_true_eq] at q2
          have ne := q1
          rw [q2] at ne
          cases m
          · simp [m_law_is_plan_b2, i1, q2, hm, ne]
          · cases q3 : decide (toI x.1 ∈ L.map (·.1)) <;> rw [q3] at i2 <;> simp [m_law_is_plan_b2, i1, q2, hm, i2, ne]
theorem loop_puts {h n : Nat} {b : Bk} (B : BkZ h b) (BN : BkN h b) (nd : (b.trees.map (·.1)).Nodup) (hi : LIsPlanSp h n Fi) (ht : LTakers h Ft) (d tl : D) {t : Tr} (ot : t.ok = true) (L : List Po) (hL : ∀ x ∈ L, preQ n x.2) (wp : D) :
    forL (gT 2 (gsC (gN 5) (gsC (gN 8) gsN))) (m_law_is_plan_b1 Ft Fi Fp Fu) (L.map encPo) [some ⟨b.enc, .sh⟩, some ⟨d, .sh⟩, some ⟨tl, .ow⟩, some ⟨wp, .ow⟩, some ⟨dPcs t, .sh⟩, none, none, none, none, none, none] =
    if L.all (lOk b t n) then .nx [some ⟨b.enc, .sh⟩, some ⟨d, .sh⟩, some ⟨tl, .ow⟩, some ⟨wp, .ow⟩, some ⟨dPcs t, .sh⟩, none, none, none, none, none, none] else .rt (.sh (.bool false)) [none, none, none, none, none, none, none, none, none, none, none] :=
  forL_look _ _ _ (lOk b t n) _ L fun x mx => by
    have f := hi b x.2 B BN nd (hL x mx)
    have i1 : ∀ neg, inB neg (encI x.1) (dPcs t) = some (.sh (.bool (neg ^^ ((getI ((t.pps []).map iPT) x.1).map Tr.enc).isSome))) := fun neg => by
      unfold dPcs
      rw [inB_d, isK_I, (mixB_I Tr.enc _ _).1, (mixB_I Tr.enc _ x.1).2, dGet_I]; rfl
    have i2 : ixA (dPcs t) (encI x.1) = ((getI ((t.pps []).map iPT) x.1).map Tr.enc).map Hd.sh := by
      unfold dPcs
      rw [ixA_d, isK_I, if_pos rfl, dGet_I]
    have pe : ∃ ds, encI x.1 = .tuple ds := ⟨_, rfl⟩
    unfold lOk encPo
    cases hg : getI ((t.pps []).map iPT) x.1 with
    | none =>
      rw [hg] at i1 i2
      generalize dPcs t = PP at i1 i2 ⊢
      simp [m_law_is_plan_b1, i1]
    | some u =>
      rw [hg] at i1 i2
      obtain ⟨q, mq, _⟩ := pcs_get hg
      have ou : u.ok = true := piece_ok ot u (by rw [← pps_snd t []]; exact List.mem_map.mpr ⟨_, mq, rfl⟩)
      have f3 := ht b u BN ou
      generalize dPcs t = PP at i1 i2 ⊢
      dsimp only
      cases qi : isPlanN b n x.2 with
      | false => rw [qi] at f; simp [m_law_is_plan_b1, i1, f]
      | true =>
        rw [qi] at f
        obtain ⟨k, hk⟩ := isPlan_key qi
        obtain ⟨r, er⟩ := key0_kr hk
        rw [hk]
        have so : PyData.strOk k = true := by
          have := hL x mx
          rw [er] at this
          cases n with
          | zero => cases qi
          | succ n => exact (this k r rfl).1
        have i3 := in_strsQ true so (takers_so B.s.so u)
        have ix : ixA x.2 (.int 0) = some (.sh (.str k)) := by rw [er]; simp [krD]
        cases q3 : decide (k ∈ b.takers u) <;> rw [q3] at i3 <;> simp [m_law_is_plan_b1, i1, i2, f, f3, i3, ix, q3]
theorem law_is_plan_ok {h n : Nat} (hh : h ≤ 900) (ht : LTakers h Ft) (hi : ∀ m, m + 1 = n → LIsPlanSp h m Fi) (hp : AllP h Fp) (hu : LPutSp Fu) : LIsPlanSp h n (fnF 11 2 (m_law_is_plan Ft Fi Fp Fu)) := fun b d B BN nd pq => by
  rw [m_law_is_plan_eq]
  by_cases sh : ∃ k ps, d = .tuple [.str k, ps]
  · obtain ⟨k, ps, rfl⟩ := sh
    cases n with
    | zero => exact absurd rfl (pq k ps)
    | succ n =>
      obtain ⟨so, px⟩ := pq k ps rfl
      have lc1 := lcL_up (vs := [9, 10]) (g := gT 2 (gsC (gN 9) (gsC (gN 10) gsN))) (ft := eNox (m_law_is_plan_ct6 Ft Fi Fp Fu)) (fe := eNox (m_law_is_plan_ce7 Ft Fi Fp Fu)) [some ⟨b.enc, .sh⟩, some ⟨.tuple [.str k, ps], .sh⟩, none, none, none, none, none, none, none, none, none] encKT
        (fun p => [some ⟨b.enc, .sh⟩, some ⟨.tuple [.str k, ps], .sh⟩, none, none, none, none, none, none, none, some ⟨.str p.1, .sh⟩, some ⟨p.2.enc, .sh⟩]) (fun p => decide (p.1 = k)) (fun p => p.2.enc) b.trees [] (fits (by have := B.s.ok.len; simp; omega)) (fun p mp => by
          refine ⟨by simp [encKT], ?_, by simp, fun _ => by simp [m_law_is_plan_ce7]⟩
          simp [m_law_is_plan_ct6])
      rw [List.nil_append, tree_filter nd] at lc1
      have ix := ix_trees b
      cases et : b.treeOf k with
      | none =>
        rw [et] at lc1
        dsimp only at lc1
        have ip : isPlanN b (n + 1) (.tuple [.str k, ps]) = false := by
          unfold isPlanN
          dsimp only
          rw [et]
          cases putsP ps <;> rfl
        rw [ip]
        generalize b.enc = be at lc1 ix ⊢
        simp [m_law_is_plan, isTup, isStr, ix, lc1]
      | some t =>
        rw [et] at lc1
        dsimp only at lc1
        have mt := treeOf_in et
        by_cases st : ∃ ds, ps = .tuple ds
        · obtain ⟨ds, rfl⟩ := st
          obtain ⟨hl, hx⟩ := px ds rfl
          have lc2 := lcL_up (vs := [8]) (g := gN 8) (ft := eNox (m_law_is_plan_ct4 Ft Fi Fp Fu)) (fe := eNox (m_law_is_plan_ce5 Ft Fi Fp Fu)) [some ⟨b.enc, .sh⟩, some ⟨.tuple [.str k, .tuple ds], .sh⟩, some ⟨.list [t.enc], .ow⟩, none, none, none, none, none, none, none, none] (fun d : D => d)
            (fun d => [some ⟨b.enc, .sh⟩, some ⟨.tuple [.str k, .tuple ds], .sh⟩, some ⟨.list [t.enc], .ow⟩, none, none, none, none, none, some ⟨d, .sh⟩, none, none]) (fun d => !lputB d) (fun d => d) ds [] (fits (by simp; omega)) (fun d md => by
              have f := hu d (fun ns o e => by have := (hx d md ns o e).1; omega)
              refine ⟨by simp, ?_, by simp, fun _ => by simp [m_law_is_plan_ce5]⟩
              cases q : lputB d <;> rw [q] at f <;> simp [m_law_is_plan_ct4, f])
          rw [List.map_id'' (f := fun d : D => d) (fun _ => rfl) ds, List.nil_append] at lc2
          generalize hf : ((ds.filter fun d => !lputB d).map fun d => d) = fl at lc2
          have fl0 : fl.length = (ds.filter fun d => !lputB d).length := by rw [← hf]; simp
          have e0 : (fl.length = 0) ↔ ds.all lputB = true := by
            rw [fl0, List.length_eq_zero_iff, List.filter_eq_nil_iff, List.all_eq_true]
            simp
          cases qa : ds.all lputB with
          | false =>
            have n1 : ¬ fl.length = 0 := fun z => by rw [e0.mp z] at qa; cases qa
            have n2 : (0 : Int) < (fl.length : Int) := by omega
            have n3 : fl ≠ [] := fun z => n1 (by rw [z]; rfl)
            rw [plan_bad qa]
            generalize b.enc = be at lc1 lc2 ix ⊢
            generalize t.enc = te at lc1 lc2 ⊢
            simp [m_law_is_plan, isTup, isStr, ix, lc1, lc2, n1, n2, n3]
          | true =>
            have fz : fl = [] := List.eq_nil_of_length_eq_zero (e0.mpr qa)
            rw [fz] at lc2
            obtain ⟨L, rfl⟩ := lputs_po qa
            rw [List.length_map] at hl
            have lc3 := lcL_all (vs := [5, 8]) (g := gT 2 (gsC (gN 5) (gsC (gN 8) gsN))) (fe := eNox (m_law_is_plan_ce3 Ft Fi Fp Fu)) [some ⟨b.enc, .sh⟩, some ⟨.tuple [.str k, .tuple (L.map encPo)], .sh⟩, some ⟨.list [t.enc], .ow⟩, none, none, none, none, none, none, none, none] encPo
              (fun x => [some ⟨b.enc, .sh⟩, some ⟨.tuple [.str k, .tuple (L.map encPo)], .sh⟩, some ⟨.list [t.enc], .ow⟩, none, none, some ⟨encI x.1, .sh⟩, none, none, some ⟨x.2, .sh⟩, none, none]) (fun x => encI x.1) L [] (fits (by simp; omega)) (fun x mx => by
                have pe : ∃ ds, encI x.1 = .tuple ds := ⟨_, rfl⟩
                refine ⟨by simp [encPo], by simp, by simp [m_law_is_plan_ce3]⟩)
            rw [List.nil_append, show (L.map fun x => encI x.1) = (L.map (·.1)).map encI by rw [List.map_map]; rfl] at lc3
            have f1 := ne_ss (L.map (·.1))
            have f2 : ssD (.list ((L.map (·.1)).map encI)) = some (.fr (.list ((ssL (L.map (·.1))).map encTI))) := by
              unfold ssD
              dsimp only
              rw [tupsI_Is]
              dsimp only
              rw [if_pos (by rw [List.length_map]; omega)]
            have f3 := hp t [] (B.s.ok.ht _ mt) (by have := B.s.ok.sz _ mt; exact this) (by have := B.s.ok.ht _ mt; simp; dsimp only at this; omega)
            have f4 := dict_pcs t
            have lm := loop_must (Ft := Ft) (Fi := Fi) (Fp := Fp) (Fu := Fu) b (.tuple [.str k, .tuple (L.map encPo)]) (.list [t.enc]) t L
            have lp := loop_puts (Ft := Ft) (Fi := Fi) (Fp := Fp) (Fu := Fu) B BN nd (hi n rfl) ht (.tuple [.str k, .tuple (L.map encPo)]) (.list [t.enc]) (BN.ok _ mt) L (fun x mx => (hx _ (List.mem_map_of_mem mx) (x.1.map .int) x.2 rfl).2) (.list ((L.map (·.1)).map encI))
            have ik : items (dPcs t) = some ((t.pps []).map fun x => encP x.1) := by
              show (if xnB (((t.pps []).map iPT).map (kvI Tr.enc)) then none else some ((((t.pps []).map iPT).map (kvI Tr.enc)).map (·.1))) = _
              rw [(mixB_I Tr.enc _ []).2, if_neg Bool.false_ne_true, List.map_map, List.map_map]
              congr 1
              refine List.map_congr_left fun x _ => ?_
              rw [encP_I]
              rfl
            rw [law_core L et]
            have e00 : encP [] = .tuple [] := rfl
            rw [e00] at f3
            have dd : ∃ qs, dPcs t = .dict qs := ⟨_, rfl⟩
            generalize PyData.list ((ssL (L.map (·.1))).map encTI) = SS at f1 f2
            generalize (L.map (·.1)).map encI = WW at f1 f2 lc3 lm lp
            generalize (t.pps []).map encPT = PL at f3 f4
            generalize ((t.pps []).map fun x => encP x.1) = KK at ik lm
            generalize dPcs t = PP at f4 lm lp ik dd
            generalize L.map encPo = LL at lc1 lc2 lc3 lm lp ⊢
            generalize b.enc = be at lc1 lc2 lc3 lm lp ix ⊢
            generalize t.enc = te at lc1 lc2 lc3 lm lp f3 ⊢
            obtain ⟨qs, rfl⟩ := dd
            have sq : ∀ ρ, seqR (.sh (.dict qs)) ρ = .ok KK ρ := fun ρ => by unfold seqR; simp [getH, ik]
            cases q1 : decide (Rise (L.map (·.1))) with
            | false =>
              rw [q1] at f1
              simp [m_law_is_plan, isTup, isStr, ix, lc1, lc2, lc3, f1, f2, eSS]
            | true =>
              rw [q1] at f1
              rw [Bool.true_and]
              cases q2 : (t.pps []).all (mOk L) with
              | false =>
                rw [q2] at lm
                simp [m_law_is_plan, isTup, isStr, ix, lc1, lc2, lc3, f1, f2, eSS, f3, f4, sq, lm]
              | true =>
                rw [q2] at lm
                rw [Bool.true_and]
                cases q3 : L.all (lOk b t n) <;> rw [q3] at lp <;> simp [m_law_is_plan, isTup, isStr, ix, lc1, lc2, lc3, f1, f2, eSS, f3, f4, sq, lm, lp]
        · have ip : isPlanN b (n + 1) (.tuple [.str k, ps]) = false := by
            unfold isPlanN
            dsimp only
            have : putsP ps = none := by
              cases ps with
              | tuple ds => exact absurd ⟨ds, rfl⟩ st
              | _ => rfl
            rw [this]
          rw [ip]
          generalize b.enc = be at lc1 ix ⊢
          generalize t.enc = te at lc1 ⊢
          cases ps with
          | tuple ds => exact absurd ⟨ds, rfl⟩ st
          | _ => simp [m_law_is_plan, isTup, isStr, ix, lc1]
  · rw [isPlan_no (fun k ps e => sh ⟨k, ps, e⟩)]
    cases d with
    | tuple ds =>
      match ds, sh with
      | [], _ => simp [m_law_is_plan, isTup]
      | [a], _ => simp [m_law_is_plan, isTup]
      | u :: v :: w :: r, _ =>
        have z : ¬ ((r.length : Int) + 1 + 1 + 1 = 2) := by omega
        simp [m_law_is_plan, isTup, z]
      | [a, ps], sh =>
        cases a with
        | str k => exact absurd ⟨k, ps, rfl⟩ sh
        | _ => simp [m_law_is_plan, isTup, isStr]
    | _ => simp [m_law_is_plan, isTup]
end
end GM
namespace GM
open PySem L2 GS
/-- _law_deeper(book, cell); slots 0:book 1:cell 2:found 3:k 4:kids 5:turn 6:key 7:tree -/
def m_law_deeper_2_b1 : SF := (sKill [5] (sSet 4 (eTup (aCons (eTup (aCons (eC (.str (Str.ofString "knot"))) (aCons (eBin ixA (eLst (aCons (eC (.str (Str.ofString "S1"))) (aCons (eC (.str (Str.ofString "S2"))) (aCons (eC (.str (Str.ofString "Z"))) aNil)))) (eVb 5)) (aCons (eC .none) (aCons (eMv 4) aNil))))) aNil))))
def m_law_deeper_2_b2 : SF := (sKill [3, 4, 5, 6, 7] (sSeq (sUnp (gT 2 (gsC (gN 6) (gsC (gN 7) gsN))) (eBin ixA (eBin ixA (eVb 0) (eC (.int 1))) (eVb 3))) (sSeq (sSet 4 (eBin ixA (eVb 7) (eC (.int 3)))) (sSeq (sFor (iR1 (eBin modD (eBin divD (eBin modD (eBin powD (eBin addD (eBin addD (eBin modD (eVb 1) (eC (.int 1000003))) (eBin mulD (eC (.int 7919)) (eVb 3))) (eC (.int 1))) (eC (.int 5))) (eC (.int 2147483647))) (eC (.int 8))) (eC (.int 4)))) (gN 5) (m_law_deeper_2_b1)) (sApp 2 (eTup (aCons (eMv 6) (aCons (eBin addD (eSl (eVb 7) none (some (eC (.int 3)))) (eTup (aCons (eMv 4) aNil))) aNil))))))))
def m_law_deeper_2 : SF := (sSeq (sSet 2 (eLst aNil)) (sSeq (sFor (iR1 (eCB (un1 lenD) (aCons (eBin ixA (eVb 0) (eC (.int 1))) aNil))) (gN 3) (m_law_deeper_2_b2)) (sEnd (sRet (eTup (aCons (eBin ixA (eVb 0) (eC (.int 0))) (aCons (eCB (un1 tupleD) (aCons (eVb 2) aNil)) aNil)))))))
theorem m_law_deeper_2_eq (ρ : Rho) : fnF 8 2 (m_law_deeper_2) ρ = finR 2 (m_law_deeper_2 (ρ ++ [none, none, none, none, none, none])) := fnF_eq 8 2 _
end GM
namespace GW
open PySem L2 GS GM
def WmB : Tr → Bool
  | .hole n => decide (n ∈ nm3)
  | .knot _ tk _ => wtk tk
  | _ => true
theorem wm_of {u : Tr} (h : WnB u = true) : WmB u = true := by
  cases u with
  | hole n => exact h
  | knot n tk ks => rw [WnB, Bool.and_eq_true] at h; exact h.2
  | _ => rfl
structure TreeW (h : Nat) (t : Tr) : Prop where
  ok : t.ok = true
  kn : t.isKnot = true
  feet : t.feet.length ≤ 1
  ht : t.ht ≤ h
  sz : t.pieces.length ≤ 50
  wn : ∀ u ∈ t.pieces, WmB u = true
structure NWx (t : Tr) : Prop where
  w : NoW t
structure BookW (h : Nat) (b : Bk) : Prop where
  len : b.trees.length ≤ 11
  pos : 6 ≤ b.trees.length
  nd : (b.trees.map (·.1)).Nodup
  keys : ∀ p ∈ b.trees, p.1 ∈ baseK ++ moreK
  trees : ∀ p ∈ b.trees, TreeW h p.2
  base : Base b.trees
  bs : ∀ p ∈ b.trees, p.1 ∈ baseK → NWx p.2
theorem BookW.bkN {h : Nat} {b : Bk} (B : BookW h b) : BkN h b := ⟨⟨by have := B.len; omega, fun p m => (B.trees p m).ht, fun p m => by have := (B.trees p m).sz; omega, fun p m => kn_nv (B.trees p m).kn⟩, fun p m => (B.trees p m).feet, fun p m => (B.trees p m).ok, fun p m => (B.trees p m).kn⟩
theorem key_so : ∀ k ∈ baseK ++ moreK, PyData.strOk k = true := by decide +kernel
theorem BookW.bkZ {h : Nat} {b : Bk} (B : BookW h b) : BkZ h b := ⟨⟨B.bkN.bk, fun p m => key_so _ (B.keys p m)⟩, fun p m => by have := (B.trees p m).sz; omega⟩
theorem must_wn {u : Tr} (h : WmB u = true) (m : u.must = true) : ∃ g n, u.want = some (g, n, true) ∧ n ∈ nm3 := by
  cases u with
  | hole n => exact ⟨false, n, rfl, by simpa [WmB] using h⟩
  | knot n tk ks =>
    cases tk with
    | none => cases m
    | some w =>
      obtain ⟨x, c⟩ := w
      cases c with
      | false => cases m
      | true => exact ⟨true, x, rfl, by have h := h; simp [WmB, wtk] at h; exact h⟩
  | _ => cases m
theorem base_taker {h : Nat} {b : Bk} (B : BookW h b) {u : Tr} (w : WmB u = true) (m : u.must = true) : ∃ k ∈ b.takers u, k ∈ baseK := by
  obtain ⟨g, n, hw, hn⟩ := must_wn w m
  cases g with
  | false =>
    obtain ⟨p, mp, bk, e1, e2⟩ := B.base.st n hn
    exact ⟨p.1, mem_takers hw mp e1 e2, bk⟩
  | true =>
    obtain ⟨p, mp, bk, e1, e2⟩ := B.base.gr n hn
    exact ⟨p.1, mem_takers hw mp e1 e2, bk⟩
def PlanGen (n : Nat) (F : FF) : Prop := ∀ (h : Nat) (b : Bk) (ns : List Int) (a kx : Nat) (l : Nat) (key : Str), BookW h b → h ≤ 100 → key ∈ b.trees.map (·.1) → rankP l key ≤ n → l ≤ 1000 → ∃ (q : Pl) (a' : Nat),
  F [some ⟨stD ns a (some kx), .io⟩, some ⟨b.enc, .sh⟩, some ⟨.str key, .sh⟩, some ⟨.int l, .sh⟩] = .ok (.sh q.enc) [some ⟨stD ns a' (some ((kx + q.size : Nat) : Int)), .io⟩, none, none, none] ∧ GoodP b n (kx + 1) key q
section
variable {Fp Fl Ft Fc : FF}
/-- those of the sixQ alone, or all -/
theorem some_val {h : Nat} {b : Bk} (B : BookW h b) (u : Tr) (wu : WmB u = true) (ns : List Int) (a kx l : Nat) (key : Str) (c : Int) (ps : List (List Nat × Pl)) (x6 x7 x9 : Option Cel) : ∃ sm : List Str, (∀ k ∈ sm, k ∈ b.takers u) ∧ sm.length ≤ 11 ∧ (l = 0 ∨ 5 < kx → ∀ k ∈ sm, k ∈ baseK) ∧ (u.must = true → sm ≠ []) ∧
    sIf (eOr (eB (eBin (eqB false) (eVb 3) (eC (.int 0)))) (eOr (eB (eBin (eqB false) (eBin modD (eVb 4) (eC (.int 3))) (eC (.int 2)))) (eB (eBin (ltI fun i j => decide (j < i)) (eBin ixA (eVb 0) (eC (.str (Str.ofString "keys")))) (eC (.int 5)))))) (sSet 8 (eLc [10] (iSq (eMv 8)) (gN 10) (eNox (m_law_plan_ct1 Fp Fl Ft Fc)) (eNox (m_law_plan_ce2 Fp Fl Ft Fc)))) sNil
      (stP ns a kx b key l c ps x6 x7 (some ⟨.list ((b.takers u).map .str), .ow⟩) x9 none) = .nx (stP ns a kx b key l c ps x6 x7 (some ⟨.list (sm.map .str), .ow⟩) x9 none) := by
  have tl : (b.takers u).length ≤ 11 := Nat.le_trans (takers_len b u) B.len
  have ek := st_keys ns a kx
  by_cases q : l = 0 ∨ c % 3 = 2 ∨ 5 < kx
  · refine ⟨(b.takers u).filter fun k => decide (k ∈ baseK), fun k m => (List.mem_filter.mp m).1, Nat.le_trans (List.length_filter_le _ _) tl, fun _ k m => by simpa using (List.mem_filter.mp m).2, fun m e => ?_, ?_⟩
    · obtain ⟨k, mk, bk⟩ := base_taker B wu m
      have : k ∈ (b.takers u).filter fun k => decide (k ∈ baseK) := List.mem_filter.mpr ⟨mk, by simpa using bk⟩
      rw [e] at this
      cases this
    · have hl := lcL_up (vs := [10]) (g := gN 10) (ft := eNox (m_law_plan_ct1 Fp Fl Ft Fc)) (fe := eNox (m_law_plan_ce2 Fp Fl Ft Fc)) (stP ns a kx b key l c ps x6 x7 (some ⟨.list ((b.takers u).map .str), .sh⟩) x9 none) PyData.str
        (fun k => stP ns a kx b key l c ps x6 x7 (some ⟨.list ((b.takers u).map .str), .sh⟩) x9 (some ⟨.str k, .sh⟩)) (fun k => decide (k ∈ baseK)) PyData.str (b.takers u) [] (fits (by simp; omega)) (fun k _ => by
          refine ⟨by simp [stP], ?_, by simp [stP], fun _ => by simp [stP, m_law_plan_ce2]⟩
          have bq : ∀ x : Str, (x == k) = decide (k = x) := fun x => by
            by_cases e : k = x
            · simp [e]
            · have e' : ¬ x = k := fun z => e z.symm
              simp [e, e']
          rw [← six_base]
          simp [stP, m_law_plan_ct1, flatD, PyData.eqv, sixQ, bq])
      rw [List.nil_append] at hl
      unfold stP at hl ⊢
      generalize stD ns a (some kx) = sd at ek hl ⊢
      generalize (b.takers u).map PyData.str = tks at hl ⊢
      generalize ((b.takers u).filter fun k => decide (k ∈ baseK)).map PyData.str = fks at hl ⊢
      by_cases q1 : l = 0
      · simp [q1] at hl ⊢
        simp [hl]
      · by_cases q2 : c % 3 = 2
        · simp [q1, q2, hl]
        · have q3 : (5 : Int) < kx := by omega
          simp [q1, q2, ek, q3, hl]
  · refine ⟨b.takers u, fun k m => m, tl, fun h => ?_, fun m e => ?_, ?_⟩
    · exact absurd (h.elim .inl fun h => .inr (.inr h)) q
    · obtain ⟨k, mk, _⟩ := base_taker B wu m
      rw [e] at mk
      cases mk
    · have q1 : ¬ l = 0 := fun e => q (.inl e)
      have q2 : ¬ c % 3 = 2 := fun e => q (.inr (.inl e))
      have q3 : ¬ (5 : Int) < kx := fun e => q (.inr (.inr (by omega)))
      unfold stP
      generalize stD ns a (some kx) = sd at ek ⊢
      simp [q1, q2, ek, q3]
end
section
variable {Fp Fl Ft Fc : FF}
/-- one piece: nothing, or a plan -/
theorem plan_turn {n h : Nat} {b : Bk} (B : BookW h b) (hh : h ≤ 100) (ht : LTakers h Ft) (hl : ∀ m, m + 1 = n → PlanGen m Fl) (ns : List Int) (a kx l : Nat) (key : Str) (c : Int) (ps : List (List Nat × Pl)) (p : List Nat) (u : Tr)
    (ou : u.ok = true) (wu : WmB u = true) (hb : key ∈ baseK → noW u = true) (hr : key ∉ baseK → l + 1 ≤ n) (hl0 : l ≤ 1000) (hps : ps.length ≤ 1000) :
    ∃ ρ', optR (gT 2 (gsC (gN 6) (gsC (gN 7) gsN)) (encPT (p, u)) (stP ns a kx b key l c ps none none none none none)) (m_law_plan_b3 Fp Fl Ft Fc) = .nx ρ' ∧
      ((u.must = false ∧ ρ' = stP ns a kx b key l c ps none none none none none) ∨
       ∃ (q : Pl) (a' : Nat), ρ' = stP ns a' (kx + q.size) b key l (c / 5 + 1) (ps ++ [(p, q)]) none none none none none ∧ q.key ∈ b.takers u ∧ (l = 0 ∨ 5 < kx → q.key ∈ baseK) ∧ key ∉ baseK ∧ GoodP b (n - 1) (kx + 1) q.key q) := by
  obtain ⟨sm, s1, s2, s3, s4, s5⟩ := some_val (Fp := Fp) (Fl := Fl) (Ft := Ft) (Fc := Fc) B u wu ns a kx l key c ps (some ⟨encP p, .sh⟩) (some ⟨u.enc, .sh⟩) (some ⟨.bool u.must, .sh⟩)
  have et := ht b u B.bkN ou
  have eg : gT 2 (gsC (gN 6) (gsC (gN 7) gsN)) (encPT (p, u)) (stP ns a kx b key l c ps none none none none none) = some (stP ns a kx b key l c ps (some ⟨encP p, .sh⟩) (some ⟨u.enc, .sh⟩) none none none) := by simp [stP, encPT]
  rw [eg, optR_s]
  -- the first three steps
  have st1 : sSet 8 (eCall 2 none Ft (aCons (eMv 1) (aCons (eMv 7) aNil))) (stP ns a kx b key l c ps (some ⟨encP p, .sh⟩) (some ⟨u.enc, .sh⟩) none none none) = .nx (stP ns a kx b key l c ps (some ⟨encP p, .sh⟩) (some ⟨u.enc, .sh⟩) (some ⟨.list ((b.takers u).map .str), .ow⟩) none none) := by
    unfold stP
    generalize stD ns a (some kx) = sd
    simp [et]
  have zk : (b.takers u = []) → u.must = false := fun e => by
    cases hm : u.must with
    | false => rfl
    | true =>
      obtain ⟨k, mk, _⟩ := base_taker B wu hm
      rw [e] at mk
      cases mk
  by_cases q : u.must = true ∨ (sm ≠ [] ∧ 0 < l ∧ 0 < c / 3 % 3)
  · -- put
    have hne : sm ≠ [] := q.elim s4 fun h => h.1
    have hlen : 0 < sm.length := List.length_pos_iff.mpr hne
    have hm0 := Int.emod_nonneg (c / 9) (show (sm.length : Int) ≠ 0 by omega)
    have hm1 := Int.emod_lt_of_pos (c / 9) (show (0 : Int) < (sm.length : Int) by omega)
    obtain ⟨j, hj⟩ : ∃ j : Nat, c / 9 % (sm.length : Int) = j := ⟨(c / 9 % (sm.length : Int)).toNat, by omega⟩
    have hjl : j < sm.length := by omega
    have ej : L2.atI (sm.map PyData.str) (j : Int) = some (.str (sm[j])) := by
      rw [atI_nat (xs := sm.map PyData.str) (j := j) (v := .str (sm[j])) (by simp [hjl])]
    have mk : sm[j] ∈ sm := List.getElem_mem hjl
    generalize sm[j] = k at ej mk
    have mkt := s1 k mk
    obtain ⟨tk, mtk⟩ := takers_keys mkt
    have nb : key ∉ baseK := fun e => by
      have := want_no (hb e)
      unfold Bk.takers at mkt
      rw [this] at mkt
      cases mkt
    have hn := hr nb
    obtain ⟨qp, a', e, G⟩ := hl (n - 1) (by omega) h b ns a kx (l - 1) k B hh (List.mem_map.mpr ⟨_, mtk, rfl⟩) (by
      unfold rankP
      split
      · omega
      · rename_i nk
        have : ¬ l = 0 := fun e => nk (s3 (.inl e) k mk)
        omega) (by omega)
    have hmax : (if (l : Int) - 1 > 0 then (l : Int) - 1 else 0) = ((l - 1 : Nat) : Int) := by split <;> omega
    have hmD : maxD (.int 0) (.int ((l : Int) - 1)) = some (.sh (.int ((l - 1 : Nat) : Int))) := by
      show some _ = _
      rw [hmax]
    refine ⟨_, ?_, .inr ⟨qp, a', rfl, by rw [G.key]; exact mkt, fun h => by rw [G.key]; exact s3 h k mk, nb, by rw [G.key]; exact G⟩⟩
    unfold m_law_plan_b3
    refine kill_of (stP ns a' (kx + qp.size) b key l (c / 5 + 1) (ps ++ [(p, qp)]) (some ⟨encP p, .sh⟩) (some ⟨u.enc, .sh⟩) (some ⟨.list (sm.map .str), .ow⟩) (some ⟨.bool u.must, .sh⟩) none) (by simp [stP]) (seq_of _ st1 (seq_of _ (must_val u [] _ _ _ _ _ _ _) (seq_of _ s5 ?_))) (by simp [stP])
    have z1 : ps.length < sizeLine := fitsl (by omega)
    have z0 : (0 : Int) < (sm.length : Int) := by omega
    have cond : (u.must || (decide ((0 : Int) < (sm.length : Int)) && (decide ((0 : Int) < (l : Int)) && decide (0 < c / 3 % 3)))) = true := by
      rcases q with q | ⟨_, q2, q3⟩
      · rw [q]; rfl
      · have q2' : (0 : Int) < (l : Int) := by omega
        rw [decide_eq_true z0, decide_eq_true q2', decide_eq_true q3]; simp
    have e' : Fl [some ⟨stD ns (a : Int) (some (kx : Int)), .io⟩, some ⟨b.enc, .sh⟩, some ⟨.str k, .sh⟩, some ⟨.int ((l - 1 : Nat) : Int), .sh⟩] = .ok (.sh qp.enc) [some ⟨stD ns (a' : Int) (some ((kx + qp.size : Nat) : Int)), .io⟩, none, none, none] := e
    unfold stP
    generalize stD ns (a : Int) (some (kx : Int)) = sd at e' ⊢
    generalize stD ns (a' : Int) (some ((kx + qp.size : Nat) : Int)) = sd' at e' ⊢
    have hx : Pl.encX (p, qp) = .tuple [encP p, qp.enc] := pencX_eq _
    rw [List.map_append, List.map_cons, List.map_nil, hx]
    cases hm : u.must with
    | true => simp [resO_mod z0, hj, ej, hmD, e', z1]
    | false =>
      rw [hm, Bool.false_or, Bool.and_eq_true, Bool.and_eq_true, decide_eq_true_eq, decide_eq_true_eq, decide_eq_true_eq] at cond
      have c1 : 0 < sm.length := hlen
      have c2 : 0 < l := by omega
      simp [cond.2.2, c1, c2, resO_mod z0, hj, ej, hmD, e', z1]
  · -- nothing
    have hm : u.must = false := by
      cases hm : u.must with
      | false => rfl
      | true => exact absurd (.inl hm) q
    refine ⟨_, ?_, .inl ⟨hm, rfl⟩⟩
    unfold m_law_plan_b3
    refine kill_of (stP ns a kx b key l c ps (some ⟨encP p, .sh⟩) (some ⟨u.enc, .sh⟩) (some ⟨.list (sm.map .str), .ow⟩) (some ⟨.bool u.must, .sh⟩) none) (by simp [stP]) (seq_of _ st1 (seq_of _ (must_val u [] _ _ _ _ _ _ _) (seq_of _ s5 ?_))) (by simp [stP])
    unfold stP
    generalize stD ns (a : Int) (some (kx : Int)) = sd
    rw [hm]
    by_cases q1 : sm = []
    · subst q1
      simp
    · have q1' : 0 < sm.length := List.length_pos_iff.mpr q1
      by_cases q2 : 0 < l
      · have q3 : ¬ 0 < c / 3 % 3 := fun e => q (.inr ⟨q1, q2, e⟩)
        simp [q1', q2, q3]
      · simp [q1', q2]
/-- the pieces, one behind the other -/
theorem plan_loop {n h : Nat} {b : Bk} (B : BookW h b) (hh : h ≤ 100) (ht : LTakers h Ft) (hl : ∀ m, m + 1 = n → PlanGen m Fl) (ns : List Int) (l c0 : Nat) (key : Str)
    (hr : key ∉ baseK → l + 1 ≤ n) (hl0 : l ≤ 1000) (hc : 6 ≤ c0 → l = 0) : ∀ (us : List (List Nat × Tr)) (a kx : Nat) (c : Int) (ps : List (List Nat × Pl)), (∀ x ∈ us, x.2.ok = true ∧ WmB x.2 = true ∧ (key ∈ baseK → noW x.2 = true)) → ps.length + us.length ≤ 50 →
      kx = c0 + Pl.sizeL ps → Pl.sizeL ps ≤ 51 * ps.length + 2551 * min (Pl.sizeL ps) (5 - c0) → Pl.depL ps ≤ n → (6 ≤ c0 → Pl.sizeL ps ≤ ps.length) → Pl.nbL ps ≤ min (Pl.sizeL ps) (6 - c0) →
    ∃ (qs : List (List Nat × Pl)) (a' : Nat) (c' : Int), forL (gT 2 (gsC (gN 6) (gsC (gN 7) gsN))) (m_law_plan_b3 Fp Fl Ft Fc) (us.map encPT) (stP ns a kx b key l c ps none none none none none) = .nx (stP ns a' (c0 + Pl.sizeL (ps ++ qs)) b key l c' (ps ++ qs) none none none none none) ∧
      PutsOk b us qs ∧ qs.length ≤ us.length ∧ Pl.sizeL (ps ++ qs) ≤ 51 * (ps ++ qs).length + 2551 * min (Pl.sizeL (ps ++ qs)) (5 - c0) ∧ Pl.depL (ps ++ qs) ≤ n ∧ (6 ≤ c0 → Pl.sizeL (ps ++ qs) ≤ (ps ++ qs).length) ∧ (key ∈ baseK → qs = []) ∧ Pl.nbL (ps ++ qs) ≤ 6 - c0
  | [], a, kx, c, ps, _, _, hk, h1, h2, h3, h4 => ⟨[], a, c, by rw [hk, List.append_nil]; rfl, .nil, Nat.le_refl _, by rw [List.append_nil]; exact h1, by rw [List.append_nil]; exact h2, by rw [List.append_nil]; exact h3, fun _ => rfl, by rw [List.append_nil]; omega⟩
  | (p, u) :: us, a, kx, c, ps, hu, hle, hk, h1, h2, h3, h4 => by
    rw [List.length_cons] at hle
    obtain ⟨ou, wu, bu⟩ := hu (p, u) (by simp)
    obtain ⟨ρ', e, hc'⟩ := plan_turn (Fp := Fp) (Fc := Fc) B hh ht hl ns a kx l key c ps p u ou wu bu hr hl0 (by omega)
    rw [List.map_cons, forL_cons2, e, turnR_nx]
    rcases hc' with ⟨m, rfl⟩ | ⟨q, a1, rfl, mt, qb, nb, G⟩
    · obtain ⟨qs, a', c', r1, r2, r3, r4, r5, r6, r7, r8⟩ := plan_loop B hh ht hl ns l c0 key hr hl0 hc us a kx c ps (fun x mx => hu x (by simp [mx])) (by omega) hk h1 h2 h3 h4
      exact ⟨qs, a', c', r1, .skip m r2, by rw [List.length_cons]; omega, r4, r5, r6, r7, r8⟩
    · have hz := sizeL_snoc ps (p, q)
      have hd := depL_snoc ps (p, q)
      dsimp only at hz hd
      have hn := hr nb
      have Gs := G.size
      have Gd := G.dep
      have hb2 := nbL_snoc ps (p, q)
      dsimp only at hb2
      have Gn := G.nb
      have Gz := nb_size q
      have hone : (l = 0 ∨ 5 < kx) → q.size = 1 := fun h => by
        obtain ⟨t, ht'⟩ := takers_keys mt
        have bq := qb h
        cases G.ok with
        | @mk k t' ps' e1 e2 =>
          have : t' = t := by
            have := treeOf_mem B.nd ht'
            dsimp only [Pl.key] at this
            rw [e1] at this
            exact Option.some.inj this
          subst this
          have nw := B.bs _ ht' bq
          have none : ∀ {vs : List (List Nat × Tr)} {rs : List (List Nat × Pl)}, (∀ x ∈ vs, noW x.2 = true) → PutsOk b vs rs → rs = [] := fun {vs rs} hv r => by
            induction vs generalizing rs with
            | nil => cases r; rfl
            | cons v vs ih =>
              cases r with
              | skip _ r => exact ih (fun x mx => hv x (by simp [mx])) r
              | put m _ _ =>
                have := want_no (hv _ List.mem_cons_self)
                unfold Bk.takers at m
                dsimp only at this
                rw [this] at m
                cases m
          have := none (fun x mx => nw.w x.2 (by rw [← pps_snd t' []]; exact List.mem_map_of_mem mx)) e2
          subst this
          simp [Pl.size, Pl.sizeL]
      obtain ⟨qs, a', c', r1, r2, r3, r4, r5, r6, r7, r8⟩ := plan_loop B hh ht hl ns l c0 key hr hl0 hc us a1 (kx + q.size) (c / 5 + 1) (ps ++ [(p, q)]) (fun x mx => hu x (by simp [mx])) (by simp; omega) (by rw [hz]; omega) (by
          rw [hz, List.length_append, List.length_singleton]
          by_cases h6 : 5 ≤ kx
          · unfold limP at Gs
            rw [if_pos (by omega)] at Gs
            have : min (Pl.sizeL ps) (5 - c0) ≤ min (Pl.sizeL ps + q.size) (5 - c0) := by omega
            have := Nat.mul_le_mul_left 2551 this
            omega
          · unfold limP at Gs
            rw [if_neg (by omega)] at Gs
            have e1 : min (Pl.sizeL ps) (5 - c0) = Pl.sizeL ps := by omega
            have e2 : min (Pl.sizeL ps + q.size) (5 - c0) = Pl.sizeL ps + min q.size (6 - (kx + 1)) := by omega
            rw [e2, Nat.mul_add]
            rw [e1] at h1
            omega) (by rw [hd]; omega) (fun h6 => by rw [hz, List.length_append, List.length_singleton, hone (.inl (hc h6))]; have := h3 h6; omega) (by
          rw [hz, hb2]
          by_cases kb : q.key ∈ baseK
          · rw [if_pos kb] at Gn
            omega
          · rw [if_neg kb] at Gn
            have : ¬ 5 < kx := fun e => kb (qb (.inr e))
            omega)
      rw [List.append_assoc] at r1 r4 r5 r6 r8
      exact ⟨(p, q) :: qs, a', c', r1, .put mt G.ok r2, by simp; omega, r4, r5, r6, fun e => absurd e nb, r8⟩
end
/-- a plan of a tree of the book -/
theorem law_plan_ok {n : Nat} {Fp Fl Ft Fc : FF} (hp : ∀ h, h ≤ 100 → AllP h Fp) (hl : ∀ m, m + 1 = n → PlanGen m Fl) (ht : ∀ h, h ≤ 100 → LTakers h Ft) (hc : CellSp Fc) : PlanGen n (fnF 11 4 (m_law_plan Fp Fl Ft Fc)) := fun h b ns a kx l key B hh mk hr hl0 => by
  obtain ⟨c, a0, h1⟩ := hc ns a (some kx)
  obtain ⟨⟨k', t⟩, mt, rfl⟩ := List.mem_map.mp mk
  have T := B.trees _ mt
  have et := treeOf_mem B.nd mt
  dsimp only at T et hr ⊢
  have e1 := hp h hh t [] T.ht (by have := T.sz; omega) (by simp; have := T.ht; omega)
  have e1' : Fp [some ⟨t.enc, .sh⟩, some ⟨.tuple [], .sh⟩] = .ok (.fr (.list ((t.pps []).map encPT))) [none, none] := e1
  obtain ⟨l', hl', hl1, hl2⟩ : ∃ l' : Nat, (if kx + 1 < 6 then l else 0) = l' ∧ l' ≤ l ∧ (6 ≤ kx + 1 → l' = 0) := ⟨_, rfl, by split <;> omega, fun h => by rw [if_neg (by omega)]⟩
  have hus : ∀ x ∈ t.pps [], x.2.ok = true ∧ WmB x.2 = true ∧ (k' ∈ baseK → noW x.2 = true) := fun x mx => by
    have mp : x.2 ∈ t.pieces := by rw [← pps_snd t []]; exact List.mem_map_of_mem mx
    exact ⟨piece_ok T.ok _ mp, T.wn _ mp, fun bk => (B.bs _ mt bk).w _ mp⟩
  have hpl : (t.pps []).length ≤ 50 := by rw [pps_len]; exact T.sz
  obtain ⟨qs, a', c', r1, r2, r3, r4, r5, r6, r7, r8⟩ := plan_loop (Fp := Fp) (Fc := Fc) B hh (ht h hh) hl ns l' (kx + 1) k' (fun nb => by unfold rankP at hr; rw [if_neg nb] at hr; omega) (by omega) hl2 (t.pps []) a0 (kx + 1) c [] hus (by simpa using hpl) (by simp [Pl.sizeL]) (by simp [Pl.sizeL]) (by simp [Pl.depL]) (by simp [Pl.sizeL]) (by simp [Pl.nbL])
  rw [List.nil_append] at r1 r4 r5 r6 r8
  refine ⟨.mk k' qs, a', ?_, .mk et r2, rfl, by rw [Pl.dep]; omega, ?_, by
    show Pl.nb (.mk k' qs) ≤ if k' ∈ baseK then 0 else max 1 (7 - (kx + 1))
    rw [Pl.nb]
    by_cases kb : k' ∈ baseK
    · rw [if_pos kb, if_pos kb, r7 kb]
      simp [Pl.nbL]
    · rw [if_neg kb, if_neg kb]
      omega⟩
  · rw [m_law_plan_eq]
    unfold m_law_plan
    have ek := st_keys ns a0 kx
    have ek2 := st_keys ns a0 ((kx : Int) + 1)
    have ep := st_put ns a0 kx ((kx : Int) + 1)
    have hix : ixA b.enc (.int 1) = some (.sh (.tuple (b.trees.map encKT))) := ix_trees b
    have hdx := ix_dict et
    have kz : Pl.size (.mk k' qs) = 1 + Pl.sizeL qs := by rw [Pl.size]
    have r1' : forL (gT 2 (gsC (gN 6) (gsC (gN 7) gsN))) (m_law_plan_b3 Fp Fl Ft Fc) ((t.pps []).map encPT) (stP ns a0 (kx + 1) b k' l' c [] none none none none none) = .nx (stP ns a' (kx + (Pl.size (.mk k' qs))) b k' l' c' qs none none none none none) := by
      rw [r1]
      congr 1
      unfold stP
      rw [kz, show kx + 1 + Pl.sizeL qs = kx + (1 + Pl.sizeL qs) by omega]
    rw [penc_eq]
    refine fin_seq [some ⟨stD ns a0 (some kx), .io⟩, some ⟨b.enc, .sh⟩, some ⟨.str k', .sh⟩, some ⟨.int l, .sh⟩, some ⟨.int c, .sh⟩, none, none, none, none, none, none] (by
      generalize stD ns a (some kx) = s0 at h1 ⊢
      generalize stD ns a0 (some kx) = s1 at h1 ⊢
      simp [h1]) ?_
    refine fin_seq [some ⟨stD ns a0 (some ((kx : Int) + 1)), .io⟩, some ⟨b.enc, .sh⟩, some ⟨.str k', .sh⟩, some ⟨.int l, .sh⟩, some ⟨.int c, .sh⟩, none, none, none, none, none, none] (by
      generalize stD ns a0 (some ((kx : Int) + 1)) = s2 at ep ⊢
      generalize stD ns a0 (some kx) = s1 at ek ep ⊢
      simp [ek, ep]) ?_
    refine fin_seq [some ⟨stD ns a0 (some ((kx : Int) + 1)), .io⟩, some ⟨b.enc, .sh⟩, some ⟨.str k', .sh⟩, some ⟨.int l', .sh⟩, some ⟨.int c, .sh⟩, none, none, none, none, none, none] (by
      generalize stD ns a0 (some ((kx : Int) + 1)) = s2 at ek2 ⊢
      by_cases q : kx + 1 < 6
      · rw [if_pos q] at hl'
        have q' : (kx : Int) + 1 < 6 := by omega
        simp [ek2, q', hl']
      · rw [if_neg q] at hl'
        have q' : ¬ (kx : Int) + 1 < 6 := by omega
        simp [ek2, q', ← hl']) ?_
    refine fin_seq (stP ns a0 (kx + 1) b k' l' c [] none none none none none) (by simp [stP]) ?_
    refine fin_seq (stP ns a' (kx + (Pl.size (.mk k' qs))) b k' l' c' qs none none none none none) ?_ ?_
    · rw [← r1']
      unfold stP
      generalize stD ns (a0 : Int) (some ((kx + 1 : Nat) : Int)) = s2
      have hd : ∃ ps, b.dict = .dict ps := ⟨_, rfl⟩
      simp [hix, hdx, e1']
    · unfold stP
      generalize stD ns (a' : Int) (some ((kx + (Pl.size (.mk k' qs)) : Nat) : Int)) = s3
      have z : qs.length < sizeLine := fitsl (by omega)
      simp [Pl.key, Pl.puts]
  · rw [Pl.size]
    unfold limP
    split
    · rename_i h6
      have := r6 h6
      omega
    · rename_i h6
      have e : min (1 + Pl.sizeL qs) (6 - (kx + 1)) = 1 + min (Pl.sizeL qs) (5 - (kx + 1)) := by omega
      rw [e, Nat.mul_add]
      omega
theorem deepK_wm {ks : List Tr} (h : ∀ k ∈ ks, ∀ u ∈ k.pieces, WmB u = true) : ∀ n, ∀ k ∈ deepK n ks, ∀ u ∈ k.pieces, WmB u = true
  | 0 => h
  | n + 1 => fun k m => by
    rw [deepK] at m
    simp only [List.mem_cons, List.not_mem_nil, or_false] at m
    subst m
    intro u mu
    rw [Tr.pieces] at mu
    rcases List.mem_cons.mp mu with rfl | mu
    · rfl
    · rw [piecesL_flat] at mu
      obtain ⟨k, mk, mu⟩ := List.mem_flatMap.mp mu
      exact deepK_wm h n k mk u mu
theorem deep_ok {h : Nat} {t : Tr} (T : GM.TreeOk h t) (h3 : h ≤ 3) {n : Nat} (hn : n ≤ 3) : TreeW (h + 3) (t.deepen n) ∧ (t.deepen n).feet = t.feet ∧ (t.deepen n).word = t.word ∧ (NoW t → NoW (t.deepen n)) := by
  obtain ⟨nm, tk, ks, rfl⟩ := knot_is T.kn
  obtain ⟨o1, o2, o3, o4, o5⟩ := knot_parts T.ok
  obtain ⟨d1, d2, d3⟩ := deepK_ok (okL_of o5) o3 o4 n (by omega)
  have pc := deepK_pc ks n
  have ft : (Tr.knot nm tk (deepK n ks)).feet = (Tr.knot nm tk ks).feet := by rw [feet_knot, feet_knot, deepK_ft]
  have s4 := T.s4
  have hh := T.ht
  rw [pieces_knot] at s4
  rw [Tr.ht] at hh
  have hw := T.wn
  show TreeW (h + 3) (.knot nm tk (deepK n ks)) ∧ _
  refine ⟨⟨?_, rfl, by rw [ft]; exact T.feet, ?_, ?_, fun u mu => ?_⟩, ft, rfl, fun hnw => ?_⟩
  · simp only [Tr.ok, Bool.and_eq_true, decide_eq_true_eq]
    exact ⟨o1, o2, d2, d3, d1⟩
  · rw [Tr.ht, deepK_ht]; omega
  · rw [pieces_knot, pc]; omega
  · rw [Tr.pieces] at mu
    rcases List.mem_cons.mp mu with rfl | mu
    · exact wm_of (u := .knot nm tk ks) hw.self
    · rw [piecesL_flat] at mu
      obtain ⟨k, mk, mu⟩ := List.mem_flatMap.mp mu
      exact deepK_wm (fun k mk u mu => wm_of (knot_all hw k mk u mu)) n k mk u mu
  · intro u mu
    rw [Tr.deepen, Tr.pieces] at mu
    rcases List.mem_cons.mp mu with rfl | mu
    · have := hnw (.knot nm tk ks) (by rw [Tr.pieces]; simp)
      cases tk with
      | none => rfl
      | some w => exact this
    · rw [piecesL_flat] at mu
      obtain ⟨k, mk, mu⟩ := List.mem_flatMap.mp mu
      exact deepK_nw (knot_all hnw) n k mk u mu
def Deep3 (ts us : List (Str × Tr)) : Prop := Paired (fun p q : Str × Tr => q.1 = p.1 ∧ ∃ n, n ≤ 3 ∧ q.2 = p.2.deepen n) ts us
theorem Deep3.keys {ts us : List (Str × Tr)} (h : Deep3 ts us) : us.map (·.1) = ts.map (·.1) := by
  induction h with
  | nil => rfl
  | cons e _ ih => rw [List.map_cons, List.map_cons, ih, e.1]
theorem Deep3.fwd {ts us : List (Str × Tr)} (h : Deep3 ts us) : ∀ p ∈ ts, ∃ q ∈ us, q.1 = p.1 ∧ ∃ n, n ≤ 3 ∧ q.2 = p.2.deepen n := by
  induction h with
  | nil => intro p m; cases m
  | cons e _ ih =>
    intro p m
    rcases List.mem_cons.mp m with rfl | m
    · exact ⟨_, List.mem_cons_self, e⟩
    · obtain ⟨q, mq, r⟩ := ih p m
      exact ⟨q, List.mem_cons_of_mem _ mq, r⟩
theorem Deep3.bwd {ts us : List (Str × Tr)} (h : Deep3 ts us) : ∀ q ∈ us, ∃ p ∈ ts, q.1 = p.1 ∧ ∃ n, n ≤ 3 ∧ q.2 = p.2.deepen n := by
  induction h with
  | nil => intro p m; cases m
  | cons e _ ih =>
    intro p m
    rcases List.mem_cons.mp m with rfl | m
    · exact ⟨_, List.mem_cons_self, e⟩
    · obtain ⟨q, mq, r⟩ := ih p m
      exact ⟨q, List.mem_cons_of_mem _ mq, r⟩
theorem deep_nm {h : Nat} {t : Tr} (T : GM.TreeOk h t) (h3 : h ≤ 3) {n : Nat} (hn : n ≤ 3) : (t.deepen n).isGraft = t.isGraft ∧ (t.deepen n).name = t.name := by
  obtain ⟨_, e1, e2, _⟩ := deep_ok T h3 hn
  unfold Tr.isGraft Tr.name
  rw [e1, e2]
  exact ⟨rfl, rfl⟩
theorem Deep3.ok {b : Bk} (B : GM.BookOk 2 b) {us : List (Str × Tr)} (D : Deep3 b.trees us) : BookW 5 ⟨b.top, us⟩ := by
  have hl : us.length = b.trees.length := by have := congrArg List.length D.keys; simpa using this
  refine ⟨by show us.length ≤ 11; rw [hl]; exact B.len, by show 6 ≤ us.length; rw [hl]; exact B.pos, by show (us.map (·.1)).Nodup; rw [D.keys]; exact B.nd, fun q mq => ?_, fun q mq => ?_, ⟨fun n mn => ?_, fun n mn => ?_⟩, fun q mq kb => ?_⟩
  · obtain ⟨p, mp, e, _⟩ := D.bwd q mq
    rw [e]; exact B.keys p mp
  · obtain ⟨p, mp, e, n, hn, e2⟩ := D.bwd q mq
    rw [e2]; exact (deep_ok (B.trees p mp) (by omega) hn).1
  · obtain ⟨p, mp, bk, r1, r2⟩ := B.base.st n mn
    obtain ⟨q, mq, e, m, hm, e2⟩ := D.fwd p mp
    obtain ⟨g1, g2⟩ := deep_nm (B.trees p mp) (by omega) hm
    exact ⟨q, mq, by rw [e]; exact bk, by rw [e2, g1]; exact r1, by rw [e2, g2]; exact r2⟩
  · obtain ⟨p, mp, bk, r1, r2⟩ := B.base.gr n mn
    obtain ⟨q, mq, e, m, hm, e2⟩ := D.fwd p mp
    obtain ⟨g1, g2⟩ := deep_nm (B.trees p mp) (by omega) hm
    exact ⟨q, mq, by rw [e]; exact bk, by rw [e2, g1]; exact r1, by rw [e2, g2]; exact r2⟩
  · obtain ⟨p, mp, e, n, hn, e2⟩ := D.bwd q mq
    rw [e] at kb
    obtain ⟨_, _, _, w⟩ := deep_ok (B.trees p mp) (by omega) hn
    have bs := B.bs p mp kb
    rw [e2]
    exact ⟨w bs.w⟩
def Deep2Gen (F : FF) : Prop := ∀ (b : Bk) (c : Int), GM.BookOk 2 b → ∃ us : List (Str × Tr), F [some ⟨b.enc, .sh⟩, some ⟨.int c, .sh⟩] = .ok (.sh (Bk.enc ⟨b.top, us⟩)) [none, none] ∧ Deep3 b.trees us
theorem deep_in (x0 x1 x2 x3 x6 x7 : Option Cel) (ks : List Tr) : ∀ n, n ≤ 3 → forL (gN 5) m_law_deeper_2_b1 (rgD 0 n) [x0, x1, x2, x3, some ⟨.tuple (ks.map Tr.enc), .sh⟩, none, x6, x7] = .nx [x0, x1, x2, x3, some ⟨.tuple ((deepK n ks).map Tr.enc), .sh⟩, none, x6, x7]
  | 0, _ => rfl
  | 1, _ => by
    rw [show rgD 0 1 = [.int 0] from rfl]
    simp [forL_cons, m_law_deeper_2_b1, deepK, Tr.enc, encL_map, encTk, dpN]
  | 2, _ => by
    rw [show rgD 0 2 = [.int 0, .int 1] from rfl]
    simp [forL_cons, m_law_deeper_2_b1, deepK, Tr.enc, encL_map, encTk, dpN]
  | 3, _ => by
    rw [show rgD 0 3 = [.int 0, .int 1, .int 2] from rfl]
    simp [forL_cons, m_law_deeper_2_b1, deepK, Tr.enc, encL_map, encTk, dpN]
  | n + 4, h => by omega
theorem deep_turn (b : Bk) (c : Int) (acc : List D) (k : Nat) (p : Str × Tr) (hp : b.trees[k]? = some p) (T : GM.TreeOk 2 p.2) (ha : acc.length ≤ 100) (hl0 : b.trees.length ≤ 11) : ∃ n, n ≤ 3 ∧
    optR (gN 3 (.int (k : Int)) [some ⟨b.enc, .sh⟩, some ⟨.int c, .sh⟩, some ⟨.list acc, .ow⟩, none, none, none, none, none]) m_law_deeper_2_b2 = .nx [some ⟨b.enc, .sh⟩, some ⟨.int c, .sh⟩, some ⟨.list (acc ++ [encKT (p.1, p.2.deepen n)]), .ow⟩, none, none, none, none, none] := by
  obtain ⟨key, t⟩ := p
  dsimp only at T ⊢
  obtain ⟨nm, tk, ks, rfl⟩ := knot_is T.kn
  have ea : L2.atI (b.trees.map encKT) (k : Int) = some (encKT (key, .knot nm tk ks)) := atI_nat (by rw [List.getElem?_map, hp]; rfl)
  have ix := ix_trees b
  have hk : k < b.trees.length := (List.getElem?_eq_some_iff.mp hp).1
  have h1 := Int.emod_nonneg c (show (1000003 : Int) ≠ 0 by decide)
  have h2 := Int.emod_lt_of_pos c (show (0 : Int) < 1000003 by decide)
  have mu : ∀ ρ : Rho, resO (mulD (.int 7919) (.int (k : Int))) ρ = .ok (.sh (.int ((7919 * k : Nat) : Int))) ρ := fun ρ => by
    have : k ≤ 10 := by omega
    match k, this with
    | 0, _ => rfl | 1, _ => rfl | 2, _ => rfl | 3, _ => rfl | 4, _ => rfl | 5, _ => rfl | 6, _ => rfl | 7, _ => rfl | 8, _ => rfl | 9, _ => rfl | 10, _ => rfl
    | k + 11, h => omega
  generalize hz : c % 1000003 = z at h1 h2
  obtain ⟨w, hw, w0, w1⟩ : ∃ w : Int, ((7919 * k : Nat) : Int) = w ∧ 0 ≤ w ∧ w ≤ 100000 := ⟨_, rfl, by omega, by omega⟩
  rw [hw] at mu
  have h3 : ∀ ρ : Rho, resO (powD (.int (z + w + 1)) (.int 5)) ρ = .ok (.sh (.int ((z + w + 1) ^ (5 : Nat)))) ρ := fun ρ => by
    rw [resO_pow (by decide) (by decide) (by omega)]
    rfl
  generalize (z + w + 1) ^ (5 : Nat) = y at h3
  obtain ⟨nr, hnr⟩ : ∃ nr : Int, y % 2147483647 / 8 = nr := ⟨_, rfl⟩
  obtain ⟨n3, hn3, en3⟩ : ∃ n : Nat, n ≤ 3 ∧ nr % 4 = (n : Int) := ⟨(nr % 4).toNat, by omega, by omega⟩
  have zz : acc.length < sizeLine := fitsl (by omega)
  have c3 : ∀ a b c d : D, cutD [a, b, c, d] none (some 3) = [a, b, c] := fun a b c d => cutD_to _ 3
  have s3 : 3 + 1 ≤ sizeLine := by decide
  have okr : okR (n3 : Int) = true := okR_nat (by omega)
  have ek : encKT (key, .knot nm tk ks) = .tuple [.str key, .tuple [.str (Str.ofString "knot"), .str nm, encTk tk, .tuple (ks.map Tr.enc)]] := by unfold encKT; rw [enc_knot]
  rw [ek] at ea
  have fin := deep_in (some ⟨b.enc, .sh⟩) (some ⟨.int c, .sh⟩) (some ⟨.list acc, .ow⟩) (some ⟨.int (k : Int), .sh⟩) (some ⟨.str key, .sh⟩) (some ⟨.tuple [.str (Str.ofString "knot"), .str nm, encTk tk, .tuple (ks.map Tr.enc)], .sh⟩) ks n3 hn3
  refine ⟨n3, hn3, ?_⟩
  have ed : encKT (key, Tr.deepen n3 (.knot nm tk ks)) = .tuple [.str key, .tuple [.str (Str.ofString "knot"), .str nm, encTk tk, .tuple ((deepK n3 ks).map Tr.enc)]] := by
    unfold encKT
    rw [Tr.deepen, enc_knot]
  rw [ed]
  generalize (b.trees.map encKT) = bt at ea ix
  generalize b.enc = be at ix fin ⊢
  generalize (deepK n3 ks).map Tr.enc = dk at fin ⊢
  generalize ks.map Tr.enc = kd at fin ea
  simp [m_law_deeper_2_b2, ix, ea, hz, mu, h3, hnr, en3, okr, fin, c3, s3, zz]
theorem law_deeper_2_ok : Deep2Gen (fnF 8 2 m_law_deeper_2) := fun b c B => by
  have hl := B.len
  obtain ⟨us, hf, hus⟩ := forL_by (S := List (Str × Tr)) (g := gN 3) (b := m_law_deeper_2_b2) (fun us => [some ⟨b.enc, .sh⟩, some ⟨.int c, .sh⟩, some ⟨.list (us.map encKT), .ow⟩, none, none, none, none, none])
    (fun pre us => us.length = pre.length ∧ Deep3 (b.trees.take pre.length) us) (rgD 0 b.trees.length) [] ⟨rfl, .nil⟩ (fun pre d post us hd ⟨g0, g⟩ => by
      obtain ⟨hk, rfl⟩ := rgD_mid hd
      rw [Int.zero_add]
      have hg : b.trees[pre.length]? = some b.trees[pre.length] := List.getElem?_eq_getElem hk
      generalize b.trees[pre.length] = p at hg
      obtain ⟨n, hn, e⟩ := deep_turn b c (us.map encKT) pre.length p hg (B.trees p (List.mem_of_getElem? hg)) (by rw [List.length_map]; omega) hl
      refine ⟨us ++ [(p.1, p.2.deepen n)], ?_, by simp [g0], ?_⟩
      · rw [e, List.map_append]; rfl
      · rw [List.length_append, List.length_singleton, List.take_succ, hg]
        exact Paired.snoc g ⟨rfl, n, hn, rfl⟩)
  rw [rgD_len, List.take_length] at hus
  refine ⟨us, ?_, hus.2⟩
  rw [m_law_deeper_2_eq]
  have okr : okR (b.trees.length : Int) = true := okR_nat (by omega)
  have ix := ix_trees b
  have ix0 := ix_top b
  have hdl : (b.trees.map encKT).length = b.trees.length := List.length_map ..
  rw [show Bk.enc ⟨b.top, us⟩ = .tuple [.str b.top, .tuple (us.map encKT)] from rfl]
  rw [List.map_nil] at hf
  generalize (b.trees.map encKT) = bt at ix hdl
  generalize b.trees.length = bl at hdl okr hf
  generalize b.enc = be at ix ix0 hf
  simp [m_law_deeper_2, ix, ix0, hdl, okr, hf]
end GW
namespace GM
open PySem L2 GS
/-- _law_odd(plan, other, cell); slots 0:plan 1:other 2:cell 3:put 4:some 5:truths 6:key 7:puts 8:near 9:at 10:spot 11:truth 12:place 13:inner 14:one 15:k -/
def m_law_odd_3_ce1 : EF := (eIf (eAnd (eB (eBin (eqB false) (eVb 15) (eVb 10))) (eB (eBin (ltI fun i j => decide (i < j)) (eBin ixA (eVb 12) (eVb 15)) (eC (.int 2))))) (eBin (eqB false) (eBin ixA (eVb 12) (eVb 15)) (eC (.int 1))) (eBin ixA (eVb 12) (eVb 15)))
def m_law_odd_3_ce2 : EF := (eTup (aCons (eBin addD (eVb 12) (eTup (aCons (eC (.int 0)) aNil))) (aCons (eMv 14) aNil)))
def m_law_odd_3_ce3 : EF := (eCB (un1 boolD) (aCons (eVb 14) aNil))
def m_law_odd_3_ce4 : EF := (eTup (aCons (eCB (un1 tupleD) (aCons (eBack 14 (eLc [14] (iSq (eMv 12)) (gN 14) (eNox eYes) (eNox (m_law_odd_3_ce3)))) aNil)) (aCons (eMv 14) aNil)))
def m_law_odd_3 : SF := (sSeq (sUnp (gT 2 (gsC (gN 6) (gsC (gN 7) gsN))) (eMv 0)) (sSeq (sSet 3 (eIf (eB (eBin (ltI fun i j => decide (j < i)) (eCB (un1 lenD) (aCons (eVb 7) aNil)) (eC (.int 0)))) (eBin ixA (eVb 7) (eBin modD (eVb 2) (eCB (un1 lenD) (aCons (eVb 7) aNil)))) (eTup (aCons (eTup aNil) (aCons (eMv 1) aNil))))) (sSeq (sSet 4 (eLst (aCons (eLst (aCons (eMv 6) (aCons (eMv 7) aNil))) (aCons (eTup (aCons (eMv 6) (aCons (eCB (un1 listD) (aCons (eVb 7) aNil)) aNil))) (aCons (eTup (aCons (eMv 6) aNil)) (aCons (eTup (aCons (eMv 6) (aCons (eMv 7) (aCons (eMv 7) aNil)))) (aCons (eTup (aCons (eBin ixA (eVb 1) (eC (.int 0))) (aCons (eMv 7) aNil))) (aCons (eMv 1) (aCons (eTup (aCons (eC (.str (Str.ofString "none"))) (aCons (eMv 7) aNil))) aNil))))))))) (sSeq (sSet 4 (eBin addD (eVb 4) (eLst (aCons (eTup (aCons (eC .none) (aCons (eMv 7) aNil))) (aCons (eTup (aCons (eMv 6) (aCons (eTup aNil) aNil))) (aCons (eTup (aCons (eMv 6) (aCons (eBin addD (eVb 7) (eTup (aCons (eTup (aCons (eTup (aCons (eC (.int 9)) aNil)) (aCons (eMv 1) aNil))) aNil))) aNil))) (aCons (eTup (aCons (eMv 6) (aCons (eBin addD (eVb 7) (eTup (aCons (eTup (aCons (eTup (aCons (eC (.int 0)) (aCons (eC (.int 0)) (aCons (eC (.int 0)) (aCons (eC (.int 7)) aNil))))) (aCons (eMv 1) aNil))) aNil))) aNil))) aNil))))))) (sSeq (sSet 4 (eBin addD (eVb 4) (eLst (aCons (eTup (aCons (eMv 6) (aCons (eSl (eVb 7) (some (eC (.int 1))) none) aNil))) (aCons (eTup (aCons (eMv 6) (aCons (eSl (eVb 7) none (some (eNeg (eC (.int 1))))) aNil))) (aCons (eTup (aCons (eMv 6) (aCons (eBin addD (eVb 7) (eTup (aCons (eMv 3) aNil))) aNil))) (aCons (eTup (aCons (eMv 6) (aCons (eCB (un1 tupleD) (aCons (eLRv (eVb 7)) aNil)) aNil))) aNil))))))) (sSeq (sSet 4 (eBin addD (eVb 4) (eLst (aCons (eTup (aCons (eMv 6) (aCons (eBin addD (eTup (aCons (eTup (aCons (eTup aNil) (aCons (eMv 1) aNil))) aNil)) (eVb 7)) aNil))) (aCons (eTup (aCons (eMv 6) (aCons (eTup (aCons (eBin ixA (eVb 3) (eC (.int 0))) (aCons (eBin ixA (eVb 3) (eC (.int 1))) aNil))) aNil))) (aCons (eTup (aCons (eMv 6) (aCons (eTup (aCons (eC .none) aNil)) aNil))) (aCons (eTup (aCons (eMv 6) (aCons (eTup (aCons (eTup (aCons (eBin ixA (eVb 3) (eC (.int 0))) aNil)) aNil)) aNil))) aNil))))))) (sSeq (sSet 4 (eBin addD (eVb 4) (eLst (aCons (eTup (aCons (eMv 6) (aCons (eTup (aCons (eTup (aCons (eBin ixA (eVb 3) (eC (.int 0))) (aCons (eBin ixA (eVb 3) (eC (.int 1))) (aCons (eC (.int 1)) aNil)))) aNil)) aNil))) (aCons (eC .none) (aCons (eMv 6) (aCons (eTup (aCons (eMv 6) (aCons (eBin addD (eSl (eVb 7) none (some (eNeg (eC (.int 1))))) (eTup (aCons (eTup (aCons (eBin ixA (eVb 3) (eC (.int 0))) (aCons (eMv 1) aNil))) aNil))) aNil))) (aCons (eTup aNil) (aCons (eTup (aCons (eTup (aCons (eMv 6) (aCons (eMv 7) aNil))) aNil)) aNil))))))))) (sSeq (sSet 4 (eBin addD (eVb 4) (eLst (aCons (eTup (aCons (eMv 6) (aCons (eBin addD (eSl (eVb 7) none (some (eNeg (eC (.int 1))))) (eTup (aCons (eTup (aCons (eCB (un1 listD) (aCons (eBin ixA (eVb 3) (eC (.int 0))) aNil)) (aCons (eBin ixA (eVb 3) (eC (.int 1))) aNil))) aNil))) aNil))) (aCons (eTup (aCons (eMv 6) (aCons (eTup (aCons (eTup (aCons (eTup (aCons (eC (.str (Str.ofString "a"))) aNil)) (aCons (eMv 1) aNil))) aNil)) aNil))) aNil))))) (sSeq (sSet 4 (eBin addD (eVb 4) (eLst (aCons (eTup (aCons (eMv 6) (aCons (eBin addD (eTup (aCons (eTup (aCons (eTup (aCons (eNeg (eC (.int 1))) aNil)) (aCons (eBin ixA (eVb 3) (eC (.int 1))) aNil))) aNil)) (eVb 7)) aNil))) (aCons (eTup (aCons (eLst (aCons (eC (.str (Str.ofString "s"))) aNil)) (aCons (eMv 7) aNil))) (aCons (eTup (aCons (eMv 6) (aCons (eTup (aCons (eTup (aCons (eTup (aCons (eLst (aCons (eC (.int 0)) aNil)) aNil)) (aCons (eMv 1) aNil))) aNil)) aNil))) aNil)))))) (sSeq (sApp 4 (eTup (aCons (eMv 6) (aCons (eBin addD (eTup (aCons (eTup (aCons (eTup (aCons (eC (.str (Str.ofString "a"))) aNil)) (aCons (eMv 1) aNil))) aNil)) (eVb 7)) aNil)))) (sSeq (sSet 4 (eBin addD (eVb 4) (eLst (aCons (eTup (aCons (eMv 6) (aCons (eBin addD (eSl (eVb 7) none (some (eNeg (eC (.int 1))))) (eTup (aCons (eLst (aCons (eBin ixA (eVb 3) (eC (.int 0))) (aCons (eBin ixA (eVb 3) (eC (.int 1))) aNil))) aNil))) aNil))) (aCons (eTup (aCons (eMv 6) (aCons (eBin addD (eTup (aCons (eTup (aCons (eTup (aCons (eC (.int 0)) (aCons (eNeg (eC (.int 1))) aNil))) (aCons (eBin ixA (eVb 3) (eC (.int 1))) aNil))) aNil)) (eVb 7)) aNil))) aNil))))) (sSeq (sSet 5 (eLc [12, 14] (iSq (eMv 7)) (gT 2 (gsC (gN 12) (gsC (gN 14) gsN))) (eNox eYes) (eNox (m_law_odd_3_ce4)))) (sSeq (sSet 4 (eBin addD (eVb 4) (eLst (aCons (eTup (aCons (eMv 6) (aCons (eCB (un1 tupleD) (aCons (eVb 5) aNil)) aNil))) (aCons (eTup (aCons (eMv 6) (aCons (eCB (un1 tupleD) (aCons (eLc [12, 14] (iSq (eMv 7)) (gT 2 (gsC (gN 12) (gsC (gN 14) gsN))) (eNox eYes) (eNox (m_law_odd_3_ce2))) aNil)) aNil))) aNil))))) (sSeq (sKill [8, 9, 10, 11, 12, 13] (sIf (eB (eBin (ltI fun i j => decide (j < i)) (eCB (un1 lenD) (aCons (eVb 7) aNil)) (eC (.int 0)))) (sSeq (sSet 8 (eBin divD (eBin modD (eBin powD (eBin addD (eBin modD (eVb 2) (eC (.int 1000003))) (eC (.int 1))) (eC (.int 5))) (eC (.int 2147483647))) (eC (.int 8)))) (sSeq (sSet 9 (eBin modD (eVb 8) (eCB (un1 lenD) (aCons (eVb 7) aNil)))) (sSeq (sSet 4 (eBin addD (eVb 4) (eBin mulL (eLst (aCons (eTup (aCons (eMv 6) (aCons (eBin addD (eSl (eVb 7) none (some (eVb 9))) (eSl (eVb 7) (some (eBin addD (eVb 9) (eC (.int 1)))) none)) aNil))) aNil)) (eC (.int 4))))) (sSeq (sUnp (gT 2 (gsC (gN 12) (gsC (gN 13) gsN))) (eBin ixA (eVb 7) (eVb 9))) (sSeq (sSet 10 (eBin modD (eBin divD (eVb 8) (eC (.int 64))) (eCB (un2 maxD) (aCons (eC (.int 1)) (aCons (eCB (un1 lenD) (aCons (eVb 12) aNil)) aNil))))) (sSeq (sSet 11 (eCB (un1 tupleD) (aCons (eLc [15] (iR1 (eCB (un1 lenD) (aCons (eVb 12) aNil))) (gN 15) (eNox eYes) (eNox (m_law_odd_3_ce1))) aNil))) (sSet 4 (eBin addD (eVb 4) (eBin mulL (eLst (aCons (eTup (aCons (eMv 6) (aCons (eBin addD (eBin addD (eSl (eVb 7) none (some (eVb 9))) (eTup (aCons (eTup (aCons (eMv 11) (aCons (eMv 13) aNil))) aNil))) (eSl (eVb 7) (some (eBin addD (eVb 9) (eC (.int 1)))) none)) aNil))) aNil)) (eC (.int 4))))))))))) sNil)) (sEnd (sRet (eBin ixA (eVb 4) (eBin modD (eBin divD (eVb 2) (eC (.int 7))) (eCB (un1 lenD) (aCons (eVb 4) aNil))))))))))))))))))))
theorem m_law_odd_3_eq (ρ : Rho) : fnF 16 3 (m_law_odd_3) ρ = finR 3 (m_law_odd_3 (ρ ++ [none, none, none, none, none, none, none, none, none, none, none, none, none])) := fnF_eq 16 3 _
end GM
namespace GW
open PySem L2 GS GM
theorem at_in {α : Type} [Inhabited α] {xs : List α} {c n : Int} (h0 : 0 < n) (h : n ≤ xs.length) : ∃ x, L2.atI xs (c % n) = some x ∧ x ∈ xs := by
  have := atI_pick (xs := xs) (i := c % n) (Int.emod_nonneg _ (by omega)) (by have := Int.emod_lt_of_pos c h0; omega)
  exact ⟨_, this.1, this.2⟩
theorem fin_exS {α : Type} {n : Nat} {f g : SF} {ρ : Rho} {Q : α → RE} {P : α → Prop} (ρ' : Rho) (h : f ρ = .nx ρ') (h2 : ∃ r, finR n (g ρ') = Q r ∧ P r) : ∃ r, finR n (sSeq f g ρ) = Q r ∧ P r := by
  obtain ⟨r, e, p⟩ := h2
  exact ⟨r, fin_seq ρ' h e, p⟩
theorem lcL_D {vs : List Nat} {g : D → Rho → Option Rho} {fe : EF} (ρ : Rho) (up : D → Rho) (el : D → D) (xs : List D) (acc : List D) (hl : acc.length + xs.length ≤ sizeLine)
    (k : ∀ a, a ∈ xs → g a ρ = some (up a) ∧ wipeR (up a) vs = ρ ∧ eCap fe (up a) = .ok (.sh (el a)) (up a)) :
    lcL vs g (eNox eYes) fe xs acc ρ = .ok (.fr (.list (acc ++ xs.map el))) ρ := by
  have := lcL_all (vs := vs) (g := g) (fe := fe) ρ (fun d : D => d) up el xs acc hl k
  simpa using this
theorem pq_no {d : D} (h : ∀ k ps, d ≠ .tuple [.str k, ps]) : ∀ n, preQ n d
  | 0 => h
  | _ + 1 => fun k ps e => absurd e (h k ps)
def PutQ (n : Nat) (x : D) : Prop := ∀ ns o, x = .tuple [.tuple ns, o] → ns.length ≤ 1000 ∧ preQ n o
end GW
namespace GM
open PySem L2 GS GW
theorem preQ.up : ∀ {n : Nat} {d : D}, preQ n d → preQ (n + 1) d
  | 0, _, h => GW.pq_no h 1
  | n + 1, d, h => fun k ps e => by
    obtain ⟨h1, h2⟩ := h k ps e
    refine ⟨h1, fun xs ex => ?_⟩
    obtain ⟨l, q⟩ := h2 xs ex
    exact ⟨l, fun x mx ns o eo => ⟨(q x mx ns o eo).1, preQ.up (q x mx ns o eo).2⟩⟩
theorem preQ.ups {n m : Nat} {d : D} (h : preQ n d) (hm : n ≤ m) : preQ m d := by
  induction hm with
  | refl => exact h
  | step _ ih => exact ih.up
end GM
namespace GW
open PySem L2 GS GM
theorem pq_k {n : Nat} {k : Str} {xs : List D} (hk : PyData.strOk k = true) (hl : xs.length ≤ 60) (h : ∀ x ∈ xs, PutQ n x) : preQ (n + 1) (.tuple [.str k, .tuple xs]) := fun k' ps e => by
  injection e with e
  injection e with e1 e
  injection e with e2 _
  injection e1 with e1
  subst e1
  refine ⟨hk, fun xs' ex => ?_⟩
  rw [← e2] at ex
  injection ex with ex
  subst ex
  exact ⟨hl, h⟩
theorem pq_k0 {n : Nat} {k : Str} {d : D} (hk : PyData.strOk k = true) (hd : ∀ xs, d ≠ .tuple xs) : preQ (n + 1) (.tuple [.str k, d]) := fun k' ps e => by
  injection e with e
  injection e with e1 e
  injection e with e2 _
  injection e1 with e1
  subst e1
  exact ⟨hk, fun xs' ex => absurd (e2.trans ex) (hd xs')⟩
theorem pt_mk {n : Nat} {ns : List D} {o : D} (h1 : ns.length ≤ 1000) (h2 : preQ n o) : PutQ n (.tuple [.tuple ns, o]) := fun ns' o' e => by
  injection e with e
  injection e with e1 e
  injection e with e2 _
  injection e1 with e1
  subst e1 e2
  exact ⟨h1, h2⟩
theorem pt_no {n : Nat} {x : D} (h : ∀ ns o, x ≠ .tuple [.tuple ns, o]) : PutQ n x := fun ns o e => absurd e (h ns o)
/-- what is known of the puts -/
structure OddIn (n : Nat) (k : Str) (ps : List (List Nat × Pl)) (O : D) (ok : Str) (oo : D) : Prop where
  k : PyData.strOk k = true
  l : ps.length ≤ 50
  q : ∀ x ∈ ps, x.1.length ≤ 900 ∧ preQ n x.2.enc
  o : O = .tuple [.str ok, oo]
  os : PyData.strOk ok = true
  oq : preQ n O
theorem none_so : PyData.strOk (Str.ofString "none") = true := by decide +kernel
def encNs (p : List Nat) : List D := p.map fun n : Nat => .int (n : Int)
theorem encP_ns (p : List Nat) : encP p = .tuple (encNs p) := rfl
theorem encX_ns (x : List Nat × Pl) : Pl.encX x = .tuple [.tuple (encNs x.1), x.2.enc] := by rw [pencX_eq, encP_ns]
def trD (x : List Nat × Pl) : D := .tuple [.tuple (x.1.map fun n : Nat => .bool ((n : Int) != 0)), x.2.enc]
def z0D (x : List Nat × Pl) : D := .tuple [.tuple (encNs x.1 ++ [.int 0]), x.2.enc]
def trE (p : List Nat) (sp : Int) : D → D
  | .int j => if decide (j = sp) && decide (((p.getD j.toNat 0 : Nat) : Int) < 2) then .bool (decide (((p.getD j.toNat 0 : Nat) : Int) = 1)) else .int ((p.getD j.toNat 0 : Nat) : Int)
  | d => d
theorem trE_i (p : List Nat) (sp : Int) (j : Nat) : trE p sp (.int (j : Int)) = if decide ((j : Int) = sp) && decide (((p.getD j 0 : Nat) : Int) < 2) then .bool (decide (((p.getD j 0 : Nat) : Int) = 1)) else .int ((p.getD j 0 : Nat) : Int) := rfl
theorem rg_mem {n : Nat} {d : D} (h : d ∈ rgD 0 n) : ∃ j : Nat, j < n ∧ d = .int (j : Int) := by
  obtain ⟨pre, post, e⟩ := List.append_of_mem h
  obtain ⟨h1, h2⟩ := rgD_mid e
  exact ⟨pre.length, h1, by rw [h2, Int.zero_add]⟩
theorem pq_put {n : Nat} {k : Str} {ys : List D} (hk : PyData.strOk k = true) (h : ys.length ≤ 60 ∧ ∀ y ∈ ys, PutQ n y) : preQ (n + 1) (.tuple [.str k, .tuple ys]) := pq_k hk h.1 h.2
/-- puts in a row -/
def PsQ (n m : Nat) (ys : List D) : Prop := ys.length ≤ m ∧ ∀ y ∈ ys, PutQ n y
theorem PsQ.nil {n : Nat} : PsQ n 0 [] := ⟨Nat.le_refl _, fun _ m => by cases m⟩
theorem PsQ.one {n : Nat} {y : D} (h : PutQ n y) : PsQ n 1 [y] := ⟨Nat.le_refl _, fun _ m => by rw [List.mem_singleton] at m; subst m; exact h⟩
theorem PsQ.app {n m m' : Nat} {a b : List D} (h : PsQ n m a) (g : PsQ n m' b) : PsQ n (m + m') (a ++ b) := ⟨by have := h.1; have := g.1; rw [List.length_append]; omega, fun y my => (List.mem_append.mp my).elim (h.2 y) (g.2 y)⟩
theorem PsQ.cons {n m : Nat} {a : D} {b : List D} (h : PutQ n a) (g : PsQ n m b) : PsQ n (m + 1) (a :: b) := ⟨by have := g.1; rw [List.length_cons]; omega, fun y my => (List.mem_cons.mp my).elim (fun e => e ▸ h) (g.2 y)⟩
theorem PsQ.k {n m : Nat} {k : Str} {a : List D} (h : PsQ n m a) (hk : PyData.strOk k = true) (hm : m ≤ 60) : preQ (n + 1) (.tuple [.str k, .tuple a]) := pq_k hk (Nat.le_trans h.1 hm) h.2
def AllQ (n : Nat) (S : List D) : Prop := ∀ d ∈ S, preQ n d
theorem AllQ.app {n : Nat} {a b : List D} (h : AllQ n a) (g : AllQ n b) : AllQ n (a ++ b) := fun d m => (List.mem_append.mp m).elim (h d) (g d)
theorem AllQ.nil {n : Nat} : AllQ n [] := fun _ m => by cases m
theorem AllQ.cons {n : Nat} {a : D} {b : List D} (h : preQ n a) (g : AllQ n b) : AllQ n (a :: b) := fun d m => (List.mem_cons.mp m).elim (fun e => e ▸ h) (g d)
def OddSp (n : Nat) (F : FF) : Prop := ∀ (k : Str) (ps : List (List Nat × Pl)) (O : D) (ok : Str) (oo : D) (c : Int), OddIn n k ps O ok oo → ∃ d, F [some ⟨.tuple [.str k, .tuple (ps.map Pl.encX)], .sh⟩, some ⟨O, .sh⟩, some ⟨.int c, .sh⟩] = .ok (.sh d) [none, none, none] ∧ preQ (n + 1) d
/-- what the comprehensions tell -/
def oddR (k : Str) (X : D) (O : D) (c : Int) (P : D) (S : Option Cel) (T x8 x9 x10 x11 x12 x13 : Option Cel) : Rho := [some ⟨.tuple [.str k, X], .sh⟩, some ⟨O, .sh⟩, some ⟨.int c, .sh⟩, some ⟨P, .sh⟩, S, T, some ⟨.str k, .sh⟩, some ⟨X, .sh⟩, x8, x9, x10, x11, x12, x13, none, none]
theorem odd_lcT {n : Nat} {k : Str} {ps : List (List Nat × Pl)} (hl : ps.length ≤ 50) (q : ∀ x ∈ ps, x.1.length ≤ 900 ∧ preQ n x.2.enc) (XT O : D) (c : Int) (P : D) (S : Option Cel) :
    lcL [12, 14] (gT 2 (gsC (gN 12) (gsC (gN 14) gsN))) (eNox eYes) (eNox m_law_odd_3_ce4) (ps.map Pl.encX) [] (oddR k XT O c P S none none none none none none none) = .ok (.fr (.list (ps.map trD))) (oddR k XT O c P S none none none none none none none) := by
  unfold oddR
  have := lcL_all (vs := [12, 14]) (g := gT 2 (gsC (gN 12) (gsC (gN 14) gsN))) (fe := eNox m_law_odd_3_ce4) [some ⟨.tuple [.str k, XT], .sh⟩, some ⟨O, .sh⟩, some ⟨.int c, .sh⟩, some ⟨P, .sh⟩, S, none, some ⟨.str k, .sh⟩, some ⟨XT, .sh⟩, none, none, none, none, none, none, none, none] Pl.encX
      (fun x => [some ⟨.tuple [.str k, XT], .sh⟩, some ⟨O, .sh⟩, some ⟨.int c, .sh⟩, some ⟨P, .sh⟩, S, none, some ⟨.str k, .sh⟩, some ⟨XT, .sh⟩, none, none, none, none, some ⟨.tuple (encNs x.1), .sh⟩, none, some ⟨x.2.enc, .sh⟩, none]) trD ps [] (fits (by simp; omega)) (fun x mx => by
        have q1 := (q x mx).1
        have li := lcL_all (vs := [14]) (g := gN 14) (fe := eNox m_law_odd_3_ce3) [some ⟨.tuple [.str k, XT], .sh⟩, some ⟨O, .sh⟩, some ⟨.int c, .sh⟩, some ⟨P, .sh⟩, S, none, some ⟨.str k, .sh⟩, some ⟨XT, .sh⟩, none, none, none, none, some ⟨.tuple (encNs x.1), .sh⟩, none, none, none] (fun n : Nat => PyData.int (n : Int))
          (fun n => [some ⟨.tuple [.str k, XT], .sh⟩, some ⟨O, .sh⟩, some ⟨.int c, .sh⟩, some ⟨P, .sh⟩, S, none, some ⟨.str k, .sh⟩, some ⟨XT, .sh⟩, none, none, none, none, some ⟨.tuple (encNs x.1), .sh⟩, none, some ⟨.int (n : Int), .sh⟩, none]) (fun n => .bool ((n : Int) != 0)) x.1 [] (fits (by simp; omega)) (fun n mn => by
            refine ⟨by simp, by simp, by simp [m_law_odd_3_ce3, boolD]⟩)
        rw [List.nil_append, show (x.1.map fun n : Nat => PyData.int (n : Int)) = encNs x.1 from rfl] at li
        refine ⟨by rw [encX_ns]; simp, by simp, ?_⟩
        unfold trD
        generalize (x.1.map fun n : Nat => PyData.bool ((n : Int) != 0)) = BB at li ⊢
        generalize encNs x.1 = NN at li ⊢
        simp [m_law_odd_3_ce4, eBack, li])
  rw [this, List.nil_append]
theorem odd_lcZ {n : Nat} {k : Str} {ps : List (List Nat × Pl)} (hl : ps.length ≤ 50) (q : ∀ x ∈ ps, x.1.length ≤ 900 ∧ preQ n x.2.enc) (XT O : D) (c : Int) (P : D) (S T : Option Cel) :
    lcL [12, 14] (gT 2 (gsC (gN 12) (gsC (gN 14) gsN))) (eNox eYes) (eNox m_law_odd_3_ce2) (ps.map Pl.encX) [] (oddR k XT O c P S T none none none none none none) = .ok (.fr (.list (ps.map z0D))) (oddR k XT O c P S T none none none none none none) := by
  unfold oddR
  have := lcL_all (vs := [12, 14]) (g := gT 2 (gsC (gN 12) (gsC (gN 14) gsN))) (fe := eNox m_law_odd_3_ce2) [some ⟨.tuple [.str k, XT], .sh⟩, some ⟨O, .sh⟩, some ⟨.int c, .sh⟩, some ⟨P, .sh⟩, S, T, some ⟨.str k, .sh⟩, some ⟨XT, .sh⟩, none, none, none, none, none, none, none, none] Pl.encX
      (fun x => [some ⟨.tuple [.str k, XT], .sh⟩, some ⟨O, .sh⟩, some ⟨.int c, .sh⟩, some ⟨P, .sh⟩, S, T, some ⟨.str k, .sh⟩, some ⟨XT, .sh⟩, none, none, none, none, some ⟨.tuple (encNs x.1), .sh⟩, none, some ⟨x.2.enc, .sh⟩, none]) z0D ps [] (fits (by simp; omega)) (fun x mx => by
        have q1 := (q x mx).1
        have nl : (encNs x.1).length + 1 ≤ sizeLine := fits (by unfold encNs; rw [List.length_map]; omega)
        refine ⟨by rw [encX_ns]; simp, by simp, ?_⟩
        unfold z0D
        generalize encNs x.1 = NN at nl ⊢
        simp [m_law_odd_3_ce2, nl])
  rw [this, List.nil_append]
theorem odd_lcR {k : Str} (XT O : D) (c : Int) (P : D) (S T : Option Cel) (x8 x9 : Option Cel) (sp : Int) (x13 : Option Cel) (p : List Nat) (hp : p.length ≤ 900) :
    ∃ TT : List D, TT.length = p.length ∧ lcL [15] (gN 15) (eNox eYes) (eNox m_law_odd_3_ce1) (rgD 0 p.length) [] (oddR k XT O c P S T x8 x9 (some ⟨.int sp, .sh⟩) none (some ⟨.tuple (encNs p), .sh⟩) x13) = .ok (.fr (.list TT)) (oddR k XT O c P S T x8 x9 (some ⟨.int sp, .sh⟩) none (some ⟨.tuple (encNs p), .sh⟩) x13) := by
  refine ⟨(rgD 0 p.length).map (trE p sp), by rw [List.length_map, rgD_len], ?_⟩
  unfold oddR
  have := lcL_D (vs := [15]) (g := gN 15) (fe := eNox m_law_odd_3_ce1) [some ⟨.tuple [.str k, XT], .sh⟩, some ⟨O, .sh⟩, some ⟨.int c, .sh⟩, some ⟨P, .sh⟩, S, T, some ⟨.str k, .sh⟩, some ⟨XT, .sh⟩, x8, x9, some ⟨.int sp, .sh⟩, none, some ⟨.tuple (encNs p), .sh⟩, x13, none, none]
      (fun d => [some ⟨.tuple [.str k, XT], .sh⟩, some ⟨O, .sh⟩, some ⟨.int c, .sh⟩, some ⟨P, .sh⟩, S, T, some ⟨.str k, .sh⟩, some ⟨XT, .sh⟩, x8, x9, some ⟨.int sp, .sh⟩, none, some ⟨.tuple (encNs p), .sh⟩, x13, none, some ⟨d, .sh⟩]) (trE p sp) (rgD 0 p.length) [] (fits (by rw [rgD_len]; simp; omega)) (fun d md => by
        obtain ⟨j, hj, rfl⟩ := rg_mem md
        have ea : L2.atI (encNs p) (j : Int) = some (.int ((p.getD j 0 : Nat) : Int)) := atI_nat (by unfold encNs; rw [List.getElem?_map, List.getElem?_eq_getElem hj]; simp [List.getD, List.getElem?_eq_getElem hj])
        refine ⟨by simp, by simp, ?_⟩
        rw [trE_i]
        generalize p.getD j 0 = v at ea ⊢
        generalize encNs p = NN at ea ⊢
        by_cases h1 : (j : Int) = sp
        · by_cases h2 : (v : Int) < 2
          · simp [m_law_odd_3_ce1, ea, h1, h2] at ea ⊢
            simp [ea, h2]
          · subst h1
            simp [m_law_odd_3_ce1, ea, h2]
        · simp [m_law_odd_3_ce1, ea, h1])
  rw [this, List.nil_append]
theorem PsQ.cut {n m : Nat} {a : List D} (h : PsQ n m a) (lo hi : Option Int) : PsQ n m (cutD a lo hi) := ⟨Nat.le_trans (cutD_len a lo hi) h.1, fun y my => h.2 y (cutD_mem my)⟩
theorem PsQ.rev {n m : Nat} {a : List D} (h : PsQ n m a) : PsQ n m a.reverse := ⟨by rw [List.length_reverse]; exact h.1, fun y my => h.2 y (List.mem_reverse.mp my)⟩
theorem AllQ.rep {n : Nat} {d : D} (h : preQ n d) : ∀ k : Nat, AllQ n (List.replicate k [d]).flatten
  | 0 => .nil
  | k + 1 => by rw [List.replicate_succ, List.flatten_cons]; exact .app (.cons h .nil) (AllQ.rep h k)
theorem AllQ.cat {n m l : Nat} {S Z : List D} (h : AllQ n S) (hs : S.length = m) (g : AllQ n Z) (hz : Z.length = l) : ∃ R, R = S ++ Z ∧ AllQ n R ∧ R.length = m + l := ⟨_, rfl, h.app g, by rw [List.length_append, hs, hz]⟩
@[simp] theorem eLRv_eq (fe : EF) (ρ : Rho) : eLRv fe ρ = bindE (eSet fe ρ) fun h ρ1 => match getH ρ1 h with
  | some (.tuple ds) => .ok (.fr (.list ds.reverse)) ρ1
  | _ => .stuck := rfl
theorem fin_exQ {α : Type} {n : Nat} {f g : SF} {ρ : Rho} {Q : α → RE} {P : α → Prop} (W : Rho → Prop) (h : ∃ ρ', f ρ = .nx ρ' ∧ W ρ') (h2 : ∀ ρ', W ρ' → ∃ r, finR n (g ρ') = Q r ∧ P r) : ∃ r, finR n (sSeq f g ρ) = Q r ∧ P r := by
  obtain ⟨ρ', e, w⟩ := h
  exact fin_exS ρ' e (h2 ρ' w)
theorem if_t {T : EF} {A B : SF} {ρ : Rho} {q : RS} (h : T ρ = .ok (.sh (.bool true)) ρ) (h2 : A ρ = q) : sIf T A B ρ = q := by rw [sIf_eq, h]; exact h2
theorem if_f {T : EF} {A B : SF} {ρ : Rho} {q : RS} (h : T ρ = .ok (.sh (.bool false)) ρ) (h2 : B ρ = q) : sIf T A B ρ = q := by rw [sIf_eq, h]; exact h2
theorem law_odd_3_ok (n : Nat) : OddSp n (fnF 16 3 m_law_odd_3) := fun k ps O ok oo c I => by
  have hk := I.k
  have hl := I.l
  have oq := I.oq
  have oqs := oq.up
  have os := I.os
  have ix0 : ixA O (.int 0) = some (.sh (.str ok)) := by rw [I.o]; simp
  have XQ : PsQ n 50 (ps.map Pl.encX) := ⟨by rw [List.length_map]; exact hl, fun x mx => by
    obtain ⟨y, my, rfl⟩ := List.mem_map.mp mx
    rw [encX_ns]
    obtain ⟨q1, q2⟩ := I.q y my
    exact pt_mk (by unfold encNs; rw [List.length_map]; omega) q2⟩
  have TQ : PsQ n 50 (ps.map trD) := ⟨by rw [List.length_map]; exact hl, fun x mx => by
    obtain ⟨y, my, rfl⟩ := List.mem_map.mp mx
    obtain ⟨q1, q2⟩ := I.q y my
    exact pt_mk (by rw [List.length_map]; omega) q2⟩
  have ZQ : PsQ n 50 (ps.map z0D) := ⟨by rw [List.length_map]; exact hl, fun x mx => by
    obtain ⟨y, my, rfl⟩ := List.mem_map.mp mx
    obtain ⟨q1, q2⟩ := I.q y my
    exact pt_mk (by unfold encNs; rw [List.length_append, List.length_map, List.length_singleton]; omega) q2⟩
  have lcT := odd_lcT (k := k) hl I.q (.tuple (ps.map Pl.encX)) O c
  have lcZ := odd_lcZ (k := k) hl I.q (.tuple (ps.map Pl.encX)) O c
  have AT : ∀ (X : List D), X = ps.map Pl.encX → ∀ e : Int, 0 < X.length → ∃ (j : Nat) (p : List Nat) (inn : D), e % (X.length : Int) = (j : Int) ∧ L2.atI X (j : Int) = some (.tuple [.tuple (encNs p), inn]) ∧ p.length ≤ 900 ∧ preQ n inn ∧ PutQ n (.tuple (encNs p)) ∧ PutQ n inn := fun X eX e hX => by
    have lp : (0 : Int) < (X.length : Int) := by omega
    obtain ⟨x, ex, mx⟩ := at_in (xs := X) (c := e) (n := (X.length : Int)) lp (Int.le_refl _)
    have g1 := Int.emod_nonneg e (show (X.length : Int) ≠ 0 by omega)
    rw [eX] at mx
    obtain ⟨y, my, rfl⟩ := List.mem_map.mp mx
    obtain ⟨q1, q2⟩ := I.q y my
    rw [encX_ns] at ex
    obtain ⟨j, hj⟩ : ∃ j : Nat, e % (X.length : Int) = (j : Int) := ⟨(e % (X.length : Int)).toNat, by omega⟩
    rw [hj] at ex
    refine ⟨j, y.1, y.2.enc, hj, ex, q1, q2, ?_, ?_⟩
    · refine pt_no fun ns o e => ?_
      injection e with e
      unfold encNs at e
      match y.1, e with
      | [], e => cases e
      | [_], e => cases e
      | _ :: _ :: _, e => cases e
    · obtain ⟨kk, pp⟩ := y.2
      refine pt_no fun ns o e => ?_
      rw [Pl.enc] at e
      cases e
  have XE : ∃ X, X = ps.map Pl.encX := ⟨_, rfl⟩
  obtain ⟨X, eX⟩ := XE
  have AT := AT X eX
  rw [← eX] at XQ lcT lcZ ⊢
  generalize ps.map trD = TD at TQ lcT
  generalize ps.map z0D = ZD at ZQ lcZ
  clear eX
  rw [m_law_odd_3_eq]
  unfold m_law_odd_3
  have xl := XQ.1
  -- the put
  obtain ⟨pp, PQ, pl, pq, pt1, pt2, eput⟩ : ∃ (pp : List D) (PQ : D), pp.length ≤ 1000 ∧ preQ n PQ ∧ PutQ n (.tuple pp) ∧ PutQ n PQ ∧ sSet 3 (eIf (eB (eBin (ltI fun i j => decide (j < i)) (eCB (un1 lenD) (aCons (eVb 7) aNil)) (eC (.int 0)))) (eBin ixA (eVb 7) (eBin modD (eVb 2) (eCB (un1 lenD) (aCons (eVb 7) aNil)))) (eTup (aCons (eTup aNil) (aCons (eMv 1) aNil))))
      [some ⟨.tuple [.str k, .tuple X], .sh⟩, some ⟨O, .sh⟩, some ⟨.int c, .sh⟩, none, none, none, some ⟨.str k, .sh⟩, some ⟨.tuple X, .sh⟩, none, none, none, none, none, none, none, none] = .nx (oddR k (.tuple X) O c (.tuple [.tuple pp, PQ]) none none none none none none none none) := by
    by_cases hz : X.length = 0
    · have : X = [] := List.eq_nil_of_length_eq_zero hz
      subst this
      exact ⟨[], O, by simp, oq, pt_no (fun ns o e => by cases e), pt_no (fun ns o e => by rw [I.o] at e; cases e), by simp [oddR]⟩
    · obtain ⟨j, p, inn, ej, ea, hp, hq, h3, h4⟩ := AT c (by omega)
      refine ⟨encNs p, inn, by unfold encNs; rw [List.length_map]; omega, hq, h3, h4, ?_⟩
      have lp : (0 : Int) < (X.length : Int) := by omega
      have lp' : 0 < X.length := by omega
      have er : ∀ ρ : Rho, resO (modD (.int c) (.int (X.length : Int))) ρ = .ok (.sh (.int (j : Int))) ρ := fun ρ => by rw [resO_mod lp, ej]
      simp [oddR, lp', er, ea]
  refine fin_exS [some ⟨.tuple [.str k, .tuple X], .sh⟩, some ⟨O, .sh⟩, some ⟨.int c, .sh⟩, none, none, none, some ⟨.str k, .sh⟩, some ⟨.tuple X, .sh⟩, none, none, none, none, none, none, none, none] (by simp) ?_
  refine fin_exS _ eput ?_
  clear eput
  have z10 : ∀ n : Nat, n ≤ 100 → n ≤ sizeLine := fun n h => fits (by omega)
  have z10' : ∀ n : Nat, n ≤ 100 → n < sizeLine := fun n h => fitsl (by omega)
  have zx1 : X.length + 1 ≤ sizeLine := z10 _ (by omega)
  have zx1' : 1 + X.length ≤ sizeLine := z10 _ (by omega)
  have po : ∀ a : List D, a.length ≤ 1000 → PutQ n (.tuple [.tuple a, O]) := fun a h => pt_mk h oq
  have pP : ∀ a : List D, a.length ≤ 1000 → PutQ n (.tuple [.tuple a, PQ]) := fun a h => pt_mk h pq
  -- the list grows
  refine fin_exS (oddR k (.tuple X) O c (.tuple [.tuple pp, PQ]) (some ⟨.list [.list [.str k, .tuple X], .tuple [.str k, .list X], .tuple [.str k], .tuple [.str k, .tuple X, .tuple X], .tuple [.str ok, .tuple X], O, .tuple [.str (Str.ofString "none"), .tuple X]], .ow⟩) none none none none none none none) (by simp [oddR, ix0]) ?_
  have s1 : AllQ (n + 1) [.list [.str k, .tuple X], .tuple [.str k, .list X], .tuple [.str k], .tuple [.str k, .tuple X, .tuple X], .tuple [.str ok, .tuple X], O, .tuple [.str (Str.ofString "none"), .tuple X]] :=
    .cons (pq_no (fun _ _ e => by cases e) _) (.cons (pq_k0 hk fun _ e => by cases e) (.cons (pq_no (fun _ _ e => by cases e) _) (.cons (pq_no (fun _ _ e => by cases e) _) (.cons (XQ.k os (by omega)) (.cons oqs (.cons (XQ.k none_so (by omega)) .nil))))))
  obtain ⟨S1, hS⟩ : ∃ S, S = [.list [.str k, .tuple X], .tuple [.str k, .list X], .tuple [.str k], .tuple [.str k, .tuple X, .tuple X], .tuple [.str ok, .tuple X], O, .tuple [.str (Str.ofString "none"), .tuple X]] := ⟨_, rfl⟩
  have sl1 : S1.length = 7 := by rw [hS]; rfl
  rw [← hS] at s1 ⊢
  clear hS
  have cutl : ∀ lo hi, (cutD X lo hi).length + 1 ≤ sizeLine := fun lo hi => z10 _ (by have := cutD_len X lo hi; omega)
  obtain ⟨Z, hZ⟩ : ∃ Z, Z = [(.tuple [.none, .tuple X] : D), .tuple [.str k, .tuple []], .tuple [.str k, .tuple (X ++ [.tuple [.tuple [.int 9], O]])], .tuple [.str k, .tuple (X ++ [.tuple [.tuple [.int 0, .int 0, .int 0, .int 7], O]])]] := ⟨_, rfl⟩
  have zq : AllQ (n + 1) Z := by rw [hZ]; exact .cons (pq_no (fun _ _ e => by cases e) _) (.cons (PsQ.nil.k hk (by omega)) (.cons ((XQ.app (.one (po [.int 9] (by simp)))).k hk (by omega)) (.cons ((XQ.app (.one (po [.int 0, .int 0, .int 0, .int 7] (by simp)))).k hk (by omega)) .nil)))
  have zl : Z.length = 4 := by rw [hZ]; rfl
  obtain ⟨S2, hR, s2, sl2⟩ := s1.cat sl1 zq zl
  have zs : S1.length + 4 ≤ sizeLine := z10 _ (by omega)
  refine fin_exS (oddR k (.tuple X) O c (.tuple [.tuple pp, PQ]) (some ⟨.list S2, .ow⟩) none none none none none none none) (by rw [hR, hZ]; simp [oddR, zx1, zx1', cutl, zs]) ?_
  clear hR hZ zq zl zs s1 sl1
  obtain ⟨Z, hZ⟩ : ∃ Z, Z = [(.tuple [.str k, .tuple (cutD X (some 1) none)] : D), .tuple [.str k, .tuple (cutD X none (some (-1)))], .tuple [.str k, .tuple (X ++ [.tuple [.tuple pp, PQ]])], .tuple [.str k, .tuple X.reverse]] := ⟨_, rfl⟩
  have zq : AllQ (n + 1) Z := by rw [hZ]; exact .cons ((XQ.cut (some 1) none).k hk (by omega)) (.cons ((XQ.cut none (some (-1))).k hk (by omega)) (.cons ((XQ.app (.one (pt_mk pl pq))).k hk (by omega)) (.cons (XQ.rev.k hk (by omega)) .nil)))
  have zl : Z.length = 4 := by rw [hZ]; rfl
  obtain ⟨S3, hR, s3, sl3⟩ := s2.cat sl2 zq zl
  have zs : S2.length + 4 ≤ sizeLine := z10 _ (by omega)
  refine fin_exS (oddR k (.tuple X) O c (.tuple [.tuple pp, PQ]) (some ⟨.list S3, .ow⟩) none none none none none none none) (by rw [hR, hZ]; simp [oddR, zx1, zx1', cutl, zs]) ?_
  clear hR hZ zq zl zs s2 sl2
  obtain ⟨Z, hZ⟩ : ∃ Z, Z = [(.tuple [.str k, .tuple (.tuple [.tuple [], O] :: X)] : D), .tuple [.str k, .tuple [.tuple pp, PQ]], .tuple [.str k, .tuple [.none]], .tuple [.str k, .tuple [.tuple [.tuple pp]]]] := ⟨_, rfl⟩
  have zq : AllQ (n + 1) Z := by rw [hZ]; exact .cons ((PsQ.cons (po [] (by simp)) XQ).k hk (by omega)) (.cons ((PsQ.cons pt1 (.one pt2)).k hk (by omega)) (.cons ((PsQ.one (pt_no fun _ _ e => by cases e)).k hk (by omega)) (.cons ((PsQ.one (pt_no fun _ _ e => by cases e)).k hk (by omega)) .nil)))
  have zl : Z.length = 4 := by rw [hZ]; rfl
  obtain ⟨S4, hR, s4, sl4⟩ := s3.cat sl3 zq zl
  have zs : S3.length + 4 ≤ sizeLine := z10 _ (by omega)
  refine fin_exS (oddR k (.tuple X) O c (.tuple [.tuple pp, PQ]) (some ⟨.list S4, .ow⟩) none none none none none none none) (by rw [hR, hZ]; simp [oddR, zx1, zx1', cutl, zs]) ?_
  clear hR hZ zq zl zs s3 sl3
  obtain ⟨Z, hZ⟩ : ∃ Z, Z = [(.tuple [.str k, .tuple [.tuple [.tuple pp, PQ, .int 1]]] : D), .none, .str k, .tuple [.str k, .tuple (cutD X none (some (-1)) ++ [.tuple [.tuple pp, O]])], .tuple [], .tuple [.tuple [.str k, .tuple X]]] := ⟨_, rfl⟩
  have zq : AllQ (n + 1) Z := by rw [hZ]; exact .cons ((PsQ.one (pt_no fun _ _ e => by cases e)).k hk (by omega)) (.cons (pq_no (fun _ _ e => by cases e) _) (.cons (pq_no (fun _ _ e => by cases e) _) (.cons (((XQ.cut none (some (-1))).app (.one (po pp pl))).k hk (by omega)) (.cons (pq_no (fun _ _ e => by cases e) _) (.cons (pq_no (fun _ _ e => by cases e) _) .nil)))))
  have zl : Z.length = 6 := by rw [hZ]; rfl
  obtain ⟨S5, hR, s5, sl5⟩ := s4.cat sl4 zq zl
  have zs : S4.length + 6 ≤ sizeLine := z10 _ (by omega)
  refine fin_exS (oddR k (.tuple X) O c (.tuple [.tuple pp, PQ]) (some ⟨.list S5, .ow⟩) none none none none none none none) (by rw [hR, hZ]; simp [oddR, zx1, zx1', cutl, zs]) ?_
  clear hR hZ zq zl zs s4 sl4
  obtain ⟨Z, hZ⟩ : ∃ Z, Z = [(.tuple [.str k, .tuple (cutD X none (some (-1)) ++ [.tuple [.list pp, PQ]])] : D), .tuple [.str k, .tuple [.tuple [.tuple [.str (Str.ofString "a")], O]]]] := ⟨_, rfl⟩
  have zq : AllQ (n + 1) Z := by rw [hZ]; exact .cons (((XQ.cut none (some (-1))).app (.one (pt_no fun _ _ e => by cases e))).k hk (by omega)) (.cons ((PsQ.one (po [.str (Str.ofString "a")] (by simp))).k hk (by omega)) .nil)
  have zl : Z.length = 2 := by rw [hZ]; rfl
  obtain ⟨S6, hR, s6, sl6⟩ := s5.cat sl5 zq zl
  have zs : S5.length + 2 ≤ sizeLine := z10 _ (by omega)
  refine fin_exS (oddR k (.tuple X) O c (.tuple [.tuple pp, PQ]) (some ⟨.list S6, .ow⟩) none none none none none none none) (by rw [hR, hZ]; simp [oddR, zx1, zx1', cutl, zs]) ?_
  clear hR hZ zq zl zs s5 sl5
  obtain ⟨Z, hZ⟩ : ∃ Z, Z = [(.tuple [.str k, .tuple (.tuple [.tuple [.int (-1)], PQ] :: X)] : D), .tuple [.list [.str (Str.ofString "s")], .tuple X], .tuple [.str k, .tuple [.tuple [.tuple [.list [.int 0]], O]]]] := ⟨_, rfl⟩
  have zq : AllQ (n + 1) Z := by rw [hZ]; exact .cons ((PsQ.cons (pP [.int (-1)] (by simp)) XQ).k hk (by omega)) (.cons (pq_no (fun _ _ e => by cases e) _) (.cons ((PsQ.one (po [.list [.int 0]] (by simp))).k hk (by omega)) .nil))
  have zl : Z.length = 3 := by rw [hZ]; rfl
  obtain ⟨S7, hR, s7, sl7⟩ := s6.cat sl6 zq zl
  have zs : S6.length + 3 ≤ sizeLine := z10 _ (by omega)
  refine fin_exS (oddR k (.tuple X) O c (.tuple [.tuple pp, PQ]) (some ⟨.list S7, .ow⟩) none none none none none none none) (by rw [hR, hZ]; simp [oddR, zx1, zx1', cutl, zs]) ?_
  clear hR hZ zq zl zs s6 sl6
  obtain ⟨Z, hZ⟩ : ∃ Z, Z = [(.tuple [.str k, .tuple (.tuple [.tuple [.str (Str.ofString "a")], O] :: X)] : D)] := ⟨_, rfl⟩
  have zq : AllQ (n + 1) Z := by rw [hZ]; exact .cons ((PsQ.cons (po [.str (Str.ofString "a")] (by simp)) XQ).k hk (by omega)) .nil
  have zl : Z.length = 1 := by rw [hZ]; rfl
  obtain ⟨S8, hR, s8, sl8⟩ := s7.cat sl7 zq zl
  have zs : S7.length + 1 ≤ sizeLine := z10 _ (by omega)
  have zs' : S7.length < sizeLine := z10' _ (by omega)
  refine fin_exS (oddR k (.tuple X) O c (.tuple [.tuple pp, PQ]) (some ⟨.list S8, .ow⟩) none none none none none none none) (by rw [hR, hZ]; simp [oddR, zx1, zx1', cutl, zs, zs']) ?_
  clear hR hZ zq zl zs zs' s7 sl7
  obtain ⟨Z, hZ⟩ : ∃ Z, Z = [(.tuple [.str k, .tuple (cutD X none (some (-1)) ++ [.list [.tuple pp, PQ]])] : D), .tuple [.str k, .tuple (.tuple [.tuple [.int 0, .int (-1)], PQ] :: X)]] := ⟨_, rfl⟩
  have zq : AllQ (n + 1) Z := by rw [hZ]; exact .cons (((XQ.cut none (some (-1))).app (.one (pt_no fun _ _ e => by cases e))).k hk (by omega)) (.cons ((PsQ.cons (pP [.int 0, .int (-1)] (by simp)) XQ).k hk (by omega)) .nil)
  have zl : Z.length = 2 := by rw [hZ]; rfl
  obtain ⟨S9, hR, s9, sl9⟩ := s8.cat sl8 zq zl
  have zs : S8.length + 2 ≤ sizeLine := z10 _ (by omega)
  refine fin_exS (oddR k (.tuple X) O c (.tuple [.tuple pp, PQ]) (some ⟨.list S9, .ow⟩) none none none none none none none) (by rw [hR, hZ]; simp [oddR, zx1, zx1', cutl, zs]) ?_
  clear hR hZ zq zl zs s8 sl8
  refine fin_exS (oddR k (.tuple X) O c (.tuple [.tuple pp, PQ]) (some ⟨.list S9, .ow⟩) (some ⟨.list TD, .ow⟩) none none none none none none) (by
    have lt := lcT (.tuple [.tuple pp, PQ]) (some ⟨.list S9, .ow⟩)
    unfold oddR at lt ⊢
    simp [lt]) ?_
  obtain ⟨Z, hZ⟩ : ∃ Z, Z = [(.tuple [.str k, .tuple TD] : D), .tuple [.str k, .tuple ZD]] := ⟨_, rfl⟩
  have zq : AllQ (n + 1) Z := by rw [hZ]; exact .cons (TQ.k hk (by omega)) (.cons (ZQ.k hk (by omega)) .nil)
  have zl : Z.length = 2 := by rw [hZ]; rfl
  obtain ⟨S10, hR, s10, sl10⟩ := s9.cat sl9 zq zl
  have zs : S9.length + 2 ≤ sizeLine := z10 _ (by omega)
  refine fin_exS (oddR k (.tuple X) O c (.tuple [.tuple pp, PQ]) (some ⟨.list S10, .ow⟩) (some ⟨.list TD, .ow⟩) none none none none none none) (by
    have lz := lcZ (.tuple [.tuple pp, PQ]) (some ⟨.list S9, .ow⟩) (some ⟨.list TD, .ow⟩)
    rw [hR, hZ]
    unfold oddR at lz ⊢
    simp [lz, zs]) ?_
  clear hR hZ zq zl zs s9 sl9
  refine fin_exQ (fun ρ' => ∃ R : List D, 0 < R.length ∧ R.length ≤ 60 ∧ AllQ (n + 1) R ∧ ρ' = (oddR k (.tuple X) O c (.tuple [.tuple pp, PQ]) (some ⟨.list R, .ow⟩) (some ⟨.list TD, .ow⟩) none none none none none none)) ?_ ?_
  · by_cases hz : X.length = 0
    · exact ⟨_, kill_of _ (by simp [oddR]) (if_f (by simp [oddR, hz]) rfl) (by simp [oddR]), S10, by omega, by omega, s10, rfl⟩
    · have lp' : 0 < X.length := by omega
      have h1 := Int.emod_nonneg c (show (1000003 : Int) ≠ 0 by decide)
      have h2 := Int.emod_lt_of_pos c (show (0 : Int) < 1000003 by decide)
      have h3 : ∀ ρ : Rho, resO (powD (.int (c % 1000003 + 1)) (.int 5)) ρ = .ok (.sh (.int ((c % 1000003 + 1) ^ (5 : Nat)))) ρ := fun ρ => by
        rw [resO_pow (by decide) (by decide) (by omega)]
        rfl
      generalize (c % 1000003 + 1) ^ (5 : Nat) = y at h3
      obtain ⟨j, p, inn, ej, ea, hp, hq, h5, h6⟩ := AT (y % 2147483647 / 8) lp'
      have lp : (0 : Int) < (X.length : Int) := by omega
      have er : ∀ ρ : Rho, resO (modD (.int (y % 2147483647 / 8)) (.int (X.length : Int))) ρ = .ok (.sh (.int (j : Int))) ρ := fun ρ => by rw [resO_mod lp, ej]
      have c1 := cutD_to X j
      have c2 : cutD X (some ((j : Int) + 1)) none = X.drop (j + 1) := cutD_from X (j + 1)
      have q1 := XQ.cut none (some (j : Int))
      have q2 := XQ.cut (some ((j : Int) + 1)) none
      have jl : (cutD X none (some (j : Int))).length + (cutD X (some ((j : Int) + 1)) none).length ≤ 50 := by rw [c1, c2, List.length_take, List.length_drop]; omega
      have jl1 : (cutD X none (some (j : Int))).length + (cutD X (some ((j : Int) + 1)) none).length ≤ sizeLine := z10 _ (by omega)
      have jl2 : (cutD X none (some (j : Int))).length + 1 ≤ sizeLine := z10 _ (by omega)
      have jl3 : (cutD X none (some (j : Int))).length + 1 + (cutD X (some ((j : Int) + 1)) none).length ≤ sizeLine := z10 _ (by omega)
      clear c1 c2
      generalize eXA : cutD X none (some (j : Int)) = XA at q1 jl jl1 jl2 jl3
      generalize eXB : cutD X (some ((j : Int) + 1)) none = XB at q2 jl jl1 jl3
      obtain ⟨Z, hZ⟩ : ∃ Z, Z = (List.replicate 4 [(.tuple [.str k, .tuple (XA ++ XB)] : D)]).flatten := ⟨_, rfl⟩
      have zq : AllQ (n + 1) Z := by
        rw [hZ]
        exact .rep (pq_put hk ⟨by rw [List.length_append]; omega, (q1.app q2).2⟩) 4
      have zl : Z.length = 4 := by rw [hZ]; rfl
      obtain ⟨R, hR, rq, rl⟩ := s10.cat sl10 zq zl
      have zs : S10.length + 4 ≤ sizeLine := z10 _ (by omega)
      have lp1 : (0 : Int) < max 1 ((p.length : Nat) : Int) := by omega
      obtain ⟨sp, esp⟩ : ∃ sp : Int, y % 2147483647 / 8 / 64 % max 1 ((p.length : Nat) : Int) = sp := ⟨_, rfl⟩
      have er2 : ∀ ρ : Rho, resO (modD (.int (y % 2147483647 / 8 / 64)) (.int (max 1 ((p.length : Nat) : Int)))) ρ = .ok (.sh (.int sp)) ρ := fun ρ => by rw [resO_mod lp1, esp]
      have hmx : maxD (.int 1) (.int ((p.length : Nat) : Int)) = some (.sh (.int (max 1 ((p.length : Nat) : Int)))) := by
        have hmx0 : (if ((p.length : Nat) : Int) > 1 then ((p.length : Nat) : Int) else 1) = max 1 ((p.length : Nat) : Int) := by split <;> omega
        show some _ = _
        rw [hmx0]
      have pln : (encNs p).length = p.length := by unfold encNs; rw [List.length_map]
      obtain ⟨TT, tl, lcR⟩ := odd_lcR (k := k) (.tuple X) O c (.tuple [.tuple pp, PQ]) (some ⟨.list R, .ow⟩) (some ⟨.list TD, .ow⟩) (some ⟨.int (y % 2147483647 / 8), .sh⟩) (some ⟨.int (j : Int), .sh⟩) sp (some ⟨inn, .sh⟩) p hp
      obtain ⟨Z2, hZ2⟩ : ∃ Z, Z = (List.replicate 4 [(.tuple [.str k, .tuple (XA ++ [.tuple [.tuple TT, inn]] ++ XB)] : D)]).flatten := ⟨_, rfl⟩
      have zq2 : AllQ (n + 1) Z2 := by
        rw [hZ2]
        exact .rep (pq_put hk ⟨by rw [List.length_append, List.length_append, List.length_singleton]; omega, ((q1.app (.one (pt_mk (by omega) hq))).app q2).2⟩) 4
      have zl2 : Z2.length = 4 := by rw [hZ2]; rfl
      obtain ⟨R2, hR2, rq2, rl2⟩ := rq.cat rl zq2 zl2
      have zs2 : R.length + 4 ≤ sizeLine := z10 _ (by omega)
      have okp : okR ((p.length : Nat) : Int) = true := okR_nat (by omega)
      have ml : ∀ d : D, mulL (.list [d]) (.int 4) = some (.fr (.list (List.replicate 4 [d]).flatten)) := fun d => mulL_l (by decide) (by decide) (by simp)
      refine ⟨_, kill_of (oddR k (.tuple X) O c (.tuple [.tuple pp, PQ]) (some ⟨.list R2, .ow⟩) (some ⟨.list TD, .ow⟩) (some ⟨.int (y % 2147483647 / 8), .sh⟩) (some ⟨.int (j : Int), .sh⟩) (some ⟨.int sp, .sh⟩) (some ⟨.tuple TT, .sh⟩) (some ⟨.tuple (encNs p), .sh⟩) (some ⟨inn, .sh⟩)) (by simp [oddR]) (if_t (by simp [oddR, lp']) (seq_of (oddR k (.tuple X) O c (.tuple [.tuple pp, PQ]) (some ⟨.list S10, .ow⟩) (some ⟨.list TD, .ow⟩) (some ⟨.int (y % 2147483647 / 8), .sh⟩) none none none none none) (by simp [oddR, h3]) (seq_of (oddR k (.tuple X) O c (.tuple [.tuple pp, PQ]) (some ⟨.list S10, .ow⟩) (some ⟨.list TD, .ow⟩) (some ⟨.int (y % 2147483647 / 8), .sh⟩) (some ⟨.int (j : Int), .sh⟩) none none none none) (by simp [oddR, er]) (seq_of (oddR k (.tuple X) O c (.tuple [.tuple pp, PQ]) (some ⟨.list R, .ow⟩) (some ⟨.list TD, .ow⟩) (some ⟨.int (y % 2147483647 / 8), .sh⟩) (some ⟨.int (j : Int), .sh⟩) none none none none) (by
        rw [hR]
        rw [hZ] at zl
        rw [hZ]
        simp [oddR, eXA, eXB, jl1, ml] at zl zs ⊢
        simp [zs]) (seq_of (oddR k (.tuple X) O c (.tuple [.tuple pp, PQ]) (some ⟨.list R, .ow⟩) (some ⟨.list TD, .ow⟩) (some ⟨.int (y % 2147483647 / 8), .sh⟩) (some ⟨.int (j : Int), .sh⟩) none none (some ⟨.tuple (encNs p), .sh⟩) (some ⟨inn, .sh⟩)) (by simp [oddR, ea]) (seq_of (oddR k (.tuple X) O c (.tuple [.tuple pp, PQ]) (some ⟨.list R, .ow⟩) (some ⟨.list TD, .ow⟩) (some ⟨.int (y % 2147483647 / 8), .sh⟩) (some ⟨.int (j : Int), .sh⟩) (some ⟨.int sp, .sh⟩) none (some ⟨.tuple (encNs p), .sh⟩) (some ⟨inn, .sh⟩)) (by simp [oddR, pln, hmx, er2]) (seq_of (oddR k (.tuple X) O c (.tuple [.tuple pp, PQ]) (some ⟨.list R, .ow⟩) (some ⟨.list TD, .ow⟩) (some ⟨.int (y % 2147483647 / 8), .sh⟩) (some ⟨.int (j : Int), .sh⟩) (some ⟨.int sp, .sh⟩) (some ⟨.tuple TT, .sh⟩) (some ⟨.tuple (encNs p), .sh⟩) (some ⟨inn, .sh⟩)) (by
          unfold oddR at lcR ⊢
          simp [pln, okp, lcR]) (by
          rw [hR2]
          rw [hZ2]
          simp [oddR, eXA, eXB, jl2, jl3, ml] at zs2 ⊢
          simp [zs2])))))))) (by simp [oddR]), R2, by omega, by omega, rq2, rfl⟩
  · rintro ρ' ⟨R, r0, r1, rq, rfl⟩
    obtain ⟨d, ed, md⟩ := at_in (xs := R) (c := c / 7) (n := (R.length : Int)) (by omega) (Int.le_refl _)
    have lp : (0 : Int) < (R.length : Int) := by omega
    have er : ∀ ρ : Rho, resO (modD (.int (c / 7)) (.int (R.length : Int))) ρ = .ok (.sh (.int (c / 7 % (R.length : Int)))) ρ := fun ρ => by rw [resO_mod lp]
    exact ⟨d, by simp [oddR, er, ed], rq d md⟩
end GW
namespace GM
open PySem L2 GS
/-- _law_bent(plan, other, cell); slots 0:plan 1:other 2:cell 3:at 4:bent 5:place 6:inner -/
def m_law_bent_8 (F__law_odd F__law_bent : FF) : SF := (sSeq (sKill [3, 4, 5, 6] (sIf (eAnd (eB (eBin (ltI fun i j => decide (j < i)) (eCB (un1 lenD) (aCons (eBin ixA (eVb 0) (eC (.int 1))) aNil)) (eC (.int 0)))) (eB (eBin (ltI fun i j => decide (j < i)) (eBin modD (eVb 2) (eC (.int 3))) (eC (.int 0))))) (sSeq (sSet 3 (eBin modD (eBin divD (eVb 2) (eC (.int 3))) (eCB (un1 lenD) (aCons (eBin ixA (eVb 0) (eC (.int 1))) aNil)))) (sSeq (sUnp (gT 2 (gsC (gN 5) (gsC (gN 6) gsN))) (eBin ixA (eBin ixA (eVb 0) (eC (.int 1))) (eVb 3))) (sSeq (sSet 4 (eCall 3 none F__law_bent (aCons (eMv 6) (aCons (eMv 1) (aCons (eBin divD (eVb 2) (eC (.int 11))) aNil))))) (sEnd (sRet (eTup (aCons (eBin ixA (eVb 0) (eC (.int 0))) (aCons (eBin addD (eBin addD (eSl (eBin ixA (eVb 0) (eC (.int 1))) none (some (eVb 3))) (eTup (aCons (eTup (aCons (eMv 5) (aCons (eMv 4) aNil))) aNil))) (eSl (eBin ixA (eVb 0) (eC (.int 1))) (some (eBin addD (eVb 3) (eC (.int 1)))) none)) aNil)))))))) sNil)) (sEnd (sRet (eCall 3 none F__law_odd (aCons (eMv 0) (aCons (eMv 1) (aCons (eBin divD (eVb 2) (eC (.int 3))) aNil)))))))
theorem m_law_bent_8_eq (F__law_odd F__law_bent : FF) (ρ : Rho) : fnF 7 3 (m_law_bent_8 F__law_odd F__law_bent) ρ = finR 3 (m_law_bent_8 F__law_odd F__law_bent (ρ ++ [none, none, none, none])) := fnF_eq 7 3 _
end GM
namespace GW
open PySem L2 GS GM
theorem pl_parts {h : Nat} {b : Bk} (B : BookW h b) (hh : h ≤ 100) : ∀ {q : Pl} {t : Nat}, PlOk b q → q.dep ≤ t + 1 → PyData.strOk q.key = true ∧ q.puts.length ≤ 50 ∧ ∀ x ∈ q.puts, x.1.length ≤ 900 ∧ PlOk b x.2 ∧ x.2.dep ≤ t
  | .mk k ps, t, .mk (t := u) e r, hd => by
    have m := treeOf_in e
    have T := B.trees _ m
    rw [Pl.dep] at hd
    refine ⟨key_so _ (B.keys _ m), ?_, fun x mx => ?_⟩
    · have h1 := r.sub.length_le
      rw [List.length_map, List.length_map, pps_len] at h1
      have := T.sz
      dsimp only at this
      show ps.length ≤ 50
      omega
    · have mx : x ∈ ps := mx
      refine ⟨?_, r.each x mx, depX_le (by omega) x mx⟩
      have h1 := r.sub.subset (List.mem_map_of_mem mx)
      rw [pps_places] at h1
      have h2 := place_len u _ h1
      have h3 := T.ht
      dsimp only at h3
      omega
theorem pq_pl {h : Nat} {b : Bk} (B : BookW h b) (hh : h ≤ 100) : ∀ {t : Nat} {q : Pl}, PlOk b q → q.dep ≤ t → preQ t q.enc
  | 0, .mk k ps, _, h => by rw [Pl.dep] at h; omega
  | t + 1, q, o, hd => by
    obtain ⟨h1, h2, h3⟩ := pl_parts B hh o hd
    rw [penc_eq]
    refine pq_k h1 (by rw [List.length_map]; omega) fun x mx => ?_
    obtain ⟨y, my, rfl⟩ := List.mem_map.mp mx
    obtain ⟨g1, g2, g3⟩ := h3 y my
    rw [encX_ns]
    exact pt_mk (by unfold encNs; rw [List.length_map]; omega) (pq_pl B hh g2 g3)
def BentQ (t : Nat) (F : FF) : Prop := ∀ (h : Nat) (b : Bk) (q : Pl) (O : D) (ok : Str) (oo : D) (n : Nat) (c : Int), BookW h b → h ≤ 100 → PlOk b q → q.dep ≤ t + 1 → O = .tuple [.str ok, oo] → PyData.strOk ok = true → preQ n O →
  ∃ d, F [some ⟨q.enc, .sh⟩, some ⟨O, .sh⟩, some ⟨.int c, .sh⟩] = .ok (.sh d) [none, none, none] ∧ preQ (n + t + 1) d
section
variable {Fo Fb : FF}
theorem law_bent_8_ok {t : Nat} (ho : ∀ n, OddSp n Fo) (hb : ∀ m, m + 1 = t → BentQ m Fb) : BentQ t (fnF 7 3 (m_law_bent_8 Fo Fb)) := fun h b q O ok oo n c B hh o hd eO os oq => by
  obtain ⟨g1, g2, g3⟩ := pl_parts B hh o hd
  obtain ⟨k, ps⟩ := q
  dsimp only [Pl.key, Pl.puts] at g1 g2 g3
  have pe : (Pl.mk k ps).enc = .tuple [.str k, .tuple (ps.map Pl.encX)] := penc_eq (.mk k ps)
  rw [pe, m_law_bent_8_eq]
  unfold m_law_bent_8
  have XQ : PsQ (n + t) 50 (ps.map Pl.encX) := ⟨by rw [List.length_map]; exact g2, fun x mx => by
    obtain ⟨y, my, rfl⟩ := List.mem_map.mp mx
    obtain ⟨q1, q2, q3⟩ := g3 y my
    rw [encX_ns]
    exact pt_mk (by unfold encNs; rw [List.length_map]; omega) ((pq_pl B hh q2 q3).ups (by omega))⟩
  by_cases cond : 0 < ps.length ∧ c % 3 > 0
  · obtain ⟨lp, c3⟩ := cond
    have lp' : (0 : Int) < (ps.length : Int) := by omega
    have e1 := Int.emod_nonneg (c / 3) (show (ps.length : Int) ≠ 0 by omega)
    have e2 := Int.emod_lt_of_pos (c / 3) lp'
    obtain ⟨j, hj⟩ : ∃ j : Nat, c / 3 % (ps.length : Int) = (j : Int) := ⟨(c / 3 % (ps.length : Int)).toNat, by omega⟩
    have hjl : j < ps.length := by omega
    have er : ∀ ρ : Rho, resO (modD (.int (c / 3)) (.int (ps.length : Int))) ρ = .ok (.sh (.int (j : Int))) ρ := fun ρ => by rw [resO_mod lp', hj]
    obtain ⟨x, ex⟩ : ∃ x, ps[j]? = some x := ⟨_, List.getElem?_eq_getElem hjl⟩
    have mx : x ∈ ps := List.mem_of_getElem? ex
    obtain ⟨q1, q2, q3⟩ := g3 x mx
    have ea : L2.atI (ps.map Pl.encX) (j : Int) = some (.tuple [.tuple (encNs x.1), x.2.enc]) := atI_nat (by rw [List.getElem?_map, ex, Option.map_some, encX_ns])
    obtain ⟨t', rfl⟩ : ∃ t', t = t' + 1 := by
      cases t with
      | zero =>
        obtain ⟨_, xp⟩ := x
        cases xp with
        | mk a bb => simp [Pl.dep] at q3
      | succ t => exact ⟨t, rfl⟩
    obtain ⟨d, ed, pd⟩ := hb t' rfl h b x.2 O ok oo n (c / 11) B hh q2 q3 eO os oq
    have c1 := cutD_to (ps.map Pl.encX) j
    have c2 : cutD (ps.map Pl.encX) (some ((j : Int) + 1)) none = (ps.map Pl.encX).drop (j + 1) := cutD_from (ps.map Pl.encX) (j + 1)
    have p1 := XQ.cut none (some (j : Int))
    have p2 := XQ.cut (some ((j : Int) + 1)) none
    have jl : (cutD (ps.map Pl.encX) none (some (j : Int))).length + (cutD (ps.map Pl.encX) (some ((j : Int) + 1)) none).length ≤ 50 := by rw [c1, c2, List.length_take, List.length_drop, List.length_map]; omega
    have jl2 : (cutD (ps.map Pl.encX) none (some (j : Int))).length + 1 ≤ sizeLine := fits (by omega)
    have jl3 : (cutD (ps.map Pl.encX) none (some (j : Int))).length + 1 + (cutD (ps.map Pl.encX) (some ((j : Int) + 1)) none).length ≤ sizeLine := fits (by omega)
    clear c1 c2
    have xl : (ps.map Pl.encX).length = ps.length := by rw [List.length_map]
    generalize ps.map Pl.encX = X at *
    generalize eXA : cutD X none (some (j : Int)) = XA at p1 jl jl2 jl3
    generalize eXB : cutD X (some ((j : Int) + 1)) none = XB at p2 jl jl3
    refine ⟨.tuple [.str k, .tuple (XA ++ [.tuple [.tuple (encNs x.1), d]] ++ XB)], ?_, ?_⟩
    · generalize encNs x.1 = NN at ea
      generalize x.2.enc = xe at ea ed
      simp [xl, lp, c3, er, ea, ed, eXA, eXB, jl2, jl3]
    · refine pq_put g1 ⟨by rw [List.length_append, List.length_append, List.length_singleton]; omega, ?_⟩
      have := (p1.app (.one (pt_mk (n := n + (t' + 1)) (ns := encNs x.1) (by unfold encNs; rw [List.length_map]; omega) (pd.ups (by omega))))).app p2
      exact this.2
  · obtain ⟨d, ed, pd⟩ := ho (n + t) k ps O ok oo (c / 3) ⟨g1, g2, fun x mx => by
      obtain ⟨q1, q2, q3⟩ := g3 x mx
      exact ⟨q1, (pq_pl B hh q2 q3).ups (by omega)⟩, eO, os, oq.ups (by omega)⟩
    refine ⟨d, ?_, pd⟩
    have xl : (ps.map Pl.encX).length = ps.length := by rw [List.length_map]
    generalize ps.map Pl.encX = X at *
    by_cases lp : 0 < ps.length
    · have c3 : ¬ c % 3 > 0 := fun h => cond ⟨lp, h⟩
      have c4 : (0 < c % 3) = False := eq_false c3
      simp [xl, lp, c4, ed]
    · have z : ps.length = 0 := by omega
      simp [xl, z, ed]
end
end GW
namespace GM
open PySem L2 GS
/-- law(script); slots 0:script 1:state 2:cell 3:book 4:keys 5:plan 6:other 7:at 8:fewer 9:thing 10:some 11:told 12:key 13:tree -/
def m_law_k11_b1 (F_is_plan F__law_is_plan F__law_bent F__law_plan F__law_book F__law_deeper F__law_cell : FF) : SF := (sKill [10, 11] (sSeq (sSet 11 (eCall 2 none F_is_plan (aCons (eMv 10) (aCons (eMv 9) aNil)))) (sIf (eOr (eNot (eB (eIsi isBool (eVb 11)))) (eB (eBin (eqB true) (eVb 11) (eCall 2 none F__law_is_plan (aCons (eMv 10) (aCons (eMv 9) aNil)))))) (sEnd (sRet (eC (.bool false)))) sNil)))
def m_law_k11_b2 (F_is_plan F__law_is_plan F__law_bent F__law_plan F__law_book F__law_deeper F__law_cell : FF) : SF := (sKill [2, 7, 8, 9, 10, 11] (sSeq (sSet 9 (eCall 3 none F__law_bent (aCons (eMv 5) (aCons (eMv 6) (aCons (eBin divD (eVb 2) (eC (.int 2))) aNil))))) (sSeq (sSet 7 (eBin modD (eBin divD (eVb 2) (eC (.int 3))) (eCB (un1 lenD) (aCons (eBin ixA (eVb 3) (eC (.int 1))) aNil)))) (sSeq (sSet 8 (eTup (aCons (eBin ixA (eVb 3) (eC (.int 0))) (aCons (eBin addD (eSl (eBin ixA (eVb 3) (eC (.int 1))) none (some (eVb 7))) (eSl (eBin ixA (eVb 3) (eC (.int 1))) (some (eBin addD (eVb 7) (eC (.int 1)))) none)) aNil)))) (sFor (iSq (eTup (aCons (eMv 3) (aCons (eMv 8) (aCons (eMv 3) aNil))))) (gN 10) (m_law_k11_b1 F_is_plan F__law_is_plan F__law_bent F__law_plan F__law_book F__law_deeper F__law_cell))))))
def m_law_k11_ce3 (F_is_plan F__law_is_plan F__law_bent F__law_plan F__law_book F__law_deeper F__law_cell : FF) : EF := (eMv 12)
def m_law_k11 (F_is_plan F__law_is_plan F__law_bent F__law_plan F__law_book F__law_deeper F__law_cell : FF) : SF := (sSeq (sSet 1 (eDct (dCons (eC (.str (Str.ofString "script"))) (eMv 0) (dCons (eC (.str (Str.ofString "at"))) (eC (.int 0)) (dCons (eC (.str (Str.ofString "keys"))) (eC (.int 0)) dNil))))) (sSeq (sSet 2 (eCall 1 (some 0) F__law_cell (aCons (eVb 1) aNil))) (sSeq (sSet 3 (eCall 2 none F__law_deeper (aCons (eCall 3 (some 0) F__law_book (aCons (eVb 1) (aCons (eBin modD (eVb 2) (eC (.int 6))) (aCons (eC (.int 1)) aNil)))) (aCons (eMv 2) aNil)))) (sSeq (sSet 4 (eLc [12, 13] (iSq (eBin ixA (eVb 3) (eC (.int 1)))) (gT 2 (gsC (gN 12) (gsC (gN 13) gsN))) (eNox eYes) (eNox (m_law_k11_ce3 F_is_plan F__law_is_plan F__law_bent F__law_plan F__law_book F__law_deeper F__law_cell)))) (sSeq (sSet 5 (eCall 4 (some 0) F__law_plan (aCons (eVb 1) (aCons (eMv 3) (aCons (eBin ixA (eVb 4) (eBin modD (eBin divD (eVb 2) (eC (.int 6))) (eCB (un1 lenD) (aCons (eVb 4) aNil)))) (aCons (eC (.int 3)) aNil)))))) (sSeq (sPut 1 (eC (.str (Str.ofString "keys"))) (eC (.int 0))) (sSeq (sSet 6 (eCall 4 (some 0) F__law_plan (aCons (eVb 1) (aCons (eMv 3) (aCons (eBin ixA (eVb 4) (eBin modD (eBin divD (eVb 2) (eC (.int 66))) (eCB (un1 lenD) (aCons (eVb 4) aNil)))) (aCons (eC (.int 1)) aNil)))))) (sSeq (sIf (eOr (eB (eBin (isD true) (eCall 2 none F_is_plan (aCons (eMv 3) (aCons (eMv 5) aNil))) (eC (.bool true)))) (eB (eBin (isD true) (eCall 2 none F_is_plan (aCons (eMv 3) (aCons (eMv 6) aNil))) (eC (.bool true))))) (sEnd (sRet (eC (.bool false)))) sNil) (sSeq (sFor (iSq (eIf (eB (eBin (ltI fun i j => decide (j < i)) (eCB (un1 lenD) (aCons (eVb 0) aNil)) (eC (.int 0)))) (eSl (eVb 0) none (some (eC (.int 8)))) (eLst (aCons (eC (.int 0)) aNil)))) (gN 2) (m_law_k11_b2 F_is_plan F__law_is_plan F__law_bent F__law_plan F__law_book F__law_deeper F__law_cell)) (sSeq (sSet 7 (eL1 idxD (eVb 4) (eBin ixA (eVb 5) (eC (.int 0))))) (sSeq (sSet 8 (eTup (aCons (eBin ixA (eVb 3) (eC (.int 0))) (aCons (eBin addD (eSl (eBin ixA (eVb 3) (eC (.int 1))) none (some (eVb 7))) (eSl (eBin ixA (eVb 3) (eC (.int 1))) (some (eBin addD (eVb 7) (eC (.int 1)))) none)) aNil)))) (sEnd (sRet (eAnd (eB (eBin (isD false) (eCall 2 none F_is_plan (aCons (eMv 8) (aCons (eMv 5) aNil))) (eC (.bool false)))) (eBin (isD false) (eCall 2 none F_is_plan (aCons (eMv 3) (aCons (eMv 5) aNil))) (eC (.bool true)))))))))))))))))
theorem m_law_k11_eq (F_is_plan F__law_is_plan F__law_bent F__law_plan F__law_book F__law_deeper F__law_cell : FF) (ρ : Rho) : fnF 14 1 (m_law_k11 F_is_plan F__law_is_plan F__law_bent F__law_plan F__law_book F__law_deeper F__law_cell) ρ = finR 1 (m_law_k11 F_is_plan F__law_is_plan F__law_bent F__law_plan F__law_book F__law_deeper F__law_cell (ρ ++ [none, none, none, none, none, none, none, none, none, none, none, none, none])) := fnF_eq 14 1 _
end GM
namespace GW
open PySem L2 GS GM
theorem eqv_st (a b : Str) : PyData.eqv (.str a) (.str b) = decide (a = b) := by rw [PyData.eqv]; exact Bool.eq_iff_iff.mpr (by simp)
theorem okEq_strs {ks : List Str} (h : ∀ k ∈ ks, PyData.strOk k = true) : okEq (.list (ks.map PyData.str)) = true := okEq_of (by
  rw [cleanB]
  refine cleanL_of fun d m => ?_
  obtain ⟨k, mk, rfl⟩ := List.mem_map.mp m
  rw [cleanB]
  exact h k mk) (by
  have := depthAll_of (ds := ks.map PyData.str) (n := 0) fun d m => by
    obtain ⟨k, mk, rfl⟩ := List.mem_map.mp m
    simp [PyData.depth]
  rw [PyData.depth]
  omega)
/-- one tree left out -/
def few (b : Bk) (j : Nat) : Bk := ⟨b.top, b.trees.take j ++ b.trees.drop (j + 1)⟩
theorem few_sub (b : Bk) (j : Nat) : (few b j).trees.Sublist b.trees := by
  show (b.trees.take j ++ b.trees.drop (j + 1)).Sublist b.trees
  have h : (b.trees.take j ++ b.trees.drop (j + 1)).Sublist (b.trees.take j ++ b.trees.drop j) := (List.Sublist.refl _).append (by
    rw [show b.trees.drop (j + 1) = (b.trees.drop j).drop 1 from by rw [List.drop_drop]]
    exact List.drop_sublist 1 _)
  rwa [List.take_append_drop] at h
theorem few_ok {h : Nat} {b : Bk} (Z : BkZ h b) (N : BkN h b) (nd : (b.trees.map (·.1)).Nodup) (j : Nat) : BkZ h (few b j) ∧ BkN h (few b j) ∧ ((few b j).trees.map (·.1)).Nodup := by
  have s := few_sub b j
  have ok : BkOk h (few b j) := ⟨by have := s.length_le; have := N.bk.len; omega, fun p m => N.bk.ht p (s.subset m), fun p m => N.bk.sz p (s.subset m), fun p m => N.bk.nv p (s.subset m)⟩
  exact ⟨⟨⟨ok, fun p m => Z.s.so p (s.subset m)⟩, fun p m => Z.z p (s.subset m)⟩, ⟨ok, fun p m => N.ft p (s.subset m), fun p m => N.ok p (s.subset m), fun p m => N.kn p (s.subset m)⟩, (s.map _).nodup nd⟩
theorem few_gone {b : Bk} (nd : (b.trees.map (·.1)).Nodup) {j : Nat} {p : Str × Tr} (hj : b.trees[j]? = some p) : (few b j).treeOf p.1 = none := by
  cases e : (few b j).treeOf p.1 with
  | none => rfl
  | some t =>
    exfalso
    have m := treeOf_in e
    have m : (p.1, t) ∈ b.trees.take j ++ b.trees.drop (j + 1) := m
    have jl : j < b.trees.length := (List.getElem?_eq_some_iff.mp hj).1
    have ej : b.trees[j] = p := (List.getElem?_eq_some_iff.mp hj).2
    have es : b.trees = b.trees.take j ++ p :: b.trees.drop (j + 1) := by
      rw [← ej, ← List.drop_eq_getElem_cons jl, List.take_append_drop]
    rw [es, List.map_append, List.map_cons, List.nodup_append] at nd
    obtain ⟨_, n2, n3⟩ := nd
    have n2 := List.nodup_cons.mp n2
    rcases List.mem_append.mp m with m | m
    · exact n3 _ (List.mem_map_of_mem m) _ (List.mem_cons_self ..) rfl
    · exact n2.1 (List.mem_map.mpr ⟨_, m, rfl⟩)
section
variable {Fi Fl Fb Fp Fk Fd Fc : FF}
theorem k11_one (hi : IsPlanSp 5 10 Fi) (hl : LIsPlanSp 5 10 Fl) (x0 x1 x2 x3 x4 x5 x6 x7 x8 : Option Cel) (d : D) (pd : preQ 10 d) {b : Bk} (Z : BkZ 5 b) (N : BkN 5 b) (nd : (b.trees.map (·.1)).Nodup) :
    optR (gN 10 b.enc [x0, x1, x2, x3, x4, x5, x6, x7, x8, some ⟨d, .sh⟩, none, none, none, none]) (m_law_k11_b1 Fi Fl Fb Fp Fk Fd Fc) = .nx [x0, x1, x2, x3, x4, x5, x6, x7, x8, some ⟨d, .sh⟩, none, none, none, none] := by
  have e1 := hi b d Z pd.p
  have e2 := hl b d Z N nd pd
  generalize isPlanN b 10 d = r at e1 e2
  generalize b.enc = be at e1 e2 ⊢
  cases r <;> simp [m_law_k11_b1, e1, e2, isBool]
theorem k11_turn (hi : IsPlanSp 5 10 Fi) (hl : LIsPlanSp 5 10 Fl) (hb : BentQ 4 Fb) {b : Bk} (B : BookW 5 b) {q p : Pl} (oq : PlOk b q) (dq : q.dep ≤ 5) (op : PlOk b p) (dp : p.dep ≤ 5) (x0 x1 x2 x4 : Option Cel) (h2 : ioC x2 = none) (c : Int) :
    optR (gN 2 (.int c) [x0, x1, x2, some ⟨b.enc, .sh⟩, x4, some ⟨q.enc, .sh⟩, some ⟨p.enc, .sh⟩, none, none, none, none, none, none, none]) (m_law_k11_b2 Fi Fl Fb Fp Fk Fd Fc) = .nx [x0, x1, none, some ⟨b.enc, .sh⟩, x4, some ⟨q.enc, .sh⟩, some ⟨p.enc, .sh⟩, none, none, none, none, none, none, none] := by
  have ps := (pl_parts B (by decide) op (t := 4) (by omega)).1
  obtain ⟨d, ed, pd⟩ := hb 5 b q p.enc p.key _ 5 (c / 2) B (by decide) oq (by omega) (penc_eq p) ps (pq_pl B (by decide) op dp)
  have hpos : 0 < b.trees.length := by have := B.pos; omega
  have lp : (0 : Int) < (b.trees.length : Int) := by omega
  have e1 := Int.emod_nonneg (c / 3) (show (b.trees.length : Int) ≠ 0 by omega)
  have e2 := Int.emod_lt_of_pos (c / 3) lp
  obtain ⟨j, hj⟩ : ∃ j : Nat, c / 3 % (b.trees.length : Int) = (j : Int) := ⟨(c / 3 % (b.trees.length : Int)).toNat, by omega⟩
  have er : ∀ ρ : Rho, resO (modD (.int (c / 3)) (.int (b.trees.length : Int))) ρ = .ok (.sh (.int (j : Int))) ρ := fun ρ => by rw [resO_mod lp, hj]
  obtain ⟨fz, fn, fd⟩ := few_ok B.bkZ B.bkN B.nd j
  have lo := forL_same (g := gN 10) (b := m_law_k11_b1 Fi Fl Fb Fp Fk Fd Fc) [x0, x1, some ⟨.int c, .sh⟩, some ⟨b.enc, .sh⟩, x4, some ⟨q.enc, .sh⟩, some ⟨p.enc, .sh⟩, some ⟨.int (j : Int), .sh⟩, some ⟨(few b j).enc, .sh⟩, some ⟨d, .sh⟩, none, none, none, none] Bk.enc [b, few b j, b] fun a ma => by
    simp only [List.mem_cons, List.not_mem_nil, or_false] at ma
    rcases ma with rfl | rfl | rfl
    · exact k11_one hi hl _ _ _ _ _ _ _ _ _ d pd B.bkZ B.bkN B.nd
    · exact k11_one hi hl _ _ _ _ _ _ _ _ _ d pd fz fn fd
    · exact k11_one hi hl _ _ _ _ _ _ _ _ _ d pd B.bkZ B.bkN B.nd
  have i0 := ix_top b
  have i1 := ix_trees b
  have c1 := cutD_to (b.trees.map encKT) j
  have c2 : cutD (b.trees.map encKT) (some ((j : Int) + 1)) none = (b.trees.map encKT).drop (j + 1) := cutD_from (b.trees.map encKT) (j + 1)
  have fe : (few b j).enc = .tuple [.str b.top, .tuple ((b.trees.map encKT).take j ++ (b.trees.map encKT).drop (j + 1))] := by
    rw [← List.map_take, ← List.map_drop, ← List.map_append]; rfl
  have jl3 : ((b.trees.map encKT).take j).length + ((b.trees.map encKT).drop (j + 1)).length ≤ sizeLine := fits (by rw [List.length_take, List.length_drop, List.length_map]; have := B.len; omega)
  rw [← c1, ← c2] at fe jl3
  clear c1 c2
  simp only [List.map_cons, List.map_nil] at lo
  have tl : (b.trees.map encKT).length = b.trees.length := by rw [List.length_map]
  generalize b.trees.map encKT = TS at i1 fe jl3 tl
  generalize (few b j).enc = fbe at lo fe
  generalize b.enc = be at lo i0 i1 ⊢
  generalize q.enc = qe at lo ed ⊢
  generalize p.enc = pe at lo ed ⊢
  generalize hXA : cutD TS none (some (j : Int)) = XA at fe jl3
  generalize hXB : cutD TS (some ((j : Int) + 1)) none = XB at fe jl3
  have io2 : ioAt (x2 :: [some ⟨be, .sh⟩, x4, some ⟨qe, .sh⟩, some ⟨pe, .sh⟩, none, none, none, none, none, none, none]) 0 = false := ioAt_of h2
  simp [m_law_k11_b2, ed, er, i0, i1, tl, hXA, hXB, jl3, io2, ← fe, lo]
theorem k11_loop (hi : IsPlanSp 5 10 Fi) (hl : LIsPlanSp 5 10 Fl) (hb : BentQ 4 Fb) {b : Bk} (B : BookW 5 b) {q p : Pl} (oq : PlOk b q) (dq : q.dep ≤ 5) (op : PlOk b p) (dp : p.dep ≤ 5) (x0 x1 x4 : Option Cel) : ∀ (cs : List Int) (x2 : Option Cel), ioC x2 = none → ∃ x2', ioC x2' = none ∧
    forL (gN 2) (m_law_k11_b2 Fi Fl Fb Fp Fk Fd Fc) (cs.map .int) [x0, x1, x2, some ⟨b.enc, .sh⟩, x4, some ⟨q.enc, .sh⟩, some ⟨p.enc, .sh⟩, none, none, none, none, none, none, none] = .nx [x0, x1, x2', some ⟨b.enc, .sh⟩, x4, some ⟨q.enc, .sh⟩, some ⟨p.enc, .sh⟩, none, none, none, none, none, none, none]
  | [], x2, h => ⟨x2, h, rfl⟩
  | c :: cs, x2, h => by
    obtain ⟨x2', h', e⟩ := k11_loop hi hl hb B oq dq op dp x0 x1 x4 cs none rfl
    refine ⟨x2', h', ?_⟩
    rw [List.map_cons, forL_cons2, k11_turn hi hl hb B oq dq op dp x0 x1 x2 x4 h c, turnR_nx, e]
theorem law_k11_ok (hi : IsPlanSp 5 10 Fi) (hl : LIsPlanSp 5 10 Fl) (hb : BentQ 4 Fb) (hp : PlanGen 4 Fp) (hk : BookGen 1 Fk) (hd : Deep2Gen Fd) (hc : CellSp Fc) (ns : List Int) :
    fnF 14 1 (m_law_k11 Fi Fl Fb Fp Fk Fd Fc) [some ⟨.list (ns.map .int), .sh⟩] = .ok (.sh (.bool true)) [none] := by
  obtain ⟨cell, a1, e1⟩ := hc ns 0 (some 0)
  obtain ⟨m, hm, hm5⟩ : ∃ m : Nat, cell % 6 = (m : Int) ∧ m ≤ 5 := ⟨(cell % 6).toNat, by omega, by omega⟩
  obtain ⟨b0, a2, e2, B0, bl, _⟩ := hk ns a1 (some 0) m hm5
  obtain ⟨us, e3, D3⟩ := hd b0 cell B0
  have B := D3.ok B0
  obtain ⟨b, hbb⟩ : ∃ b : Bk, b = ⟨b0.top, us⟩ := ⟨_, rfl⟩
  rw [← hbb] at B e3
  clear hbb
  have blen := B.len
  have hpos : 0 < b.trees.length := by have := B.pos; omega
  have lp : (0 : Int) < (b.trees.length : Int) := by omega
  obtain ⟨ks, eks⟩ : ∃ ks, ks = b.trees.map (·.1) := ⟨_, rfl⟩
  have kl : ks.length = b.trees.length := by rw [eks, List.length_map]
  obtain ⟨k1, ek1, mk1⟩ := at_in (xs := ks) (c := cell / 6) (n := (b.trees.length : Int)) lp (by omega)
  obtain ⟨k2, ek2, mk2⟩ := at_in (xs := ks) (c := cell / 66) (n := (b.trees.length : Int)) lp (by omega)
  obtain ⟨q, a3, e4, Gq⟩ := hp 5 b ns a2 0 3 k1 B (by decide) (by rw [← eks]; exact mk1) (by unfold rankP; split <;> omega) (by decide)
  obtain ⟨p, a4, e5, Gp⟩ := hp 5 b ns a3 0 1 k2 B (by decide) (by rw [← eks]; exact mk2) (by unfold rankP; split <;> omega) (by decide)
  have dq := Gq.dep
  have dp := Gp.dep
  have ipq := PlOk.is (b := b) (n := 10) Gq.ok (by omega)
  have ipp := PlOk.is (b := b) (n := 10) Gp.ok (by omega)
  have iq := hi b q.enc B.bkZ (pq_pl B (by decide) Gq.ok (t := 10) (by omega)).p
  have ip := hi b p.enc B.bkZ (pq_pl B (by decide) Gp.ok (t := 10) (by omega)).p
  rw [ipq] at iq
  rw [ipp] at ip
  have e1' : Fc [some ⟨stD ns 0 (some 0), .io⟩] = .ok (.sh (.int cell)) [some ⟨stD ns a1 (some 0), .io⟩] := e1
  have ak1 : L2.atI (ks.map PyData.str) (cell / 6 % (b.trees.length : Int)) = some (.str k1) := by
    obtain ⟨j, hj⟩ : ∃ j : Nat, cell / 6 % (b.trees.length : Int) = (j : Int) := ⟨(cell / 6 % (b.trees.length : Int)).toNat, by have := Int.emod_nonneg (cell / 6) (show (b.trees.length : Int) ≠ 0 by omega); omega⟩
    have hjl : j < ks.length := by have := Int.emod_lt_of_pos (cell / 6) lp; omega
    rw [hj] at ek1 ⊢
    have g := atI_nat (xs := ks) (List.getElem?_eq_getElem hjl)
    rw [ek1] at g
    exact atI_nat (by rw [List.getElem?_map, List.getElem?_eq_getElem hjl, ← Option.some.inj g]; rfl)
  have ak2 : L2.atI (ks.map PyData.str) (cell / 66 % (b.trees.length : Int)) = some (.str k2) := by
    obtain ⟨j, hj⟩ : ∃ j : Nat, cell / 66 % (b.trees.length : Int) = (j : Int) := ⟨(cell / 66 % (b.trees.length : Int)).toNat, by have := Int.emod_nonneg (cell / 66) (show (b.trees.length : Int) ≠ 0 by omega); omega⟩
    have hjl : j < ks.length := by have := Int.emod_lt_of_pos (cell / 66) lp; omega
    rw [hj] at ek2 ⊢
    have g := atI_nat (xs := ks) (List.getElem?_eq_getElem hjl)
    rw [ek2] at g
    exact atI_nat (by rw [List.getElem?_map, List.getElem?_eq_getElem hjl, ← Option.some.inj g]; rfl)
  have er1 : ∀ ρ : Rho, resO (modD (.int (cell / 6)) (.int (ks.length : Int))) ρ = .ok (.sh (.int (cell / 6 % (b.trees.length : Int)))) ρ := fun ρ => by rw [kl, resO_mod lp]
  have er2 : ∀ ρ : Rho, resO (modD (.int (cell / 66)) (.int (ks.length : Int))) ρ = .ok (.sh (.int (cell / 66 % (b.trees.length : Int)))) ρ := fun ρ => by rw [kl, resO_mod lp]
  rw [m_law_k11_eq]
  unfold m_law_k11
  refine fin_seq [some ⟨.list (ns.map .int), .sh⟩, some ⟨stD ns 0 (some 0), .ow⟩, none, none, none, none, none, none, none, none, none, none, none, none] (by simp [dMerge, dPut, stD]) ?_
  refine fin_seq [some ⟨.list (ns.map .int), .sh⟩, some ⟨stD ns a1 (some 0), .ow⟩, some ⟨.int cell, .sh⟩, none, none, none, none, none, none, none, none, none, none, none] (by
    generalize stD ns 0 (some 0) = s0 at e1' ⊢
    simp [e1']) ?_
  refine fin_seq [some ⟨.list (ns.map .int), .sh⟩, some ⟨stD ns a2 (some 0), .ow⟩, some ⟨.int cell, .sh⟩, some ⟨b.enc, .sh⟩, none, none, none, none, none, none, none, none, none, none] (by
    rw [show ((1 : Nat) : Int) = 1 from rfl] at e2
    generalize stD ns (a1 : Int) (some 0) = s0 at e2 ⊢
    generalize stD ns (a2 : Int) (some 0) = s1 at e2 ⊢
    generalize b0.enc = b0e at e2 e3
    generalize b.enc = be at e3 ⊢
    simp [hm, e2, e3]) ?_
  refine fin_seq [some ⟨.list (ns.map .int), .sh⟩, some ⟨stD ns a2 (some 0), .ow⟩, some ⟨.int cell, .sh⟩, some ⟨b.enc, .sh⟩, some ⟨.list (ks.map .str), .ow⟩, none, none, none, none, none, none, none, none, none] (by
    have lc := lcL_all (vs := [12, 13]) (g := gT 2 (gsC (gN 12) (gsC (gN 13) gsN))) (fe := eNox (m_law_k11_ce3 Fi Fl Fb Fp Fk Fd Fc)) [some ⟨.list (ns.map .int), .sh⟩, some ⟨stD ns a2 (some 0), .ow⟩, some ⟨.int cell, .sh⟩, some ⟨b.enc, .sh⟩, none, none, none, none, none, none, none, none, none, none] encKT
      (fun x => [some ⟨.list (ns.map .int), .sh⟩, some ⟨stD ns a2 (some 0), .ow⟩, some ⟨.int cell, .sh⟩, some ⟨b.enc, .sh⟩, none, none, none, none, none, none, none, none, some ⟨.str x.1, .sh⟩, some ⟨x.2.enc, .sh⟩]) (fun x => .str x.1) b.trees [] (fits (by simp; omega)) (fun x mx => by
        generalize stD ns (a2 : Int) (some 0) = s1
        exact ⟨by simp [encKT], by simp, by simp [m_law_k11_ce3]⟩)
    have i1 := ix_trees b
    rw [List.nil_append, show (b.trees.map fun x => PyData.str x.1) = ks.map PyData.str from by rw [eks, List.map_map]; rfl] at lc
    generalize stD ns (a2 : Int) (some 0) = s1 at lc ⊢
    generalize b.trees.map encKT = TS at lc i1
    generalize b.enc = be at lc i1 ⊢
    simp [i1, lc]) ?_
  refine fin_seq [some ⟨.list (ns.map .int), .sh⟩, some ⟨stD ns a3 (some ((0 + q.size : Nat) : Int)), .ow⟩, some ⟨.int cell, .sh⟩, some ⟨b.enc, .sh⟩, some ⟨.list (ks.map .str), .ow⟩, some ⟨q.enc, .sh⟩, none, none, none, none, none, none, none, none] (by
    have e4' : Fp [some ⟨stD ns (a2 : Int) (some 0), .io⟩, some ⟨b.enc, .sh⟩, some ⟨.str k1, .sh⟩, some ⟨.int 3, .sh⟩] = .ok (.sh q.enc) [some ⟨stD ns (a3 : Int) (some ((0 + q.size : Nat) : Int)), .io⟩, none, none, none] := e4
    have kl' : (ks.map PyData.str).length = ks.length := by rw [List.length_map]
    generalize stD ns (a2 : Int) (some 0) = s1 at e4' ⊢
    generalize stD ns (a3 : Int) (some ((0 + q.size : Nat) : Int)) = s2 at e4' ⊢
    generalize ks.map PyData.str = KS at ak1 kl' ⊢
    generalize b.enc = be at e4' ⊢
    generalize q.enc = qe at e4' ⊢
    simp [kl', er1, ak1, e4']) ?_
  refine fin_seq [some ⟨.list (ns.map .int), .sh⟩, some ⟨stD ns a3 (some 0), .ow⟩, some ⟨.int cell, .sh⟩, some ⟨b.enc, .sh⟩, some ⟨.list (ks.map .str), .ow⟩, some ⟨q.enc, .sh⟩, none, none, none, none, none, none, none, none] (by
    have sp := st_put ns a3 ((0 + q.size : Nat) : Int) 0
    generalize stD ns (a3 : Int) (some ((0 + q.size : Nat) : Int)) = s2 at sp ⊢
    generalize stD ns (a3 : Int) (some 0) = s3 at sp ⊢
    simp [sp]) ?_
  refine fin_seq [some ⟨.list (ns.map .int), .sh⟩, some ⟨stD ns a4 (some ((0 + p.size : Nat) : Int)), .ow⟩, some ⟨.int cell, .sh⟩, some ⟨b.enc, .sh⟩, some ⟨.list (ks.map .str), .ow⟩, some ⟨q.enc, .sh⟩, some ⟨p.enc, .sh⟩, none, none, none, none, none, none, none] (by
    have e5' : Fp [some ⟨stD ns (a3 : Int) (some 0), .io⟩, some ⟨b.enc, .sh⟩, some ⟨.str k2, .sh⟩, some ⟨.int 1, .sh⟩] = .ok (.sh p.enc) [some ⟨stD ns (a4 : Int) (some ((0 + p.size : Nat) : Int)), .io⟩, none, none, none] := e5
    have kl' : (ks.map PyData.str).length = ks.length := by rw [List.length_map]
    generalize stD ns (a3 : Int) (some 0) = s1 at e5' ⊢
    generalize stD ns (a4 : Int) (some ((0 + p.size : Nat) : Int)) = s2 at e5' ⊢
    generalize ks.map PyData.str = KS at ak2 kl' ⊢
    generalize b.enc = be at e5' ⊢
    generalize p.enc = pe at e5' ⊢
    simp [kl', er2, ak2, e5']) ?_
  generalize stD ns (a4 : Int) (some ((0 + p.size : Nat) : Int)) = s2
  refine fin_seq [some ⟨.list (ns.map .int), .sh⟩, some ⟨s2, .ow⟩, some ⟨.int cell, .sh⟩, some ⟨b.enc, .sh⟩, some ⟨.list (ks.map .str), .ow⟩, some ⟨q.enc, .sh⟩, some ⟨p.enc, .sh⟩, none, none, none, none, none, none, none] (by
    generalize b.enc = be at iq ip ⊢
    generalize q.enc = qe at iq ⊢
    generalize p.enc = pe at ip ⊢
    simp [iq, ip]) ?_
  obtain ⟨cs, ecs⟩ : ∃ cs : List Int, cs.map PyData.int = if 0 < ns.length then (ns.map PyData.int).take 8 else [.int 0] := by
    split
    · exact ⟨ns.take 8, by rw [List.map_take]⟩
    · exact ⟨[0], rfl⟩
  obtain ⟨x2, hx2, lo⟩ := k11_loop (Fp := Fp) (Fk := Fk) (Fd := Fd) (Fc := Fc) hi hl hb B Gq.ok (by omega) Gp.ok (by omega) (some ⟨.list (ns.map .int), .sh⟩) (some ⟨s2, .ow⟩) (some ⟨.list (ks.map .str), .ow⟩) cs (some ⟨.int cell, .sh⟩) rfl
  refine fin_seq [some ⟨.list (ns.map .int), .sh⟩, some ⟨s2, .ow⟩, x2, some ⟨b.enc, .sh⟩, some ⟨.list (ks.map .str), .ow⟩, some ⟨q.enc, .sh⟩, some ⟨p.enc, .sh⟩, none, none, none, none, none, none, none] (by
    rw [← lo, ecs]
    have nl : (ns.map PyData.int).length = ns.length := by rw [List.length_map]
    have c8 : cutD (ns.map PyData.int) none (some 8) = (ns.map PyData.int).take 8 := cutD_to _ 8
    generalize ns.map PyData.int = NS at nl c8 ⊢
    by_cases hz : 0 < ns.length
    · simp [nl, hz, c8]
    · simp [nl, hz]) ?_
  obtain ⟨t, et⟩ := Gq.ok.keyIn
  have mt := treeOf_in et
  obtain ⟨j, hj⟩ : ∃ j, b.trees[j]? = some (q.key, t) := List.getElem?_of_mem mt
  have hjl : j < b.trees.length := (List.getElem?_eq_some_iff.mp hj).1
  have sk : ∀ k ∈ ks, PyData.strOk k = true := fun k mk => by
    rw [eks] at mk
    obtain ⟨pp, mp, rfl⟩ := List.mem_map.mp mk
    exact key_so _ (B.keys _ mp)
  have kj : ks[j]? = some q.key := by rw [eks, List.getElem?_map, hj]; rfl
  have ndk : ks.Nodup := by rw [eks]; exact B.nd
  have ei : idxD (.list (ks.map .str)) (.str q.key) = some (.sh (.int (j : Int))) := by
    rw [idxD_l _ _ (okEq_str (sk _ (List.mem_of_getElem? kj))) (okEq_strs sk)]
    have : (ks.map PyData.str).findIdx? (fun z => PyData.eqv z (.str q.key)) = some j := by
      rw [List.findIdx?_eq_some_iff_getElem]
      refine ⟨by rw [List.length_map]; omega, ?_, fun i hi => ?_⟩
      · rw [List.getElem_map, eqv_st, decide_eq_true_eq]
        have := (List.getElem?_eq_some_iff.mp kj).2
        exact this
      · rw [List.getElem_map, eqv_st, Bool.not_eq_true, decide_eq_false_iff_not]
        intro e
        have e2 := (List.getElem?_eq_some_iff.mp kj).2
        have := (List.getElem_inj ndk).mp (e.trans e2.symm)
        omega
    rw [this]; rfl
  obtain ⟨fz, fn, fd⟩ := few_ok B.bkZ B.bkN B.nd j
  have fi := hi (few b j) q.enc fz (pq_pl B (by decide) Gq.ok (t := 10) (by omega)).p
  have gone := few_gone B.nd hj
  dsimp only at gone
  have inF : isPlanN (few b j) 10 q.enc = false := by
    rw [penc_eq]
    unfold isPlanN
    dsimp only
    rw [gone]
    cases putsP (.tuple (q.puts.map Pl.encX)) <;> rfl
  rw [inF] at fi
  have i0 := ix_top b
  have i1 := ix_trees b
  have ik := ix_key q
  have c1 := cutD_to (b.trees.map encKT) j
  have c2 : cutD (b.trees.map encKT) (some ((j : Int) + 1)) none = (b.trees.map encKT).drop (j + 1) := cutD_from (b.trees.map encKT) (j + 1)
  have fe : (few b j).enc = .tuple [.str b.top, .tuple ((b.trees.map encKT).take j ++ (b.trees.map encKT).drop (j + 1))] := by
    rw [← List.map_take, ← List.map_drop, ← List.map_append]; rfl
  have jl3 : ((b.trees.map encKT).take j).length + ((b.trees.map encKT).drop (j + 1)).length ≤ sizeLine := fits (by rw [List.length_take, List.length_drop, List.length_map]; omega)
  rw [← c1, ← c2] at fe jl3
  clear c1 c2
  generalize b.trees.map encKT = TS at i1 fe jl3
  generalize ks.map PyData.str = KS at ei ⊢
  generalize (few b j).enc = fbe at fe fi
  generalize b.enc = be at i0 i1 iq ⊢
  generalize q.enc = qe at ei ik fi iq ⊢
  generalize p.enc = pe
  generalize hXA : cutD TS none (some (j : Int)) = XA at fe jl3
  generalize hXB : cutD TS (some ((j : Int) + 1)) none = XB at fe jl3
  simp [ei, ik, i0, i1, hXA, hXB, jl3, ← fe, fi, iq, hx2]
end
end GW
namespace GM
open PySem L2 GS
end GM
namespace Wk11
open PySem L2 GS GM
def fs : Nat → Nat → FF
  | 0, _ => stuckF
  | k + 1, 0 => fnF 1 1 (m_kids_of)
  | k + 1, 1 => fnF 5 1 (m_places (fs k 0) (fs k 1))
  | k + 1, 2 => fnF 5 2 (m_piece_at_2 (fs k 28) (fs k 0))
  | k + 1, 3 => fnF 4 1 (m_feet_of (fs k 1) (fs k 2))
  | k + 1, 4 => fnF 1 1 (m_is_graft (fs k 3))
  | k + 1, 5 => fnF 2 1 (m_name_of (fs k 3))
  | k + 1, 6 => fnF 5 2 (m_tree_of)
  | k + 1, 7 => fnF 1 1 (m_wanted)
  | k + 1, 8 => fnF 5 2 (m_takers (fs k 5) (fs k 4) (fs k 7))
  | k + 1, 9 => fnF 2 1 (m_are_numbers)
  | k + 1, 10 => fnF 3 1 (m_are_puts (fs k 9))
  | k + 1, 11 => fnF 7 3 (m_put_well (fs k 1) (fs k 8) (fs k 7) (fs k 2))
  | k + 1, 12 => fnF 5 2 (m_is_plan (fs k 12) (fs k 11) (fs k 6) (fs k 10))
  | k + 1, 13 => fnF 1 1 (m_law_cell)
  | k + 1, 14 => fnF 8 2 (m_law_kid (fs k 14) (fs k 13))
  | k + 1, 15 => fnF 7 3 (m_law_footed (fs k 15))
  | k + 1, 16 => fnF 7 2 (m_law_drawn (fs k 15) (fs k 14) (fs k 13))
  | k + 1, 17 => fnF 10 3 (m_law_book (fs k 16) (fs k 13))
  | k + 1, 18 => fnF 4 2 (m_law_pieces (fs k 18))
  | k + 1, 19 => fnF 4 1 (m_law_called (fs k 18))
  | k + 1, 20 => fnF 4 2 (m_law_takers (fs k 19))
  | k + 1, 21 => fnF 11 4 (m_law_plan (fs k 18) (fs k 21) (fs k 20) (fs k 13))
  | k + 1, 22 => fnF 16 3 (m_law_odd_3)
  | k + 1, 23 => fnF 7 3 (m_law_bent_8 (fs k 22) (fs k 23))
  | k + 1, 24 => fnF 2 1 (m_law_is_put)
  | k + 1, 25 => fnF 11 2 (m_law_is_plan (fs k 20) (fs k 25) (fs k 18) (fs k 24))
  | k + 1, 26 => fnF 8 2 (m_law_deeper_2)
  | k + 1, 27 => fnF 14 1 (m_law_k11 (fs k 12) (fs k 25) (fs k 23) (fs k 21) (fs k 17) (fs k 26) (fs k 13))
  | k + 1, 28 => iniF (k + 1)
  | _ + 1, _ => stuckF
end Wk11
namespace Wk11
open PySem L2 GS GM
theorem hx_NoPlace : ∀ m, 2 ≤ m → Raises (fs m 28)
  | m + 1, h => raises_ini h
theorem h_m_kids_of : ∀ m, 1 ≤ m → KidsSp (fs m 0)
  | _ + 1, _ => kids_of_ok
theorem h_m_places : ∀ n m, n ≤ 1000 → n + 2 ≤ m → PlacesSp n (fs m 1)
  | _, m + 1, hn, h => places_ok (h_m_kids_of m (by omega)) hn fun k e => h_m_places k m (by omega) (by omega)
theorem h_m_piece_at_2 : ∀ m, 2 ≤ m → PieceSp (fs m 2)
  | m + 1, h => piece_at_2_ok (h_m_kids_of m (by omega))
theorem h_m_feet_of : ∀ n m, n ≤ 1000 → n + 3 ≤ m → FeetSp n (fs m 3)
  | n, m + 1, hn, h => feet_of_ok (h_m_places n m hn (by omega)) (h_m_piece_at_2 m (by omega))
theorem h_m_is_graft : ∀ n m, n ≤ 1000 → n + 4 ≤ m → GraftSp n (fs m 4)
  | n, m + 1, hn, h => is_graft_ok (h_m_feet_of n m hn (by omega))
theorem h_m_name_of : ∀ n m, n ≤ 1000 → n + 4 ≤ m → NameOfSp n (fs m 5)
  | n, m + 1, hn, h => name_of_ok (h_m_feet_of n m hn (by omega))
theorem h_m_tree_of : ∀ m, 1 ≤ m → TreeOfSp (fs m 6)
  | _ + 1, _ => tree_of_ok
theorem h_m_wanted : ∀ m, 1 ≤ m → WantSp (fs m 7)
  | _ + 1, _ => wanted_ok
theorem h_m_takers : ∀ n m, n ≤ 1000 → n + 5 ≤ m → TakersSp n (fs m 8)
  | n, m + 1, hn, h => takers_ok (h_m_name_of n m hn (by omega)) (h_m_is_graft n m hn (by omega)) (h_m_wanted m (by omega))
theorem h_m_are_numbers : ∀ m, 1 ≤ m → NumsSp (fs m 9)
  | _ + 1, _ => are_numbers_ok
theorem h_m_are_puts : ∀ m, 2 ≤ m → PutsSp (fs m 10)
  | m + 1, h => are_puts_ok (h_m_are_numbers m (by omega))
theorem h_m_put_well : ∀ n m, n ≤ 1000 → n + 6 ≤ m → WellSp n (fs m 11)
  | n, m + 1, hn, h => put_well_ok (h_m_places n m hn (by omega)) (h_m_takers n m hn (by omega)) (h_m_wanted m (by omega)) (h_m_piece_at_2 m (by omega))
theorem h_m_is_plan : ∀ h n m, h ≤ 1000 → h + n + 7 ≤ m → IsPlanSp h n (fs m 12)
  | h, n, m + 1, hn, hm => is_plan_ok (fun k e => h_m_is_plan h k m hn (by omega)) (h_m_put_well h m hn (by omega)) (h_m_tree_of m (by omega)) (h_m_are_puts m (by omega))
theorem h_m_law_cell : ∀ m, 1 ≤ m → CellSp (fs m 13)
  | _ + 1, _ => law_cell_ok
theorem h_m_law_kid : ∀ n m, n + 2 ≤ m → KidGen n (fs m 14)
  | _, m + 1, h => law_kid_ok (h_m_law_cell m (by omega)) fun k e => h_m_law_kid k m (by omega)
theorem h_m_law_footed : ∀ n m, n + 1 ≤ m → FootedSp n (fs m 15)
  | _, m + 1, h => law_footed_ok fun k e => h_m_law_footed k m (by omega)
theorem h_m_law_drawn : ∀ n m, capN n ≤ 15 → n + 3 ≤ m → DrawnGen n (fs m 16)
  | n, m + 1, hn, h => law_drawn_ok hn (h_m_law_cell m (by omega)) (h_m_law_kid n m (by omega)) (h_m_law_footed (n + 1) m (by omega))
theorem h_m_law_book : ∀ n m, capN n ≤ 15 → n + 4 ≤ m → BookGen n (fs m 17)
  | n, m + 1, hn, h => law_book_ok (h_m_law_cell m (by omega)) (h_m_law_drawn n m hn (by omega))
theorem h_m_law_pieces : ∀ n m, n + 1 ≤ m → AllP n (fs m 18)
  | _, m + 1, h => law_pieces_ok fun k e => h_m_law_pieces k m (by omega)
theorem h_m_law_called : ∀ n m, n ≤ 1000 → n + 2 ≤ m → CalledSp n (fs m 19)
  | n, m + 1, hn, h => law_called_ok hn (h_m_law_pieces n m (by omega))
theorem h_m_law_takers : ∀ n m, n ≤ 1000 → n + 3 ≤ m → LTakers n (fs m 20)
  | n, m + 1, hn, h => law_takers_ok (h_m_law_called n m hn (by omega))
theorem h_m_law_plan : ∀ n m, n + 105 ≤ m → GW.PlanGen n (fs m 21)
  | n, m + 1, h => GW.law_plan_ok (fun k e => h_m_law_pieces k m (by omega)) (fun k e => h_m_law_plan k m (by omega)) (fun k e => h_m_law_takers k m (by omega) (by omega)) (h_m_law_cell m (by omega))
theorem h_m_law_odd_3 : ∀ m, 1 ≤ m → ∀ n, GW.OddSp n (fs m 22)
  | _ + 1, _ => fun n => GW.law_odd_3_ok n
theorem h_m_law_bent_8 : ∀ t m, t + 2 ≤ m → GW.BentQ t (fs m 23)
  | t, m + 1, h => GW.law_bent_8_ok (h_m_law_odd_3 m (by omega)) fun k e => h_m_law_bent_8 k m (by omega)
theorem h_m_law_is_put : ∀ m, 1 ≤ m → LPutSp (fs m 24)
  | _ + 1, _ => law_is_put_ok
theorem h_m_law_is_plan : ∀ h n m, h ≤ 900 → h + n + 5 ≤ m → GM.LIsPlanSp h n (fs m 25)
  | h, n, m + 1, hh, hm => law_is_plan_ok hh (h_m_law_takers h m (by omega) (by omega)) (fun k e => h_m_law_is_plan h k m hh (by omega)) (h_m_law_pieces h m (by omega)) (h_m_law_is_put m (by omega))
theorem h_m_law_deeper_2 : ∀ m, 1 ≤ m → GW.Deep2Gen (fs m 26)
  | _ + 1, _ => GW.law_deeper_2_ok
theorem law_true (ns : List Int) (hl : ns.length ≤ 63) : ∃ outs, fs 200 27 [some ⟨.list (ns.map .int), .sh⟩] = .ok (.sh (.bool true)) outs :=
  ⟨_, (GW.law_k11_ok (h_m_is_plan 5 10 199 (by omega) (by omega)) (h_m_law_is_plan 5 10 199 (by omega) (by omega)) (h_m_law_bent_8 4 199 (by omega)) (h_m_law_plan 4 199 (by omega)) (h_m_law_book 1 199 (by decide) (by omega)) (h_m_law_deeper_2 199 (by omega)) (h_m_law_cell 199 (by omega)) ns)⟩
end Wk11
namespace Wk11
open PySem L2 GS GM
def topS (i : Nat) : Stmt := PySem.Challenge.pw_graftsay_k11_plans_known.main.body.getD i (.Pass ⟨0, 0, 0, 0⟩)
def clsS (s : Stmt) (j : Nat) : Stmt := match s with | .ClassDef (body := body) .. => body.getD j (.Pass ⟨0, 0, 0, 0⟩) | _ => s
/-- kids_of -/
abbrev s0 : Stmt := topS 4
theorem sc0 : FnScope ["tree"] ["tree"] (defScope s0) := ⟨rfl, rfl, rfl, by decide +kernel, rfl, by decide +kernel, by decide +kernel⟩
/-- places -/
abbrev s1 : Stmt := topS 5
theorem sc1 : FnScope ["tree", "found", "k", "kid", "place"] ["tree"] (defScope s1) := ⟨rfl, rfl, rfl, by decide +kernel, rfl, by decide +kernel, by decide +kernel⟩
/-- piece_at -/
abbrev s2 : Stmt := topS 6
theorem sc2 : FnScope ["tree", "place", "found", "number", "kids"] ["tree", "place"] (defScope s2) := ⟨rfl, rfl, rfl, by decide +kernel, rfl, by decide +kernel, by decide +kernel⟩
/-- feet_of -/
abbrev s3 : Stmt := topS 8
theorem sc3 : FnScope ["tree", "pieces", "place", "piece"] ["tree"] (defScope s3) := ⟨rfl, rfl, rfl, by decide +kernel, rfl, by decide +kernel, by decide +kernel⟩
/-- is_graft -/
abbrev s4 : Stmt := topS 9
theorem sc4 : FnScope ["tree"] ["tree"] (defScope s4) := ⟨rfl, rfl, rfl, by decide +kernel, rfl, by decide +kernel, by decide +kernel⟩
/-- name_of -/
abbrev s5 : Stmt := topS 10
theorem sc5 : FnScope ["tree", "feet"] ["tree"] (defScope s5) := ⟨rfl, rfl, rfl, by decide +kernel, rfl, by decide +kernel, by decide +kernel⟩
/-- tree_of -/
abbrev s6 : Stmt := topS 11
theorem sc6 : FnScope ["book", "key", "found", "one", "tree"] ["book", "key"] (defScope s6) := ⟨rfl, rfl, rfl, by decide +kernel, rfl, by decide +kernel, by decide +kernel⟩
/-- wanted -/
abbrev s7 : Stmt := topS 13
theorem sc7 : FnScope ["piece"] ["piece"] (defScope s7) := ⟨rfl, rfl, rfl, by decide +kernel, rfl, by decide +kernel, by decide +kernel⟩
/-- takers -/
abbrev s8 : Stmt := topS 14
theorem sc8 : FnScope ["book", "piece", "want", "key", "tree"] ["book", "piece"] (defScope s8) := ⟨rfl, rfl, rfl, by decide +kernel, rfl, by decide +kernel, by decide +kernel⟩
/-- are_numbers -/
abbrev s9 : Stmt := topS 15
theorem sc9 : FnScope ["thing", "one"] ["thing"] (defScope s9) := ⟨rfl, rfl, rfl, by decide +kernel, rfl, by decide +kernel, by decide +kernel⟩
/-- are_puts -/
abbrev s10 : Stmt := topS 16
theorem sc10 : FnScope ["thing", "ahead", "one"] ["thing"] (defScope s10) := ⟨rfl, rfl, rfl, by decide +kernel, rfl, by decide +kernel, by decide +kernel⟩
/-- put_well -/
abbrev s11 : Stmt := topS 17
theorem sc11 : FnScope ["book", "tree", "puts", "told", "place", "piece", "want"] ["book", "tree", "puts"] (defScope s11) := ⟨rfl, rfl, rfl, by decide +kernel, rfl, by decide +kernel, by decide +kernel⟩
/-- is_plan -/
abbrev s12 : Stmt := topS 18
theorem sc12 : FnScope ["book", "thing", "tree", "place", "plan"] ["book", "thing"] (defScope s12) := ⟨rfl, rfl, rfl, by decide +kernel, rfl, by decide +kernel, by decide +kernel⟩
/-- _law_cell -/
abbrev s13 : Stmt := topS 20
theorem sc13 : FnScope ["state"] ["state"] (defScope s13) := ⟨rfl, rfl, rfl, by decide +kernel, rfl, by decide +kernel, by decide +kernel⟩
/-- _law_kid -/
abbrev s14 : Stmt := topS 21
theorem sc14 : FnScope ["state", "left", "cell", "sign", "name", "takes", "kids", "k"] ["state", "left"] (defScope s14) := ⟨rfl, rfl, rfl, by decide +kernel, rfl, by decide +kernel, by decide +kernel⟩
/-- _law_footed -/
abbrev s15 : Stmt := topS 22
theorem sc15 : FnScope ["tree", "foot", "cell", "knots", "at", "inner", "k"] ["tree", "foot", "cell"] (defScope s15) := ⟨rfl, rfl, rfl, by decide +kernel, rfl, by decide +kernel, by decide +kernel⟩
/-- _law_drawn -/
abbrev s16 : Stmt := topS 23
theorem sc16 : FnScope ["state", "left", "cell", "takes", "kids", "k", "tree"] ["state", "left"] (defScope s16) := ⟨rfl, rfl, rfl, by decide +kernel, rfl, by decide +kernel, by decide +kernel⟩
/-- _law_book -/
abbrev s17 : Stmt := topS 24
theorem sc17 : FnScope ["state", "many", "left", "cell", "trees", "k", "name", "foot", "kids", "key"] ["state", "many", "left"] (defScope s17) := ⟨rfl, rfl, rfl, by decide +kernel, rfl, by decide +kernel, by decide +kernel⟩
/-- _law_pieces -/
abbrev s18 : Stmt := topS 25
theorem sc18 : FnScope ["tree", "place", "found", "k"] ["tree", "place"] (defScope s18) := ⟨rfl, rfl, rfl, by decide +kernel, rfl, by decide +kernel, by decide +kernel⟩
/-- _law_called -/
abbrev s19 : Stmt := topS 26
theorem sc19 : FnScope ["tree", "feet", "place", "piece"] ["tree"] (defScope s19) := ⟨rfl, rfl, rfl, by decide +kernel, rfl, by decide +kernel, by decide +kernel⟩
/-- _law_takers -/
abbrev s20 : Stmt := topS 27
theorem sc20 : FnScope ["book", "piece", "key", "tree"] ["book", "piece"] (defScope s20) := ⟨rfl, rfl, rfl, by decide +kernel, rfl, by decide +kernel, by decide +kernel⟩
/-- _law_plan -/
abbrev s21 : Stmt := topS 28
theorem sc21 : FnScope ["state", "book", "key", "left", "cell", "puts", "place", "piece", "some", "must", "one"] ["state", "book", "key", "left"] (defScope s21) := ⟨rfl, rfl, rfl, by decide +kernel, rfl, by decide +kernel, by decide +kernel⟩
/-- _law_odd -/
abbrev s22 : Stmt := topS 29
theorem sc22 : FnScope ["plan", "other", "cell", "put", "some", "truths", "key", "puts", "near", "at", "spot", "truth", "place", "inner", "one", "k"] ["plan", "other", "cell"] (defScope s22) := ⟨rfl, rfl, rfl, by decide +kernel, rfl, by decide +kernel, by decide +kernel⟩
/-- _law_bent -/
abbrev s23 : Stmt := topS 30
theorem sc23 : FnScope ["plan", "other", "cell", "at", "bent", "place", "inner"] ["plan", "other", "cell"] (defScope s23) := ⟨rfl, rfl, rfl, by decide +kernel, rfl, by decide +kernel, by decide +kernel⟩
/-- _law_is_put -/
abbrev s24 : Stmt := topS 31
theorem sc24 : FnScope ["one", "k"] ["one"] (defScope s24) := ⟨rfl, rfl, rfl, by decide +kernel, rfl, by decide +kernel, by decide +kernel⟩
/-- _law_is_plan -/
abbrev s25 : Stmt := topS 32
theorem sc25 : FnScope ["book", "thing", "trees", "where_put", "pieces", "place", "piece", "must", "one", "key", "tree"] ["book", "thing"] (defScope s25) := ⟨rfl, rfl, rfl, by decide +kernel, rfl, by decide +kernel, by decide +kernel⟩
/-- _law_deeper -/
abbrev s26 : Stmt := topS 33
theorem sc26 : FnScope ["book", "cell", "found", "k", "kids", "turn", "key", "tree"] ["book", "cell"] (defScope s26) := ⟨rfl, rfl, rfl, by decide +kernel, rfl, by decide +kernel, by decide +kernel⟩
/-- law -/
abbrev s27 : Stmt := topS 34
theorem sc27 : FnScope ["script", "state", "cell", "book", "keys", "plan", "other", "at", "fewer", "thing", "some", "told", "key", "tree"] ["script"] (defScope s27) := ⟨rfl, rfl, rfl, by decide +kernel, rfl, by decide +kernel, by decide +kernel⟩
abbrev si_NoPlace : Stmt := clsS (topS 2) 0
theorem sci_NoPlace : FnScope ["self", "place"] ["self", "place"] (defScope si_NoPlace) := ⟨rfl, rfl, rfl, by decide +kernel, rfl, by decide +kernel, by decide +kernel⟩
structure Top (K : PySem.W.Frag) (mg : Str → Option Value) where
  a0 : Addr
  d0 : FuncData
  F0 : Fun K "kids_of" "kids_of" s0 a0 d0
  b0 : Binds K d0 ["tree"] []
  g0 : mg "kids_of" = some (.ref a0)
  a1 : Addr
  d1 : FuncData
  F1 : Fun K "places" "places" s1 a1 d1
  b1 : Binds K d1 ["tree"] []
  g1 : mg "places" = some (.ref a1)
  a2 : Addr
  d2 : FuncData
  F2 : Fun K "piece_at" "piece_at" s2 a2 d2
  b2 : Binds K d2 ["tree", "place"] []
  g2 : mg "piece_at" = some (.ref a2)
  a3 : Addr
  d3 : FuncData
  F3 : Fun K "feet_of" "feet_of" s3 a3 d3
  b3 : Binds K d3 ["tree"] []
  g3 : mg "feet_of" = some (.ref a3)
  a4 : Addr
  d4 : FuncData
  F4 : Fun K "is_graft" "is_graft" s4 a4 d4
  b4 : Binds K d4 ["tree"] []
  g4 : mg "is_graft" = some (.ref a4)
  a5 : Addr
  d5 : FuncData
  F5 : Fun K "name_of" "name_of" s5 a5 d5
  b5 : Binds K d5 ["tree"] []
  g5 : mg "name_of" = some (.ref a5)
  a6 : Addr
  d6 : FuncData
  F6 : Fun K "tree_of" "tree_of" s6 a6 d6
  b6 : Binds K d6 ["book", "key"] []
  g6 : mg "tree_of" = some (.ref a6)
  a7 : Addr
  d7 : FuncData
  F7 : Fun K "wanted" "wanted" s7 a7 d7
  b7 : Binds K d7 ["piece"] []
  g7 : mg "wanted" = some (.ref a7)
  a8 : Addr
  d8 : FuncData
  F8 : Fun K "takers" "takers" s8 a8 d8
  b8 : Binds K d8 ["book", "piece"] []
  g8 : mg "takers" = some (.ref a8)
  a9 : Addr
  d9 : FuncData
  F9 : Fun K "are_numbers" "are_numbers" s9 a9 d9
  b9 : Binds K d9 ["thing"] []
  g9 : mg "are_numbers" = some (.ref a9)
  a10 : Addr
  d10 : FuncData
  F10 : Fun K "are_puts" "are_puts" s10 a10 d10
  b10 : Binds K d10 ["thing"] []
  g10 : mg "are_puts" = some (.ref a10)
  a11 : Addr
  d11 : FuncData
  F11 : Fun K "put_well" "put_well" s11 a11 d11
  b11 : Binds K d11 ["book", "tree", "puts"] []
  g11 : mg "put_well" = some (.ref a11)
  a12 : Addr
  d12 : FuncData
  F12 : Fun K "is_plan" "is_plan" s12 a12 d12
  b12 : Binds K d12 ["book", "thing"] []
  g12 : mg "is_plan" = some (.ref a12)
  a13 : Addr
  d13 : FuncData
  F13 : Fun K "_law_cell" "_law_cell" s13 a13 d13
  b13 : Binds K d13 ["state"] []
  g13 : mg "_law_cell" = some (.ref a13)
  a14 : Addr
  d14 : FuncData
  F14 : Fun K "_law_kid" "_law_kid" s14 a14 d14
  b14 : Binds K d14 ["state", "left"] []
  g14 : mg "_law_kid" = some (.ref a14)
  a15 : Addr
  d15 : FuncData
  F15 : Fun K "_law_footed" "_law_footed" s15 a15 d15
  b15 : Binds K d15 ["tree", "foot", "cell"] []
  g15 : mg "_law_footed" = some (.ref a15)
  a16 : Addr
  d16 : FuncData
  F16 : Fun K "_law_drawn" "_law_drawn" s16 a16 d16
  b16 : Binds K d16 ["state", "left"] []
  g16 : mg "_law_drawn" = some (.ref a16)
  a17 : Addr
  d17 : FuncData
  F17 : Fun K "_law_book" "_law_book" s17 a17 d17
  b17 : Binds K d17 ["state", "many", "left"] []
  g17 : mg "_law_book" = some (.ref a17)
  a18 : Addr
  d18 : FuncData
  F18 : Fun K "_law_pieces" "_law_pieces" s18 a18 d18
  b18 : Binds K d18 ["tree", "place"] []
  g18 : mg "_law_pieces" = some (.ref a18)
  a19 : Addr
  d19 : FuncData
  F19 : Fun K "_law_called" "_law_called" s19 a19 d19
  b19 : Binds K d19 ["tree"] []
  g19 : mg "_law_called" = some (.ref a19)
  a20 : Addr
  d20 : FuncData
  F20 : Fun K "_law_takers" "_law_takers" s20 a20 d20
  b20 : Binds K d20 ["book", "piece"] []
  g20 : mg "_law_takers" = some (.ref a20)
  a21 : Addr
  d21 : FuncData
  F21 : Fun K "_law_plan" "_law_plan" s21 a21 d21
  b21 : Binds K d21 ["state", "book", "key", "left"] []
  g21 : mg "_law_plan" = some (.ref a21)
  a22 : Addr
  d22 : FuncData
  F22 : Fun K "_law_odd" "_law_odd" s22 a22 d22
  b22 : Binds K d22 ["plan", "other", "cell"] []
  g22 : mg "_law_odd" = some (.ref a22)
  a23 : Addr
  d23 : FuncData
  F23 : Fun K "_law_bent" "_law_bent" s23 a23 d23
  b23 : Binds K d23 ["plan", "other", "cell"] []
  g23 : mg "_law_bent" = some (.ref a23)
  a24 : Addr
  d24 : FuncData
  F24 : Fun K "_law_is_put" "_law_is_put" s24 a24 d24
  b24 : Binds K d24 ["one"] []
  g24 : mg "_law_is_put" = some (.ref a24)
  a25 : Addr
  d25 : FuncData
  F25 : Fun K "_law_is_plan" "_law_is_plan" s25 a25 d25
  b25 : Binds K d25 ["book", "thing"] []
  g25 : mg "_law_is_plan" = some (.ref a25)
  a26 : Addr
  d26 : FuncData
  F26 : Fun K "_law_deeper" "_law_deeper" s26 a26 d26
  b26 : Binds K d26 ["book", "cell"] []
  g26 : mg "_law_deeper" = some (.ref a26)
  a27 : Addr
  d27 : FuncData
  F27 : Fun K "law" "law" s27 a27 d27
  b27 : Binds K d27 ["script"] []
  g27 : mg "law" = some (.ref a27)
  m_enumerate : mg "enumerate" = none
  m_len : mg "len" = none
  m_isinstance : mg "isinstance" = none
  m_int : mg "int" = none
  m_bool : mg "bool" = none
  m_tuple : mg "tuple" = none
  m_str : mg "str" = none
  m_dict : mg "dict" = none
  m_range : mg "range" = none
  m_max : mg "max" = none
  m_list : mg "list" = none
  m_reversed : mg "reversed" = none
  m_sorted : mg "sorted" = none
  m_set : mg "set" = none
  xA_GraftError : Addr
  xg_GraftError : mg "GraftError" = some (.ref xA_GraftError)
  xA_NoPlace : Addr
  xg_NoPlace : mg "NoPlace" = some (.ref xA_NoPlace)
  gi : giB K xA_GraftError = true
  xI_NoPlace : Addr
  xd_NoPlace : FuncData
  xF_NoPlace : Fun K "__init__" "NoPlace.__init__" si_NoPlace xI_NoPlace xd_NoPlace
  xb_NoPlace : Binds K xd_NoPlace ("self" :: ["place"]) []
  xT_NoPlace : OexC K xA_NoPlace
  xo_NoPlace : oeB K xA_NoPlace xI_NoPlace ["place"] = true
  xv_NoPlace : cvK K "NoPlace" = .ref xA_NoPlace
structure Lv (P : Program) (K : KW) (mg : Str → Option Value) (base : Heap) (T : Top K.fr mg) (k : Nat) : Prop where
  h0 : FnOk P K.w K.fr mg base (L2.CX P K.w) k T.a0 T.d0 ["tree"] (spF K (cvK K.fr) 1 (fs k 0))
  h1 : FnOk P K.w K.fr mg base (L2.CX P K.w) k T.a1 T.d1 ["tree"] (spF K (cvK K.fr) 1 (fs k 1))
  h2 : FnOk P K.w K.fr mg base (L2.CX P K.w) k T.a2 T.d2 ["tree", "place"] (spF K (cvK K.fr) 2 (fs k 2))
  h3 : FnOk P K.w K.fr mg base (L2.CX P K.w) k T.a3 T.d3 ["tree"] (spF K (cvK K.fr) 1 (fs k 3))
  h4 : FnOk P K.w K.fr mg base (L2.CX P K.w) k T.a4 T.d4 ["tree"] (spF K (cvK K.fr) 1 (fs k 4))
  h5 : FnOk P K.w K.fr mg base (L2.CX P K.w) k T.a5 T.d5 ["tree"] (spF K (cvK K.fr) 1 (fs k 5))
  h6 : FnOk P K.w K.fr mg base (L2.CX P K.w) k T.a6 T.d6 ["book", "key"] (spF K (cvK K.fr) 2 (fs k 6))
  h7 : FnOk P K.w K.fr mg base (L2.CX P K.w) k T.a7 T.d7 ["piece"] (spF K (cvK K.fr) 1 (fs k 7))
  h8 : FnOk P K.w K.fr mg base (L2.CX P K.w) k T.a8 T.d8 ["book", "piece"] (spF K (cvK K.fr) 2 (fs k 8))
  h9 : FnOk P K.w K.fr mg base (L2.CX P K.w) k T.a9 T.d9 ["thing"] (spF K (cvK K.fr) 1 (fs k 9))
  h10 : FnOk P K.w K.fr mg base (L2.CX P K.w) k T.a10 T.d10 ["thing"] (spF K (cvK K.fr) 1 (fs k 10))
  h11 : FnOk P K.w K.fr mg base (L2.CX P K.w) k T.a11 T.d11 ["book", "tree", "puts"] (spF K (cvK K.fr) 3 (fs k 11))
  h12 : FnOk P K.w K.fr mg base (L2.CX P K.w) k T.a12 T.d12 ["book", "thing"] (spF K (cvK K.fr) 2 (fs k 12))
  h13 : FnOk P K.w K.fr mg base (L2.CX P K.w) k T.a13 T.d13 ["state"] (spF K (cvK K.fr) 1 (fs k 13))
  h14 : FnOk P K.w K.fr mg base (L2.CX P K.w) k T.a14 T.d14 ["state", "left"] (spF K (cvK K.fr) 2 (fs k 14))
  h15 : FnOk P K.w K.fr mg base (L2.CX P K.w) k T.a15 T.d15 ["tree", "foot", "cell"] (spF K (cvK K.fr) 3 (fs k 15))
  h16 : FnOk P K.w K.fr mg base (L2.CX P K.w) k T.a16 T.d16 ["state", "left"] (spF K (cvK K.fr) 2 (fs k 16))
  h17 : FnOk P K.w K.fr mg base (L2.CX P K.w) k T.a17 T.d17 ["state", "many", "left"] (spF K (cvK K.fr) 3 (fs k 17))
  h18 : FnOk P K.w K.fr mg base (L2.CX P K.w) k T.a18 T.d18 ["tree", "place"] (spF K (cvK K.fr) 2 (fs k 18))
  h19 : FnOk P K.w K.fr mg base (L2.CX P K.w) k T.a19 T.d19 ["tree"] (spF K (cvK K.fr) 1 (fs k 19))
  h20 : FnOk P K.w K.fr mg base (L2.CX P K.w) k T.a20 T.d20 ["book", "piece"] (spF K (cvK K.fr) 2 (fs k 20))
  h21 : FnOk P K.w K.fr mg base (L2.CX P K.w) k T.a21 T.d21 ["state", "book", "key", "left"] (spF K (cvK K.fr) 4 (fs k 21))
  h22 : FnOk P K.w K.fr mg base (L2.CX P K.w) k T.a22 T.d22 ["plan", "other", "cell"] (spF K (cvK K.fr) 3 (fs k 22))
  h23 : FnOk P K.w K.fr mg base (L2.CX P K.w) k T.a23 T.d23 ["plan", "other", "cell"] (spF K (cvK K.fr) 3 (fs k 23))
  h24 : FnOk P K.w K.fr mg base (L2.CX P K.w) k T.a24 T.d24 ["one"] (spF K (cvK K.fr) 1 (fs k 24))
  h25 : FnOk P K.w K.fr mg base (L2.CX P K.w) k T.a25 T.d25 ["book", "thing"] (spF K (cvK K.fr) 2 (fs k 25))
  h26 : FnOk P K.w K.fr mg base (L2.CX P K.w) k T.a26 T.d26 ["book", "cell"] (spF K (cvK K.fr) 2 (fs k 26))
  h27 : FnOk P K.w K.fr mg base (L2.CX P K.w) k T.a27 T.d27 ["script"] (spF K (cvK K.fr) 1 (fs k 27))
  x_NoPlace : IniOk P K.w K.fr mg base k T.xI_NoPlace T.xd_NoPlace ["place"] (fs k 28)
section
variable {P : Program} {K : KW} {mg : Str → Option Value} {base : Heap}
/-- kids_of -/
theorem e0 (k : Nat) : fs (k + 1) 0 = fnF 1 1 (m_kids_of) := rfl
theorem w0 {T : Top K.fr mg} {k : Nat} (L : Lv P K mg base T k) : FnOk P K.w K.fr mg base (L2.CX P K.w) (k + 1) T.a0 T.d0 ["tree"] (spF K (cvK K.fr) 1 (fs (k + 1) 0)) := by
  rw [e0]
  refine fn_of' ["tree"] rfl rfl T.F0 sc0 fun cdv A outer s H E hr tk po => ?_
  have nd := sc0.nd
  have hu := hr.units
  have hu2 : _ + 199 < cLine := Nat.lt_of_le_of_lt (Nat.add_le_add_left (by decide : 199 ≤ 200) _) (Nat.lt_of_le_of_lt (Nat.add_le_add_right (Nat.le_add_right _ _) _) hr.un)
  have hu5 : _ + 65 < cLine := Nat.lt_of_le_of_lt (Nat.add_le_add_left (by decide : 65 ≤ 200) _) (Nat.lt_of_le_of_lt (Nat.add_le_add_right (Nat.le_add_right _ _) _) hr.un)
  unfold m_kids_of
  exact ⟨_, (sss_one (ss_end (ss_ret (se_if (st_cmp ol_eqB (op_eqB (by exact hu2)) (se_ixA (by exact hu5) (se_vb 0) se_int) se_str) (se_ixA (by exact hu5) (se_vb 0) se_int) (se_tup sa_nil)))))⟩
/-- places -/
theorem e1 (k : Nat) : fs (k + 1) 1 = fnF 5 1 (m_places (fs k 0) (fs k 1)) := rfl
theorem w1 {T : Top K.fr mg} {k : Nat} (L : Lv P K mg base T k) : FnOk P K.w K.fr mg base (L2.CX P K.w) (k + 1) T.a1 T.d1 ["tree"] (spF K (cvK K.fr) 1 (fs (k + 1) 1)) := by
  rw [e1]
  refine fn_of' ["tree", "found", "k", "kid", "place"] rfl rfl T.F1 sc1 fun cdv A outer s H E hr tk po => ?_
  have nd := sc1.nd
  have hu := hr.units
  have hu2 : _ + 199 < cLine := Nat.lt_of_le_of_lt (Nat.add_le_add_left (by decide : 199 ≤ 200) _) (Nat.lt_of_le_of_lt (Nat.add_le_add_right (Nat.le_add_right _ _) _) hr.un)
  have hu5 : _ + 65 < cLine := Nat.lt_of_le_of_lt (Nat.add_le_add_left (by decide : 65 ≤ 200) _) (Nat.lt_of_le_of_lt (Nat.add_le_add_right (Nat.le_add_right _ _) _) hr.un)
  unfold m_places m_places_b2 m_places_b1
  exact ⟨_, (sss_cons (ss_set (i := 1) nd (se_lst (sa_cons (se_tup sa_nil) sa_nil))) (sss_cons (ss_for po rfl (si_en (se_call L.h0 hr T.g0 T.F0.kp T.b0 tk (sa_cons (se_mv 0) sa_nil) none) T.m_enumerate) (sg_tup rfl (sgs_cons (sg_name nd) (sgs_cons (sg_name nd) sgs_nil))) (sss_kill (vs := [2, 3, 4]) (sss_one (ss_for po rfl (si_sq (se_call L.h1 hr T.g1 T.F1.kp T.b1 tk (sa_cons (se_mv 3) sa_nil) none)) (sg_name nd) (sss_kill (vs := [4]) (sss_one (ss_app (i := 1) (se_bin ol_add op_addA (se_tup (sa_cons (se_mv 2) sa_nil)) (se_vb 4))))))))) (sss_one (ss_end (ss_ret (se_rv 1))))))⟩
/-- piece_at -/
theorem e2 (k : Nat) : fs (k + 1) 2 = fnF 5 2 (m_piece_at_2 (fs k 28) (fs k 0)) := rfl
theorem w2 {T : Top K.fr mg} {k : Nat} (L : Lv P K mg base T k) : FnOk P K.w K.fr mg base (L2.CX P K.w) (k + 1) T.a2 T.d2 ["tree", "place"] (spF K (cvK K.fr) 2 (fs (k + 1) 2)) := by
  rw [e2]
  refine fn_of' ["tree", "place", "found", "number", "kids"] rfl rfl T.F2 sc2 fun cdv A outer s H E hr tk po => ?_
  have nd := sc2.nd
  have hu := hr.units
  have hu2 : _ + 199 < cLine := Nat.lt_of_le_of_lt (Nat.add_le_add_left (by decide : 199 ≤ 200) _) (Nat.lt_of_le_of_lt (Nat.add_le_add_right (Nat.le_add_right _ _) _) hr.un)
  have hu5 : _ + 65 < cLine := Nat.lt_of_le_of_lt (Nat.add_le_add_left (by decide : 65 ≤ 200) _) (Nat.lt_of_le_of_lt (Nat.add_le_add_right (Nat.le_add_right _ _) _) hr.un)
  unfold m_piece_at_2 m_piece_at_2_b1
  exact ⟨_, (sss_cons (ss_set (i := 2) nd (se_mv 0)) (sss_cons (ss_for po rfl (si_sq (se_mv 1)) (sg_name nd) (sss_kill (vs := [3, 4]) (sss_cons (ss_set (i := 4) nd (se_call L.h0 hr T.g0 T.F0.kp T.b0 tk (sa_cons (se_mv 2) sa_nil) none)) (sss_cons (ss_if (st_not (st_chain ol_cmp op_le ol_ltA (op_ltA (by exact hu5)) se_int (se_vb 3) (se_cb cl_len call_len T.m_len (sa_cons (se_vb 4) sa_nil)))) (sss_one (ss_raise L.x_NoPlace T.xT_NoPlace T.xo_NoPlace T.xv_NoPlace T.xg_NoPlace T.xb_NoPlace hr tk rfl (sa_cons (se_mv 1) sa_nil))) sss_nil) (sss_one (ss_set (i := 2) nd (se_ixA (by exact hu5) (se_vb 4) (se_vb 3)))))))) (sss_one (ss_end (ss_ret (se_rv 2))))))⟩
/-- feet_of -/
theorem e3 (k : Nat) : fs (k + 1) 3 = fnF 4 1 (m_feet_of (fs k 1) (fs k 2)) := rfl
theorem w3 {T : Top K.fr mg} {k : Nat} (L : Lv P K mg base T k) : FnOk P K.w K.fr mg base (L2.CX P K.w) (k + 1) T.a3 T.d3 ["tree"] (spF K (cvK K.fr) 1 (fs (k + 1) 3)) := by
  rw [e3]
  refine fn_of' ["tree", "pieces", "place", "piece"] rfl rfl T.F3 sc3 fun cdv A outer s H E hr tk po => ?_
  have nd := sc3.nd
  have hu := hr.units
  have hu2 : _ + 199 < cLine := Nat.lt_of_le_of_lt (Nat.add_le_add_left (by decide : 199 ≤ 200) _) (Nat.lt_of_le_of_lt (Nat.add_le_add_right (Nat.le_add_right _ _) _) hr.un)
  have hu5 : _ + 65 < cLine := Nat.lt_of_le_of_lt (Nat.add_le_add_left (by decide : 65 ≤ 200) _) (Nat.lt_of_le_of_lt (Nat.add_le_add_right (Nat.le_add_right _ _) _) hr.un)
  unfold m_feet_of m_feet_of_ce3 m_feet_of_ce2 m_feet_of_ct1
  exact ⟨_, (sss_cons (ss_setLc (i := 1) (own := [(("place" : Str), 2)]) rfl nd (blkOk_by (N := ["tree", "pieces", "place", "piece"]) (sc := defScope s3) (by decide +kernel)) (si_sq (se_call L.h1 hr T.g1 T.F1.kp T.b1 tk (sa_cons (se_mv 0) sa_nil) none)) (fun _ _ _ _ _ => (sgw_name nd)) (fun _ _ _ _ _ => sp_nil) (fun _ _ _ _ _ => (se_call L.h2 (by exact hr) T.g2 T.F2.kp T.b2 takes0 (sa_cons (se_mv 0) (sa_cons (se_mv 2) sa_nil)) none)) (sw_true rfl rfl rfl (by decide +kernel))) (sss_one (ss_end (ss_ret (se_comp (own := [(("piece" : Str), 3)]) rfl nd (blkOk_by (N := ["tree", "pieces", "place", "piece"]) (sc := defScope s3) (by decide +kernel)) (si_sq (se_mv 1)) (fun _ _ _ _ _ => (sgw_name nd)) (fun _ _ _ _ _ => (sp_one (st_cmp ol_eqB (op_eqB (by exact hu2)) (se_ixA (by exact hu5) (se_vb 3) se_int) se_str))) (fun _ _ _ _ _ => (se_ixA (by exact hu5) (se_vb 3) se_int)))))))⟩
/-- is_graft -/
theorem e4 (k : Nat) : fs (k + 1) 4 = fnF 1 1 (m_is_graft (fs k 3)) := rfl
theorem w4 {T : Top K.fr mg} {k : Nat} (L : Lv P K mg base T k) : FnOk P K.w K.fr mg base (L2.CX P K.w) (k + 1) T.a4 T.d4 ["tree"] (spF K (cvK K.fr) 1 (fs (k + 1) 4)) := by
  rw [e4]
  refine fn_of' ["tree"] rfl rfl T.F4 sc4 fun cdv A outer s H E hr tk po => ?_
  have nd := sc4.nd
  have hu := hr.units
  have hu2 : _ + 199 < cLine := Nat.lt_of_le_of_lt (Nat.add_le_add_left (by decide : 199 ≤ 200) _) (Nat.lt_of_le_of_lt (Nat.add_le_add_right (Nat.le_add_right _ _) _) hr.un)
  have hu5 : _ + 65 < cLine := Nat.lt_of_le_of_lt (Nat.add_le_add_left (by decide : 65 ≤ 200) _) (Nat.lt_of_le_of_lt (Nat.add_le_add_right (Nat.le_add_right _ _) _) hr.un)
  unfold m_is_graft
  exact ⟨_, (sss_one (ss_end (ss_ret (se_cmp ol_eqB (op_eqB (by exact hu2)) (se_cb cl_len call_len T.m_len (sa_cons (se_call L.h3 hr T.g3 T.F3.kp T.b3 tk (sa_cons (se_mv 0) sa_nil) none) sa_nil)) se_int))))⟩
/-- name_of -/
theorem e5 (k : Nat) : fs (k + 1) 5 = fnF 2 1 (m_name_of (fs k 3)) := rfl
theorem w5 {T : Top K.fr mg} {k : Nat} (L : Lv P K mg base T k) : FnOk P K.w K.fr mg base (L2.CX P K.w) (k + 1) T.a5 T.d5 ["tree"] (spF K (cvK K.fr) 1 (fs (k + 1) 5)) := by
  rw [e5]
  refine fn_of' ["tree", "feet"] rfl rfl T.F5 sc5 fun cdv A outer s H E hr tk po => ?_
  have nd := sc5.nd
  have hu := hr.units
  have hu2 : _ + 199 < cLine := Nat.lt_of_le_of_lt (Nat.add_le_add_left (by decide : 199 ≤ 200) _) (Nat.lt_of_le_of_lt (Nat.add_le_add_right (Nat.le_add_right _ _) _) hr.un)
  have hu5 : _ + 65 < cLine := Nat.lt_of_le_of_lt (Nat.add_le_add_left (by decide : 65 ≤ 200) _) (Nat.lt_of_le_of_lt (Nat.add_le_add_right (Nat.le_add_right _ _) _) hr.un)
  unfold m_name_of
  exact ⟨_, (sss_cons (ss_set (i := 1) nd (se_call L.h3 hr T.g3 T.F3.kp T.b3 tk (sa_cons (se_mv 0) sa_nil) none)) (sss_one (ss_end (ss_ret (se_if (st_cmp ol_eqB (op_eqB (by exact hu2)) (se_cb cl_len call_len T.m_len (sa_cons (se_vb 1) sa_nil)) se_int) (se_ixA (by exact hu5) (se_vb 1) se_int) (se_ixA (by exact hu5) (se_vb 0) se_int))))))⟩
/-- tree_of -/
theorem e6 (k : Nat) : fs (k + 1) 6 = fnF 5 2 (m_tree_of) := rfl
theorem w6 {T : Top K.fr mg} {k : Nat} (L : Lv P K mg base T k) : FnOk P K.w K.fr mg base (L2.CX P K.w) (k + 1) T.a6 T.d6 ["book", "key"] (spF K (cvK K.fr) 2 (fs (k + 1) 6)) := by
  rw [e6]
  refine fn_of' ["book", "key", "found", "one", "tree"] rfl rfl T.F6 sc6 fun cdv A outer s H E hr tk po => ?_
  have nd := sc6.nd
  have hu := hr.units
  have hu2 : _ + 199 < cLine := Nat.lt_of_le_of_lt (Nat.add_le_add_left (by decide : 199 ≤ 200) _) (Nat.lt_of_le_of_lt (Nat.add_le_add_right (Nat.le_add_right _ _) _) hr.un)
  have hu5 : _ + 65 < cLine := Nat.lt_of_le_of_lt (Nat.add_le_add_left (by decide : 65 ≤ 200) _) (Nat.lt_of_le_of_lt (Nat.add_le_add_right (Nat.le_add_right _ _) _) hr.un)
  unfold m_tree_of m_tree_of_b1
  exact ⟨_, (sss_cons (ss_set (i := 2) nd se_non) (sss_cons (ss_for po rfl (si_sq (se_ixA (by exact hu5) (se_vb 0) se_int)) (sg_tup rfl (sgs_cons (sg_name nd) (sgs_cons (sg_name nd) sgs_nil))) (sss_kill (vs := [3, 4]) (sss_one (ss_if (st_cmp ol_eqB (op_eqB (by exact hu2)) (se_vb 3) (se_vb 1)) (sss_one (ss_set (i := 2) nd (se_mv 4))) sss_nil)))) (sss_one (ss_end (ss_ret (se_rv 2))))))⟩
/-- wanted -/
theorem e7 (k : Nat) : fs (k + 1) 7 = fnF 1 1 (m_wanted) := rfl
theorem w7 {T : Top K.fr mg} {k : Nat} (L : Lv P K mg base T k) : FnOk P K.w K.fr mg base (L2.CX P K.w) (k + 1) T.a7 T.d7 ["piece"] (spF K (cvK K.fr) 1 (fs (k + 1) 7)) := by
  rw [e7]
  refine fn_of' ["piece"] rfl rfl T.F7 sc7 fun cdv A outer s H E hr tk po => ?_
  have nd := sc7.nd
  have hu := hr.units
  have hu2 : _ + 199 < cLine := Nat.lt_of_le_of_lt (Nat.add_le_add_left (by decide : 199 ≤ 200) _) (Nat.lt_of_le_of_lt (Nat.add_le_add_right (Nat.le_add_right _ _) _) hr.un)
  have hu5 : _ + 65 < cLine := Nat.lt_of_le_of_lt (Nat.add_le_add_left (by decide : 65 ≤ 200) _) (Nat.lt_of_le_of_lt (Nat.add_le_add_right (Nat.le_add_right _ _) _) hr.un)
  unfold m_wanted
  exact ⟨_, (sss_cons (ss_if (st_cmp ol_eqB (op_eqB (by exact hu2)) (se_ixA (by exact hu5) (se_vb 0) se_int) se_str) (sss_one (ss_end (ss_ret (se_tup (sa_cons se_bl (sa_cons (se_ixA (by exact hu5) (se_vb 0) se_int) (sa_cons se_bl sa_nil))))))) sss_nil) (sss_cons (ss_if (sw_and (st_cmp ol_eqB (op_eqB (by exact hu2)) (se_ixA (by exact hu5) (se_vb 0) se_int) se_str) (sw_one (st_cmp ol_not op_notA (se_ixA (by exact hu5) (se_vb 0) se_int) se_non))).st (sss_one (ss_end (ss_ret (se_tup (sa_cons se_bl (sa_cons (se_ixA (by exact hu5) (se_ixA (by exact hu5) (se_vb 0) se_int) se_int) (sa_cons (se_ixA (by exact hu5) (se_ixA (by exact hu5) (se_vb 0) se_int) se_int) sa_nil))))))) sss_nil) (sss_one (ss_ret se_non))))⟩
/-- takers -/
theorem e8 (k : Nat) : fs (k + 1) 8 = fnF 5 2 (m_takers (fs k 5) (fs k 4) (fs k 7)) := rfl
theorem w8 {T : Top K.fr mg} {k : Nat} (L : Lv P K mg base T k) : FnOk P K.w K.fr mg base (L2.CX P K.w) (k + 1) T.a8 T.d8 ["book", "piece"] (spF K (cvK K.fr) 2 (fs (k + 1) 8)) := by
  rw [e8]
  refine fn_of' ["book", "piece", "want", "key", "tree"] rfl rfl T.F8 sc8 fun cdv A outer s H E hr tk po => ?_
  have nd := sc8.nd
  have hu := hr.units
  have hu2 : _ + 199 < cLine := Nat.lt_of_le_of_lt (Nat.add_le_add_left (by decide : 199 ≤ 200) _) (Nat.lt_of_le_of_lt (Nat.add_le_add_right (Nat.le_add_right _ _) _) hr.un)
  have hu5 : _ + 65 < cLine := Nat.lt_of_le_of_lt (Nat.add_le_add_left (by decide : 65 ≤ 200) _) (Nat.lt_of_le_of_lt (Nat.add_le_add_right (Nat.le_add_right _ _) _) hr.un)
  unfold m_takers m_takers_ce2 m_takers_ct1
  exact ⟨_, (sss_cons (ss_set (i := 2) nd (se_call L.h7 hr T.g7 T.F7.kp T.b7 tk (sa_cons (se_mv 1) sa_nil) none)) (sss_cons (ss_if (st_cmp ol_is op_isA (se_vb 2) se_non) (sss_one (ss_end (ss_ret (se_lst sa_nil)))) sss_nil) (sss_one (ss_end (ss_ret (se_comp (own := [(("key" : Str), 3), (("tree" : Str), 4)]) rfl nd (blkOk_by (N := ["book", "piece", "want", "key", "tree"]) (sc := defScope s8) (by decide +kernel)) (si_sq (se_ixA (by exact hu5) (se_vb 0) se_int)) (fun _ _ _ _ _ => (sgw_tup rfl (sgws_cons (sgw_name nd) (sgws_cons (sgw_name nd) sgws_nil)))) (fun _ _ _ _ _ => (sp_one (sw_and (st_cmp ol_eqB (op_eqB (by exact hu2)) (se_call L.h4 (by exact hr) T.g4 T.F4.kp T.b4 takes0 (sa_cons (se_mv 4) sa_nil) none) (se_ixA (by exact hu5) (se_vb 2) se_int)) (sw_one (st_cmp ol_eqB (op_eqB (by exact hu2)) (se_call L.h5 (by exact hr) T.g5 T.F5.kp T.b5 takes0 (sa_cons (se_mv 4) sa_nil) none) (se_ixA (by exact hu5) (se_vb 2) se_int)))).st)) (fun _ _ _ _ _ => (se_mv 3))))))))⟩
/-- are_numbers -/
theorem e9 (k : Nat) : fs (k + 1) 9 = fnF 2 1 (m_are_numbers) := rfl
theorem w9 {T : Top K.fr mg} {k : Nat} (L : Lv P K mg base T k) : FnOk P K.w K.fr mg base (L2.CX P K.w) (k + 1) T.a9 T.d9 ["thing"] (spF K (cvK K.fr) 1 (fs (k + 1) 9)) := by
  rw [e9]
  refine fn_of' ["thing", "one"] rfl rfl T.F9 sc9 fun cdv A outer s H E hr tk po => ?_
  have nd := sc9.nd
  have hu := hr.units
  have hu2 : _ + 199 < cLine := Nat.lt_of_le_of_lt (Nat.add_le_add_left (by decide : 199 ≤ 200) _) (Nat.lt_of_le_of_lt (Nat.add_le_add_right (Nat.le_add_right _ _) _) hr.un)
  have hu5 : _ + 65 < cLine := Nat.lt_of_le_of_lt (Nat.add_le_add_left (by decide : 65 ≤ 200) _) (Nat.lt_of_le_of_lt (Nat.add_le_add_right (Nat.le_add_right _ _) _) hr.un)
  unfold m_are_numbers m_are_numbers_b1
  exact ⟨_, (sss_cons (ss_if (st_not (st_val (se_isi kit_tup T.m_isinstance T.m_tuple (se_vb 0)))) (sss_one (ss_end (ss_ret se_bl))) sss_nil) (sss_cons (ss_for po rfl (si_sq (se_mv 0)) (sg_name nd) (sss_kill (vs := [1]) (sss_one (ss_if (sw_or (st_val (se_isi kit_bool T.m_isinstance T.m_bool (se_vb 1))) (sw_one (st_not (st_val (se_isi kit_int T.m_isinstance T.m_int (se_vb 1)))))).st (sss_one (ss_end (ss_ret se_bl))) sss_nil)))) (sss_one (ss_end (ss_ret se_bl)))))⟩
/-- are_puts -/
theorem e10 (k : Nat) : fs (k + 1) 10 = fnF 3 1 (m_are_puts (fs k 9)) := rfl
theorem w10 {T : Top K.fr mg} {k : Nat} (L : Lv P K mg base T k) : FnOk P K.w K.fr mg base (L2.CX P K.w) (k + 1) T.a10 T.d10 ["thing"] (spF K (cvK K.fr) 1 (fs (k + 1) 10)) := by
  rw [e10]
  refine fn_of' ["thing", "ahead", "one"] rfl rfl T.F10 sc10 fun cdv A outer s H E hr tk po => ?_
  have nd := sc10.nd
  have hu := hr.units
  have hu2 : _ + 199 < cLine := Nat.lt_of_le_of_lt (Nat.add_le_add_left (by decide : 199 ≤ 200) _) (Nat.lt_of_le_of_lt (Nat.add_le_add_right (Nat.le_add_right _ _) _) hr.un)
  have hu5 : _ + 65 < cLine := Nat.lt_of_le_of_lt (Nat.add_le_add_left (by decide : 65 ≤ 200) _) (Nat.lt_of_le_of_lt (Nat.add_le_add_right (Nat.le_add_right _ _) _) hr.un)
  unfold m_are_puts m_are_puts_b1
  exact ⟨_, (sss_cons (ss_if (st_not (st_val (se_isi kit_tup T.m_isinstance T.m_tuple (se_vb 0)))) (sss_one (ss_end (ss_ret se_bl))) sss_nil) (sss_cons (ss_set (i := 1) nd se_non) (sss_cons (ss_for po rfl (si_sq (se_mv 0)) (sg_name nd) (sss_kill (vs := [2]) (sss_cons (ss_if (sw_or (st_not (st_val (se_isi kit_tup T.m_isinstance T.m_tuple (se_vb 2)))) (sw_or (st_cmp ol_neB (op_neB (by exact hu2)) (se_cb cl_len call_len T.m_len (sa_cons (se_vb 2) sa_nil)) se_int) (sw_one (st_not (st_val (se_call L.h9 hr T.g9 T.F9.kp T.b9 tk (sa_cons (se_ixA (by exact hu5) (se_vb 2) se_int) sa_nil) none)))))).st (sss_one (ss_end (ss_ret se_bl))) sss_nil) (sss_cons (ss_if (sw_or (st_not (st_val (se_isi kit_tup T.m_isinstance T.m_tuple (se_ixA (by exact hu5) (se_vb 2) se_int)))) (sw_or (st_cmp ol_neB (op_neB (by exact hu2)) (se_cb cl_len call_len T.m_len (sa_cons (se_ixA (by exact hu5) (se_vb 2) se_int) sa_nil)) se_int) (sw_one (st_not (st_val (se_isi kit_str T.m_isinstance T.m_str (se_ixA (by exact hu5) (se_ixA (by exact hu5) (se_vb 2) se_int) se_int))))))).st (sss_one (ss_end (ss_ret se_bl))) sss_nil) (sss_cons (ss_if (sw_and (st_cmp ol_not op_notA (se_vb 1) se_non) (sw_one (st_not (st_cmp ol_ltA (op_ltA (by exact hu5)) (se_vb 1) (se_ixA (by exact hu5) (se_vb 2) se_int))))).st (sss_one (ss_end (ss_ret se_bl))) sss_nil) (sss_one (ss_set (i := 1) nd (se_ixA (by exact hu5) (se_vb 2) se_int)))))))) (sss_one (ss_end (ss_ret se_bl))))))⟩
/-- put_well -/
theorem e11 (k : Nat) : fs (k + 1) 11 = fnF 7 3 (m_put_well (fs k 1) (fs k 8) (fs k 7) (fs k 2)) := rfl
theorem w11 {T : Top K.fr mg} {k : Nat} (L : Lv P K mg base T k) : FnOk P K.w K.fr mg base (L2.CX P K.w) (k + 1) T.a11 T.d11 ["book", "tree", "puts"] (spF K (cvK K.fr) 3 (fs (k + 1) 11)) := by
  rw [e11]
  refine fn_of' ["book", "tree", "puts", "told", "place", "piece", "want"] rfl rfl T.F11 sc11 fun cdv A outer s H E hr tk po => ?_
  have nd := sc11.nd
  have hu := hr.units
  have hu2 : _ + 199 < cLine := Nat.lt_of_le_of_lt (Nat.add_le_add_left (by decide : 199 ≤ 200) _) (Nat.lt_of_le_of_lt (Nat.add_le_add_right (Nat.le_add_right _ _) _) hr.un)
  have hu5 : _ + 65 < cLine := Nat.lt_of_le_of_lt (Nat.add_le_add_left (by decide : 65 ≤ 200) _) (Nat.lt_of_le_of_lt (Nat.add_le_add_right (Nat.le_add_right _ _) _) hr.un)
  unfold m_put_well m_put_well_b3 m_put_well_ce2 m_put_well_ct1
  exact ⟨_, (sss_cons (ss_set (i := 3) nd (se_ct cl_dict (call_dictX rfl (by exact hu5)) T.m_dict (sa_cons (se_vb 2) sa_nil))) (sss_cons (ss_for po rfl (si_sq (se_call L.h1 hr T.g1 T.F1.kp T.b1 tk (sa_cons (se_mv 1) sa_nil) none)) (sg_name nd) (sss_kill (vs := [4, 5, 6]) (sss_cons (ss_set (i := 5) nd (se_call L.h2 hr T.g2 T.F2.kp T.b2 tk (sa_cons (se_mv 1) (sa_cons (se_mv 4) sa_nil)) none)) (sss_cons (ss_set (i := 6) nd (se_call L.h7 hr T.g7 T.F7.kp T.b7 tk (sa_cons (se_mv 5) sa_nil) none)) (sss_cons (ss_if (sw_and (st_cmp ol_not op_notA (se_vb 6) se_non) (sw_and (st_val (se_ixA (by exact hu5) (se_vb 6) se_int)) (sw_one (st_cmp ol_notInB (op_notInB (by exact hu5)) (se_vb 4) (se_vb 3))))).st (sss_one (ss_end (ss_ret se_bl))) sss_nil) (sss_one (ss_if (sw_and (st_cmp ol_inB (op_inB (by exact hu5)) (se_vb 4) (se_vb 3)) (sw_one (st_cmp ol_notInB (op_notInB (by exact hu5)) (se_ixA (by exact hu5) (se_ixA (by exact hu5) (se_vb 3) (se_vb 4)) se_int) (se_call L.h8 hr T.g8 T.F8.kp T.b8 tk (sa_cons (se_mv 0) (sa_cons (se_mv 5) sa_nil)) none)))).st (sss_one (ss_end (ss_ret se_bl))) sss_nil))))))) (sss_one (ss_end (ss_ret (se_cmp ol_eqB (op_eqB (by exact hu2)) (se_cb cl_len call_len T.m_len (sa_cons (se_comp (own := [(("place" : Str), 4)]) rfl nd (blkOk_by (N := ["book", "tree", "puts", "told", "place", "piece", "want"]) (sc := defScope s11) (by decide +kernel)) (si_sq (se_mv 3)) (fun _ _ _ _ _ => (sgw_name nd)) (fun _ _ _ _ _ => (sp_one (st_cmp ol_notInB (op_notInB (by exact hu5)) (se_vb 4) (se_call L.h1 (by exact hr) T.g1 T.F1.kp T.b1 takes0 (sa_cons (se_mv 1) sa_nil) none)))) (fun _ _ _ _ _ => (se_mv 4))) sa_nil)) se_int))))))⟩
/-- is_plan -/
theorem e12 (k : Nat) : fs (k + 1) 12 = fnF 5 2 (m_is_plan (fs k 12) (fs k 11) (fs k 6) (fs k 10)) := rfl
theorem w12 {T : Top K.fr mg} {k : Nat} (L : Lv P K mg base T k) : FnOk P K.w K.fr mg base (L2.CX P K.w) (k + 1) T.a12 T.d12 ["book", "thing"] (spF K (cvK K.fr) 2 (fs (k + 1) 12)) := by
  rw [e12]
  refine fn_of' ["book", "thing", "tree", "place", "plan"] rfl rfl T.F12 sc12 fun cdv A outer s H E hr tk po => ?_
  have nd := sc12.nd
  have hu := hr.units
  have hu2 : _ + 199 < cLine := Nat.lt_of_le_of_lt (Nat.add_le_add_left (by decide : 199 ≤ 200) _) (Nat.lt_of_le_of_lt (Nat.add_le_add_right (Nat.le_add_right _ _) _) hr.un)
  have hu5 : _ + 65 < cLine := Nat.lt_of_le_of_lt (Nat.add_le_add_left (by decide : 65 ≤ 200) _) (Nat.lt_of_le_of_lt (Nat.add_le_add_right (Nat.le_add_right _ _) _) hr.un)
  unfold m_is_plan m_is_plan_b1
  exact ⟨_, (sss_cons (ss_if (sw_or (st_not (st_val (se_isi kit_tup T.m_isinstance T.m_tuple (se_vb 1)))) (sw_or (st_cmp ol_neB (op_neB (by exact hu2)) (se_cb cl_len call_len T.m_len (sa_cons (se_vb 1) sa_nil)) se_int) (sw_or (st_not (st_val (se_isi kit_str T.m_isinstance T.m_str (se_ixA (by exact hu5) (se_vb 1) se_int)))) (sw_one (st_not (st_val (se_call L.h10 hr T.g10 T.F10.kp T.b10 tk (sa_cons (se_ixA (by exact hu5) (se_vb 1) se_int) sa_nil) none))))))).st (sss_one (ss_end (ss_ret se_bl))) sss_nil) (sss_cons (ss_set (i := 2) nd (se_call L.h6 hr T.g6 T.F6.kp T.b6 tk (sa_cons (se_mv 0) (sa_cons (se_ixA (by exact hu5) (se_vb 1) se_int) sa_nil)) none)) (sss_cons (ss_if (sw_or (st_cmp ol_is op_isA (se_vb 2) se_non) (sw_one (st_not (st_val (se_call L.h11 hr T.g11 T.F11.kp T.b11 tk (sa_cons (se_mv 0) (sa_cons (se_mv 2) (sa_cons (se_ixA (by exact hu5) (se_vb 1) se_int) sa_nil))) none))))).st (sss_one (ss_end (ss_ret se_bl))) sss_nil) (sss_cons (ss_for po rfl (si_sq (se_ixA (by exact hu5) (se_vb 1) se_int)) (sg_tup rfl (sgs_cons (sg_name nd) (sgs_cons (sg_name nd) sgs_nil))) (sss_kill (vs := [3, 4]) (sss_one (ss_if (st_not (st_val (se_call L.h12 hr T.g12 T.F12.kp T.b12 tk (sa_cons (se_mv 0) (sa_cons (se_mv 4) sa_nil)) none))) (sss_one (ss_end (ss_ret se_bl))) sss_nil)))) (sss_one (ss_end (ss_ret se_bl)))))))⟩
/-- _law_cell -/
theorem e13 (k : Nat) : fs (k + 1) 13 = fnF 1 1 (m_law_cell) := rfl
theorem w13 {T : Top K.fr mg} {k : Nat} (L : Lv P K mg base T k) : FnOk P K.w K.fr mg base (L2.CX P K.w) (k + 1) T.a13 T.d13 ["state"] (spF K (cvK K.fr) 1 (fs (k + 1) 13)) := by
  rw [e13]
  refine fn_of' ["state"] rfl rfl T.F13 sc13 fun cdv A outer s H E hr tk po => ?_
  have nd := sc13.nd
  have hu := hr.units
  have hu2 : _ + 199 < cLine := Nat.lt_of_le_of_lt (Nat.add_le_add_left (by decide : 199 ≤ 200) _) (Nat.lt_of_le_of_lt (Nat.add_le_add_right (Nat.le_add_right _ _) _) hr.un)
  have hu5 : _ + 65 < cLine := Nat.lt_of_le_of_lt (Nat.add_le_add_left (by decide : 65 ≤ 200) _) (Nat.lt_of_le_of_lt (Nat.add_le_add_right (Nat.le_add_right _ _) _) hr.un)
  unfold m_law_cell
  exact ⟨_, (sss_cons (ss_put (i := 0) (by exact hu5) se_str (se_bin ol_add op_addA (se_ixA (by exact hu5) (se_vb 0) se_str) se_int)) (sss_cons (ss_if (st_cmp ol_cmp op_gt (se_ixA (by exact hu5) (se_vb 0) se_str) (se_cb cl_len call_len T.m_len (sa_cons (se_ixA (by exact hu5) (se_vb 0) se_str) sa_nil))) (sss_one (ss_ret se_int)) sss_nil) (sss_one (ss_end (ss_ret (se_ixA (by exact hu5) (se_ixA (by exact hu5) (se_vb 0) se_str) (se_bin ol_sub op_sub (se_ixA (by exact hu5) (se_vb 0) se_str) se_int)))))))⟩
/-- _law_kid -/
theorem e14 (k : Nat) : fs (k + 1) 14 = fnF 8 2 (m_law_kid (fs k 14) (fs k 13)) := rfl
theorem w14 {T : Top K.fr mg} {k : Nat} (L : Lv P K mg base T k) : FnOk P K.w K.fr mg base (L2.CX P K.w) (k + 1) T.a14 T.d14 ["state", "left"] (spF K (cvK K.fr) 2 (fs (k + 1) 14)) := by
  rw [e14]
  refine fn_of' ["state", "left", "cell", "sign", "name", "takes", "kids", "k"] rfl rfl T.F14 sc14 fun cdv A outer s H E hr tk po => ?_
  have nd := sc14.nd
  have hu := hr.units
  have hu2 : _ + 199 < cLine := Nat.lt_of_le_of_lt (Nat.add_le_add_left (by decide : 199 ≤ 200) _) (Nat.lt_of_le_of_lt (Nat.add_le_add_right (Nat.le_add_right _ _) _) hr.un)
  have hu5 : _ + 65 < cLine := Nat.lt_of_le_of_lt (Nat.add_le_add_left (by decide : 65 ≤ 200) _) (Nat.lt_of_le_of_lt (Nat.add_le_add_right (Nat.le_add_right _ _) _) hr.un)
  unfold m_law_kid m_law_kid_b1
  exact ⟨_, (sss_cons (ss_set (i := 2) nd (se_call L.h13 hr T.g13 T.F13.kp T.b13 tk (sa_cons (se_vb 0) sa_nil) (some 0))) (sss_cons (ss_set (i := 3) nd (se_tup (sa_cons se_str (sa_cons (se_ixA (by exact hu5) (se_lst (sa_cons se_str (sa_cons se_str (sa_cons se_str sa_nil)))) (se_bin ol_mod op_mod (se_bin ol_div op_fdiv (se_vb 2) se_int) se_int)) sa_nil)))) (sss_cons (ss_set (i := 4) nd (se_ixA (by exact hu5) (se_lst (sa_cons se_str (sa_cons se_str (sa_cons se_str sa_nil)))) (se_bin ol_mod op_mod (se_bin ol_div op_fdiv (se_vb 2) se_int) se_int))) (sss_cons (ss_if (sw_or (st_cmp ol_eqB (op_eqB (by exact hu2)) (se_vb 1) se_int) (sw_one (st_cmp ol_ltA (op_ltA (by exact hu5)) (se_bin ol_mod op_mod (se_vb 2) se_int) se_int))).st (sss_one (ss_end (ss_ret (se_ixA (by exact hu5) (se_lst (sa_cons (se_mv 3) (sa_cons (se_mv 3) (sa_cons (se_tup (sa_cons se_str sa_nil)) (sa_cons (se_tup (sa_cons se_str (sa_cons (se_mv 4) sa_nil))) sa_nil))))) (se_bin ol_mod op_mod (se_bin ol_div op_fdiv (se_vb 2) se_int) se_int))))) sss_nil) (sss_cons (ss_set (i := 5) nd (se_ixA (by exact hu5) (se_lst (sa_cons se_non (sa_cons (se_tup (sa_cons (se_mv 4) (sa_cons se_bl sa_nil))) (sa_cons (se_tup (sa_cons se_str (sa_cons se_bl sa_nil))) (sa_cons (se_tup (sa_cons (se_mv 4) (sa_cons se_bl sa_nil))) sa_nil))))) (se_bin ol_mod op_mod (se_bin ol_div op_fdiv (se_vb 2) se_int) se_int))) (sss_cons (ss_set (i := 6) nd (se_lst sa_nil)) (sss_cons (ss_for po rfl (si_r1 (se_bin ol_add op_addA se_int (se_bin ol_mod op_mod (se_bin ol_div op_fdiv (se_vb 2) se_int) se_int)) T.m_range) (sg_name nd) (sss_kill (vs := [7]) (sss_one (ss_app (i := 6) (se_call L.h14 hr T.g14 T.F14.kp T.b14 tk (sa_cons (se_vb 0) (sa_cons (se_bin ol_sub op_sub (se_vb 1) se_int) sa_nil)) (some 0)))))) (sss_one (ss_end (ss_ret (se_tup (sa_cons se_str (sa_cons (se_ixA (by exact hu5) (se_lst (sa_cons se_str (sa_cons se_str (sa_cons se_str sa_nil)))) (se_bin ol_mod op_mod (se_bin ol_div op_fdiv (se_vb 2) se_int) se_int)) (sa_cons (se_mv 5) (sa_cons (se_ct cl_tuple call_tupX T.m_tuple (sa_cons (se_vb 6) sa_nil)) sa_nil)))))))))))))))⟩
/-- _law_footed -/
theorem e15 (k : Nat) : fs (k + 1) 15 = fnF 7 3 (m_law_footed (fs k 15)) := rfl
theorem w15 {T : Top K.fr mg} {k : Nat} (L : Lv P K mg base T k) : FnOk P K.w K.fr mg base (L2.CX P K.w) (k + 1) T.a15 T.d15 ["tree", "foot", "cell"] (spF K (cvK K.fr) 3 (fs (k + 1) 15)) := by
  rw [e15]
  refine fn_of' ["tree", "foot", "cell", "knots", "at", "inner", "k"] rfl rfl T.F15 sc15 fun cdv A outer s H E hr tk po => ?_
  have nd := sc15.nd
  have hu := hr.units
  have hu2 : _ + 199 < cLine := Nat.lt_of_le_of_lt (Nat.add_le_add_left (by decide : 199 ≤ 200) _) (Nat.lt_of_le_of_lt (Nat.add_le_add_right (Nat.le_add_right _ _) _) hr.un)
  have hu5 : _ + 65 < cLine := Nat.lt_of_le_of_lt (Nat.add_le_add_left (by decide : 65 ≤ 200) _) (Nat.lt_of_le_of_lt (Nat.add_le_add_right (Nat.le_add_right _ _) _) hr.un)
  unfold m_law_footed m_law_footed_ce2 m_law_footed_ct1
  exact ⟨_, (sss_cons (ss_setLc (i := 3) (own := [(("k" : Str), 6)]) rfl nd (blkOk_by (N := ["tree", "foot", "cell", "knots", "at", "inner", "k"]) (sc := defScope s15) (by decide +kernel)) (si_r1 (se_cb cl_len call_len T.m_len (sa_cons (se_ixA (by exact hu5) (se_vb 0) se_int) sa_nil)) T.m_range) (fun _ _ _ _ _ => (sgw_name nd)) (fun _ _ _ _ _ => (sp_one (st_cmp ol_eqB (op_eqB (by exact hu2)) (se_ixA (by exact hu5) (se_ixA (by exact hu5) (se_ixA (by exact hu5) (se_vb 0) se_int) (se_vb 6)) se_int) se_str))) (fun _ _ _ _ _ => (se_mv 6)) (sw_true rfl rfl rfl (by decide +kernel))) (sss_cons (ss_kill (vs := [4, 5]) (ss_if (sw_and (st_cmp ol_cmp op_gt (se_cb cl_len call_len T.m_len (sa_cons (se_vb 3) sa_nil)) se_int) (sw_one (st_cmp ol_eqB (op_eqB (by exact hu2)) (se_bin ol_mod op_mod (se_vb 2) se_int) se_int))).st (sss_cons (ss_set (i := 4) nd (se_ixA (by exact hu5) (se_vb 3) (se_bin ol_mod op_mod (se_bin ol_div op_fdiv (se_vb 2) se_int) (se_cb cl_len call_len T.m_len (sa_cons (se_vb 3) sa_nil))))) (sss_cons (ss_set (i := 5) nd (se_call L.h15 hr T.g15 T.F15.kp T.b15 tk (sa_cons (se_ixA (by exact hu5) (se_ixA (by exact hu5) (se_vb 0) se_int) (se_vb 4)) (sa_cons (se_mv 1) (sa_cons (se_bin ol_div op_fdiv (se_vb 2) se_int) sa_nil))) none)) (sss_one (ss_end (ss_ret (se_bin ol_add op_addA (se_slice (se_vb 0) .non (.some se_int)) (se_tup (sa_cons (se_bin ol_add op_addA (se_bin ol_add op_addA (se_slice (se_ixA (by exact hu5) (se_vb 0) se_int) .non (.some (se_vb 4))) (se_tup (sa_cons (se_mv 5) sa_nil))) (se_slice (se_ixA (by exact hu5) (se_vb 0) se_int) (.some (se_bin ol_add op_addA (se_vb 4) se_int)) .non)) sa_nil)))))))) sss_nil)) (sss_cons (ss_set (i := 4) nd (se_bin ol_mod op_mod (se_bin ol_div op_fdiv (se_vb 2) se_int) (se_bin ol_add op_addA (se_cb cl_len call_len T.m_len (sa_cons (se_ixA (by exact hu5) (se_vb 0) se_int) sa_nil)) se_int))) (sss_one (ss_end (ss_ret (se_bin ol_add op_addA (se_slice (se_vb 0) .non (.some se_int)) (se_tup (sa_cons (se_bin ol_add op_addA (se_bin ol_add op_addA (se_slice (se_ixA (by exact hu5) (se_vb 0) se_int) .non (.some (se_vb 4))) (se_tup (sa_cons (se_mv 1) sa_nil))) (se_slice (se_ixA (by exact hu5) (se_vb 0) se_int) (.some (se_vb 4)) .non)) sa_nil)))))))))⟩
/-- _law_drawn -/
theorem e16 (k : Nat) : fs (k + 1) 16 = fnF 7 2 (m_law_drawn (fs k 15) (fs k 14) (fs k 13)) := rfl
theorem w16 {T : Top K.fr mg} {k : Nat} (L : Lv P K mg base T k) : FnOk P K.w K.fr mg base (L2.CX P K.w) (k + 1) T.a16 T.d16 ["state", "left"] (spF K (cvK K.fr) 2 (fs (k + 1) 16)) := by
  rw [e16]
  refine fn_of' ["state", "left", "cell", "takes", "kids", "k", "tree"] rfl rfl T.F16 sc16 fun cdv A outer s H E hr tk po => ?_
  have nd := sc16.nd
  have hu := hr.units
  have hu2 : _ + 199 < cLine := Nat.lt_of_le_of_lt (Nat.add_le_add_left (by decide : 199 ≤ 200) _) (Nat.lt_of_le_of_lt (Nat.add_le_add_right (Nat.le_add_right _ _) _) hr.un)
  have hu5 : _ + 65 < cLine := Nat.lt_of_le_of_lt (Nat.add_le_add_left (by decide : 65 ≤ 200) _) (Nat.lt_of_le_of_lt (Nat.add_le_add_right (Nat.le_add_right _ _) _) hr.un)
  unfold m_law_drawn m_law_drawn_b1
  exact ⟨_, (sss_cons (ss_set (i := 2) nd (se_call L.h13 hr T.g13 T.F13.kp T.b13 tk (sa_cons (se_vb 0) sa_nil) (some 0))) (sss_cons (ss_set (i := 3) nd (se_ixA (by exact hu5) (se_lst (sa_cons se_non (sa_cons (se_tup (sa_cons se_str (sa_cons se_bl sa_nil))) (sa_cons (se_tup (sa_cons se_str (sa_cons se_bl sa_nil))) (sa_cons (se_tup (sa_cons se_str (sa_cons se_bl sa_nil))) sa_nil))))) (se_bin ol_mod op_mod (se_vb 2) se_int))) (sss_cons (ss_set (i := 4) nd (se_lst (sa_cons (se_tup (sa_cons se_str (sa_cons (se_ixA (by exact hu5) (se_lst (sa_cons se_str (sa_cons se_str sa_nil))) (se_bin ol_mod op_mod (se_bin ol_div op_fdiv (se_vb 2) se_int) se_int)) sa_nil))) sa_nil))) (sss_cons (ss_for po rfl (si_r1 (se_bin ol_mod op_mod (se_bin ol_div op_fdiv (se_vb 2) se_int) se_int) T.m_range) (sg_name nd) (sss_kill (vs := [5]) (sss_one (ss_ins (i := 4) (se_bin ol_mod op_mod (se_bin ol_div op_fdiv (se_vb 2) se_int) (se_bin ol_add op_addA (se_cb cl_len call_len T.m_len (sa_cons (se_vb 4) sa_nil)) se_int)) (se_call L.h14 hr T.g14 T.F14.kp T.b14 tk (sa_cons (se_vb 0) (sa_cons (se_mv 1) sa_nil)) (some 0)))))) (sss_cons (ss_set (i := 6) nd (se_tup (sa_cons se_str (sa_cons (se_ixA (by exact hu5) (se_lst (sa_cons se_str (sa_cons se_str (sa_cons se_str sa_nil)))) (se_bin ol_mod op_mod (se_bin ol_div op_fdiv (se_vb 2) se_int) se_int)) (sa_cons (se_mv 3) (sa_cons (se_ct cl_tuple call_tupX T.m_tuple (sa_cons (se_vb 4) sa_nil)) sa_nil)))))) (sss_cons (ss_if (st_cmp ol_eqB (op_eqB (by exact hu2)) (se_bin ol_mod op_mod (se_bin ol_div op_fdiv (se_vb 2) se_int) se_int) se_int) (sss_one (ss_end (ss_ret (se_rv 6)))) sss_nil) (sss_one (ss_end (ss_ret (se_call L.h15 hr T.g15 T.F15.kp T.b15 tk (sa_cons (se_mv 6) (sa_cons (se_tup (sa_cons se_str (sa_cons (se_ixA (by exact hu5) (se_lst (sa_cons se_str (sa_cons se_str (sa_cons se_str sa_nil)))) (se_bin ol_mod op_mod (se_bin ol_div op_fdiv (se_vb 2) se_int) se_int)) sa_nil))) (sa_cons (se_bin ol_div op_fdiv (se_vb 2) se_int) sa_nil))) none))))))))))⟩
/-- _law_book -/
theorem e17 (k : Nat) : fs (k + 1) 17 = fnF 10 3 (m_law_book (fs k 16) (fs k 13)) := rfl
theorem w17 {T : Top K.fr mg} {k : Nat} (L : Lv P K mg base T k) : FnOk P K.w K.fr mg base (L2.CX P K.w) (k + 1) T.a17 T.d17 ["state", "many", "left"] (spF K (cvK K.fr) 3 (fs (k + 1) 17)) := by
  rw [e17]
  refine fn_of' ["state", "many", "left", "cell", "trees", "k", "name", "foot", "kids", "key"] rfl rfl T.F17 sc17 fun cdv A outer s H E hr tk po => ?_
  have nd := sc17.nd
  have hu := hr.units
  have hu2 : _ + 199 < cLine := Nat.lt_of_le_of_lt (Nat.add_le_add_left (by decide : 199 ≤ 200) _) (Nat.lt_of_le_of_lt (Nat.add_le_add_right (Nat.le_add_right _ _) _) hr.un)
  have hu5 : _ + 65 < cLine := Nat.lt_of_le_of_lt (Nat.add_le_add_left (by decide : 65 ≤ 200) _) (Nat.lt_of_le_of_lt (Nat.add_le_add_right (Nat.le_add_right _ _) _) hr.un)
  unfold m_law_book m_law_book_b2 m_law_book_b1
  exact ⟨_, (sss_cons (ss_set (i := 3) nd (se_call L.h13 hr T.g13 T.F13.kp T.b13 tk (sa_cons (se_vb 0) sa_nil) (some 0))) (sss_cons (ss_set (i := 4) nd (se_lst sa_nil)) (sss_cons (ss_for po rfl (si_r1 se_int T.m_range) (sg_name nd) (sss_kill (vs := [5, 6, 7, 8]) (sss_cons (ss_set (i := 6) nd (se_ixA (by exact hu5) (se_lst (sa_cons se_str (sa_cons se_str (sa_cons se_str sa_nil)))) (se_vb 5))) (sss_cons (ss_app (i := 4) (se_tup (sa_cons (se_ixA (by exact hu5) (se_lst (sa_cons se_str (sa_cons se_str (sa_cons se_str sa_nil)))) (se_vb 5)) (sa_cons (se_tup (sa_cons se_str (sa_cons (se_mv 6) (sa_cons se_non (sa_cons (se_tup (sa_cons (se_tup (sa_cons se_str (sa_cons (se_ixA (by exact hu5) (se_lst (sa_cons se_str (sa_cons se_str (sa_cons se_str sa_nil)))) (se_vb 5)) sa_nil))) sa_nil)) sa_nil))))) sa_nil)))) (sss_cons (ss_set (i := 7) nd (se_tup (sa_cons se_str (sa_cons (se_mv 6) sa_nil)))) (sss_cons (ss_set (i := 8) nd (se_ixA (by exact hu5) (se_lst (sa_cons (se_tup (sa_cons (se_tup (sa_cons se_str (sa_cons se_str sa_nil))) (sa_cons (se_mv 7) sa_nil))) (sa_cons (se_tup (sa_cons (se_mv 7) (sa_cons (se_tup (sa_cons se_str (sa_cons se_str sa_nil))) sa_nil))) sa_nil))) (se_bin ol_mod op_mod (se_bin ol_div op_fdiv (se_vb 3) (se_bin ol_add op_addA (se_vb 5) se_int)) se_int))) (sss_one (ss_app (i := 4) (se_tup (sa_cons (se_ixA (by exact hu5) (se_lst (sa_cons se_str (sa_cons se_str (sa_cons se_str sa_nil)))) (se_vb 5)) (sa_cons (se_tup (sa_cons se_str (sa_cons (se_mv 6) (sa_cons se_non (sa_cons (se_mv 8) sa_nil))))) sa_nil))))))))))) (sss_cons (ss_for po rfl (si_r1 (se_vb 1) T.m_range) (sg_name nd) (sss_kill (vs := [5, 9]) (sss_cons (ss_set (i := 9) nd (se_ixA (by exact hu5) (se_lst (sa_cons se_str (sa_cons se_str (sa_cons se_str (sa_cons se_str (sa_cons se_str sa_nil)))))) (se_vb 5))) (sss_one (ss_ins (i := 4) (se_bin ol_mod op_mod (se_bin ol_div op_fdiv (se_vb 3) (se_bin ol_add op_addA (se_vb 5) se_int)) (se_bin ol_add op_addA (se_cb cl_len call_len T.m_len (sa_cons (se_vb 4) sa_nil)) se_int)) (se_tup (sa_cons (se_mv 9) (sa_cons (se_call L.h16 hr T.g16 T.F16.kp T.b16 tk (sa_cons (se_vb 0) (sa_cons (se_mv 2) sa_nil)) (some 0)) sa_nil)))))))) (sss_one (ss_end (ss_ret (se_tup (sa_cons (se_ixA (by exact hu5) (se_lst (sa_cons se_str (sa_cons se_str (sa_cons se_str sa_nil)))) (se_bin ol_mod op_mod (se_bin ol_div op_fdiv (se_vb 3) se_int) se_int)) (sa_cons (se_ct cl_tuple call_tupX T.m_tuple (sa_cons (se_vb 4) sa_nil)) sa_nil))))))))))⟩
/-- _law_pieces -/
theorem e18 (k : Nat) : fs (k + 1) 18 = fnF 4 2 (m_law_pieces (fs k 18)) := rfl
theorem w18 {T : Top K.fr mg} {k : Nat} (L : Lv P K mg base T k) : FnOk P K.w K.fr mg base (L2.CX P K.w) (k + 1) T.a18 T.d18 ["tree", "place"] (spF K (cvK K.fr) 2 (fs (k + 1) 18)) := by
  rw [e18]
  refine fn_of' ["tree", "place", "found", "k"] rfl rfl T.F18 sc18 fun cdv A outer s H E hr tk po => ?_
  have nd := sc18.nd
  have hu := hr.units
  have hu2 : _ + 199 < cLine := Nat.lt_of_le_of_lt (Nat.add_le_add_left (by decide : 199 ≤ 200) _) (Nat.lt_of_le_of_lt (Nat.add_le_add_right (Nat.le_add_right _ _) _) hr.un)
  have hu5 : _ + 65 < cLine := Nat.lt_of_le_of_lt (Nat.add_le_add_left (by decide : 65 ≤ 200) _) (Nat.lt_of_le_of_lt (Nat.add_le_add_right (Nat.le_add_right _ _) _) hr.un)
  unfold m_law_pieces m_law_pieces_b1
  exact ⟨_, (sss_cons (ss_set (i := 2) nd (se_lst (sa_cons (se_tup (sa_cons (se_mv 1) (sa_cons (se_mv 0) sa_nil))) sa_nil))) (sss_cons (ss_kill (vs := [3]) (ss_if (st_cmp ol_eqB (op_eqB (by exact hu2)) (se_ixA (by exact hu5) (se_vb 0) se_int) se_str) (sss_one (ss_for po rfl (si_r1 (se_cb cl_len call_len T.m_len (sa_cons (se_ixA (by exact hu5) (se_vb 0) se_int) sa_nil)) T.m_range) (sg_name nd) (sss_kill (vs := [3]) (sss_one (ss_ext (i := 2) (se_call L.h18 hr T.g18 T.F18.kp T.b18 tk (sa_cons (se_ixA (by exact hu5) (se_ixA (by exact hu5) (se_vb 0) se_int) (se_vb 3)) (sa_cons (se_bin ol_add op_addA (se_vb 1) (se_tup (sa_cons (se_mv 3) sa_nil))) sa_nil)) none)))))) sss_nil)) (sss_one (ss_end (ss_ret (se_rv 2))))))⟩
/-- _law_called -/
theorem e19 (k : Nat) : fs (k + 1) 19 = fnF 4 1 (m_law_called (fs k 18)) := rfl
theorem w19 {T : Top K.fr mg} {k : Nat} (L : Lv P K mg base T k) : FnOk P K.w K.fr mg base (L2.CX P K.w) (k + 1) T.a19 T.d19 ["tree"] (spF K (cvK K.fr) 1 (fs (k + 1) 19)) := by
  rw [e19]
  refine fn_of' ["tree", "feet", "place", "piece"] rfl rfl T.F19 sc19 fun cdv A outer s H E hr tk po => ?_
  have nd := sc19.nd
  have hu := hr.units
  have hu2 : _ + 199 < cLine := Nat.lt_of_le_of_lt (Nat.add_le_add_left (by decide : 199 ≤ 200) _) (Nat.lt_of_le_of_lt (Nat.add_le_add_right (Nat.le_add_right _ _) _) hr.un)
  have hu5 : _ + 65 < cLine := Nat.lt_of_le_of_lt (Nat.add_le_add_left (by decide : 65 ≤ 200) _) (Nat.lt_of_le_of_lt (Nat.add_le_add_right (Nat.le_add_right _ _) _) hr.un)
  unfold m_law_called m_law_called_ce2 m_law_called_ct1
  exact ⟨_, (sss_cons (ss_setLc (i := 1) (own := [(("place" : Str), 2), (("piece" : Str), 3)]) rfl nd (blkOk_by (N := ["tree", "feet", "place", "piece"]) (sc := defScope s19) (by decide +kernel)) (si_sq (se_call L.h18 hr T.g18 T.F18.kp T.b18 tk (sa_cons (se_mv 0) (sa_cons (se_tup sa_nil) sa_nil)) none)) (fun _ _ _ _ _ => (sgw_tup rfl (sgws_cons (sgw_name nd) (sgws_cons (sgw_name nd) sgws_nil)))) (fun _ _ _ _ _ => (sp_one (st_cmp ol_eqB (op_eqB (by exact hu2)) (se_ixA (by exact hu5) (se_vb 3) se_int) se_str))) (fun _ _ _ _ _ => (se_ixA (by exact hu5) (se_vb 3) se_int)) (sw_true rfl rfl rfl (by decide +kernel))) (sss_one (ss_end (ss_ret (se_if (st_cmp ol_cmp op_gt (se_cb cl_len call_len T.m_len (sa_cons (se_vb 1) sa_nil)) se_int) (se_tup (sa_cons se_bl (sa_cons (se_ixA (by exact hu5) (se_vb 1) se_int) sa_nil))) (se_tup (sa_cons se_bl (sa_cons (se_ixA (by exact hu5) (se_vb 0) se_int) sa_nil))))))))⟩
/-- _law_takers -/
theorem e20 (k : Nat) : fs (k + 1) 20 = fnF 4 2 (m_law_takers (fs k 19)) := rfl
theorem w20 {T : Top K.fr mg} {k : Nat} (L : Lv P K mg base T k) : FnOk P K.w K.fr mg base (L2.CX P K.w) (k + 1) T.a20 T.d20 ["book", "piece"] (spF K (cvK K.fr) 2 (fs (k + 1) 20)) := by
  rw [e20]
  refine fn_of' ["book", "piece", "key", "tree"] rfl rfl T.F20 sc20 fun cdv A outer s H E hr tk po => ?_
  have nd := sc20.nd
  have hu := hr.units
  have hu2 : _ + 199 < cLine := Nat.lt_of_le_of_lt (Nat.add_le_add_left (by decide : 199 ≤ 200) _) (Nat.lt_of_le_of_lt (Nat.add_le_add_right (Nat.le_add_right _ _) _) hr.un)
  have hu5 : _ + 65 < cLine := Nat.lt_of_le_of_lt (Nat.add_le_add_left (by decide : 65 ≤ 200) _) (Nat.lt_of_le_of_lt (Nat.add_le_add_right (Nat.le_add_right _ _) _) hr.un)
  unfold m_law_takers m_law_takers_ce4 m_law_takers_ct3 m_law_takers_ce2 m_law_takers_ct1
  exact ⟨_, (sss_cons (ss_if (st_cmp ol_eqB (op_eqB (by exact hu2)) (se_ixA (by exact hu5) (se_vb 1) se_int) se_str) (sss_one (ss_end (ss_ret (se_comp (own := [(("key" : Str), 2), (("tree" : Str), 3)]) rfl nd (blkOk_by (N := ["book", "piece", "key", "tree"]) (sc := defScope s20) (by decide +kernel)) (si_sq (se_ixA (by exact hu5) (se_vb 0) se_int)) (fun _ _ _ _ _ => (sgw_tup rfl (sgws_cons (sgw_name nd) (sgws_cons (sgw_name nd) sgws_nil)))) (fun _ _ _ _ _ => (sp_one (st_cmp ol_eqB (op_eqB (by exact hu2)) (se_call L.h19 (by exact hr) T.g19 T.F19.kp T.b19 takes0 (sa_cons (se_mv 3) sa_nil) none) (se_tup (sa_cons se_bl (sa_cons (se_ixA (by exact hu5) (se_vb 1) se_int) sa_nil)))))) (fun _ _ _ _ _ => (se_mv 2)))))) sss_nil) (sss_cons (ss_if (sw_and (st_cmp ol_eqB (op_eqB (by exact hu2)) (se_ixA (by exact hu5) (se_vb 1) se_int) se_str) (sw_one (st_cmp ol_not op_notA (se_ixA (by exact hu5) (se_vb 1) se_int) se_non))).st (sss_one (ss_end (ss_ret (se_comp (own := [(("key" : Str), 2), (("tree" : Str), 3)]) rfl nd (blkOk_by (N := ["book", "piece", "key", "tree"]) (sc := defScope s20) (by decide +kernel)) (si_sq (se_ixA (by exact hu5) (se_vb 0) se_int)) (fun _ _ _ _ _ => (sgw_tup rfl (sgws_cons (sgw_name nd) (sgws_cons (sgw_name nd) sgws_nil)))) (fun _ _ _ _ _ => (sp_one (st_cmp ol_eqB (op_eqB (by exact hu2)) (se_call L.h19 (by exact hr) T.g19 T.F19.kp T.b19 takes0 (sa_cons (se_mv 3) sa_nil) none) (se_tup (sa_cons se_bl (sa_cons (se_ixA (by exact hu5) (se_ixA (by exact hu5) (se_vb 1) se_int) se_int) sa_nil)))))) (fun _ _ _ _ _ => (se_mv 2)))))) sss_nil) (sss_one (ss_end (ss_ret (se_lst sa_nil))))))⟩
/-- _law_plan -/
theorem e21 (k : Nat) : fs (k + 1) 21 = fnF 11 4 (m_law_plan (fs k 18) (fs k 21) (fs k 20) (fs k 13)) := rfl
theorem w21 {T : Top K.fr mg} {k : Nat} (L : Lv P K mg base T k) : FnOk P K.w K.fr mg base (L2.CX P K.w) (k + 1) T.a21 T.d21 ["state", "book", "key", "left"] (spF K (cvK K.fr) 4 (fs (k + 1) 21)) := by
  rw [e21]
  refine fn_of' ["state", "book", "key", "left", "cell", "puts", "place", "piece", "some", "must", "one"] rfl rfl T.F21 sc21 fun cdv A outer s H E hr tk po => ?_
  have nd := sc21.nd
  have hu := hr.units
  have hu2 : _ + 199 < cLine := Nat.lt_of_le_of_lt (Nat.add_le_add_left (by decide : 199 ≤ 200) _) (Nat.lt_of_le_of_lt (Nat.add_le_add_right (Nat.le_add_right _ _) _) hr.un)
  have hu5 : _ + 65 < cLine := Nat.lt_of_le_of_lt (Nat.add_le_add_left (by decide : 65 ≤ 200) _) (Nat.lt_of_le_of_lt (Nat.add_le_add_right (Nat.le_add_right _ _) _) hr.un)
  unfold m_law_plan m_law_plan_b3 m_law_plan_ce2 m_law_plan_ct1
  exact ⟨_, (sss_cons (ss_set (i := 4) nd (se_call L.h13 hr T.g13 T.F13.kp T.b13 tk (sa_cons (se_vb 0) sa_nil) (some 0))) (sss_cons (ss_put (i := 0) (by exact hu5) se_str (se_bin ol_add op_addA (se_ixA (by exact hu5) (se_vb 0) se_str) se_int)) (sss_cons (ss_set (i := 3) nd (se_if (st_cmp ol_ltA (op_ltA (by exact hu5)) (se_ixA (by exact hu5) (se_vb 0) se_str) se_int) (se_mv 3) se_int)) (sss_cons (ss_set (i := 5) nd (se_lst sa_nil)) (sss_cons (ss_for po rfl (si_sq (se_call L.h18 hr T.g18 T.F18.kp T.b18 tk (sa_cons (se_ixA (by exact hu5) (se_ct cl_dict (call_dictX rfl (by exact hu5)) T.m_dict (sa_cons (se_ixA (by exact hu5) (se_vb 1) se_int) sa_nil)) (se_vb 2)) (sa_cons (se_tup sa_nil) sa_nil)) none)) (sg_tup rfl (sgs_cons (sg_name nd) (sgs_cons (sg_name nd) sgs_nil))) (sss_kill (vs := [6, 7, 8, 9]) (sss_cons (ss_set (i := 8) nd (se_call L.h20 hr T.g20 T.F20.kp T.b20 tk (sa_cons (se_mv 1) (sa_cons (se_mv 7) sa_nil)) none)) (sss_cons (ss_set (i := 9) nd (se_or (se_cmp ol_eqB (op_eqB (by exact hu2)) (se_ixA (by exact hu5) (se_vb 7) se_int) se_str) (se_one (se_and (se_cmp ol_eqB (op_eqB (by exact hu2)) (se_ixA (by exact hu5) (se_vb 7) se_int) se_str) (se_and (se_cmp ol_not op_notA (se_ixA (by exact hu5) (se_vb 7) se_int) se_non) (se_one (se_ixA (by exact hu5) (se_ixA (by exact hu5) (se_vb 7) se_int) se_int))))))) (sss_cons (ss_if (sw_or (st_cmp ol_eqB (op_eqB (by exact hu2)) (se_vb 3) se_int) (sw_or (st_cmp ol_eqB (op_eqB (by exact hu2)) (se_bin ol_mod op_mod (se_vb 4) se_int) se_int) (sw_one (st_cmp ol_cmp op_gt (se_ixA (by exact hu5) (se_vb 0) se_str) se_int)))).st (sss_one (ss_setLc (i := 8) (own := [(("one" : Str), 10)]) rfl nd (blkOk_by (N := ["state", "book", "key", "left", "cell", "puts", "place", "piece", "some", "must", "one"]) (sc := defScope s21) (by decide +kernel)) (si_sq (se_mv 8)) (fun _ _ _ _ _ => (sgw_name nd)) (fun _ _ _ _ _ => (sp_one (st_cmp ol_inB (op_inB (by exact hu5)) (se_vb 10) (se_tup (sa_cons se_str (sa_cons se_str (sa_cons se_str (sa_cons se_str (sa_cons se_str (sa_cons se_str sa_nil)))))))))) (fun _ _ _ _ _ => (se_mv 10)) (sw_true rfl rfl rfl (by decide +kernel)))) sss_nil) (sss_one (ss_if (sw_or (st_val (se_vb 9)) (sw_one (sw_and (st_cmp ol_cmp op_gt (se_cb cl_len call_len T.m_len (sa_cons (se_vb 8) sa_nil)) se_int) (sw_and (st_cmp ol_cmp op_gt (se_vb 3) se_int) (sw_one (st_cmp ol_cmp op_gt (se_bin ol_mod op_mod (se_bin ol_div op_fdiv (se_vb 4) se_int) se_int) se_int)))).st)).st (sss_cons (ss_app (i := 5) (se_tup (sa_cons (se_mv 6) (sa_cons (se_call L.h21 hr T.g21 T.F21.kp T.b21 tk (sa_cons (se_vb 0) (sa_cons (se_mv 1) (sa_cons (se_ixA (by exact hu5) (se_vb 8) (se_bin ol_mod op_mod (se_bin ol_div op_fdiv (se_vb 4) se_int) (se_cb cl_len call_len T.m_len (sa_cons (se_vb 8) sa_nil)))) (sa_cons (se_cb cl_max2 (call_max2 rfl) T.m_max (sa_cons se_int (sa_cons (se_bin ol_sub op_sub (se_vb 3) se_int) sa_nil))) sa_nil)))) (some 0)) sa_nil)))) (sss_one (ss_set (i := 4) nd (se_bin ol_add op_addA (se_bin ol_div op_fdiv (se_vb 4) se_int) se_int)))) sss_nil))))))) (sss_one (ss_end (ss_ret (se_tup (sa_cons (se_mv 2) (sa_cons (se_ct cl_tuple call_tupX T.m_tuple (sa_cons (se_vb 5) sa_nil)) sa_nil)))))))))))⟩
/-- _law_odd -/
theorem e22 (k : Nat) : fs (k + 1) 22 = fnF 16 3 (m_law_odd_3) := rfl
theorem w22 {T : Top K.fr mg} {k : Nat} (L : Lv P K mg base T k) : FnOk P K.w K.fr mg base (L2.CX P K.w) (k + 1) T.a22 T.d22 ["plan", "other", "cell"] (spF K (cvK K.fr) 3 (fs (k + 1) 22)) := by
  rw [e22]
  refine fn_of' ["plan", "other", "cell", "put", "some", "truths", "key", "puts", "near", "at", "spot", "truth", "place", "inner", "one", "k"] rfl rfl T.F22 sc22 fun cdv A outer s H E hr tk po => ?_
  have nd := sc22.nd
  have hu := hr.units
  have hu2 : _ + 199 < cLine := Nat.lt_of_le_of_lt (Nat.add_le_add_left (by decide : 199 ≤ 200) _) (Nat.lt_of_le_of_lt (Nat.add_le_add_right (Nat.le_add_right _ _) _) hr.un)
  have hu5 : _ + 65 < cLine := Nat.lt_of_le_of_lt (Nat.add_le_add_left (by decide : 65 ≤ 200) _) (Nat.lt_of_le_of_lt (Nat.add_le_add_right (Nat.le_add_right _ _) _) hr.un)
  unfold m_law_odd_3 m_law_odd_3_ce4 m_law_odd_3_ce3 m_law_odd_3_ce2 m_law_odd_3_ce1
  exact ⟨_, (sss_cons (ss_unp (se_mv 0) (sg_tup rfl (sgs_cons (sg_name nd) (sgs_cons (sg_name nd) sgs_nil)))) (sss_cons (ss_set (i := 3) nd (se_if (st_cmp ol_cmp op_gt (se_cb cl_len call_len T.m_len (sa_cons (se_vb 7) sa_nil)) se_int) (se_ixA (by exact hu5) (se_vb 7) (se_bin ol_mod op_mod (se_vb 2) (se_cb cl_len call_len T.m_len (sa_cons (se_vb 7) sa_nil)))) (se_tup (sa_cons (se_tup sa_nil) (sa_cons (se_mv 1) sa_nil))))) (sss_cons (ss_set (i := 4) nd (se_lst (sa_cons (se_lst (sa_cons (se_mv 6) (sa_cons (se_mv 7) sa_nil))) (sa_cons (se_tup (sa_cons (se_mv 6) (sa_cons (se_ct cl_list call_list_of T.m_list (sa_cons (se_vb 7) sa_nil)) sa_nil))) (sa_cons (se_tup (sa_cons (se_mv 6) sa_nil)) (sa_cons (se_tup (sa_cons (se_mv 6) (sa_cons (se_mv 7) (sa_cons (se_mv 7) sa_nil)))) (sa_cons (se_tup (sa_cons (se_ixA (by exact hu5) (se_vb 1) se_int) (sa_cons (se_mv 7) sa_nil))) (sa_cons (se_mv 1) (sa_cons (se_tup (sa_cons se_str (sa_cons (se_mv 7) sa_nil))) sa_nil))))))))) (sss_cons (ss_set (i := 4) nd (se_bin ol_add op_addA (se_vb 4) (se_lst (sa_cons (se_tup (sa_cons se_non (sa_cons (se_mv 7) sa_nil))) (sa_cons (se_tup (sa_cons (se_mv 6) (sa_cons (se_tup sa_nil) sa_nil))) (sa_cons (se_tup (sa_cons (se_mv 6) (sa_cons (se_bin ol_add op_addA (se_vb 7) (se_tup (sa_cons (se_tup (sa_cons (se_tup (sa_cons se_int sa_nil)) (sa_cons (se_mv 1) sa_nil))) sa_nil))) sa_nil))) (sa_cons (se_tup (sa_cons (se_mv 6) (sa_cons (se_bin ol_add op_addA (se_vb 7) (se_tup (sa_cons (se_tup (sa_cons (se_tup (sa_cons se_int (sa_cons se_int (sa_cons se_int (sa_cons se_int sa_nil))))) (sa_cons (se_mv 1) sa_nil))) sa_nil))) sa_nil))) sa_nil))))))) (sss_cons (ss_set (i := 4) nd (se_bin ol_add op_addA (se_vb 4) (se_lst (sa_cons (se_tup (sa_cons (se_mv 6) (sa_cons (se_slice (se_vb 7) (.some se_int) .non) sa_nil))) (sa_cons (se_tup (sa_cons (se_mv 6) (sa_cons (se_slice (se_vb 7) .non (.some (se_neg se_int))) sa_nil))) (sa_cons (se_tup (sa_cons (se_mv 6) (sa_cons (se_bin ol_add op_addA (se_vb 7) (se_tup (sa_cons (se_mv 3) sa_nil))) sa_nil))) (sa_cons (se_tup (sa_cons (se_mv 6) (sa_cons (se_ct cl_tuple call_tupX T.m_tuple (sa_cons (se_lrv rfl T.m_list T.m_reversed (se_vb 7)) sa_nil)) sa_nil))) sa_nil))))))) (sss_cons (ss_set (i := 4) nd (se_bin ol_add op_addA (se_vb 4) (se_lst (sa_cons (se_tup (sa_cons (se_mv 6) (sa_cons (se_bin ol_add op_addA (se_tup (sa_cons (se_tup (sa_cons (se_tup sa_nil) (sa_cons (se_mv 1) sa_nil))) sa_nil)) (se_vb 7)) sa_nil))) (sa_cons (se_tup (sa_cons (se_mv 6) (sa_cons (se_tup (sa_cons (se_ixA (by exact hu5) (se_vb 3) se_int) (sa_cons (se_ixA (by exact hu5) (se_vb 3) se_int) sa_nil))) sa_nil))) (sa_cons (se_tup (sa_cons (se_mv 6) (sa_cons (se_tup (sa_cons se_non sa_nil)) sa_nil))) (sa_cons (se_tup (sa_cons (se_mv 6) (sa_cons (se_tup (sa_cons (se_tup (sa_cons (se_ixA (by exact hu5) (se_vb 3) se_int) sa_nil)) sa_nil)) sa_nil))) sa_nil))))))) (sss_cons (ss_set (i := 4) nd (se_bin ol_add op_addA (se_vb 4) (se_lst (sa_cons (se_tup (sa_cons (se_mv 6) (sa_cons (se_tup (sa_cons (se_tup (sa_cons (se_ixA (by exact hu5) (se_vb 3) se_int) (sa_cons (se_ixA (by exact hu5) (se_vb 3) se_int) (sa_cons se_int sa_nil)))) sa_nil)) sa_nil))) (sa_cons se_non (sa_cons (se_mv 6) (sa_cons (se_tup (sa_cons (se_mv 6) (sa_cons (se_bin ol_add op_addA (se_slice (se_vb 7) .non (.some (se_neg se_int))) (se_tup (sa_cons (se_tup (sa_cons (se_ixA (by exact hu5) (se_vb 3) se_int) (sa_cons (se_mv 1) sa_nil))) sa_nil))) sa_nil))) (sa_cons (se_tup sa_nil) (sa_cons (se_tup (sa_cons (se_tup (sa_cons (se_mv 6) (sa_cons (se_mv 7) sa_nil))) sa_nil)) sa_nil))))))))) (sss_cons (ss_set (i := 4) nd (se_bin ol_add op_addA (se_vb 4) (se_lst (sa_cons (se_tup (sa_cons (se_mv 6) (sa_cons (se_bin ol_add op_addA (se_slice (se_vb 7) .non (.some (se_neg se_int))) (se_tup (sa_cons (se_tup (sa_cons (se_ct cl_list call_list_of T.m_list (sa_cons (se_ixA (by exact hu5) (se_vb 3) se_int) sa_nil)) (sa_cons (se_ixA (by exact hu5) (se_vb 3) se_int) sa_nil))) sa_nil))) sa_nil))) (sa_cons (se_tup (sa_cons (se_mv 6) (sa_cons (se_tup (sa_cons (se_tup (sa_cons (se_tup (sa_cons se_str sa_nil)) (sa_cons (se_mv 1) sa_nil))) sa_nil)) sa_nil))) sa_nil))))) (sss_cons (ss_set (i := 4) nd (se_bin ol_add op_addA (se_vb 4) (se_lst (sa_cons (se_tup (sa_cons (se_mv 6) (sa_cons (se_bin ol_add op_addA (se_tup (sa_cons (se_tup (sa_cons (se_tup (sa_cons (se_neg se_int) sa_nil)) (sa_cons (se_ixA (by exact hu5) (se_vb 3) se_int) sa_nil))) sa_nil)) (se_vb 7)) sa_nil))) (sa_cons (se_tup (sa_cons (se_lst (sa_cons se_str sa_nil)) (sa_cons (se_mv 7) sa_nil))) (sa_cons (se_tup (sa_cons (se_mv 6) (sa_cons (se_tup (sa_cons (se_tup (sa_cons (se_tup (sa_cons (se_lst (sa_cons se_int sa_nil)) sa_nil)) (sa_cons (se_mv 1) sa_nil))) sa_nil)) sa_nil))) sa_nil)))))) (sss_cons (ss_app (i := 4) (se_tup (sa_cons (se_mv 6) (sa_cons (se_bin ol_add op_addA (se_tup (sa_cons (se_tup (sa_cons (se_tup (sa_cons se_str sa_nil)) (sa_cons (se_mv 1) sa_nil))) sa_nil)) (se_vb 7)) sa_nil)))) (sss_cons (ss_set (i := 4) nd (se_bin ol_add op_addA (se_vb 4) (se_lst (sa_cons (se_tup (sa_cons (se_mv 6) (sa_cons (se_bin ol_add op_addA (se_slice (se_vb 7) .non (.some (se_neg se_int))) (se_tup (sa_cons (se_lst (sa_cons (se_ixA (by exact hu5) (se_vb 3) se_int) (sa_cons (se_ixA (by exact hu5) (se_vb 3) se_int) sa_nil))) sa_nil))) sa_nil))) (sa_cons (se_tup (sa_cons (se_mv 6) (sa_cons (se_bin ol_add op_addA (se_tup (sa_cons (se_tup (sa_cons (se_tup (sa_cons se_int (sa_cons (se_neg se_int) sa_nil))) (sa_cons (se_ixA (by exact hu5) (se_vb 3) se_int) sa_nil))) sa_nil)) (se_vb 7)) sa_nil))) sa_nil))))) (sss_cons (ss_setLc (i := 5) (own := [(("place" : Str), 12), (("one" : Str), 14)]) rfl nd (blkOk_by (N := ["plan", "other", "cell", "put", "some", "truths", "key", "puts", "near", "at", "spot", "truth", "place", "inner", "one", "k"]) (sc := defScope s22) (by decide +kernel)) (si_sq (se_mv 7)) (fun _ _ _ _ _ => (sgw_tup rfl (sgws_cons (sgw_name nd) (sgws_cons (sgw_name nd) sgws_nil)))) (fun _ _ _ _ _ => sp_nil) (fun _ _ _ _ _ => (se_tup (sa_cons (se_ct cl_tuple call_tupX T.m_tuple (sa_cons (se_back 14 (se_comp (own := [(("one" : Str), 14)]) rfl nd (blkOk_by (N := ["plan", "other", "cell", "put", "some", "truths", "key", "puts", "near", "at", "spot", "truth", "place", "inner", "one", "k"]) (by kernel_rfl)) (si_sq (se_mv 12)) (fun _ _ _ _ _ => (sgw_name nd)) (fun _ _ _ _ _ => sp_nil) (fun _ _ _ _ _ => (se_ct cl_bool call_bool1 T.m_bool (sa_cons (se_vb 14) sa_nil))))) sa_nil)) (sa_cons (se_mv 14) sa_nil)))) (sw_true rfl rfl rfl (by decide +kernel))) (sss_cons (ss_set (i := 4) nd (se_bin ol_add op_addA (se_vb 4) (se_lst (sa_cons (se_tup (sa_cons (se_mv 6) (sa_cons (se_ct cl_tuple call_tupX T.m_tuple (sa_cons (se_vb 5) sa_nil)) sa_nil))) (sa_cons (se_tup (sa_cons (se_mv 6) (sa_cons (se_ct cl_tuple call_tupX T.m_tuple (sa_cons (se_comp (own := [(("place" : Str), 12), (("one" : Str), 14)]) rfl nd (blkOk_by (N := ["plan", "other", "cell", "put", "some", "truths", "key", "puts", "near", "at", "spot", "truth", "place", "inner", "one", "k"]) (sc := defScope s22) (by decide +kernel)) (si_sq (se_mv 7)) (fun _ _ _ _ _ => (sgw_tup rfl (sgws_cons (sgw_name nd) (sgws_cons (sgw_name nd) sgws_nil)))) (fun _ _ _ _ _ => sp_nil) (fun _ _ _ _ _ => (se_tup (sa_cons (se_bin ol_add op_addA (se_vb 12) (se_tup (sa_cons se_int sa_nil))) (sa_cons (se_mv 14) sa_nil))))) sa_nil)) sa_nil))) sa_nil))))) (sss_cons (ss_kill (vs := [8, 9, 10, 11, 12, 13]) (ss_if (st_cmp ol_cmp op_gt (se_cb cl_len call_len T.m_len (sa_cons (se_vb 7) sa_nil)) se_int) (sss_cons (ss_set (i := 8) nd (se_bin ol_div op_fdiv (se_bin ol_mod op_mod (se_bin ol_pow op_pow (se_bin ol_add op_addA (se_bin ol_mod op_mod (se_vb 2) se_int) se_int) se_int) se_int) se_int)) (sss_cons (ss_set (i := 9) nd (se_bin ol_mod op_mod (se_vb 8) (se_cb cl_len call_len T.m_len (sa_cons (se_vb 7) sa_nil)))) (sss_cons (ss_set (i := 4) nd (se_bin ol_add op_addA (se_vb 4) (se_bin ol_mulL op_repL (se_lst (sa_cons (se_tup (sa_cons (se_mv 6) (sa_cons (se_bin ol_add op_addA (se_slice (se_vb 7) .non (.some (se_vb 9))) (se_slice (se_vb 7) (.some (se_bin ol_add op_addA (se_vb 9) se_int)) .non)) sa_nil))) sa_nil)) se_int))) (sss_cons (ss_unp (se_ixA (by exact hu5) (se_vb 7) (se_vb 9)) (sg_tup rfl (sgs_cons (sg_name nd) (sgs_cons (sg_name nd) sgs_nil)))) (sss_cons (ss_set (i := 10) nd (se_bin ol_mod op_mod (se_bin ol_div op_fdiv (se_vb 8) se_int) (se_cb cl_max2 (call_max2 rfl) T.m_max (sa_cons se_int (sa_cons (se_cb cl_len call_len T.m_len (sa_cons (se_vb 12) sa_nil)) sa_nil))))) (sss_cons (ss_set (i := 11) nd (se_ct cl_tuple call_tupX T.m_tuple (sa_cons (se_comp (own := [(("k" : Str), 15)]) rfl nd (blkOk_by (N := ["plan", "other", "cell", "put", "some", "truths", "key", "puts", "near", "at", "spot", "truth", "place", "inner", "one", "k"]) (sc := defScope s22) (by decide +kernel)) (si_r1 (se_cb cl_len call_len T.m_len (sa_cons (se_vb 12) sa_nil)) T.m_range) (fun _ _ _ _ _ => (sgw_name nd)) (fun _ _ _ _ _ => sp_nil) (fun _ _ _ _ _ => (se_if (sw_and (st_cmp ol_eqB (op_eqB (by exact hu2)) (se_vb 15) (se_vb 10)) (sw_one (st_cmp ol_ltA (op_ltA (by exact hu5)) (se_ixA (by exact hu5) (se_vb 12) (se_vb 15)) se_int))).st (se_cmp ol_eqB (op_eqB (by exact hu2)) (se_ixA (by exact hu5) (se_vb 12) (se_vb 15)) se_int) (se_ixA (by exact hu5) (se_vb 12) (se_vb 15))))) sa_nil))) (sss_one (ss_set (i := 4) nd (se_bin ol_add op_addA (se_vb 4) (se_bin ol_mulL op_repL (se_lst (sa_cons (se_tup (sa_cons (se_mv 6) (sa_cons (se_bin ol_add op_addA (se_bin ol_add op_addA (se_slice (se_vb 7) .non (.some (se_vb 9))) (se_tup (sa_cons (se_tup (sa_cons (se_mv 11) (sa_cons (se_mv 13) sa_nil))) sa_nil))) (se_slice (se_vb 7) (.some (se_bin ol_add op_addA (se_vb 9) se_int)) .non)) sa_nil))) sa_nil)) se_int)))))))))) sss_nil)) (sss_one (ss_end (ss_ret (se_ixA (by exact hu5) (se_vb 4) (se_bin ol_mod op_mod (se_bin ol_div op_fdiv (se_vb 2) se_int) (se_cb cl_len call_len T.m_len (sa_cons (se_vb 4) sa_nil)))))))))))))))))))))⟩
/-- _law_bent -/
theorem e23 (k : Nat) : fs (k + 1) 23 = fnF 7 3 (m_law_bent_8 (fs k 22) (fs k 23)) := rfl
theorem w23 {T : Top K.fr mg} {k : Nat} (L : Lv P K mg base T k) : FnOk P K.w K.fr mg base (L2.CX P K.w) (k + 1) T.a23 T.d23 ["plan", "other", "cell"] (spF K (cvK K.fr) 3 (fs (k + 1) 23)) := by
  rw [e23]
  refine fn_of' ["plan", "other", "cell", "at", "bent", "place", "inner"] rfl rfl T.F23 sc23 fun cdv A outer s H E hr tk po => ?_
  have nd := sc23.nd
  have hu := hr.units
  have hu2 : _ + 199 < cLine := Nat.lt_of_le_of_lt (Nat.add_le_add_left (by decide : 199 ≤ 200) _) (Nat.lt_of_le_of_lt (Nat.add_le_add_right (Nat.le_add_right _ _) _) hr.un)
  have hu5 : _ + 65 < cLine := Nat.lt_of_le_of_lt (Nat.add_le_add_left (by decide : 65 ≤ 200) _) (Nat.lt_of_le_of_lt (Nat.add_le_add_right (Nat.le_add_right _ _) _) hr.un)
  unfold m_law_bent_8
  exact ⟨_, (sss_cons (ss_kill (vs := [3, 4, 5, 6]) (ss_if (sw_and (st_cmp ol_cmp op_gt (se_cb cl_len call_len T.m_len (sa_cons (se_ixA (by exact hu5) (se_vb 0) se_int) sa_nil)) se_int) (sw_one (st_cmp ol_cmp op_gt (se_bin ol_mod op_mod (se_vb 2) se_int) se_int))).st (sss_cons (ss_set (i := 3) nd (se_bin ol_mod op_mod (se_bin ol_div op_fdiv (se_vb 2) se_int) (se_cb cl_len call_len T.m_len (sa_cons (se_ixA (by exact hu5) (se_vb 0) se_int) sa_nil)))) (sss_cons (ss_unp (se_ixA (by exact hu5) (se_ixA (by exact hu5) (se_vb 0) se_int) (se_vb 3)) (sg_tup rfl (sgs_cons (sg_name nd) (sgs_cons (sg_name nd) sgs_nil)))) (sss_cons (ss_set (i := 4) nd (se_call L.h23 hr T.g23 T.F23.kp T.b23 tk (sa_cons (se_mv 6) (sa_cons (se_mv 1) (sa_cons (se_bin ol_div op_fdiv (se_vb 2) se_int) sa_nil))) none)) (sss_one (ss_end (ss_ret (se_tup (sa_cons (se_ixA (by exact hu5) (se_vb 0) se_int) (sa_cons (se_bin ol_add op_addA (se_bin ol_add op_addA (se_slice (se_ixA (by exact hu5) (se_vb 0) se_int) .non (.some (se_vb 3))) (se_tup (sa_cons (se_tup (sa_cons (se_mv 5) (sa_cons (se_mv 4) sa_nil))) sa_nil))) (se_slice (se_ixA (by exact hu5) (se_vb 0) se_int) (.some (se_bin ol_add op_addA (se_vb 3) se_int)) .non)) sa_nil))))))))) sss_nil)) (sss_one (ss_end (ss_ret (se_call L.h22 hr T.g22 T.F22.kp T.b22 tk (sa_cons (se_mv 0) (sa_cons (se_mv 1) (sa_cons (se_bin ol_div op_fdiv (se_vb 2) se_int) sa_nil))) none)))))⟩
/-- _law_is_put -/
theorem e24 (k : Nat) : fs (k + 1) 24 = fnF 2 1 (m_law_is_put) := rfl
theorem w24 {T : Top K.fr mg} {k : Nat} (L : Lv P K mg base T k) : FnOk P K.w K.fr mg base (L2.CX P K.w) (k + 1) T.a24 T.d24 ["one"] (spF K (cvK K.fr) 1 (fs (k + 1) 24)) := by
  rw [e24]
  refine fn_of' ["one", "k"] rfl rfl T.F24 sc24 fun cdv A outer s H E hr tk po => ?_
  have nd := sc24.nd
  have hu := hr.units
  have hu2 : _ + 199 < cLine := Nat.lt_of_le_of_lt (Nat.add_le_add_left (by decide : 199 ≤ 200) _) (Nat.lt_of_le_of_lt (Nat.add_le_add_right (Nat.le_add_right _ _) _) hr.un)
  have hu5 : _ + 65 < cLine := Nat.lt_of_le_of_lt (Nat.add_le_add_left (by decide : 65 ≤ 200) _) (Nat.lt_of_le_of_lt (Nat.add_le_add_right (Nat.le_add_right _ _) _) hr.un)
  unfold m_law_is_put m_law_is_put_ce2 m_law_is_put_ct1
  exact ⟨_, (sss_cons (ss_if (sw_or (st_not (st_val (se_isi kit_tup T.m_isinstance T.m_tuple (se_vb 0)))) (sw_or (st_cmp ol_neB (op_neB (by exact hu2)) (se_cb cl_len call_len T.m_len (sa_cons (se_vb 0) sa_nil)) se_int) (sw_one (st_not (st_val (se_isi kit_tup T.m_isinstance T.m_tuple (se_ixA (by exact hu5) (se_vb 0) se_int))))))).st (sss_one (ss_end (ss_ret se_bl))) sss_nil) (sss_one (ss_end (ss_ret (se_cmp ol_eqB (op_eqB (by exact hu2)) (se_cb cl_len call_len T.m_len (sa_cons (se_comp (own := [(("k" : Str), 1)]) rfl nd (blkOk_by (N := ["one", "k"]) (sc := defScope s24) (by decide +kernel)) (si_sq (se_ixA (by exact hu5) (se_vb 0) se_int)) (fun _ _ _ _ _ => (sgw_name nd)) (fun _ _ _ _ _ => (sp_one (sw_or (st_val (se_isi kit_bool T.m_isinstance T.m_bool (se_vb 1))) (sw_one (st_not (st_val (se_isi kit_int T.m_isinstance T.m_int (se_vb 1)))))).st)) (fun _ _ _ _ _ => (se_mv 1))) sa_nil)) se_int)))))⟩
/-- _law_is_plan -/
theorem e25 (k : Nat) : fs (k + 1) 25 = fnF 11 2 (m_law_is_plan (fs k 20) (fs k 25) (fs k 18) (fs k 24)) := rfl
theorem w25 {T : Top K.fr mg} {k : Nat} (L : Lv P K mg base T k) : FnOk P K.w K.fr mg base (L2.CX P K.w) (k + 1) T.a25 T.d25 ["book", "thing"] (spF K (cvK K.fr) 2 (fs (k + 1) 25)) := by
  rw [e25]
  refine fn_of' ["book", "thing", "trees", "where_put", "pieces", "place", "piece", "must", "one", "key", "tree"] rfl rfl T.F25 sc25 fun cdv A outer s H E hr tk po => ?_
  have nd := sc25.nd
  have hu := hr.units
  have hu2 : _ + 199 < cLine := Nat.lt_of_le_of_lt (Nat.add_le_add_left (by decide : 199 ≤ 200) _) (Nat.lt_of_le_of_lt (Nat.add_le_add_right (Nat.le_add_right _ _) _) hr.un)
  have hu5 : _ + 65 < cLine := Nat.lt_of_le_of_lt (Nat.add_le_add_left (by decide : 65 ≤ 200) _) (Nat.lt_of_le_of_lt (Nat.add_le_add_right (Nat.le_add_right _ _) _) hr.un)
  unfold m_law_is_plan m_law_is_plan_ce7 m_law_is_plan_ct6 m_law_is_plan_ce5 m_law_is_plan_ct4 m_law_is_plan_ce3 m_law_is_plan_b2 m_law_is_plan_b1
  exact ⟨_, (sss_cons (ss_if (sw_or (st_not (st_val (se_isi kit_tup T.m_isinstance T.m_tuple (se_vb 1)))) (sw_or (st_cmp ol_neB (op_neB (by exact hu2)) (se_cb cl_len call_len T.m_len (sa_cons (se_vb 1) sa_nil)) se_int) (sw_one (st_not (st_val (se_isi kit_str T.m_isinstance T.m_str (se_ixA (by exact hu5) (se_vb 1) se_int))))))).st (sss_one (ss_end (ss_ret se_bl))) sss_nil) (sss_cons (ss_setLc (i := 2) (own := [(("key" : Str), 9), (("tree" : Str), 10)]) rfl nd (blkOk_by (N := ["book", "thing", "trees", "where_put", "pieces", "place", "piece", "must", "one", "key", "tree"]) (sc := defScope s25) (by decide +kernel)) (si_sq (se_ixA (by exact hu5) (se_vb 0) se_int)) (fun _ _ _ _ _ => (sgw_tup rfl (sgws_cons (sgw_name nd) (sgws_cons (sgw_name nd) sgws_nil)))) (fun _ _ _ _ _ => (sp_one (st_cmp ol_eqB (op_eqB (by exact hu2)) (se_vb 9) (se_ixA (by exact hu5) (se_vb 1) se_int)))) (fun _ _ _ _ _ => (se_mv 10)) (sw_true rfl rfl rfl (by decide +kernel))) (sss_cons (ss_if (sw_or (st_cmp ol_eqB (op_eqB (by exact hu2)) (se_cb cl_len call_len T.m_len (sa_cons (se_vb 2) sa_nil)) se_int) (sw_one (st_not (st_val (se_isi kit_tup T.m_isinstance T.m_tuple (se_ixA (by exact hu5) (se_vb 1) se_int)))))).st (sss_one (ss_end (ss_ret se_bl))) sss_nil) (sss_cons (ss_if (st_cmp ol_cmp op_gt (se_cb cl_len call_len T.m_len (sa_cons (se_comp (own := [(("one" : Str), 8)]) rfl nd (blkOk_by (N := ["book", "thing", "trees", "where_put", "pieces", "place", "piece", "must", "one", "key", "tree"]) (sc := defScope s25) (by decide +kernel)) (si_sq (se_ixA (by exact hu5) (se_vb 1) se_int)) (fun _ _ _ _ _ => (sgw_name nd)) (fun _ _ _ _ _ => (sp_one (st_not (st_val (se_call L.h24 (by exact hr) T.g24 T.F24.kp T.b24 takes0 (sa_cons (se_mv 8) sa_nil) none))))) (fun _ _ _ _ _ => (se_mv 8))) sa_nil)) se_int) (sss_one (ss_end (ss_ret se_bl))) sss_nil) (sss_cons (ss_setLc (i := 3) (own := [(("place" : Str), 5), (("one" : Str), 8)]) rfl nd (blkOk_by (N := ["book", "thing", "trees", "where_put", "pieces", "place", "piece", "must", "one", "key", "tree"]) (sc := defScope s25) (by decide +kernel)) (si_sq (se_ixA (by exact hu5) (se_vb 1) se_int)) (fun _ _ _ _ _ => (sgw_tup rfl (sgws_cons (sgw_name nd) (sgws_cons (sgw_name nd) sgws_nil)))) (fun _ _ _ _ _ => sp_nil) (fun _ _ _ _ _ => (se_mv 5)) (sw_true rfl rfl rfl (by decide +kernel))) (sss_cons (ss_if (st_cmp ol_neB (op_neB (by exact hu2)) (se_vb 3) (se_ss rfl (by exact hr.units) T.m_sorted T.m_set (se_vb 3))) (sss_one (ss_end (ss_ret se_bl))) sss_nil) (sss_cons (ss_set (i := 4) nd (se_ct cl_dict (call_dictX rfl (by exact hu5)) T.m_dict (sa_cons (se_call L.h18 hr T.g18 T.F18.kp T.b18 tk (sa_cons (se_ixA (by exact hu5) (se_vb 2) se_int) (sa_cons (se_tup sa_nil) sa_nil)) none) sa_nil))) (sss_cons (ss_for po rfl (si_sq (se_mv 4)) (sg_name nd) (sss_kill (vs := [5, 6, 7]) (sss_cons (ss_set (i := 6) nd (se_ixA (by exact hu5) (se_vb 4) (se_vb 5))) (sss_cons (ss_set (i := 7) nd (se_or (se_cmp ol_eqB (op_eqB (by exact hu2)) (se_ixA (by exact hu5) (se_vb 6) se_int) se_str) (se_one (se_and (se_cmp ol_eqB (op_eqB (by exact hu2)) (se_ixA (by exact hu5) (se_vb 6) se_int) se_str) (se_and (se_cmp ol_not op_notA (se_ixA (by exact hu5) (se_vb 6) se_int) se_non) (se_one (se_ixA (by exact hu5) (se_ixA (by exact hu5) (se_vb 6) se_int) se_int))))))) (sss_one (ss_if (sw_and (st_val (se_vb 7)) (sw_one (st_cmp ol_notInB (op_notInB (by exact hu5)) (se_vb 5) (se_vb 3)))).st (sss_one (ss_end (ss_ret se_bl))) sss_nil)))))) (sss_cons (ss_for po rfl (si_sq (se_ixA (by exact hu5) (se_vb 1) se_int)) (sg_tup rfl (sgs_cons (sg_name nd) (sgs_cons (sg_name nd) sgs_nil))) (sss_kill (vs := [5, 8]) (sss_cons (ss_if (sw_or (st_cmp ol_notInB (op_notInB (by exact hu5)) (se_vb 5) (se_vb 4)) (sw_one (st_not (st_val (se_call L.h25 hr T.g25 T.F25.kp T.b25 tk (sa_cons (se_mv 0) (sa_cons (se_mv 8) sa_nil)) none))))).st (sss_one (ss_end (ss_ret se_bl))) sss_nil) (sss_one (ss_if (st_cmp ol_notInB (op_notInB (by exact hu5)) (se_ixA (by exact hu5) (se_vb 8) se_int) (se_call L.h20 hr T.g20 T.F20.kp T.b20 tk (sa_cons (se_mv 0) (sa_cons (se_ixA (by exact hu5) (se_vb 4) (se_vb 5)) sa_nil)) none)) (sss_one (ss_end (ss_ret se_bl))) sss_nil))))) (sss_one (ss_end (ss_ret se_bl))))))))))))⟩
/-- _law_deeper -/
theorem e26 (k : Nat) : fs (k + 1) 26 = fnF 8 2 (m_law_deeper_2) := rfl
theorem w26 {T : Top K.fr mg} {k : Nat} (L : Lv P K mg base T k) : FnOk P K.w K.fr mg base (L2.CX P K.w) (k + 1) T.a26 T.d26 ["book", "cell"] (spF K (cvK K.fr) 2 (fs (k + 1) 26)) := by
  rw [e26]
  refine fn_of' ["book", "cell", "found", "k", "kids", "turn", "key", "tree"] rfl rfl T.F26 sc26 fun cdv A outer s H E hr tk po => ?_
  have nd := sc26.nd
  have hu := hr.units
  have hu2 : _ + 199 < cLine := Nat.lt_of_le_of_lt (Nat.add_le_add_left (by decide : 199 ≤ 200) _) (Nat.lt_of_le_of_lt (Nat.add_le_add_right (Nat.le_add_right _ _) _) hr.un)
  have hu5 : _ + 65 < cLine := Nat.lt_of_le_of_lt (Nat.add_le_add_left (by decide : 65 ≤ 200) _) (Nat.lt_of_le_of_lt (Nat.add_le_add_right (Nat.le_add_right _ _) _) hr.un)
  unfold m_law_deeper_2 m_law_deeper_2_b2 m_law_deeper_2_b1
  exact ⟨_, (sss_cons (ss_set (i := 2) nd (se_lst sa_nil)) (sss_cons (ss_for po rfl (si_r1 (se_cb cl_len call_len T.m_len (sa_cons (se_ixA (by exact hu5) (se_vb 0) se_int) sa_nil)) T.m_range) (sg_name nd) (sss_kill (vs := [3, 4, 5, 6, 7]) (sss_cons (ss_unp (se_ixA (by exact hu5) (se_ixA (by exact hu5) (se_vb 0) se_int) (se_vb 3)) (sg_tup rfl (sgs_cons (sg_name nd) (sgs_cons (sg_name nd) sgs_nil)))) (sss_cons (ss_set (i := 4) nd (se_ixA (by exact hu5) (se_vb 7) se_int)) (sss_cons (ss_for po rfl (si_r1 (se_bin ol_mod op_mod (se_bin ol_div op_fdiv (se_bin ol_mod op_mod (se_bin ol_pow op_pow (se_bin ol_add op_addA (se_bin ol_add op_addA (se_bin ol_mod op_mod (se_vb 1) se_int) (se_bin ol_mul op_mul se_int (se_vb 3))) se_int) se_int) se_int) se_int) se_int) T.m_range) (sg_name nd) (sss_kill (vs := [5]) (sss_one (ss_set (i := 4) nd (se_tup (sa_cons (se_tup (sa_cons se_str (sa_cons (se_ixA (by exact hu5) (se_lst (sa_cons se_str (sa_cons se_str (sa_cons se_str sa_nil)))) (se_vb 5)) (sa_cons se_non (sa_cons (se_mv 4) sa_nil))))) sa_nil)))))) (sss_one (ss_app (i := 2) (se_tup (sa_cons (se_mv 6) (sa_cons (se_bin ol_add op_addA (se_slice (se_vb 7) .non (.some se_int)) (se_tup (sa_cons (se_mv 4) sa_nil))) sa_nil)))))))))) (sss_one (ss_end (ss_ret (se_tup (sa_cons (se_ixA (by exact hu5) (se_vb 0) se_int) (sa_cons (se_ct cl_tuple call_tupX T.m_tuple (sa_cons (se_vb 2) sa_nil)) sa_nil))))))))⟩
/-- law -/
theorem e27 (k : Nat) : fs (k + 1) 27 = fnF 14 1 (m_law_k11 (fs k 12) (fs k 25) (fs k 23) (fs k 21) (fs k 17) (fs k 26) (fs k 13)) := rfl
theorem w27 {T : Top K.fr mg} {k : Nat} (L : Lv P K mg base T k) : FnOk P K.w K.fr mg base (L2.CX P K.w) (k + 1) T.a27 T.d27 ["script"] (spF K (cvK K.fr) 1 (fs (k + 1) 27)) := by
  rw [e27]
  refine fn_of' ["script", "state", "cell", "book", "keys", "plan", "other", "at", "fewer", "thing", "some", "told", "key", "tree"] rfl rfl T.F27 sc27 fun cdv A outer s H E hr tk po => ?_
  have nd := sc27.nd
  have hu := hr.units
  have hu2 : _ + 199 < cLine := Nat.lt_of_le_of_lt (Nat.add_le_add_left (by decide : 199 ≤ 200) _) (Nat.lt_of_le_of_lt (Nat.add_le_add_right (Nat.le_add_right _ _) _) hr.un)
  have hu5 : _ + 65 < cLine := Nat.lt_of_le_of_lt (Nat.add_le_add_left (by decide : 65 ≤ 200) _) (Nat.lt_of_le_of_lt (Nat.add_le_add_right (Nat.le_add_right _ _) _) hr.un)
  unfold m_law_k11 m_law_k11_ce3 m_law_k11_b2 m_law_k11_b1
  exact ⟨_, (sss_cons (ss_set (i := 1) nd (se_dct (sd_cons se_str (se_mv 0) (sd_cons se_str se_int (sd_cons se_str se_int sd_nil))))) (sss_cons (ss_set (i := 2) nd (se_call L.h13 hr T.g13 T.F13.kp T.b13 tk (sa_cons (se_vb 1) sa_nil) (some 0))) (sss_cons (ss_set (i := 3) nd (se_call L.h26 hr T.g26 T.F26.kp T.b26 tk (sa_cons (se_call L.h17 hr T.g17 T.F17.kp T.b17 tk (sa_cons (se_vb 1) (sa_cons (se_bin ol_mod op_mod (se_vb 2) se_int) (sa_cons se_int sa_nil))) (some 0)) (sa_cons (se_mv 2) sa_nil)) none)) (sss_cons (ss_setLc (i := 4) (own := [(("key" : Str), 12), (("tree" : Str), 13)]) rfl nd (blkOk_by (N := ["script", "state", "cell", "book", "keys", "plan", "other", "at", "fewer", "thing", "some", "told", "key", "tree"]) (sc := defScope s27) (by decide +kernel)) (si_sq (se_ixA (by exact hu5) (se_vb 3) se_int)) (fun _ _ _ _ _ => (sgw_tup rfl (sgws_cons (sgw_name nd) (sgws_cons (sgw_name nd) sgws_nil)))) (fun _ _ _ _ _ => sp_nil) (fun _ _ _ _ _ => (se_mv 12)) (sw_true rfl rfl rfl (by decide +kernel))) (sss_cons (ss_set (i := 5) nd (se_call L.h21 hr T.g21 T.F21.kp T.b21 tk (sa_cons (se_vb 1) (sa_cons (se_mv 3) (sa_cons (se_ixA (by exact hu5) (se_vb 4) (se_bin ol_mod op_mod (se_bin ol_div op_fdiv (se_vb 2) se_int) (se_cb cl_len call_len T.m_len (sa_cons (se_vb 4) sa_nil)))) (sa_cons se_int sa_nil)))) (some 0))) (sss_cons (ss_put (i := 1) (by exact hu5) se_str se_int) (sss_cons (ss_set (i := 6) nd (se_call L.h21 hr T.g21 T.F21.kp T.b21 tk (sa_cons (se_vb 1) (sa_cons (se_mv 3) (sa_cons (se_ixA (by exact hu5) (se_vb 4) (se_bin ol_mod op_mod (se_bin ol_div op_fdiv (se_vb 2) se_int) (se_cb cl_len call_len T.m_len (sa_cons (se_vb 4) sa_nil)))) (sa_cons se_int sa_nil)))) (some 0))) (sss_cons (ss_if (sw_or (st_cmp ol_not op_notA (se_call L.h12 hr T.g12 T.F12.kp T.b12 tk (sa_cons (se_mv 3) (sa_cons (se_mv 5) sa_nil)) none) se_bl) (sw_one (st_cmp ol_not op_notA (se_call L.h12 hr T.g12 T.F12.kp T.b12 tk (sa_cons (se_mv 3) (sa_cons (se_mv 6) sa_nil)) none) se_bl))).st (sss_one (ss_end (ss_ret se_bl))) sss_nil) (sss_cons (ss_for po rfl (si_sq (se_if (st_cmp ol_cmp op_gt (se_cb cl_len call_len T.m_len (sa_cons (se_vb 0) sa_nil)) se_int) (se_slice (se_vb 0) .non (.some se_int)) (se_lst (sa_cons se_int sa_nil)))) (sg_name nd) (sss_kill (vs := [2, 7, 8, 9, 10, 11]) (sss_cons (ss_set (i := 9) nd (se_call L.h23 hr T.g23 T.F23.kp T.b23 tk (sa_cons (se_mv 5) (sa_cons (se_mv 6) (sa_cons (se_bin ol_div op_fdiv (se_vb 2) se_int) sa_nil))) none)) (sss_cons (ss_set (i := 7) nd (se_bin ol_mod op_mod (se_bin ol_div op_fdiv (se_vb 2) se_int) (se_cb cl_len call_len T.m_len (sa_cons (se_ixA (by exact hu5) (se_vb 3) se_int) sa_nil)))) (sss_cons (ss_set (i := 8) nd (se_tup (sa_cons (se_ixA (by exact hu5) (se_vb 3) se_int) (sa_cons (se_bin ol_add op_addA (se_slice (se_ixA (by exact hu5) (se_vb 3) se_int) .non (.some (se_vb 7))) (se_slice (se_ixA (by exact hu5) (se_vb 3) se_int) (.some (se_bin ol_add op_addA (se_vb 7) se_int)) .non)) sa_nil)))) (sss_one (ss_for po rfl (si_sq (se_tup (sa_cons (se_mv 3) (sa_cons (se_mv 8) (sa_cons (se_mv 3) sa_nil))))) (sg_name nd) (sss_kill (vs := [10, 11]) (sss_cons (ss_set (i := 11) nd (se_call L.h12 hr T.g12 T.F12.kp T.b12 tk (sa_cons (se_mv 10) (sa_cons (se_mv 9) sa_nil)) none)) (sss_one (ss_if (sw_or (st_not (st_val (se_isi kit_bool T.m_isinstance T.m_bool (se_vb 11)))) (sw_one (st_cmp ol_neB (op_neB (by exact hu2)) (se_vb 11) (se_call L.h25 hr T.g25 T.F25.kp T.b25 tk (sa_cons (se_mv 10) (sa_cons (se_mv 9) sa_nil)) none)))).st (sss_one (ss_end (ss_ret se_bl))) sss_nil))))))))))) (sss_cons (ss_set (i := 7) nd (se_index (by exact hu5) (se_vb 4) (se_ixA (by exact hu5) (se_vb 5) se_int))) (sss_cons (ss_set (i := 8) nd (se_tup (sa_cons (se_ixA (by exact hu5) (se_vb 3) se_int) (sa_cons (se_bin ol_add op_addA (se_slice (se_ixA (by exact hu5) (se_vb 3) se_int) .non (.some (se_vb 7))) (se_slice (se_ixA (by exact hu5) (se_vb 3) se_int) (.some (se_bin ol_add op_addA (se_vb 7) se_int)) .non)) sa_nil)))) (sss_one (ss_end (ss_ret (se_and (se_cmp ol_is op_isA (se_call L.h12 hr T.g12 T.F12.kp T.b12 tk (sa_cons (se_mv 8) (sa_cons (se_mv 5) sa_nil)) none) se_bl) (se_one (se_cmp ol_is op_isA (se_call L.h12 hr T.g12 T.F12.kp T.b12 tk (sa_cons (se_mv 3) (sa_cons (se_mv 5) sa_nil)) none) se_bl)))))))))))))))))⟩
theorem xw_NoPlace {T : Top K.fr mg} : ∀ k, IniOk P K.w K.fr mg base k T.xI_NoPlace T.xd_NoPlace ["place"] (fs k 28)
  | 0 => .inl rfl
  | 1 => .inl rfl
  | k + 2 => .inr ⟨k + 1, rfl, fn_init1 T.xF_NoPlace sci_NoPlace fun cdv A outer s H E => pss_cons (ps_expr (pe_ginit T.gi T.xg_GraftError (pa_cons (pe_var (i := 0) rfl (.inl rfl)) (pa_cons pe_str pa_nil)))) (pss_one (ps_ost (pe_var (i := 0) rfl (.inl rfl)) (pe_var (i := 1) rfl (.inl rfl))))⟩
theorem lv (T : Top K.fr mg) : ∀ k, Lv P K mg base T k
  | 0 => ⟨fn_zero rfl, fn_zero rfl, fn_zero rfl, fn_zero rfl, fn_zero rfl, fn_zero rfl, fn_zero rfl, fn_zero rfl, fn_zero rfl, fn_zero rfl, fn_zero rfl, fn_zero rfl, fn_zero rfl, fn_zero rfl, fn_zero rfl, fn_zero rfl, fn_zero rfl, fn_zero rfl, fn_zero rfl, fn_zero rfl, fn_zero rfl, fn_zero rfl, fn_zero rfl, fn_zero rfl, fn_zero rfl, fn_zero rfl, fn_zero rfl, fn_zero rfl, xw_NoPlace 0⟩
  | k + 1 => have L := lv T k; ⟨w0 L, w1 L, w2 L, w3 L, w4 L, w5 L, w6 L, w7 L, w8 L, w9 L, w10 L, w11 L, w12 L, w13 L, w14 L, w15 L, w16 L, w17 L, w18 L, w19 L, w20 L, w21 L, w22 L, w23 L, w24 L, w25 L, w26 L, w27 L, xw_NoPlace (k + 1)⟩
end
end Wk11
namespace Wk11
open PySem L2 GS GM
/-! ### the end -/
theorem top_mk {K : PySem.W.Frag} {h : Heap} {mg : Str → Option Value} {fa f0 f1 f2 f3 f4 f5 f6 f7 f8 f9 f10 f11 f12 f13 f14 f15 f16 f17 f18 f19 f20 f21 f22 f23 f24 f25 f26 f27 : Addr} (X : K.In h) (G : h.Ns mainGlobals mg) (hfa : mg "law" = some (.ref fa))
    {od0 an0 od1 an1 od2 an2 od3 an3 od4 an4 od5 an5 od6 an6 od7 an7 od8 an8 od9 an9 od10 an10 od11 an11 od12 an12 od13 an13 od14 an14 od15 an15 od16 an16 od17 an17 od18 an18 od19 an19 od20 an20 od21 an21 od22 an22 od23 an23 od24 an24 od25 an25 od26 an26 od27 an27 : Option Addr} {sl0 sl1 sl2 sl3 sl4 sl5 sl6 sl7 sl8 sl9 sl10 sl11 sl12 sl13 sl14 sl15 sl16 sl17 sl18 sl19 sl20 sl21 sl22 sl23 sl24 sl25 sl26 sl27 : Array (Option Value)} {oc0 kV0 dc0 pm0 cd0 ct0 oc1 kV1 dc1 pm1 cd1 ct1 oc2 kV2 dc2 pm2 cd2 ct2 oc3 kV3 dc3 pm3 cd3 ct3 oc4 kV4 dc4 pm4 cd4 ct4 oc5 kV5 dc5 pm5 cd5 ct5 oc6 kV6 dc6 pm6 cd6 ct6 oc7 kV7 dc7 pm7 cd7 ct7 oc8 kV8 dc8 pm8 cd8 ct8 oc9 kV9 dc9 pm9 cd9 ct9 oc10 kV10 dc10 pm10 cd10 ct10 oc11 kV11 dc11 pm11 cd11 ct11 oc12 kV12 dc12 pm12 cd12 ct12 oc13 kV13 dc13 pm13 cd13 ct13 oc14 kV14 dc14 pm14 cd14 ct14 oc15 kV15 dc15 pm15 cd15 ct15 oc16 kV16 dc16 pm16 cd16 ct16 oc17 kV17 dc17 pm17 cd17 ct17 oc18 kV18 dc18 pm18 cd18 ct18 oc19 kV19 dc19 pm19 cd19 ct19 oc20 kV20 dc20 pm20 cd20 ct20 oc21 kV21 dc21 pm21 cd21 ct21 oc22 kV22 dc22 pm22 cd22 ct22 oc23 kV23 dc23 pm23 cd23 ct23 oc24 kV24 dc24 pm24 cd24 ct24 oc25 kV25 dc25 pm25 cd25 ct25 oc26 kV26 dc26 pm26 cd26 ct26 oc27 kV27 dc27 pm27 cd27 ct27 : Value}
    (a0 : PySem.W.nsIn K mainGlobals "kids_of" = some (some (.ref f0))) (l0 : K.lookup f0 = some ⟨oc0, od0, .func (PySem.W.fnOf "kids_of" "kids_of" (defArgs s0) (defBody s0) (defScope s0) .none kV0 dc0 pm0 an0 cd0 ct0), sl0⟩) (c0 : PySem.W.codeIn K cd0 "kids_of" = true) (k0 : PySem.W.keepIn K (.ref f0) = true)
    (a1 : PySem.W.nsIn K mainGlobals "places" = some (some (.ref f1))) (l1 : K.lookup f1 = some ⟨oc1, od1, .func (PySem.W.fnOf "places" "places" (defArgs s1) (defBody s1) (defScope s1) .none kV1 dc1 pm1 an1 cd1 ct1), sl1⟩) (c1 : PySem.W.codeIn K cd1 "places" = true) (k1 : PySem.W.keepIn K (.ref f1) = true)
    (a2 : PySem.W.nsIn K mainGlobals "piece_at" = some (some (.ref f2))) (l2 : K.lookup f2 = some ⟨oc2, od2, .func (PySem.W.fnOf "piece_at" "piece_at" (defArgs s2) (defBody s2) (defScope s2) .none kV2 dc2 pm2 an2 cd2 ct2), sl2⟩) (c2 : PySem.W.codeIn K cd2 "piece_at" = true) (k2 : PySem.W.keepIn K (.ref f2) = true)
    (a3 : PySem.W.nsIn K mainGlobals "feet_of" = some (some (.ref f3))) (l3 : K.lookup f3 = some ⟨oc3, od3, .func (PySem.W.fnOf "feet_of" "feet_of" (defArgs s3) (defBody s3) (defScope s3) .none kV3 dc3 pm3 an3 cd3 ct3), sl3⟩) (c3 : PySem.W.codeIn K cd3 "feet_of" = true) (k3 : PySem.W.keepIn K (.ref f3) = true)
    (a4 : PySem.W.nsIn K mainGlobals "is_graft" = some (some (.ref f4))) (l4 : K.lookup f4 = some ⟨oc4, od4, .func (PySem.W.fnOf "is_graft" "is_graft" (defArgs s4) (defBody s4) (defScope s4) .none kV4 dc4 pm4 an4 cd4 ct4), sl4⟩) (c4 : PySem.W.codeIn K cd4 "is_graft" = true) (k4 : PySem.W.keepIn K (.ref f4) = true)
    (a5 : PySem.W.nsIn K mainGlobals "name_of" = some (some (.ref f5))) (l5 : K.lookup f5 = some ⟨oc5, od5, .func (PySem.W.fnOf "name_of" "name_of" (defArgs s5) (defBody s5) (defScope s5) .none kV5 dc5 pm5 an5 cd5 ct5), sl5⟩) (c5 : PySem.W.codeIn K cd5 "name_of" = true) (k5 : PySem.W.keepIn K (.ref f5) = true)
    (a6 : PySem.W.nsIn K mainGlobals "tree_of" = some (some (.ref f6))) (l6 : K.lookup f6 = some ⟨oc6, od6, .func (PySem.W.fnOf "tree_of" "tree_of" (defArgs s6) (defBody s6) (defScope s6) .none kV6 dc6 pm6 an6 cd6 ct6), sl6⟩) (c6 : PySem.W.codeIn K cd6 "tree_of" = true) (k6 : PySem.W.keepIn K (.ref f6) = true)
    (a7 : PySem.W.nsIn K mainGlobals "wanted" = some (some (.ref f7))) (l7 : K.lookup f7 = some ⟨oc7, od7, .func (PySem.W.fnOf "wanted" "wanted" (defArgs s7) (defBody s7) (defScope s7) .none kV7 dc7 pm7 an7 cd7 ct7), sl7⟩) (c7 : PySem.W.codeIn K cd7 "wanted" = true) (k7 : PySem.W.keepIn K (.ref f7) = true)
    (a8 : PySem.W.nsIn K mainGlobals "takers" = some (some (.ref f8))) (l8 : K.lookup f8 = some ⟨oc8, od8, .func (PySem.W.fnOf "takers" "takers" (defArgs s8) (defBody s8) (defScope s8) .none kV8 dc8 pm8 an8 cd8 ct8), sl8⟩) (c8 : PySem.W.codeIn K cd8 "takers" = true) (k8 : PySem.W.keepIn K (.ref f8) = true)
    (a9 : PySem.W.nsIn K mainGlobals "are_numbers" = some (some (.ref f9))) (l9 : K.lookup f9 = some ⟨oc9, od9, .func (PySem.W.fnOf "are_numbers" "are_numbers" (defArgs s9) (defBody s9) (defScope s9) .none kV9 dc9 pm9 an9 cd9 ct9), sl9⟩) (c9 : PySem.W.codeIn K cd9 "are_numbers" = true) (k9 : PySem.W.keepIn K (.ref f9) = true)
    (a10 : PySem.W.nsIn K mainGlobals "are_puts" = some (some (.ref f10))) (l10 : K.lookup f10 = some ⟨oc10, od10, .func (PySem.W.fnOf "are_puts" "are_puts" (defArgs s10) (defBody s10) (defScope s10) .none kV10 dc10 pm10 an10 cd10 ct10), sl10⟩) (c10 : PySem.W.codeIn K cd10 "are_puts" = true) (k10 : PySem.W.keepIn K (.ref f10) = true)
    (a11 : PySem.W.nsIn K mainGlobals "put_well" = some (some (.ref f11))) (l11 : K.lookup f11 = some ⟨oc11, od11, .func (PySem.W.fnOf "put_well" "put_well" (defArgs s11) (defBody s11) (defScope s11) .none kV11 dc11 pm11 an11 cd11 ct11), sl11⟩) (c11 : PySem.W.codeIn K cd11 "put_well" = true) (k11 : PySem.W.keepIn K (.ref f11) = true)
    (a12 : PySem.W.nsIn K mainGlobals "is_plan" = some (some (.ref f12))) (l12 : K.lookup f12 = some ⟨oc12, od12, .func (PySem.W.fnOf "is_plan" "is_plan" (defArgs s12) (defBody s12) (defScope s12) .none kV12 dc12 pm12 an12 cd12 ct12), sl12⟩) (c12 : PySem.W.codeIn K cd12 "is_plan" = true) (k12 : PySem.W.keepIn K (.ref f12) = true)
    (a13 : PySem.W.nsIn K mainGlobals "_law_cell" = some (some (.ref f13))) (l13 : K.lookup f13 = some ⟨oc13, od13, .func (PySem.W.fnOf "_law_cell" "_law_cell" (defArgs s13) (defBody s13) (defScope s13) .none kV13 dc13 pm13 an13 cd13 ct13), sl13⟩) (c13 : PySem.W.codeIn K cd13 "_law_cell" = true) (k13 : PySem.W.keepIn K (.ref f13) = true)
    (a14 : PySem.W.nsIn K mainGlobals "_law_kid" = some (some (.ref f14))) (l14 : K.lookup f14 = some ⟨oc14, od14, .func (PySem.W.fnOf "_law_kid" "_law_kid" (defArgs s14) (defBody s14) (defScope s14) .none kV14 dc14 pm14 an14 cd14 ct14), sl14⟩) (c14 : PySem.W.codeIn K cd14 "_law_kid" = true) (k14 : PySem.W.keepIn K (.ref f14) = true)
    (a15 : PySem.W.nsIn K mainGlobals "_law_footed" = some (some (.ref f15))) (l15 : K.lookup f15 = some ⟨oc15, od15, .func (PySem.W.fnOf "_law_footed" "_law_footed" (defArgs s15) (defBody s15) (defScope s15) .none kV15 dc15 pm15 an15 cd15 ct15), sl15⟩) (c15 : PySem.W.codeIn K cd15 "_law_footed" = true) (k15 : PySem.W.keepIn K (.ref f15) = true)
    (a16 : PySem.W.nsIn K mainGlobals "_law_drawn" = some (some (.ref f16))) (l16 : K.lookup f16 = some ⟨oc16, od16, .func (PySem.W.fnOf "_law_drawn" "_law_drawn" (defArgs s16) (defBody s16) (defScope s16) .none kV16 dc16 pm16 an16 cd16 ct16), sl16⟩) (c16 : PySem.W.codeIn K cd16 "_law_drawn" = true) (k16 : PySem.W.keepIn K (.ref f16) = true)
    (a17 : PySem.W.nsIn K mainGlobals "_law_book" = some (some (.ref f17))) (l17 : K.lookup f17 = some ⟨oc17, od17, .func (PySem.W.fnOf "_law_book" "_law_book" (defArgs s17) (defBody s17) (defScope s17) .none kV17 dc17 pm17 an17 cd17 ct17), sl17⟩) (c17 : PySem.W.codeIn K cd17 "_law_book" = true) (k17 : PySem.W.keepIn K (.ref f17) = true)
    (a18 : PySem.W.nsIn K mainGlobals "_law_pieces" = some (some (.ref f18))) (l18 : K.lookup f18 = some ⟨oc18, od18, .func (PySem.W.fnOf "_law_pieces" "_law_pieces" (defArgs s18) (defBody s18) (defScope s18) .none kV18 dc18 pm18 an18 cd18 ct18), sl18⟩) (c18 : PySem.W.codeIn K cd18 "_law_pieces" = true) (k18 : PySem.W.keepIn K (.ref f18) = true)
    (a19 : PySem.W.nsIn K mainGlobals "_law_called" = some (some (.ref f19))) (l19 : K.lookup f19 = some ⟨oc19, od19, .func (PySem.W.fnOf "_law_called" "_law_called" (defArgs s19) (defBody s19) (defScope s19) .none kV19 dc19 pm19 an19 cd19 ct19), sl19⟩) (c19 : PySem.W.codeIn K cd19 "_law_called" = true) (k19 : PySem.W.keepIn K (.ref f19) = true)
    (a20 : PySem.W.nsIn K mainGlobals "_law_takers" = some (some (.ref f20))) (l20 : K.lookup f20 = some ⟨oc20, od20, .func (PySem.W.fnOf "_law_takers" "_law_takers" (defArgs s20) (defBody s20) (defScope s20) .none kV20 dc20 pm20 an20 cd20 ct20), sl20⟩) (c20 : PySem.W.codeIn K cd20 "_law_takers" = true) (k20 : PySem.W.keepIn K (.ref f20) = true)
    (a21 : PySem.W.nsIn K mainGlobals "_law_plan" = some (some (.ref f21))) (l21 : K.lookup f21 = some ⟨oc21, od21, .func (PySem.W.fnOf "_law_plan" "_law_plan" (defArgs s21) (defBody s21) (defScope s21) .none kV21 dc21 pm21 an21 cd21 ct21), sl21⟩) (c21 : PySem.W.codeIn K cd21 "_law_plan" = true) (k21 : PySem.W.keepIn K (.ref f21) = true)
    (a22 : PySem.W.nsIn K mainGlobals "_law_odd" = some (some (.ref f22))) (l22 : K.lookup f22 = some ⟨oc22, od22, .func (PySem.W.fnOf "_law_odd" "_law_odd" (defArgs s22) (defBody s22) (defScope s22) .none kV22 dc22 pm22 an22 cd22 ct22), sl22⟩) (c22 : PySem.W.codeIn K cd22 "_law_odd" = true) (k22 : PySem.W.keepIn K (.ref f22) = true)
    (a23 : PySem.W.nsIn K mainGlobals "_law_bent" = some (some (.ref f23))) (l23 : K.lookup f23 = some ⟨oc23, od23, .func (PySem.W.fnOf "_law_bent" "_law_bent" (defArgs s23) (defBody s23) (defScope s23) .none kV23 dc23 pm23 an23 cd23 ct23), sl23⟩) (c23 : PySem.W.codeIn K cd23 "_law_bent" = true) (k23 : PySem.W.keepIn K (.ref f23) = true)
    (a24 : PySem.W.nsIn K mainGlobals "_law_is_put" = some (some (.ref f24))) (l24 : K.lookup f24 = some ⟨oc24, od24, .func (PySem.W.fnOf "_law_is_put" "_law_is_put" (defArgs s24) (defBody s24) (defScope s24) .none kV24 dc24 pm24 an24 cd24 ct24), sl24⟩) (c24 : PySem.W.codeIn K cd24 "_law_is_put" = true) (k24 : PySem.W.keepIn K (.ref f24) = true)
    (a25 : PySem.W.nsIn K mainGlobals "_law_is_plan" = some (some (.ref f25))) (l25 : K.lookup f25 = some ⟨oc25, od25, .func (PySem.W.fnOf "_law_is_plan" "_law_is_plan" (defArgs s25) (defBody s25) (defScope s25) .none kV25 dc25 pm25 an25 cd25 ct25), sl25⟩) (c25 : PySem.W.codeIn K cd25 "_law_is_plan" = true) (k25 : PySem.W.keepIn K (.ref f25) = true)
    (a26 : PySem.W.nsIn K mainGlobals "_law_deeper" = some (some (.ref f26))) (l26 : K.lookup f26 = some ⟨oc26, od26, .func (PySem.W.fnOf "_law_deeper" "_law_deeper" (defArgs s26) (defBody s26) (defScope s26) .none kV26 dc26 pm26 an26 cd26 ct26), sl26⟩) (c26 : PySem.W.codeIn K cd26 "_law_deeper" = true) (k26 : PySem.W.keepIn K (.ref f26) = true)
    (a27 : PySem.W.nsIn K mainGlobals "law" = some (some (.ref f27))) (l27 : K.lookup f27 = some ⟨oc27, od27, .func (PySem.W.fnOf "law" "law" (defArgs s27) (defBody s27) (defScope s27) .none kV27 dc27 pm27 an27 cd27 ct27), sl27⟩) (c27 : PySem.W.codeIn K cd27 "law" = true) (k27 : PySem.W.keepIn K (.ref f27) = true)
    (z_enumerate : PySem.W.nsIn K mainGlobals "enumerate" = some none)
    (z_len : PySem.W.nsIn K mainGlobals "len" = some none)
    (z_isinstance : PySem.W.nsIn K mainGlobals "isinstance" = some none)
    (z_int : PySem.W.nsIn K mainGlobals "int" = some none)
    (z_bool : PySem.W.nsIn K mainGlobals "bool" = some none)
    (z_tuple : PySem.W.nsIn K mainGlobals "tuple" = some none)
    (z_str : PySem.W.nsIn K mainGlobals "str" = some none)
    (z_dict : PySem.W.nsIn K mainGlobals "dict" = some none)
    (z_range : PySem.W.nsIn K mainGlobals "range" = some none)
    (z_max : PySem.W.nsIn K mainGlobals "max" = some none)
    (z_list : PySem.W.nsIn K mainGlobals "list" = some none)
    (z_reversed : PySem.W.nsIn K mainGlobals "reversed" = some none)
    (z_sorted : PySem.W.nsIn K mainGlobals "sorted" = some none)
    (z_set : PySem.W.nsIn K mainGlobals "set" = some none)
    {fx_GraftError : Addr} (xa_GraftError : PySem.W.nsIn K mainGlobals "GraftError" = some (some (.ref fx_GraftError)))
    {fx_NoPlace : Addr} (xa_NoPlace : PySem.W.nsIn K mainGlobals "NoPlace" = some (some (.ref fx_NoPlace)))
    (gi : giB K fx_GraftError = true)
    {fi_NoPlace : Addr} {xod_NoPlace xan_NoPlace : Option Addr} {xsl_NoPlace : Array (Option Value)} {xoc_NoPlace xkV_NoPlace xdc_NoPlace xpm_NoPlace xcd_NoPlace xct_NoPlace : Value}
    (xi_NoPlace : PySem.W.findIn K (.ref fx_NoPlace) "__init__" = some (some (.ref fi_NoPlace))) (xl_NoPlace : K.lookup fi_NoPlace = some ⟨xoc_NoPlace, xod_NoPlace, .func (PySem.W.fnOf "__init__" "NoPlace.__init__" (defArgs si_NoPlace) (defBody si_NoPlace) (defScope si_NoPlace) .none xkV_NoPlace xdc_NoPlace xpm_NoPlace xan_NoPlace xcd_NoPlace xct_NoPlace), xsl_NoPlace⟩) (xc_NoPlace : PySem.W.codeIn K xcd_NoPlace "NoPlace.__init__" = true) (xk_NoPlace : PySem.W.keepIn K (.ref fi_NoPlace) = true)
    {xn_NoPlace xq_NoPlace : Str} {xN_NoPlace : Addr} {xbs_NoPlace xbm_NoPlace : List Value} {xsn_NoPlace : List Str} {xsu_NoPlace : List Value} {xab_NoPlace : Bool} {xco_NoPlace : Option Bool} {xdd_NoPlace : Option Addr} {x0_NoPlace x1_NoPlace x2_NoPlace x3_NoPlace x5_NoPlace : Option Value}
    (xe_NoPlace : K.lookup fx_NoPlace = some (excClassObj xn_NoPlace xq_NoPlace fx_NoPlace xN_NoPlace xbs_NoPlace xbm_NoPlace true xsn_NoPlace xsu_NoPlace xab_NoPlace xco_NoPlace xdd_NoPlace x0_NoPlace x1_NoPlace x2_NoPlace x3_NoPlace x5_NoPlace "ValueError.__new__")) (xr_NoPlace : PySem.HandSPX.refsVE xbm_NoPlace = true) (xo_NoPlace : oeB K fx_NoPlace fi_NoPlace ["place"] = true) (xv_NoPlace : cvK K "NoPlace" = .ref fx_NoPlace)
    : ∃ T : Top K mg, T.a27 = fa ∧ ∀ (s : Shared) (v : Value), BindsTo s T.d27 ⟨[v], []⟩ [("script", v)] := by
  have e := hfa.symm.trans (PySem.W.mg_of X G a27)
  have e' : f27 = fa := by cases e; rfl
  have F0 := fun_mk (st := s0) l0 c0 k0
  have b0 := F0.binds (ps := ["tree"]) fun _ _ _ _ _ _ us hl => match us, hl with | [_], _ => rfl
  have F1 := fun_mk (st := s1) l1 c1 k1
  have b1 := F1.binds (ps := ["tree"]) fun _ _ _ _ _ _ us hl => match us, hl with | [_], _ => rfl
  have F2 := fun_mk (st := s2) l2 c2 k2
  have b2 := F2.binds (ps := ["tree", "place"]) fun _ _ _ _ _ _ us hl => match us, hl with | [_, _], _ => rfl
  have F3 := fun_mk (st := s3) l3 c3 k3
  have b3 := F3.binds (ps := ["tree"]) fun _ _ _ _ _ _ us hl => match us, hl with | [_], _ => rfl
  have F4 := fun_mk (st := s4) l4 c4 k4
  have b4 := F4.binds (ps := ["tree"]) fun _ _ _ _ _ _ us hl => match us, hl with | [_], _ => rfl
  have F5 := fun_mk (st := s5) l5 c5 k5
  have b5 := F5.binds (ps := ["tree"]) fun _ _ _ _ _ _ us hl => match us, hl with | [_], _ => rfl
  have F6 := fun_mk (st := s6) l6 c6 k6
  have b6 := F6.binds (ps := ["book", "key"]) fun _ _ _ _ _ _ us hl => match us, hl with | [_, _], _ => rfl
  have F7 := fun_mk (st := s7) l7 c7 k7
  have b7 := F7.binds (ps := ["piece"]) fun _ _ _ _ _ _ us hl => match us, hl with | [_], _ => rfl
  have F8 := fun_mk (st := s8) l8 c8 k8
  have b8 := F8.binds (ps := ["book", "piece"]) fun _ _ _ _ _ _ us hl => match us, hl with | [_, _], _ => rfl
  have F9 := fun_mk (st := s9) l9 c9 k9
  have b9 := F9.binds (ps := ["thing"]) fun _ _ _ _ _ _ us hl => match us, hl with | [_], _ => rfl
  have F10 := fun_mk (st := s10) l10 c10 k10
  have b10 := F10.binds (ps := ["thing"]) fun _ _ _ _ _ _ us hl => match us, hl with | [_], _ => rfl
  have F11 := fun_mk (st := s11) l11 c11 k11
  have b11 := F11.binds (ps := ["book", "tree", "puts"]) fun _ _ _ _ _ _ us hl => match us, hl with | [_, _, _], _ => rfl
  have F12 := fun_mk (st := s12) l12 c12 k12
  have b12 := F12.binds (ps := ["book", "thing"]) fun _ _ _ _ _ _ us hl => match us, hl with | [_, _], _ => rfl
  have F13 := fun_mk (st := s13) l13 c13 k13
  have b13 := F13.binds (ps := ["state"]) fun _ _ _ _ _ _ us hl => match us, hl with | [_], _ => rfl
  have F14 := fun_mk (st := s14) l14 c14 k14
  have b14 := F14.binds (ps := ["state", "left"]) fun _ _ _ _ _ _ us hl => match us, hl with | [_, _], _ => rfl
  have F15 := fun_mk (st := s15) l15 c15 k15
  have b15 := F15.binds (ps := ["tree", "foot", "cell"]) fun _ _ _ _ _ _ us hl => match us, hl with | [_, _, _], _ => rfl
  have F16 := fun_mk (st := s16) l16 c16 k16
  have b16 := F16.binds (ps := ["state", "left"]) fun _ _ _ _ _ _ us hl => match us, hl with | [_, _], _ => rfl
  have F17 := fun_mk (st := s17) l17 c17 k17
  have b17 := F17.binds (ps := ["state", "many", "left"]) fun _ _ _ _ _ _ us hl => match us, hl with | [_, _, _], _ => rfl
  have F18 := fun_mk (st := s18) l18 c18 k18
  have b18 := F18.binds (ps := ["tree", "place"]) fun _ _ _ _ _ _ us hl => match us, hl with | [_, _], _ => rfl
  have F19 := fun_mk (st := s19) l19 c19 k19
  have b19 := F19.binds (ps := ["tree"]) fun _ _ _ _ _ _ us hl => match us, hl with | [_], _ => rfl
  have F20 := fun_mk (st := s20) l20 c20 k20
  have b20 := F20.binds (ps := ["book", "piece"]) fun _ _ _ _ _ _ us hl => match us, hl with | [_, _], _ => rfl
  have F21 := fun_mk (st := s21) l21 c21 k21
  have b21 := F21.binds (ps := ["state", "book", "key", "left"]) fun _ _ _ _ _ _ us hl => match us, hl with | [_, _, _, _], _ => rfl
  have F22 := fun_mk (st := s22) l22 c22 k22
  have b22 := F22.binds (ps := ["plan", "other", "cell"]) fun _ _ _ _ _ _ us hl => match us, hl with | [_, _, _], _ => rfl
  have F23 := fun_mk (st := s23) l23 c23 k23
  have b23 := F23.binds (ps := ["plan", "other", "cell"]) fun _ _ _ _ _ _ us hl => match us, hl with | [_, _, _], _ => rfl
  have F24 := fun_mk (st := s24) l24 c24 k24
  have b24 := F24.binds (ps := ["one"]) fun _ _ _ _ _ _ us hl => match us, hl with | [_], _ => rfl
  have F25 := fun_mk (st := s25) l25 c25 k25
  have b25 := F25.binds (ps := ["book", "thing"]) fun _ _ _ _ _ _ us hl => match us, hl with | [_, _], _ => rfl
  have F26 := fun_mk (st := s26) l26 c26 k26
  have b26 := F26.binds (ps := ["book", "cell"]) fun _ _ _ _ _ _ us hl => match us, hl with | [_, _], _ => rfl
  have F27 := fun_mk (st := s27) l27 c27 k27
  have b27 := F27.binds (ps := ["script"]) fun _ _ _ _ _ _ us hl => match us, hl with | [_], _ => rfl
  have xF_NoPlace := fun_mk (st := si_NoPlace) xl_NoPlace xc_NoPlace xk_NoPlace
  have xb_NoPlace := xF_NoPlace.binds (ps := ["self", "place"]) fun _ _ _ _ _ _ us hl => match us, hl with | [_, _], _ => rfl
  obtain ⟨xs1_NoPlace, xs2_NoPlace, xs3_NoPlace, xs4_NoPlace, _⟩ := oeB_ok xo_NoPlace
  exact ⟨{ a0 := f0, d0 := _, F0 := F0, b0 := b0, g0 := PySem.W.mg_of X G a0, a1 := f1, d1 := _, F1 := F1, b1 := b1, g1 := PySem.W.mg_of X G a1, a2 := f2, d2 := _, F2 := F2, b2 := b2, g2 := PySem.W.mg_of X G a2, a3 := f3, d3 := _, F3 := F3, b3 := b3, g3 := PySem.W.mg_of X G a3, a4 := f4, d4 := _, F4 := F4, b4 := b4, g4 := PySem.W.mg_of X G a4, a5 := f5, d5 := _, F5 := F5, b5 := b5, g5 := PySem.W.mg_of X G a5, a6 := f6, d6 := _, F6 := F6, b6 := b6, g6 := PySem.W.mg_of X G a6, a7 := f7, d7 := _, F7 := F7, b7 := b7, g7 := PySem.W.mg_of X G a7, a8 := f8, d8 := _, F8 := F8, b8 := b8, g8 := PySem.W.mg_of X G a8, a9 := f9, d9 := _, F9 := F9, b9 := b9, g9 := PySem.W.mg_of X G a9, a10 := f10, d10 := _, F10 := F10, b10 := b10, g10 := PySem.W.mg_of X G a10, a11 := f11, d11 := _, F11 := F11, b11 := b11, g11 := PySem.W.mg_of X G a11, a12 := f12, d12 := _, F12 := F12, b12 := b12, g12 := PySem.W.mg_of X G a12, a13 := f13, d13 := _, F13 := F13, b13 := b13, g13 := PySem.W.mg_of X G a13, a14 := f14, d14 := _, F14 := F14, b14 := b14, g14 := PySem.W.mg_of X G a14, a15 := f15, d15 := _, F15 := F15, b15 := b15, g15 := PySem.W.mg_of X G a15, a16 := f16, d16 := _, F16 := F16, b16 := b16, g16 := PySem.W.mg_of X G a16, a17 := f17, d17 := _, F17 := F17, b17 := b17, g17 := PySem.W.mg_of X G a17, a18 := f18, d18 := _, F18 := F18, b18 := b18, g18 := PySem.W.mg_of X G a18, a19 := f19, d19 := _, F19 := F19, b19 := b19, g19 := PySem.W.mg_of X G a19, a20 := f20, d20 := _, F20 := F20, b20 := b20, g20 := PySem.W.mg_of X G a20, a21 := f21, d21 := _, F21 := F21, b21 := b21, g21 := PySem.W.mg_of X G a21, a22 := f22, d22 := _, F22 := F22, b22 := b22, g22 := PySem.W.mg_of X G a22, a23 := f23, d23 := _, F23 := F23, b23 := b23, g23 := PySem.W.mg_of X G a23, a24 := f24, d24 := _, F24 := F24, b24 := b24, g24 := PySem.W.mg_of X G a24, a25 := f25, d25 := _, F25 := F25, b25 := b25, g25 := PySem.W.mg_of X G a25, a26 := f26, d26 := _, F26 := F26, b26 := b26, g26 := PySem.W.mg_of X G a26, a27 := f27, d27 := _, F27 := F27, b27 := b27, g27 := PySem.W.mg_of X G a27, m_enumerate := PySem.W.mg_none_of X G z_enumerate, m_len := PySem.W.mg_none_of X G z_len, m_isinstance := PySem.W.mg_none_of X G z_isinstance, m_int := PySem.W.mg_none_of X G z_int, m_bool := PySem.W.mg_none_of X G z_bool, m_tuple := PySem.W.mg_none_of X G z_tuple, m_str := PySem.W.mg_none_of X G z_str, m_dict := PySem.W.mg_none_of X G z_dict, m_range := PySem.W.mg_none_of X G z_range, m_max := PySem.W.mg_none_of X G z_max, m_list := PySem.W.mg_none_of X G z_list, m_reversed := PySem.W.mg_none_of X G z_reversed, m_sorted := PySem.W.mg_none_of X G z_sorted, m_set := PySem.W.mg_none_of X G z_set, xA_GraftError := fx_GraftError, xg_GraftError := PySem.W.mg_of X G xa_GraftError, xA_NoPlace := fx_NoPlace, xg_NoPlace := PySem.W.mg_of X G xa_NoPlace, gi := gi, xI_NoPlace := fi_NoPlace, xd_NoPlace := _, xF_NoPlace := xF_NoPlace, xb_NoPlace := xb_NoPlace, xo_NoPlace := xo_NoPlace, xv_NoPlace := xv_NoPlace, xT_NoPlace := ⟨⟨_, _, _, _, _, _, _, _, _, _, _, _, _, _, _, xe_NoPlace, xr_NoPlace⟩, xs1_NoPlace, xs2_NoPlace, xs3_NoPlace, xs4_NoPlace⟩ }, e', fun s v => .of_eq rfl⟩
end Wk11
open PySem PySem.W PyProof.Rows
set_option maxRecDepth 100000 in
set_option maxHeartbeats 0 in
theorem PySem.Challenge.cw_graftsay_k11_plans_known_holds : PySem.Challenge.rw_graftsay_k11_plans_known.Holds := by
  w_on; o_law; k_head; (case hw => w_witness2)
  k_fill
  refine L2.walk_of (l := PySem.Challenge.rw_graftsay_k11_plans_known) (n := 63) (k := 200) (x := "script") (CX := fun w => L2.CX PySem.Challenge.rw_graftsay_k11_plans_known.prog w) (sp := fun w => GS.spFv ⟨_, w⟩ 1 (Wk11.fs 200 27)) rfl (by decide) rfl ⟨rfl, by decide, by decide⟩ (fun w h Y => PySem.W.kIn_of Y) ?F (fun _ _ a ns hl _ hS => (Wk11.law_true ns hl).elim fun outs e => GS.law_sp hS e) (fun _ _ _ _ _ h => by obtain ⟨_, _, _, _, _, _, _, _, _, _, _, _, z⟩ := h; exact z)
  case F =>
    intro w mg fa h KX G hmg
    refine' (Wk11.top_mk KX G hmg ?a0 ?l0 ?c0 ?k0 ?a1 ?l1 ?c1 ?k1 ?a2 ?l2 ?c2 ?k2 ?a3 ?l3 ?c3 ?k3 ?a4 ?l4 ?c4 ?k4 ?a5 ?l5 ?c5 ?k5 ?a6 ?l6 ?c6 ?k6 ?a7 ?l7 ?c7 ?k7 ?a8 ?l8 ?c8 ?k8 ?a9 ?l9 ?c9 ?k9 ?a10 ?l10 ?c10 ?k10 ?a11 ?l11 ?c11 ?k11 ?a12 ?l12 ?c12 ?k12 ?a13 ?l13 ?c13 ?k13 ?a14 ?l14 ?c14 ?k14 ?a15 ?l15 ?c15 ?k15 ?a16 ?l16 ?c16 ?k16 ?a17 ?l17 ?c17 ?k17 ?a18 ?l18 ?c18 ?k18 ?a19 ?l19 ?c19 ?k19 ?a20 ?l20 ?c20 ?k20 ?a21 ?l21 ?c21 ?k21 ?a22 ?l22 ?c22 ?k22 ?a23 ?l23 ?c23 ?k23 ?a24 ?l24 ?c24 ?k24 ?a25 ?l25 ?c25 ?k25 ?a26 ?l26 ?c26 ?k26 ?a27 ?l27 ?c27 ?k27 ?z_enumerate ?z_len ?z_isinstance ?z_int ?z_bool ?z_tuple ?z_str ?z_dict ?z_range ?z_max ?z_list ?z_reversed ?z_sorted ?z_set ?xa_GraftError ?xa_NoPlace ?gi ?xi_NoPlace ?xl_NoPlace ?xc_NoPlace ?xk_NoPlace ?xe_NoPlace ?xr_NoPlace ?xo_NoPlace ?xv_NoPlace).elim fun T R => ?fin
    (case a0 => k_is)
    (case l0 => k_is)
    (case c0 => k_is)
    (case k0 => k_is)
    (case a1 => k_is)
    (case l1 => k_is)
    (case c1 => k_is)
    (case k1 => k_is)
    (case a2 => k_is)
    (case l2 => k_is)
    (case c2 => k_is)
    (case k2 => k_is)
    (case a3 => k_is)
    (case l3 => k_is)
    (case c3 => k_is)
    (case k3 => k_is)
    (case a4 => k_is)
    (case l4 => k_is)
    (case c4 => k_is)
    (case k4 => k_is)
    (case a5 => k_is)
    (case l5 => k_is)
    (case c5 => k_is)
    (case k5 => k_is)
    (case a6 => k_is)
    (case l6 => k_is)
    (case c6 => k_is)
    (case k6 => k_is)
    (case a7 => k_is)
    (case l7 => k_is)
    (case c7 => k_is)
    (case k7 => k_is)
    (case a8 => k_is)
    (case l8 => k_is)
    (case c8 => k_is)
    (case k8 => k_is)
    (case a9 => k_is)
    (case l9 => k_is)
    (case c9 => k_is)
    (case k9 => k_is)
    (case a10 => k_is)
    (case l10 => k_is)
    (case c10 => k_is)
    (case k10 => k_is)
    (case a11 => k_is)
    (case l11 => k_is)
    (case c11 => k_is)
    (case k11 => k_is)
    (case a12 => k_is)
    (case l12 => k_is)
    (case c12 => k_is)
    (case k12 => k_is)
    (case a13 => k_is)
    (case l13 => k_is)
    (case c13 => k_is)
    (case k13 => k_is)
    (case a14 => k_is)
    (case l14 => k_is)
    (case c14 => k_is)
    (case k14 => k_is)
    (case a15 => k_is)
    (case l15 => k_is)
    (case c15 => k_is)
    (case k15 => k_is)
    (case a16 => k_is)
    (case l16 => k_is)
    (case c16 => k_is)
    (case k16 => k_is)
    (case a17 => k_is)
    (case l17 => k_is)
    (case c17 => k_is)
    (case k17 => k_is)
    (case a18 => k_is)
    (case l18 => k_is)
    (case c18 => k_is)
    (case k18 => k_is)
    (case a19 => k_is)
    (case l19 => k_is)
    (case c19 => k_is)
    (case k19 => k_is)
    (case a20 => k_is)
    (case l20 => k_is)
    (case c20 => k_is)
    (case k20 => k_is)
    (case a21 => k_is)
    (case l21 => k_is)
    (case c21 => k_is)
    (case k21 => k_is)
    (case a22 => k_is)
    (case l22 => k_is)
    (case c22 => k_is)
    (case k22 => k_is)
    (case a23 => k_is)
    (case l23 => k_is)
    (case c23 => k_is)
    (case k23 => k_is)
    (case a24 => k_is)
    (case l24 => k_is)
    (case c24 => k_is)
    (case k24 => k_is)
    (case a25 => k_is)
    (case l25 => k_is)
    (case c25 => k_is)
    (case k25 => k_is)
    (case a26 => k_is)
    (case l26 => k_is)
    (case c26 => k_is)
    (case k26 => k_is)
    (case a27 => k_is)
    (case l27 => k_is)
    (case c27 => k_is)
    (case k27 => k_is)
    (case z_enumerate => k_is)
    (case z_len => k_is)
    (case z_isinstance => k_is)
    (case z_int => k_is)
    (case z_bool => k_is)
    (case z_tuple => k_is)
    (case z_str => k_is)
    (case z_dict => k_is)
    (case z_range => k_is)
    (case z_max => k_is)
    (case z_list => k_is)
    (case z_reversed => k_is)
    (case z_sorted => k_is)
    (case z_set => k_is)
    (case xa_GraftError => k_is)
    (case xa_NoPlace => k_is)
    (case gi => kernel_rfl)
    (case xi_NoPlace => k_is)
    (case xl_NoPlace => k_is)
    (case xc_NoPlace => k_is)
    (case xk_NoPlace => k_is)
    (case xe_NoPlace => k_is)
    (case xr_NoPlace => kernel_rfl)
    (case xo_NoPlace => kernel_rfl)
    (case xv_NoPlace => kernel_rfl)
    case fin =>
      obtain ⟨e, hb⟩ := R
      subst e
      exact ⟨T.d27, hb, fun base _ _ => (Wk11.lv (P := PySem.Challenge.rw_graftsay_k11_plans_known.prog) (K := ⟨_, w⟩) (base := base) T 200).h27⟩
