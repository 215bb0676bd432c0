import PyProof.Rows.All
import Wide.All
import OpenK.AllK
import Wide.FinOn
import OpenK.AllK
import HandS.ForMost
import HandS.TupAny
import HandS.TupMul
import HandS.Conv
import HandS.Walk
import KE.KDictKeyed
import KE.KDictWalk
import HandS.Exc
import HandS.ExcOwn
import HandS.WordsExc
import HandS.Deep
import HandS.IsInst
import HandS.Flow
import HandS.Style
import HandS.ExcInit
import HandS.ExcField
import HandS.ExcValue
import KE.KExcIs
import HandS.NoneIn
import KE.GoesMore
import HandS.More
import HandS.SetKeys
import HandS.Strs
import HandS.TryOnly
import HandS.RaiseMore
import HandS.SortOrd
import HandS.TupLe
import HandS.NamedTupSort
import HandS.SortRule
import KE.KDictPairs
import HandS.Rev
import HandS.SortInts
import KE.KDictZip
import PySem.Challenge.RW_graftsay_k20_askers_own
set_option Elab.async false
set_option linter.all false
set_option maxRecDepth 100000
set_option maxHeartbeats 4000000
namespace L2
open PySem PySem.W PySem.Calls PySem.Spec PyProof.Rows
/-- a tuple whose object has no dict -/
def XT (H : Hp) (a : Addr) (xs : List V) : Prop := ∃ o : Obj, H a = some (.frz o (.tup xs)) ∧ o.dict = none
theorem XT.sq {K : PySem.W.Frag} {H : Hp} {a : Addr} {xs : List V} (h : XT H a xs) : SqT K H a xs := by
  obtain ⟨o, e, _⟩ := h
  exact .inl (.inr ⟨o, e⟩)
theorem XT.new {H : Hp} {a : Addr} {xs : List V} {o : Obj} (h : o.dict = none) : XT (upd H a (.frz o (.tup xs))) a xs := ⟨o, upd_same, h⟩
section
variable {X : Cx} {es : List Expr} {t : TA} {pos : Pos} {pins : List (Addr × Obj)} {s : Shared} {σ : St} {H : Hp}
/-- a new tuple laid, told exactly -/
theorem laidX {ys : List V} {us : List Value} {h1 : Heap} {tk : Nat} (J : Inv X pins σ H { s with heap := h1 }) (rv : Vals ys us) (hz : ys.length ≤ sizeLine) :
    Inv X pins σ (upd H h1.objs.size (.frz { cls := .type "tuple", data := .seq us.toArray } (.tup ys))) { s with heap := h1.push { cls := .type "tuple", data := .seq us.toArray }, toks := tk } :=
  J.laid (t' := tk) (fun _ _ z => Heap.get?_push_of_some _ z) (Nat.le_refl _) ⟨Heap.get?_push_size _ rfl, hz, us, rv, IsTup.new _ _⟩
def tTupX (t : TA) : TE := fun σ H Q => t σ H fun ys H1 => ys.length ≤ sizeLine ∧ ∀ p o, H1 p = none → o.dict = none → Q (.ref p) (upd H1 p (.frz o (.tup ys)))
theorem pe_tupX {x1} (h : PA X es t) : PE X (.Tuple es x1 pos) (tTupX t) := ⟨fun pins s σ H Q I hq => by
  refine wpAny_Tuple_spliced (thn (h.run pos pins s σ H _ I hq) ?_)
  rintro us s1 ⟨ys, H1, J, rv, z, q⟩
  refine ⟨by rw [← rv.length]; exact z, .ref s1.heap.objs.size, _, laidX (s := s1) (tk := s1.toks) J rv z, rfl, q _ _ (J.hok.fresh (Nat.le_refl _)) rfl⟩⟩
/-- a slice of a tuple -/
def rSlX (K : PySem.W.Frag) : V → Option Int → Option Int → Hp → VK → Prop := fun x lo hi H Q => ∃ a ys, x = .ref a ∧ SqT K H a ys ∧
  ((HT.sIx ys.length 0 lo = 0 ∧ HT.sIx ys.length ys.length hi = ys.length) → Q (.ref a) H) ∧ (¬ (HT.sIx ys.length 0 lo = 0 ∧ HT.sIx ys.length ys.length hi = ys.length) → ∀ p o, H p = none → o.dict = none → Q (.ref p) (upd H p (.frz o (.tup (cutV ys lo hi)))))
theorem sl_tupX : SlR X (rSlX X.K) := by
  rintro pins s σ H x v vl vu lo hi sl Q J rx hs pl pu ⟨a, ys, rfl, hy, q1, q2⟩
  by_cases w : HT.sIx ys.length 0 lo = 0 ∧ HT.sIx ys.length ys.length hi = ys.length
  · exact sl_tupA pins s σ H _ v vl vu lo hi sl Q J rx hs pl pu ⟨a, ys, rfl, hy, q1, fun n => absurd w n⟩
  · cases rx
    obtain ⟨us, rv, ht, hz⟩ := J.tuple hy
    have hl : us.toArray.size = ys.length := by rw [List.size_toArray, rv.length]
    refine ⟨"tuple", _, PyProof.Rows.slot_tuple_getitem.lookup, ht.typeIs, HT.getItem_tuple_cut ht hs pl pu (by rw [hl]; exact w) ?_ (by rw [hl]; exact hz)⟩
    rw [hl]
    refine ⟨.ref s.heap.objs.size, _, laidX (ys := cutV ys lo hi) (tk := s.toks) J ?_ (Nat.le_trans (cutV_length ys lo hi) hz), rfl, q2 w _ _ (J.hok.fresh (Nat.le_refl _)) rfl⟩
    exact (rv.drop _).take _
/-- tuples joined -/
def rCatX (K : PySem.W.Frag) : R2 := fun x y H Q => ∃ a b xs ys, x = .ref a ∧ y = .ref b ∧ SqT K H a xs ∧ SqT K H b ys ∧ xs.length + ys.length ≤ sizeLine ∧
  ((xs = [] → Q (.ref b) H) ∧ (xs ≠ [] → ys = [] → Q (.ref a) H) ∧ (xs ≠ [] → ys ≠ [] → ∀ p o, H p = none → o.dict = none → Q (.ref p) (upd H p (.frz o (.tup (xs ++ ys))))))
theorem op_catX : OpR X (binaryOp .Add) (rCatX X.K) := by
  rintro pins s σ H x y v u Q J rx ry ⟨a, b, xs, ys, rfl, rfl, ha, hb, hz, q0, q1, q2⟩
  by_cases hx : xs = []
  · exact op_catA pins s σ H _ _ v u Q J rx ry ⟨a, b, xs, ys, rfl, rfl, ha, hb, hz, q0, q1, fun n => absurd hx n⟩
  · cases rx
    cases ry
    obtain ⟨us, r1, p1, _⟩ := J.tuple ha
    obtain ⟨ws, r2, p2, _⟩ := J.tuple hb
    refine HT.cat_tup p1 p2 (fun n => hx (r1.nil_iff.mp n)) (fun n => ⟨.ref a, H, J, rfl, q1 hx (r2.nil_iff.mp n)⟩) (fun n => ?_) (by rw [← r1.length, ← r2.length]; exact hz)
    exact ⟨.ref s.heap.objs.size, _, laidX (ys := xs ++ ys) (tk := s.toks) J (r1.append r2) (by rw [List.length_append]; exact hz), rfl, q2 hx (fun e => n (r2.nil_iff.mpr e)) _ _ (J.hok.fresh (Nat.le_refl _)) rfl⟩
/-- tuple(..) of a list or a tuple -/
def rTupX (K : PySem.W.Frag) : List V → Hp → VK → Prop := fun xs H Q => ∃ p ys, xs = [.ref p] ∧ ((SqL K H p ys ∧ ∀ l o, H l = none → o.dict = none → Q (.ref l) (upd H l (.frz o (.tup ys)))) ∨ (SqT K H p ys ∧ Q (.ref p) H))
theorem call_tupX : CallR X (.type "tuple") (rTupX X.K) := by
  rintro pins s σ H xs us Q J r ⟨p, ys, rfl, h⟩
  rcases h with ⟨hq, q⟩ | ⟨hq, q⟩
  · obtain ⟨u, rfl, rx⟩ := vals1 r
    cases rx
    obtain ⟨ws, rv, pl, hz⟩ := J.list hq
    have hl := rv.length
    refine call_tuple_list pl.isList (fun h1 kp => ?_) (by simp only [List.size_toArray] <;> omega)
    have J1 : Inv X pins σ H { s with heap := h1 } := J.kept (t' := s.toks) kp
    exact ⟨.ref h1.objs.size, _, laidX (tk := s.toks) J1 rv hz, rfl, q _ _ (J1.hok.fresh (Nat.le_refl _)) rfl⟩
  · exact call_tuple_of pins s σ H _ us Q J r ⟨p, ys, rfl, .inr ⟨hq, q⟩⟩
end
mutual
/-- a value that is such a key, by what is tracked -/
inductive NK (H : Hp) : V → NestedKey → Prop
  | non : NK H .non .none
  | bl (b : Bool) : NK H (.bl b) (.num (if b then 1 else 0))
  | int (i : Int) : NK H (.int i) (.num i)
  | str (x : Str) : NK H (.str x) (.text x)
  | tup {a : Addr} {xs : List V} {ks : List NestedKey} : XT H a xs → NKs H xs ks → NK H (.ref a) (.tup ks)
inductive NKs (H : Hp) : List V → List NestedKey → Prop
  | nil : NKs H [] []
  | cons {x : V} {xs : List V} {k : NestedKey} {ks : List NestedKey} : NK H x k → NKs H xs ks → NKs H (x :: xs) (k :: ks)
end
section
variable {P : Program} {w : World} {H : Hp} {h : Heap}
mutual
theorem NK.is (ok : HOk P w H h) : ∀ {v : V} {k : NestedKey} {u : Value}, NK H v k → RelV v u → NestedIs h k u
  | _, _, u, .non, r => by cases (show u = .none from r); exact .none
  | _, _, u, .bl b, r => by cases (show u = .bool b from r); exact .bool rfl
  | _, _, u, .int i, r => by obtain ⟨t, e⟩ := (show ∃ t, u = .int i t from r); subst e; exact .int _ _
  | _, _, u, .str i, r => by obtain ⟨t, e⟩ := (show ∃ t, u = .str i t from r); subst e; exact .text _ _
  | _, _, u, .tup (a := a) q qs, r => by
    cases (show u = .ref a from r)
    obtain ⟨o, e, _⟩ := q
    obtain ⟨e1, _, its, rv, o', e2, c, n, d⟩ := ok _ _ e
    exact .tup e2 c d (by simpa using NKs.is ok qs rv)
theorem NKs.is (ok : HOk P w H h) : ∀ {vs : List V} {ks : List NestedKey} {us : List Value}, NKs H vs ks → Vals vs us → NestedAll h ks us
  | _, _, _, .nil, .nil => .nil
  | _, _, _, .cons q qs, .cons r rs => .cons (NK.is ok q r) (NKs.is ok qs rs)
end
end
/-- a dict, by its object: each key, its value, what stands there -/
def dX (w : World) (a : Addr) (ep : Nat) (xs : List (NestedKey × Value × Value)) : HO := .ext fun h => ∃ o es, h.get? a = some o ∧ o.ExactDict ∧ o.data = .dict es ep ∧ es.toList = xs.map (fun x => (⟨x.1.hash w, x.2.1, x.2.2⟩ : DictEntry)) ∧
  (xs.map (·.1)).Nodup ∧ xs.length ≤ sizeLine ∧ (a == sysModules) = false
/-- keys that are tuples -/
def refK (y : NestedKey × Addr × Value) : NestedKey × Value × Value := (y.1, .ref y.2.1, y.2.2)
def KOk (H : Hp) (ys : List (NestedKey × Addr × Value)) : Prop := ∀ y ∈ ys, NK H (.ref y.2.1) y.1 ∧ y.1.depth ≤ 8
/-- keys that are ints and texts -/
def nkK : Key → NestedKey
  | .inl i => .num i
  | .inr x => .text x
theorem nkK_inj {a b : Key} (h : nkK a = nkK b) : a = b := by cases a <;> cases b <;> simp [nkK] at h <;> rw [h]
def valK (y : Key × Value × Value) : NestedKey × Value × Value := (nkK y.1, y.2.1, y.2.2)
def SOk (ys : List (Key × Value × Value)) : Prop := ∀ y ∈ ys, keyIs y.1 y.2.1 = true
def pairK (ys : List (Key × Value × Value)) : List (Key × Value) := ys.map fun y => (y.1, y.2.2)
section
variable {P : Program} {w : World} {H : Hp} {h : Heap} {a : Addr} {ep : Nat}
theorem dX_raw {xs : List (NestedKey × Value × Value)} (ok : HOk P w H h) (e : H a = some (dX w a ep xs)) : ∃ es, h.DictRaw a es ep ∧ es.toList = xs.map (fun x => (⟨x.1.hash w, x.2.1, x.2.2⟩ : DictEntry)) ∧ xs.length ≤ sizeLine ∧ (a == sysModules) = false := by
  obtain ⟨⟨o, es, h1, h2, h3, h4, h5, h6, h7⟩, _⟩ := ok _ _ e
  exact ⟨es, ⟨o, h1, h2, h3⟩, h4, h6, h7⟩
theorem dX_mk {xs : List (NestedKey × Value × Value)} {o : Obj} {es : Array DictEntry} (h1 : h.get? a = some o) (h2 : o.ExactDict) (h3 : o.data = .dict es ep) (h4 : es.toList = xs.map (fun x => (⟨x.1.hash w, x.2.1, x.2.2⟩ : DictEntry)))
    (h5 : (xs.map (·.1)).Nodup) (h6 : xs.length ≤ sizeLine) (h7 : (a == sysModules) = false) : ObjOk P w H h a (dX w a ep xs) :=
  ⟨⟨o, es, h1, h2, h3, h4, h5, h6, h7⟩, ⟨o, h1⟩, fun g1 g2 ⟨o', es', q1, q2⟩ k => ⟨o', es', k _ q1, q2⟩⟩
theorem dX_ofT {ys : List (NestedKey × Addr × Value)} (ok : HOk P w H h) (e : H a = some (dX w a ep (ys.map refK))) (hk : KOk H ys) : h.DictOfH (nestedKind P w) a ys ∧ ys.length ≤ sizeLine ∧ (a == sysModules) = false := by
  obtain ⟨⟨o, es, h1, h2, h3, h4, h5, h6, h7⟩, _⟩ := ok _ _ e
  rw [List.map_map] at h4 h5
  rw [List.length_map] at h6
  exact ⟨⟨o, es, ep, h1, h2, h3, h4, fun x m => ⟨(hk x m).1.is ok rfl, (hk x m).2⟩, h5⟩, h6, h7⟩
theorem dX_okT {ys : List (NestedKey × Addr × Value)} (hd : h.DictOfH (nestedKind P w) a ys) (hz : ys.length ≤ sizeLine) (hs : (a == sysModules) = false) : ∃ ep, ∀ H, ObjOk P w H h a (dX w a ep (ys.map refK)) := by
  obtain ⟨o, es, ep, h1, h2, h3, h4, _, h5⟩ := hd
  exact ⟨ep, fun H => dX_mk h1 h2 h3 (by rw [List.map_map]; exact h4) (by rw [List.map_map]; exact h5) (by rw [List.length_map]; exact hz) hs⟩
theorem pairs_valK (P : Program) (w : World) : ∀ {ys : List (Key × Value × Value)}, SOk ys → Pairs (mixKind P w) (ys.map fun y => (⟨(nkK y.1).hash w, y.2.1, y.2.2⟩ : DictEntry)) (pairK ys)
  | [], _ => .nil
  | y :: ys, h => .cons (h y (by simp)) rfl (pairs_valK P w fun z m => h z (by simp [m]))
theorem hash_nkK (w : World) (k : Key) : (nkK k).hash w = keyH w k := by cases k <;> rfl
theorem dX_ofS {ys : List (Key × Value × Value)} (ok : HOk P w H h) (e : H a = some (dX w a ep (ys.map valK))) (hk : SOk ys) : h.DictOf (mixKind P w) a (pairK ys) ∧ (pairK ys).length ≤ sizeLine ∧ (a == sysModules) = false := by
  obtain ⟨⟨o, es, h1, h2, h3, h4, h5, h6, h7⟩, _⟩ := ok _ _ e
  rw [List.map_map] at h4 h5
  rw [List.length_map] at h6
  have h4 : es.toList = ys.map fun y => (⟨(nkK y.1).hash w, y.2.1, y.2.2⟩ : DictEntry) := h4
  refine ⟨⟨o, es, ep, h1, h2, h3, fun x m => ?_, by rw [h4]; exact pairs_valK P w hk, ?_⟩, by unfold pairK; rw [List.length_map]; exact h6, h7⟩
  · have m' : x ∈ es.toList := by simpa using m
    rw [h4] at m'
    obtain ⟨y, my, rfl⟩ := List.mem_map.mp m'
    exact ⟨y.1, hk y my, hash_nkK w y.1⟩
  · have h5 : (ys.map fun y => nkK y.1).Nodup := h5
    unfold pairK
    rw [List.map_map]
    have h6 : ((ys.map fun y => y.1).map nkK).Nodup := by rw [List.map_map]; exact h5
    exact (List.pairwise_map.mp h6).imp fun n e => n (by rw [e])
theorem pairs_back : ∀ {es : List DictEntry} {vs : List (Key × Value)}, Pairs (mixKind P w) es vs → (∀ e ∈ es, ∃ k, keyIs k e.key = true ∧ e.hash = keyH w k) → ∃ ys, SOk ys ∧ pairK ys = vs ∧ es = ys.map fun y => (⟨(nkK y.1).hash w, y.2.1, y.2.2⟩ : DictEntry)
  | _, _, .nil, _ => ⟨[], fun _ m => (by cases m), rfl, rfl⟩
  | _, _, .cons (e := e) (kv := kv) h1 h2 t, hk => by
    obtain ⟨ys, q1, q2, q3⟩ := pairs_back t fun e m => hk e (by simp [m])
    obtain ⟨k, r1, r2⟩ := hk e (by simp)
    have ek : k = kv.1 := (mixKind P w).inj _ _ _ r1 h1
    subst ek
    refine ⟨(kv.1, e.key, kv.2) :: ys, fun y m => ?_, by simp [pairK] at q2 ⊢; exact q2, ?_⟩
    · cases m with
      | head => exact h1
      | tail _ m => exact q1 y m
    · rw [List.map_cons, ← q3]
      congr 1
      cases e
      simp only at h2 r2
      simp [hash_nkK, r2, h2]
theorem dX_okS {vs : List (Key × Value)} (hd : h.DictOf (mixKind P w) a vs) (hz : vs.length ≤ sizeLine) (hs : (a == sysModules) = false) : ∃ ep ys, SOk ys ∧ pairK ys = vs ∧ ∀ H, ObjOk P w H h a (dX w a ep (ys.map valK)) := by
  obtain ⟨o, es, ep, h1, h2, h3, hk, hp, hn⟩ := hd
  obtain ⟨ys, q1, q2, q3⟩ := pairs_back hp fun e m => hk e (by simpa using m)
  refine ⟨ep, ys, q1, q2, fun H => dX_mk h1 h2 h3 (by rw [List.map_map]; exact q3) ?_ ?_ hs⟩
  · rw [List.map_map]
    have e : ys.map ((fun x => x.1) ∘ valK) = (vs.map (·.1)).map nkK := by rw [← q2]; unfold pairK; rw [List.map_map, List.map_map]; rfl
    rw [e]
    exact List.Pairwise.map nkK (fun a b n e => n (nkK_inj e)) hn
  · rw [List.length_map]
    have : (pairK ys).length = ys.length := by simp [pairK]
    rw [← this, q2]
    exact hz
end
def look (xs : List (NestedKey × Value × Value)) (k : NestedKey) : Option Value := (xs.find? fun x => decide (x.1 = k)).map (·.2.2)
theorem look_T (ys : List (NestedKey × Addr × Value)) (k : NestedKey) : look (ys.map refK) k = valueAt (pairsH ys) k := by
  induction ys with
  | nil => rfl
  | cons y ys ih =>
    by_cases e : y.1 = k
    · simp [look, refK, pairsH, valueAt, e]
    · simpa [look, refK, pairsH, valueAt, e] using ih
theorem look_S (ys : List (Key × Value × Value)) (k : Key) : look (ys.map valK) (nkK k) = valueAt (pairK ys) k := by
  induction ys with
  | nil => rfl
  | cons y ys ih =>
    by_cases e : y.1 = k
    · simp [look, valK, pairK, valueAt, e]
    · have n : ¬ nkK y.1 = nkK k := fun q => e (nkK_inj q)
      simpa [look, valK, pairK, valueAt, e, n] using ih
/-- a key that may be asked for -/
def KeyAt (H : Hp) (v : V) (b : Addr) (k : NestedKey) : Prop := v = .ref b ∧ NK H (.ref b) k ∧ k.depth ≤ 8
/-- y asked of the dict at a -/
def LookX (w : World) (H : Hp) (a : Addr) (y : V) (r : Option Value) : Prop := ∃ ep xs k, H a = some (dX w a ep xs) ∧ r = look xs k ∧ ((∃ b ys, xs = ys.map refK ∧ KOk H ys ∧ KeyAt H y b k) ∨ (∃ ys kk, xs = ys.map valK ∧ SOk ys ∧ y = kV kk ∧ k = nkK kk))
section
variable {X : Cx}
theorem KeyAt.is {P : Program} {w : World} {H : Hp} {h : Heap} {v : V} {b : Addr} {k : NestedKey} (ok : HOk P w H h) (q : KeyAt H v b k) : (nestedKind P w).is h k b := ⟨q.2.1.is ok rfl, q.2.2⟩
theorem roomX (hu : X.A.units + 65 < cLine) : (nestedKind X.prog X.w).room X.A.in1 := by
  show X.A.units + 1 + 8 < cLine
  omega
/-- the two sorts of asking -/
theorem LookX.cases {pins : List (Addr × Obj)} {σ : St} {H : Hp} {s : Shared} {a : Addr} {y : V} {u : Value} {r : Option Value} (g : LookX X.w H a y r) (J : Inv X pins σ H s) (ry : RelV y u) :
    (a == sysModules) = false ∧ ((∃ b ys k, u = .ref b ∧ s.heap.DictOfH (nestedKind X.prog X.w) a ys ∧ (nestedKind X.prog X.w).is s.heap k b ∧ r = valueAt (pairsH ys) k) ∨ ∃ vs kk, s.heap.DictOf (mixKind X.prog X.w) a vs ∧ (mixKind X.prog X.w).is kk u = true ∧ r = valueAt vs kk) := by
  obtain ⟨ep, xs, k, e, er, g⟩ := g
  rcases g with ⟨b, ys, rfl, hk, hy⟩ | ⟨ys, kk, rfl, hk, rfl, rfl⟩
  · obtain ⟨hm, hz, hs⟩ := dX_ofT J.hok e hk
    refine ⟨hs, .inl ⟨b, ys, k, ?_, hm, hy.is J.hok, by rw [er, look_T]⟩⟩
    obtain ⟨rfl, _⟩ := hy
    exact ry
  · obtain ⟨hm, hz, hs⟩ := dX_ofS J.hok e hk
    exact ⟨hs, .inr ⟨_, kk, hm, kV_is ry, by rw [er, look_S]⟩⟩
def rXG (w : World) : R2 := fun x y H Q => ∃ a u v, x = .ref a ∧ LookX w H a y (some u) ∧ RelV v u ∧ Q v H
theorem ix_dX (hu : X.A.units + 65 < cLine) : IxR X (rXG X.w) := by
  rintro value slice pins s σ H x y v u Q I rx ry ⟨a, uu, vv, rfl, g, rv, q⟩ hs
  obtain rfl : v = Value.ref a := rx
  obtain ⟨hsm, g⟩ := g.cases I ry
  have hT : s.TypeIs (.ref a) "dict" := by
    rcases g with ⟨b, ys, k, _, hm, _⟩ | ⟨vs, kk, hm, _⟩
    · exact hm.typeIs
    · exact hm.typeIs
  unfold subscriptTail
  refine wpAny_bind ?_
  rw [getitemInPython_of_ne hT.not_modules]
  refine wpAny_bind (wpAny_specialOf hT PySem.F.slot_dict_getitem.lookup ?_)
  have fin : wpAny (model X.prog X.w) X.A (subscripted slice false (Value.ref a) u) (fun r s₃ => wpAny (model X.prog X.w) X.A (letTemporaryGo value (Value.ref a) r >>= fun _ => pure r) (EP X pins σ Q) X.xe s₃) X.xe s := by
    rw [hs]
    refine wpAny_operating (wpAny_mono (Q := EP X pins σ Q) (E := X.xe) ?_ (fun r s₃ h₃ => wpAny_bind (wpAny_letTemporaryGo (wpAny_pure h₃))) fun _ _ x => x)
    rcases g with ⟨b, ys, k, rfl, hm, hk, e⟩ | ⟨vs, kk, hm, hk, e⟩
    · exact getItem_keyed (roomX hu) hk ⟨ys, hm, rfl⟩ e.symm ⟨vv, H, I.tok _, rv, q⟩
    · exact wpAny_getItem_of hk hm.mapOf e.symm ⟨vv, H, I.tok _, rv, q⟩
  exact wpAny_pure (wpAny_bind fin)
def rXin (neg : Bool) (w : World) : R2 := fun y x H Q => ∃ a r, x = .ref a ∧ LookX w H a y r ∧ Q (.bl (neg ^^ r.isSome)) H
theorem op_Xin (hu : X.A.units + 65 < cLine) : OpR X (compareOp .In) (rXin false X.w) := by
  rintro pins s σ H y x v u Q I ry rx ⟨a, r, rfl, g, q⟩
  obtain rfl : u = Value.ref a := rx
  obtain ⟨hsm, g⟩ := g.cases I ry
  rw [Bool.false_xor] at q
  rcases g with ⟨b, ys, k, rfl, hm, hk, rfl⟩ | ⟨vs, kk, hm, hk, rfl⟩
  · exact in_keyed (roomX hu) hk hsm ⟨ys, hm, rfl⟩ ⟨.bl _, H, I.tok _, rfl, q⟩
  · exact wpAny_in_of hk hsm hm.mapOf ⟨.bl _, H, I.tok _, rfl, q⟩
theorem op_Xni (hu : X.A.units + 65 < cLine) : OpR X (compareOp .NotIn) (rXin true X.w) := by
  rintro pins s σ H y x v u Q I ry rx ⟨a, r, rfl, g, q⟩
  obtain rfl : u = Value.ref a := rx
  obtain ⟨hsm, g⟩ := g.cases I ry
  rw [Bool.true_xor] at q
  rcases g with ⟨b, ys, k, rfl, hm, hk, rfl⟩ | ⟨vs, kk, hm, hk, rfl⟩
  · exact notIn_keyed (roomX hu) hk hsm ⟨ys, hm, rfl⟩ ⟨.bl _, H, I.tok _, rfl, q⟩
  · exact wpAny_notIn_of hk hsm hm.mapOf ⟨.bl _, H, I.tok _, rfl, q⟩
/-- d[k] = v -/
def rXS (w : World) : TSet := fun o i v H Q => ∃ a ep xs, o = .ref a ∧ H a = some (dX w a ep xs) ∧ xs.length < sizeLine ∧ ((∃ b ys k, xs = ys.map refK ∧ KOk H ys ∧ KeyAt H i b k ∧ ∀ ep u, RelV v u → Q (upd H a (dX w a ep ((storedH ys k b u).map refK)))) ∨
  (∃ ys k, xs = ys.map valK ∧ SOk ys ∧ i = kV k ∧ ∀ ep u zs, RelV v u → SOk zs → pairK zs = stored (pairK ys) k u → Q (upd H a (dX w a ep (zs.map valK)))))
theorem storedH_len (xs : List (NestedKey × Addr × Value)) (k : NestedKey) (b : Addr) (u : Value) : (storedH xs k b u).length ≤ xs.length + 1 := by
  unfold storedH
  split <;> simp
theorem stored_len (xs : List (Key × Value)) (k : Key) (u : Value) : (stored xs k u).length ≤ xs.length + 1 := by
  unfold stored
  split <;> simp
theorem set_dX (hu : X.A.units + 65 < cLine) : PSet X (rXS X.w) := by
  rintro pins s σ H o i v ov iv u Q I ro ri rv ⟨a, ep, xs, rfl, e, hz, h⟩
  obtain rfl : ov = Value.ref a := ro
  have mu : Mut (H a) := by rw [e]; exact True.intro
  rcases h with ⟨b, ys, k, rfl, hk, hi, q⟩ | ⟨ys, k, rfl, hk, rfl, q⟩
  · obtain rfl : iv = Value.ref b := by obtain ⟨rfl, _⟩ := hi; exact ri
    obtain ⟨hm, _, hsm⟩ := dX_ofT I.hok e hk
    rw [List.length_map] at hz
    refine wpAny_setItem_heap (hsz := Nat.le_of_lt hz) (roomX hu) (hi.is I.hok) hm fun h' hm' hs => ?_
    obtain ⟨ep, ok⟩ := dX_okT hm' (Nat.le_trans (storedH_len ys k b u) hz) hsm
    exact ⟨_, I.write (t' := s.toks + (nestedKind X.prog X.w).draws k) mu (.inl rfl) (fun c o nc e => (hs.2 c nc).trans e) (let ⟨o, _, _, e, _⟩ := hm'; ⟨o, e⟩) (ok _), q ep u rv⟩
  · obtain ⟨hm, hz2, hsm⟩ := dX_ofS I.hok e hk
    have lz : (pairK ys).length = ys.length := by simp [pairK]
    rw [List.length_map, ← lz] at hz
    refine wpAny_setItem_pairs (hsz := hz2) (kV_is ri) hm fun h' hm' hs => ?_
    obtain ⟨ep, zs, z1, z2, ok⟩ := dX_okS hm' (Nat.le_trans (stored_len _ _ _) hz) hsm
    exact ⟨_, I.write (t' := s.toks + 1) mu (.inl rfl) (fun c o nc e => (hs.2 c nc).trans e) (let ⟨o, _, _, e, _⟩ := hm'; ⟨o, e⟩) (ok _), q ep u zs rv z1 z2⟩
end
section
variable {X : Cx} {o e f : Expr} {apos cpos : Pos} {td ty tx : TE}
end
def tRe (w : World) (t : TE) : TE := fun σ H Q => t σ H fun v H1 => ∃ p kvs, v = .ref p ∧ H1 p = some (.dK kvs) ∧ ∀ ep ys, SOk ys → KV kvs (pairK ys) → Q v (upd H1 p (dX w p ep (ys.map valK)))
theorem pe_re {X : Cx} {e : Expr} {t : TE} (h : PE X e t) : PE X e (tRe X.w t) := ⟨fun pins s σ H Q J q => by
  refine thn (h.run pins s σ H _ J q) ?_
  rintro u s1 ⟨x, H1, J1, rx, p, kvs, rfl, e, q1⟩
  obtain ⟨hz, hs, vs, rel, hd⟩ := J1.hok _ _ e
  have hz2 : vs.length ≤ sizeLine := by rw [← rel.length]; exact hz
  obtain ⟨ep, ys, y1, y2, ok⟩ := dX_okS hd hz2 hs
  refine ⟨.ref p, _, J1.write (t' := s1.toks) (by rw [e]; exact True.intro) (.inl rfl) (fun c o _ z => z) (let ⟨o, _, _, z, _⟩ := hd; ⟨o, z⟩) (ok _), rx, q1 ep ys y1 (by rw [y2]; exact rel)⟩⟩
def Itx (w : World) (d : Addr) (ep : Nat) (xs : List (NestedKey × Value × Value)) (vs : List V) : It :=
  ⟨fun i H => H d = some (dX w d ep xs) ∧ i < vs.length, fun i H x H' => H' = H ∧ vs[i]? = some x, fun i H => H d = some (dX w d ep xs) ∧ vs.length ≤ i⟩
theorem turn_dX {P : Program} {w : World} {K : PySem.W.Frag} {tg : Expr} {d : Addr} {ep : Nat} {xs : List (NestedKey × Value × Value)} {vs : List V} (it : Addr) (rv : Vals vs (xs.map (·.2.1))) :
    Turn P w K tg (Itx w d ep xs vs) [it] it (fun i h => h.IsKeyIter it d i vs.length ep) where
  mem := List.mem_singleton.mpr rfl
  obj := fun i h st b hb => by
    obtain rfl := List.mem_singleton.mp hb
    obtain ⟨oi, e, c, dd⟩ := st
    exact ⟨oi, e, fun v z => by rw [dd] at z; cases z⟩
  keep := fun i h h' st k => st.at fun oi e => k it (List.mem_singleton.mpr rfl) oi e
  item := by
    rintro X rfl rfl rfl hc i pins s σ H E J hf st ⟨hd, hi⟩
    obtain ⟨f0, f1, f2, f3, f4, f5⟩ := hf it (List.mem_singleton.mpr rfl)
    obtain ⟨es, hm, he, _, _⟩ := dX_raw J.hok hd
    have ls : es.size = vs.length := by rw [← Array.length_toList, he, List.length_map, rv.length, List.length_map]
    obtain ⟨x, hx⟩ : ∃ x, vs[i]? = some x := ⟨vs[i], List.getElem?_eq_getElem hi⟩
    obtain ⟨u, hu, ru⟩ := rv.get hx
    rw [← ls] at st hi
    refine wpAny_pyNext_keys_item_raw st hm hi fun h' st' sb => ?_
    have ek : es[i].key = u := by
      rw [List.getElem?_map] at hu
      obtain ⟨y, hy, rfl⟩ := Option.map_eq_some_iff.mp hu
      have h1 : es.toList[i]? = some es[i] := by rw [Array.getElem?_toList, Array.getElem?_eq_getElem hi]
      rw [he, List.getElem?_map, hy] at h1
      exact (congrArg DictEntry.key (Option.some.inj h1)).symm
    have J1 : Inv X pins σ H { s with heap := h' } := J.turned (t' := s.toks) (fun b ob nb e => (sb.2 b nb).trans e) f0 f1 f3 f4 f5
    obtain ⟨oi, e, c, dd⟩ := id st'
    refine ⟨_, rfl, go_of (s := { s with heap := h' }) e c dd (by decide) ⟨x, H, J1, by rw [ek]; exact ru, ⟨rfl, hx⟩, ?_, fun b hb => (hf b hb).1⟩⟩
    show h'.IsKeyIter it d (i + 1) vs.length ep
    rw [← ls]
    exact st'
  done := by
    rintro X rfl rfl rfl hc i pins s σ H E J hf st ⟨hd, hi⟩
    obtain ⟨f0, f1, f2, f3, f4, f5⟩ := hf it (List.mem_singleton.mpr rfl)
    obtain ⟨es, hm, he, _, _⟩ := dX_raw J.hok hd
    have ls : es.size = vs.length := by rw [← Array.length_toList, he, List.length_map, rv.length, List.length_map]
    rw [← ls] at st hi
    exact wpAny_pyNext_keys_end_raw (J.ok.hd hc) st hm hi fun h' eb => ⟨rfl, J.turned (t' := s.toks) (fun b ob nb e => eb b ob nb e) f0 f1 f3 f4 f5⟩
  self := fun A i s Q E st h => wpAny_pyIter_keyiter st h
theorem walk_dX {w : World} {d : Addr} {ep : Nat} {xs : List (NestedKey × Value × Value)} {vs : List V} : Walk (Itx w d ep xs vs) vs.length (fun H => H d = some (dX w d ep xs)) (YAt vs) :=
  ⟨fun i _ hi q => ⟨q, hi⟩, fun _ q => ⟨q, Nat.le_refl _⟩, fun i H v H' _ q y => y⟩
end L2
namespace GS
open PySem L2
abbrev D := PyData
/-- the written part and the world -/
structure KW where
  fr : PySem.W.Frag
  w : World
instance : CoeOut KW PySem.W.Frag := ⟨KW.fr⟩
/-- how a slot holds its datum: shared (never changed any more), owned (the slot's own list or dict), lent by the caller -/
inductive Fl where | sh | ow | io
  deriving DecidableEq
structure Cel where
  d : D
  fl : Fl
abbrev Rho := List (Option Cel)
/-- what an expression gives: a shared datum, a new list or dict that nobody else holds, what stands in a slot -/
inductive Hd where | sh (d : D) | fr (d : D) | bw (i : Nat)
/-- an exception: its class's name, its fields -/
structure Xc where
  cls : Str
  fs : List (Str × D)
inductive RE where | stuck | ok (h : Hd) (ρ : Rho) | exc (x : Xc) (ρ : Rho)
inductive RS where | stuck | nx (ρ : Rho) | rt (h : Hd) (ρ : Rho) | bk (ρ : Rho) | ct (ρ : Rho) | exc (x : Xc) (ρ : Rho)
abbrev EF := Rho → RE
abbrev SF := Rho → RS
mutual
/-- a datum as a key -/
def nkD : D → Option NestedKey
  | .none => some .none
  | .bool b => some (.num (if b then 1 else 0))
  | .int i => some (.num i)
  | .str x => some (.text x)
  | .tuple ds => (nkL ds).map .tup
  | .list _ => none
  | .dict _ => none
def nkL : List D → Option (List NestedKey)
  | [] => some []
  | d :: ds => (nkD d).bind fun k => (nkL ds).map fun ks => k :: ks
end
/-- a tuple as a key -/
def tkD (ds : List D) : Option NestedKey := (nkL ds).bind fun ks => if (NestedKey.tup ks).depth ≤ 8 then some (.tup ks) else none
def tupB : D → Bool
  | .tuple _ => true
  | _ => false
/-- what may be a key -/
def keyD : D → Option NestedKey
  | .int i => some (.num i)
  | .str x => some (.text x)
  | .tuple ds => tkD ds
  | _ => none
def kD : Key → D
  | .inl i => .int i
  | .inr x => .str x
/-- the class of that name in the written part -/
def cvK (K : PySem.W.Frag) (c : Str) : Value := match K.find? (fun p => match p.2.data with | .cls cd => cd.name == c | _ => false) with
  | some p => .ref p.1
  | none => .none
/-- an exception object -/
def exV (a : Addr) (cls : Value) (d : Option Addr) : HO := .ext fun h => ∃ (oe : Obj) (vs : Array Value), h.get? a = some oe ∧ Zc cls d oe ∧ oe.data = .fields vs
/-- what the written part says of an own exception class -/
def xcB (K : PySem.W.Frag) (cls : Value) : Bool := match cls with
  | .ref D => (PySem.W.clsIn K D).isSome && (decide (PySem.W.findIn K (.ref D) "__getattribute__" = some (some (.builtin "BaseException.__getattribute__"))) && (decide (PySem.W.findIn K (.ref D) "__getattr__" = some none) && (decide (PySem.W.subIn K (.ref D) (.type "BaseException") = some true) &&
      (PySem.W.hasDictIn K D && (decide (PySem.W.findIn K (.ref D) "__class__" = some (some (.builtin "object.__class__"))) && (decide (PySem.W.specialIn K (.builtin "object.__class__") "__get__" = some (some (.builtin "getset_descriptor.__get__"))) &&
      (decide (PySem.W.takesIn K (.builtin "object.__class__") = some true) && (decide (PySem.W.mroIn K D (.type "object") = some true) && ["tuple", "str", "bool", "int", "list", "dict"].all fun T => decide (PySem.W.kitOne K (.ref D) (.type T) = some false)))))))))
  | _ => false
/-- an exception as a datum: its class's name, its fields' names, what they hold -/
abbrev xnD (c : Str) (ns : List Str) (ds : List D) : D := .dict [(.none, .tuple (.str c :: .tuple (ns.map PyData.str) :: ds))]
def xnB : List (D × D) → Bool
  | (.none, _) :: _ => true
  | _ => false
/-- an exception's dict -/
def XdB (B : Hp) (d : Option Addr) (fs : List (Str × V)) : Prop := (d = none ∧ fs = []) ∨ ∃ dd, d = some dd ∧ B dd = some (.xd fs)
mutual
inductive Rp (K : KW) (B : Hp) : V → D → Prop
  | non : Rp K B .non .none
  | bl (b : Bool) : Rp K B (.bl b) (.bool b)
  | int (i : Int) : Rp K B (.int i) (.int i)
  | str (x : Str) : Rp K B (.str x) (.str x)
  | lst {a : Addr} {xs : List V} {ds : List D} : SqL K B a xs → RpL K B xs ds → Rp K B (.ref a) (.list ds)
  | tup {a : Addr} {xs : List V} {ds : List D} : XT B a xs → RpL K B xs ds → Rp K B (.ref a) (.tuple ds)
  | dct {a : Addr} {ep : Nat} {b : Bool} {xs : List (NestedKey × Value × Value)} {ps : List (D × D)} : B a = some (dX K.w a ep xs) → RpX K B b xs ps → Rp K B (.ref a) (.dict ps)
  | exn {a : Addr} {c : Str} {d : Option Addr} {fs : List (Str × V)} {ds : List D} : B a = some (exV a (cvK K c) d) → xcB K (cvK K c) = true → XdB B d fs → RpL K B (fs.map (·.2)) ds → Rp K B (.ref a) (xnD c (fs.map (·.1)) ds)
inductive RpL (K : KW) (B : Hp) : List V → List D → Prop
  | nil : RpL K B [] []
  | cons {v : V} {vs : List V} {d : D} {ds : List D} : Rp K B v d → RpL K B vs ds → RpL K B (v :: vs) (d :: ds)
inductive RpK (K : KW) (B : Hp) : List (Key × V) → List (D × D) → Prop
  | nil : RpK K B [] []
  | cons {k : Key} {v : V} {kvs : List (Key × V)} {d : D} {ps : List (D × D)} : Rp K B v d → RpK K B kvs ps → RpK K B ((k, v) :: kvs) ((kD k, d) :: ps)
inductive RpX (K : KW) (B : Hp) : Bool → List (NestedKey × Value × Value) → List (D × D) → Prop
  | nil {b : Bool} : RpX K B b [] []
  | cons {b : Bool} {k : NestedKey} {kv v : V} {ku u : Value} {xs : List (NestedKey × Value × Value)} {kd d : D} {ps : List (D × D)} : keyD kd = some k → tupB kd = b → Rp K B kv kd → RelV kv ku → RelV v u → Rp K B v d → RpX K B b xs ps → RpX K B b ((k, ku, u) :: xs) ((kd, d) :: ps)
end
theorem same_rd {H H' : Hp} {a : Addr} {u : HO} (e : Same H H') (h : Rd H a u) : Rd H' a u := by
  rcases h with h | ⟨o, h⟩
  · exact .inl (e _ _ h)
  · exact .inr ⟨o, e _ _ h⟩
theorem same_l {K : KW} {H H' : Hp} {a : Addr} {xs : List V} (e : Same H H') (h : SqL K H a xs) : SqL K H' a xs := h.elim (fun h => .inl (same_rd e h)) .inr
theorem same_t {K : KW} {H H' : Hp} {a : Addr} {xs : List V} (e : Same H H') (h : SqT K H a xs) : SqT K H' a xs := h.elim (fun h => .inl (same_rd e h)) .inr
theorem same_x {H H' : Hp} {a : Addr} {xs : List V} (e : Same H H') (h : XT H a xs) : XT H' a xs := let ⟨o, h1, h2⟩ := h; ⟨o, e _ _ h1, h2⟩
theorem XdB.mono {B B' : Hp} {d : Option Addr} {fs : List (Str × V)} (e : Same B B') (h : XdB B d fs) : XdB B' d fs := h.imp id fun ⟨dd, e1, e2⟩ => ⟨dd, e1, e _ _ e2⟩
section
variable {K : KW} {B B' : Hp}
mutual
theorem Rp.mono (e : Same B B') : ∀ {v : V} {d : D}, Rp K B v d → Rp K B' v d
  | _, _, .non => .non
  | _, _, .bl b => .bl b
  | _, _, .int i => .int i
  | _, _, .str x => .str x
  | _, _, .lst h t => .lst (same_l e h) (RpL.mono e t)
  | _, _, .tup h t => .tup (same_x e h) (RpL.mono e t)
  | _, _, .dct h t => .dct (e _ _ h) (RpX.mono e t)
  | _, _, .exn h q x t => .exn (e _ _ h) q (x.mono e) (RpL.mono e t)
theorem RpL.mono (e : Same B B') : ∀ {v : List V} {d : List D}, RpL K B v d → RpL K B' v d
  | _, _, .nil => .nil
  | _, _, .cons h t => .cons (Rp.mono e h) (RpL.mono e t)
theorem RpK.mono (e : Same B B') : ∀ {v : List (Key × V)} {d : List (D × D)}, RpK K B v d → RpK K B' v d
  | _, _, .nil => .nil
  | _, _, .cons h t => .cons (Rp.mono e h) (RpK.mono e t)
theorem RpX.mono (e : Same B B') : ∀ {b : Bool} {v : List (NestedKey × Value × Value)} {d : List (D × D)}, RpX K B b v d → RpX K B' b v d
  | _, _, _, .nil => .nil
  | _, _, _, .cons h1 h2 h3 h4 h5 h6 m => .cons h1 h2 (Rp.mono e h3) h4 h5 (Rp.mono e h6) (RpX.mono e m)
end
theorem RpL.length : ∀ {vs : List V} {ds : List D}, RpL K B vs ds → vs.length = ds.length
  | _, _, .nil => rfl
  | _, _, .cons _ t => by rw [List.length_cons, List.length_cons, RpL.length t]
theorem RpL.get : ∀ {vs : List V} {ds : List D} {i : Nat} {d : D}, RpL K B vs ds → ds[i]? = some d → ∃ v, vs[i]? = some v ∧ Rp K B v d
  | _, _, _, _, .nil, e => by simp at e
  | _, _, 0, _, .cons h _, e => by simp at e; subst e; exact ⟨_, rfl, h⟩
  | _, _, i + 1, d, .cons _ t, e => by
    obtain ⟨v, h1, h2⟩ := RpL.get (i := i) (d := d) t (by simpa using e)
    exact ⟨v, by simpa using h1, h2⟩
theorem RpL.getV : ∀ {vs : List V} {ds : List D} {i : Nat} {v : V}, RpL K B vs ds → vs[i]? = some v → ∃ d, ds[i]? = some d ∧ Rp K B v d
  | _, _, _, _, .nil, e => by simp at e
  | _, _, 0, _, .cons h _, e => by simp at e; subst e; exact ⟨_, rfl, h⟩
  | _, _, i + 1, d, .cons _ t, e => by
    obtain ⟨v, h1, h2⟩ := RpL.getV (i := i) (v := d) t (by simpa using e)
    exact ⟨v, by simpa using h1, h2⟩
theorem RpL.append : ∀ {vs ws : List V} {ds es : List D}, RpL K B vs ds → RpL K B ws es → RpL K B (vs ++ ws) (ds ++ es)
  | _, _, _, _, .nil, s => s
  | _, _, _, _, .cons h t, s => .cons h (RpL.append t s)
theorem RpL.take : ∀ {vs : List V} {ds : List D} (n : Nat), RpL K B vs ds → RpL K B (vs.take n) (ds.take n)
  | _, _, 0, _ => .nil
  | _, _, _ + 1, .nil => .nil
  | _, _, n + 1, .cons h t => .cons h (RpL.take n t)
theorem RpL.drop : ∀ {vs : List V} {ds : List D} (n : Nat), RpL K B vs ds → RpL K B (vs.drop n) (ds.drop n)
  | _, _, 0, r => r
  | _, _, _ + 1, .nil => .nil
  | _, _, n + 1, .cons _ t => RpL.drop n t
theorem RpL.set {x : V} {e : D} (r : Rp K B x e) : ∀ {vs : List V} {ds : List D} (i : Nat), RpL K B vs ds → RpL K B (vs.set i x) (ds.set i e)
  | _, _, _, .nil => .nil
  | _, _, 0, .cons _ t => .cons r t
  | _, _, i + 1, .cons q t => .cons q (RpL.set r i t)
theorem RpL.reverse {vs : List V} {ds : List D} (h : RpL K B vs ds) : RpL K B vs.reverse ds.reverse := by
  induction vs generalizing ds with
  | nil => cases h; exact .nil
  | cons v vs ih =>
    cases h with
    | cons h1 h2 =>
      rw [List.reverse_cons, List.reverse_cons]
      exact (ih h2).append (.cons h1 .nil)
mutual
def plain : D → Bool
  | .none => true
  | .bool _ => true
  | .int _ => true
  | .str _ => true
  | .list ds => plainL ds
  | .tuple ds => plainL ds
  | .dict _ => false
def plainL : List D → Bool
  | [] => true
  | d :: ds => plain d && plainL ds
end
mutual
theorem Rp.dp : ∀ {v : V} (d : D), Rp K B v d → plain d = true → Dp K B v d
  | _, .none, .non, _ => .non
  | _, .bool _, .bl b, _ => .bl b
  | _, .int _, .int i, _ => .int i
  | _, .str _, .str x, _ => .str x
  | _, .list ds, .lst h t, e => .lst h (RpL.dp ds t (by unfold plain at e; exact e))
  | _, .tuple ds, .tup h t, e => .tup h.sq (RpL.dp ds t (by unfold plain at e; exact e))
  | _, .dict _, .dct h t, e => by unfold plain at e; cases e
  | _, .dict _, .exn _ _ _ _, e => by unfold plain at e; cases e
theorem RpL.dp : ∀ {vs : List V} (ds : List D), RpL K B vs ds → plainL ds = true → DpAll K B vs ds
  | _, [], .nil, _ => .nil
  | _, d :: ds, .cons h t, e => by
    unfold plainL at e
    rw [Bool.and_eq_true] at e
    exact .cons (Rp.dp d h e.1) (RpL.dp ds t e.2)
end
end
/-- the object of an owned slot -/
def Ow (K : KW) (B : Hp) (a : Addr) (o : Option HO) : D → Prop
  | .list ds => ∃ vs, o = some (.lst vs) ∧ RpL K B vs ds
  | .dict ps => ∃ ep b xs, o = some (dX K.w a ep xs) ∧ RpX K B b xs ps
  | _ => False
theorem Ow.mono {K : KW} {B B' : Hp} {a : Addr} {o : Option HO} (e : Same B B') : ∀ {d : D}, Ow K B a o d → Ow K B' a o d
  | .list _, ⟨vs, h1, h2⟩ => ⟨vs, h1, h2.mono e⟩
  | .dict _, ⟨ep, b, xs, h1, h2⟩ => ⟨ep, b, xs, h1, h2.mono e⟩
theorem Ow.some {K : KW} {B : Hp} {a : Addr} {o : Option HO} : ∀ {d : D}, Ow K B a o d → ∃ u, o = Option.some u
  | .list _, ⟨vs, h1, _⟩ => ⟨_, h1⟩
  | .dict _, ⟨_, _, _, h1, _⟩ => ⟨_, h1⟩
/-- slot i holds v by c -/
def COk (K : KW) (B H : Hp) (c : Cel) (v : V) : Prop :=
  (c.fl = .sh ∧ Rp K B v c.d) ∨ (c.fl ≠ .sh ∧ ∃ a, v = .ref a ∧ B a = none ∧ Ow K B a (H a) c.d)
def OwnA (ρ : Rho) (σ : St) (a : Addr) : Prop := ∃ (i : Nat) (c : Cel), ρ[i]? = some (some c) ∧ c.fl ≠ .sh ∧ σ[i]? = some (some (.ref a))
structure Sim (K : KW) (ρ : Rho) (σ : St) (B H : Hp) : Prop where
  bh : Same B H
  len : ρ.length = σ.length
  sl : ∀ (i : Nat) (c : Cel), ρ[i]? = some (some c) → ∃ v, σ[i]? = some (some v) ∧ COk K B H c v
  dj : ∀ (i j : Nat) (ci cj : Cel) (a : Addr), ρ[i]? = some (some ci) → ρ[j]? = some (some cj) → ci.fl ≠ .sh → cj.fl ≠ .sh → σ[i]? = some (some (.ref a)) → σ[j]? = some (some (.ref a)) → i = j
/-- what may become shared or owned: a new address, or an owned one -/
def New (ρ : Rho) (σ : St) (H : Hp) (a : Addr) : Prop := H a = none ∨ OwnA ρ σ a
/-- from one state to a later one: what is shared stays and grows by new objects (and owned ones that are given up); what was neither shared nor owned stays -/
structure Ext (ρ : Rho) (σ : St) (B H : Hp) (ρ' : Rho) (σ' : St) (B' H' : Hp) : Prop where
  bb : Same B B'
  nw : ∀ a o, B' a = some o → B a = some o ∨ New ρ σ H a
  kp : ∀ a o, H a = some o → ¬ OwnA ρ σ a → H' a = some o
  sub : ∀ a, OwnA ρ' σ' a → New ρ σ H a
  io : ∀ (i : Nat) (c : Cel), ρ[i]? = some (some c) → c.fl = .io → σ'[i]? = σ[i]? ∧ ∃ c', ρ'[i]? = some (some c') ∧ c'.fl = .io
  oi : ∀ (i : Nat) (c : Cel), ρ'[i]? = some (some c) → c.fl = .io → ∃ c', ρ[i]? = some (some c') ∧ c'.fl = .io
section
variable {K : KW} {ρ ρ1 ρ2 : Rho} {σ σ1 σ2 : St} {B B1 B2 H H1 H2 : Hp}
theorem Ext.refl : Ext ρ σ B H ρ σ B H :=
  ⟨Same.refl B, fun _ _ h => .inl h, fun _ _ h _ => h, fun _ h => .inr h, fun i c h1 h2 => ⟨rfl, c, h1, h2⟩, fun i c h1 h2 => ⟨c, h1, h2⟩⟩
/-- what is new later is new from the start -/
theorem Ext.back (a : Ext ρ σ B H ρ1 σ1 B1 H1) {x : Addr} (h : New ρ1 σ1 H1 x) : New ρ σ H x := by
  rcases h with h | h
  · by_cases ho : OwnA ρ σ x
    · exact .inr ho
    · cases e : H x with
      | none => exact .inl e
      | some u =>
        rw [a.kp x u e ho] at h
        cases h
  · exact a.sub x h
theorem Ext.trans (a : Ext ρ σ B H ρ1 σ1 B1 H1) (b : Ext ρ1 σ1 B1 H1 ρ2 σ2 B2 H2) : Ext ρ σ B H ρ2 σ2 B2 H2 where
  bb := a.bb.trans b.bb
  nw := fun x o h => (b.nw x o h).elim (fun h => a.nw x o h) fun h => .inr (a.back h)
  kp := fun x o h n => b.kp x o (a.kp x o h n) fun q => (a.sub x q).elim (fun z => by rw [h] at z; cases z) n
  sub := fun x h => a.back (b.sub x h)
  io := fun i c h1 h2 => by
    obtain ⟨e1, c1, q1, q2⟩ := a.io i c h1 h2
    obtain ⟨e2, c2, q3, q4⟩ := b.io i c1 q1 q2
    exact ⟨e2.trans e1, c2, q3, q4⟩
  oi := fun i c h1 h2 => by
    obtain ⟨c1, q1, q2⟩ := b.oi i c h1 h2
    exact a.oi i c1 q1 q2
/-- an address that is tracked, not shared and nobody's stays so -/
theorem Ext.keepN (a : Ext ρ σ B H ρ1 σ1 B1 H1) {x : Addr} {o : HO} (h : H x = some o) (hb : B x = none) (n : ¬ OwnA ρ σ x) : H1 x = some o ∧ B1 x = none ∧ ¬ OwnA ρ1 σ1 x := by
  have nn : ¬ New ρ σ H x := fun q => q.elim (fun z => by rw [h] at z; cases z) n
  refine ⟨a.kp x o h n, ?_, fun q => nn (a.sub x q)⟩
  cases e : B1 x with
  | none => rfl
  | some u =>
    rcases a.nw x u e with q | q
    · rw [hb] at q; cases q
    · exact absurd q nn
theorem Sim.ownH (S : Sim K ρ σ B H) {a : Addr} (h : OwnA ρ σ a) : B a = none ∧ ∃ o, H a = some o := by
  obtain ⟨i, c, h1, h2, h3⟩ := h
  obtain ⟨v, e, q⟩ := S.sl i c h1
  rw [h3] at e
  cases e
  rcases q with ⟨z, _⟩ | ⟨_, b, e, q1, q2⟩
  · exact absurd z h2
  · cases e
    exact ⟨q1, q2.some⟩
theorem Sim.free (S : Sim K ρ σ B H) {p : Addr} (h : H p = none) : B p = none ∧ ¬ OwnA ρ σ p :=
  ⟨S.bh.free h, fun q => by obtain ⟨_, o, e⟩ := S.ownH q; rw [h] at e; cases e⟩
theorem COk.mono {c : Cel} {v : V} (h : COk K B H c v) (e : Same B B1) (hf : ∀ a, v = .ref a → B a = none → (∃ o, H a = some o) → c.fl ≠ .sh → B1 a = none ∧ H1 a = H a) : COk K B1 H1 c v := by
  rcases h with ⟨h1, h2⟩ | ⟨h1, a, rfl, h2, h3⟩
  · exact .inl ⟨h1, h2.mono e⟩
  · obtain ⟨q1, q2⟩ := hf a rfl h2 h3.some h1
    exact .inr ⟨h1, a, rfl, q1, by rw [q2]; exact h3.mono e⟩
/-- a new object, shared -/
theorem Sim.newB (S : Sim K ρ σ B H) {p : Addr} (hp : H p = none) (o : HO) : Sim K ρ σ (upd B p o) (upd H p o) ∧ Ext ρ σ B H ρ σ (upd B p o) (upd H p o) := by
  obtain ⟨bp, np⟩ := S.free hp
  have sB : Same B (upd B p o) := fun b u e => by rw [upd_ne (ne_of_none e bp)]; exact e
  have sH : Same H (upd H p o) := fun b u e => by rw [upd_ne (ne_of_none e hp)]; exact e
  refine ⟨⟨fun b u e => ?_, S.len, fun i c h => ?_, S.dj⟩, ⟨sB, fun a u e => ?_, fun a u e _ => sH a u e, fun _ h => .inr h, fun i c h1 h2 => ⟨rfl, c, h1, h2⟩, fun i c h1 h2 => ⟨c, h1, h2⟩⟩⟩
  · by_cases hb : b = p
    · subst hb; rw [upd_same] at e ⊢; exact e
    · rw [upd_ne hb] at e ⊢; exact S.bh _ _ e
  · obtain ⟨v, e, q⟩ := S.sl i c h
    refine ⟨v, e, q.mono sB fun a hv ha ho hf => ?_⟩
    have ne : a ≠ p := fun z => by subst z; obtain ⟨_, w⟩ := ho; rw [hp] at w; cases w
    exact ⟨by rw [upd_ne ne]; exact ha, by rw [upd_ne ne]⟩
  · by_cases hb : a = p
    · subst hb; exact .inr (.inl hp)
    · rw [upd_ne hb] at e; exact .inl e
/-- a new object that nobody holds yet -/
theorem Sim.newH (S : Sim K ρ σ B H) {p : Addr} (hp : H p = none) (o : HO) : Sim K ρ σ B (upd H p o) ∧ Ext ρ σ B H ρ σ B (upd H p o) := by
  obtain ⟨bp, np⟩ := S.free hp
  have sH : Same H (upd H p o) := fun b u e => by rw [upd_ne (ne_of_none e hp)]; exact e
  refine ⟨⟨S.bh.trans sH, S.len, fun i c h => ?_, S.dj⟩, ⟨Same.refl B, fun a u e => .inl e, fun a u e _ => sH a u e, fun _ h => .inr h, fun i c h1 h2 => ⟨rfl, c, h1, h2⟩, fun i c h1 h2 => ⟨c, h1, h2⟩⟩⟩
  obtain ⟨v, e, q⟩ := S.sl i c h
  refine ⟨v, e, q.mono (Same.refl B) fun a hv ha ho hf => ?_⟩
  have ne : a ≠ p := fun z => by subst z; obtain ⟨_, w⟩ := ho; rw [hp] at w; cases w
  exact ⟨ha, by rw [upd_ne ne]⟩
/-- an object that nobody holds becomes shared -/
theorem Sim.share (S : Sim K ρ σ B H) {p : Addr} {o : HO} (hb : B p = none) (hp : H p = some o) (n : ¬ OwnA ρ σ p) : Sim K ρ σ (upd B p o) H := by
  have sB : Same B (upd B p o) := fun b u e => by rw [upd_ne (ne_of_none e hb)]; exact e
  refine ⟨fun b u e => ?_, S.len, fun i c h => ?_, S.dj⟩
  · by_cases h : b = p
    · subst h; rw [upd_same] at e; cases e; exact hp
    · rw [upd_ne h] at e; exact S.bh _ _ e
  · obtain ⟨v, e, q⟩ := S.sl i c h
    refine ⟨v, e, q.mono sB fun a hv ha ho hf => ⟨?_, rfl⟩⟩
    have ne : a ≠ p := fun z => by subst z; subst hv; exact n ⟨i, c, h, hf, e⟩
    rw [upd_ne ne]; exact ha
end
end GS
namespace GS
open PySem L2
def HdOk (K : KW) (N : Addr → Prop) (ρ : Rho) (σ : St) (B H : Hp) (v : V) : Hd → Prop
  | .sh d => Rp K B v d
  | .fr d => ∃ a, v = .ref a ∧ B a = none ∧ Ow K B a (H a) d ∧ ¬ OwnA ρ σ a ∧ N a
  | .bw i => σ[i]? = some (some v)
/-- the context of a reading: the written part, the classes' values by name, what is wanted of an exception -/
structure Ct where
  K : KW
  cv : Str → Value
  W : WX
def XcOk (C : Ct) (B : Hp) (x : Xc) (cls : Value) (dct : Option Addr) : Prop :=
  cls = C.cv x.cls ∧ ((x.fs = [] ∧ dct = none) ∨ ∃ a fs, dct = some a ∧ B a = some (.xd fs) ∧ fs.map (·.1) = x.fs.map (·.1) ∧ RpL C.K B (fs.map (·.2)) (x.fs.map (·.2)))
def GoodE (C : Ct) (ρ : Rho) (σ : St) (B H : Hp) (Q : VK) : RE → Prop
  | .stuck => False
  | .ok h ρ' => ∀ v B' H', Sim C.K ρ' σ B' H' → Ext ρ σ B H ρ' σ B' H' → HdOk C.K (New ρ σ H) ρ' σ B' H' v h → Q v H'
  | .exc x ρ' => ∀ cls dct B' H', Sim C.K ρ' σ B' H' → Ext ρ σ B H ρ' σ B' H' → XcOk C B' x cls dct → C.W cls dct σ H'
def LkE (C : Ct) (t : TE) (f : EF) : Prop := ∀ ρ σ B H Q, Sim C.K ρ σ B H → GoodE C ρ σ B H Q (f ρ) → t σ H Q
structure SE (X : Cx) (C : Ct) (e : Expr) (t : TE) (f : EF) : Prop where
  pe : PE X e t
  lk : LkE C t f
def bindE (r : RE) (k : Hd → Rho → RE) : RE := match r with
  | .stuck => .stuck
  | .ok h ρ => k h ρ
  | .exc x ρ => .exc x ρ
/-- what a slot holds -/
def slot (ρ : Rho) (i : Nat) : Option Cel := match ρ[i]? with
  | some (some c) => some c
  | _ => none
theorem slot_some {ρ : Rho} {i : Nat} {c : Cel} (h : slot ρ i = some c) : ρ[i]? = some (some c) := by
  unfold slot at h
  split at h
  · rename_i c' e; cases h; exact e
  · cases h
def getH (ρ : Rho) : Hd → Option D
  | .sh d => some d
  | .fr d => some d
  | .bw i => (slot ρ i).map (·.d)
def capH (ρ : Rho) : Hd → Option D
  | .sh d => some d
  | .fr d => some d
  | .bw i => match slot ρ i with
    | some ⟨d, .sh⟩ => some d
    | _ => none
def setl : Hd → Hd
  | .fr d => .sh d
  | h => h
/-- captured: a shared datum -/
def eCap (f : EF) : EF := fun ρ => bindE (f ρ) fun h ρ' => match capH ρ' h with
  | some d => .ok (.sh d) ρ'
  | none => .stuck
/-- looked at: what is new is shared -/
def eSet (f : EF) : EF := fun ρ => bindE (f ρ) fun h ρ' => .ok (setl h) ρ'
section
variable {C : Ct} {ρ ρ' ρ1 : Rho} {σ : St} {B B' H H' B1 H1 : Hp} {Q : VK} {t ta tb : TE} {f fa fb : EF} {N N' : Addr → Prop} {v : V}
theorem HdOk.mono {K : KW} (k : ∀ a, N a → N' a) : ∀ {h : Hd}, HdOk K N ρ σ B H v h → HdOk K N' ρ σ B H v h
  | .sh _, q => q
  | .fr _, ⟨a, h1, h2, h3, h4, h5⟩ => ⟨a, h1, h2, h3, h4, k a h5⟩
  | .bw _, q => q
/-- a step in the middle: what is good behind is good ahead -/
theorem GoodE.ext (e : Ext ρ σ B H ρ1 σ B1 H1) : ∀ {r : RE}, GoodE C ρ σ B H Q r → GoodE C ρ1 σ B1 H1 Q r
  | .stuck, h => h
  | .ok _ _, h => fun v B' H' s x y => h v B' H' s (e.trans x) (y.mono fun _ z => e.back z)
  | .exc _ _, h => fun c d B' H' s x => h c d B' H' s (e.trans x)
theorem GoodE.imp {Q' : VK} (k : ∀ v H, Q v H → Q' v H) : ∀ {r : RE}, GoodE C ρ σ B H Q r → GoodE C ρ σ B H Q' r
  | .stuck, h => h
  | .ok _ _, h => fun v B' H' s x y => k _ _ (h v B' H' s x y)
  | .exc _ _, h => h
/-- THE RULE: an expression, then what follows -/
theorem LkE.bind (l : LkE C t f) (S : Sim C.K ρ σ B H) {k : Hd → Rho → RE} {Q' : VK} (g : GoodE C ρ σ B H Q (bindE (f ρ) k))
    (h : ∀ hd ρ1 v B1 H1, Sim C.K ρ1 σ B1 H1 → Ext ρ σ B H ρ1 σ B1 H1 → HdOk C.K (New ρ σ H) ρ1 σ B1 H1 v hd → GoodE C ρ σ B H Q (k hd ρ1) → Q' v H1) : t σ H Q' := by
  refine l ρ σ B H Q' S ?_
  cases e : f ρ with
  | stuck => rw [e] at g; exact g
  | ok hd ρ1 =>
    rw [e] at g
    exact fun v B1 H1 s x y => h hd ρ1 v B1 H1 s x y g
  | exc x ρ1 =>
    rw [e] at g
    exact g
/-- a new datum that nobody holds is shared from here on -/
theorem Sim.cap (S : Sim C.K ρ1 σ B1 H1) (x : Ext ρ σ B H ρ1 σ B1 H1) {d : D} (h : HdOk C.K (New ρ σ H) ρ1 σ B1 H1 v (.fr d)) : ∃ B2, Sim C.K ρ1 σ B2 H1 ∧ Ext ρ σ B H ρ1 σ B2 H1 ∧ Rp C.K B2 v d := by
  obtain ⟨a, rfl, hb, ho, hn, hN⟩ := h
  obtain ⟨o, e⟩ := ho.some
  have sB : Same B1 (upd B1 a o) := fun b u e => by rw [upd_ne (ne_of_none e hb)]; exact e
  refine ⟨upd B1 a o, S.share hb e hn, ⟨x.bb.trans sB, fun b u e => ?_, x.kp, x.sub, x.io, x.oi⟩, ?_⟩
  · by_cases hb : b = a
    · subst hb; exact .inr hN
    · rw [upd_ne hb] at e; exact x.nw b u e
  · rw [e] at ho
    have ho := ho.mono sB
    cases d with
    | list ds =>
      obtain ⟨vs, e1, e2⟩ := ho
      cases e1
      exact .lst (.inl (.inl upd_same)) e2
    | dict ps =>
      obtain ⟨ep, b, xs, e1, e2⟩ := ho
      cases e1
      exact .dct upd_same e2
    | _ => exact ho.elim
theorem LkE.cap (l : LkE C t f) : LkE C t (eCap f) := fun ρ σ B H Q S g => by
  refine l.bind S g fun hd ρ1 v B1 H1 S1 x y g => ?_
  cases hd with
  | sh d => exact g v B1 H1 S1 x y
  | fr d =>
    obtain ⟨B2, S2, x2, r⟩ := S1.cap x y
    exact g v B2 H1 S2 x2 r
  | bw i =>
    unfold capH at g
    dsimp only at g
    split at g
    · rename_i d e
      split at e
      · rename_i d' e'
        cases e
        have e' := slot_some e'
        obtain ⟨v', q1, q2⟩ := S1.sl i _ e'
        have y' : σ[i]? = some (some v) := y
        rw [y'] at q1
        cases q1
        rcases q2 with ⟨_, q2⟩ | ⟨q, _⟩
        · exact g v B1 H1 S1 x q2
        · exact absurd rfl q
      · cases e
    · exact g.elim
theorem LkE.set (l : LkE C t f) : LkE C t (eSet f) := fun ρ σ B H Q S g => by
  refine l.bind S g fun hd ρ1 v B1 H1 S1 x y g => ?_
  cases hd with
  | sh d => exact g v B1 H1 S1 x y
  | fr d =>
    obtain ⟨B2, S2, x2, r⟩ := S1.cap x y
    exact g v B2 H1 S2 x2 r
  | bw i => exact g v B1 H1 S1 x y
theorem SE.cap {X : Cx} {e : Expr} (h : SE X C e t f) : SE X C e t (eCap f) := ⟨h.pe, h.lk.cap⟩
theorem SE.set {X : Cx} {e : Expr} (h : SE X C e t f) : SE X C e t (eSet f) := ⟨h.pe, h.lk.set⟩
def Tp (K : KW) (B H : Hp) (v : V) : D → Prop
  | .list ds => ∃ a vs, v = .ref a ∧ SqL K H a vs ∧ RpL K B vs ds
  | .dict ps => (∃ a ep b xs, v = .ref a ∧ H a = some (dX K.w a ep xs) ∧ RpX K B b xs ps) ∨ (xnB ps = true ∧ Rp K B v (.dict ps))
  | d => Rp K B v d
theorem Tp.of {K : KW} (s : Same B H) : ∀ {d : D}, Rp K B v d → Tp K B H v d
  | .list _, .lst h t => ⟨_, _, rfl, same_l s h, t⟩
  | .dict _, .dct h t => .inl ⟨_, _, _, _, rfl, s _ _ h, t⟩
  | .dict _, .exn h q x t => .inr ⟨rfl, .exn h q x t⟩
  | .none, h => h
  | .bool _, h => h
  | .int _, h => h
  | .str _, h => h
  | .tuple _, h => h
theorem Tp.rp {K : KW} (s : Same B H) : ∀ {d : D}, Tp K B H v d → Rp K H v d
  | .list _, ⟨_, _, e, h, t⟩ => by subst e; exact .lst h (t.mono s)
  | .dict _, .inl ⟨_, _, _, _, e, h, t⟩ => by subst e; exact .dct h (t.mono s)
  | .dict _, .inr ⟨_, h⟩ => Rp.mono s h
  | .none, h => Rp.mono s h
  | .bool _, h => Rp.mono s h
  | .int _, h => Rp.mono s h
  | .str _, h => Rp.mono s h
  | .tuple _, h => Rp.mono s h
theorem Sim.tp (S : Sim C.K ρ σ B H) {h : Hd} {d : D} (y : HdOk C.K N ρ σ B H v h) (g : getH ρ h = some d) : Tp C.K B H v d := by
  cases h with
  | sh e =>
    cases g
    exact Tp.of S.bh y
  | fr e =>
    cases g
    obtain ⟨a, rfl, hb, ho, _⟩ := y
    cases d with
    | list ds =>
      obtain ⟨vs, e1, e2⟩ := ho
      exact ⟨a, vs, rfl, .inl (.inl e1), e2⟩
    | dict ds =>
      obtain ⟨ep, b, xs, e1, e2⟩ := ho
      exact .inl ⟨a, ep, b, xs, rfl, e1, e2⟩
    | _ => exact ho.elim
  | bw i =>
    replace g : (slot ρ i).map (·.d) = some d := g
    cases e : slot ρ i with
    | none => rw [e] at g; cases g
    | some c =>
      rw [e] at g
      cases g
      obtain ⟨v', q1, q2⟩ := S.sl i c (slot_some e)
      have y' : σ[i]? = some (some v) := y
      rw [y'] at q1
      cases q1
      rcases q2 with ⟨_, q2⟩ | ⟨_, a, rfl, hb, ho⟩
      · exact Tp.of S.bh q2
      · obtain ⟨d, fl⟩ := c
        cases d with
        | list ds =>
          obtain ⟨vs, e1, e2⟩ := ho
          exact ⟨a, vs, rfl, .inl (.inl e1), e2⟩
        | dict ds =>
          obtain ⟨ep, b, xs, e1, e2⟩ := ho
          exact .inl ⟨a, ep, b, xs, rfl, e1, e2⟩
        | _ => exact ho.elim
/-- a looked-at operand stays good -/
theorem HdOk.ext (x : Ext ρ σ B H ρ1 σ B1 H1) {h : Hd} (y : HdOk C.K N ρ σ B H v (setl h)) : HdOk C.K N' ρ1 σ B1 H1 v (setl h) := by
  cases h with
  | sh d => exact Rp.mono x.bb y
  | fr d => exact Rp.mono x.bb y
  | bw i => exact y
def OpL (K : KW) (r : R2) (o : D → D → Option Hd) : Prop := ∀ ρ σ B H x y dx dy h Q, Sim K ρ σ B H → Tp K B H x dx → Tp K B H y dy → o dx dy = some h →
  (∀ v B' H', Sim K ρ σ B' H' → Ext ρ σ B H ρ σ B' H' → HdOk K (New ρ σ H) ρ σ B' H' v h → Q v H') → r x y H Q
def eBin (o : D → D → Option Hd) (fa fb : EF) : EF := fun ρ => bindE (eSet fa ρ) fun ha ρ1 => bindE (eSet fb ρ1) fun hb ρ2 => match getH ρ2 ha, getH ρ2 hb with
  | some da, some db => match o da db with
    | some h => .ok h ρ2
    | none => .stuck
  | _, _ => .stuck
theorem LkE.setBind (l : LkE C t f) (S : Sim C.K ρ σ B H) {k : Hd → Rho → RE} {Q' : VK} (g : GoodE C ρ σ B H Q (bindE (eSet f ρ) k))
    (h : ∀ hd ρ1 v B1 H1, Sim C.K ρ1 σ B1 H1 → Ext ρ σ B H ρ1 σ B1 H1 → HdOk C.K (New ρ σ H) ρ1 σ B1 H1 v (setl hd) → GoodE C ρ1 σ B1 H1 Q (k (setl hd) ρ1) → Q' v H1) : t σ H Q' := by
  refine l.set ρ σ B H Q' S ?_
  unfold eSet at g ⊢
  cases e : f ρ with
  | stuck => rw [e] at g; exact g
  | ok hd ρ1 =>
    rw [e] at g
    exact fun v B1 H1 s x y => h hd ρ1 v B1 H1 s x y (GoodE.ext x g)
  | exc x ρ1 =>
    rw [e] at g
    exact g
theorem lk_op {r : R2} {o : D → D → Option Hd} (hr : OpL C.K r o) (la : LkE C ta fa) (lb : LkE C tb fb) : LkE C (tOp r ta tb) (eBin o fa fb) := fun ρ σ B H Q S g => by
  refine la.setBind S g fun ha ρ1 x B1 H1 S1 e1 y1 g1 => ?_
  refine lb.setBind S1 g1 fun hb ρ2 y B2 H2 S2 e2 y2 g2 => ?_
  split at g2
  · rename_i da db ea eb
    split at g2
    · rename_i h eh
      exact hr ρ2 σ B2 H2 x y da db h Q S2 (S2.tp (N := fun _ => True) (HdOk.ext e2 y1) ea) (S2.tp y2 eb) eh g2
    · exact g2.elim
  · exact g2.elim
theorem se_bin {X : Cx} {r : R2} {o : D → D → Option Hd} {op : Operator} {a b : Expr} {pos : Pos} (hr : OpL C.K r o) (ho : OpR X (binaryOp op) r) (la : SE X C a ta fa) (lb : SE X C b tb fb) : SE X C (.BinOp a op b pos) (tOp r ta tb) (eBin o fa fb) :=
  ⟨pe_op ho la.pe lb.pe, lk_op hr la.lk lb.lk⟩
/-- two ways of one operator -/
def orO (o o' : D → D → Option Hd) : D → D → Option Hd := fun x y => match o x y with
  | some h => some h
  | none => o' x y
theorem OpL.or {K : KW} {r r' : R2} {o o' : D → D → Option Hd} (a : OpL K r o) (b : OpL K r' o') : OpL K (fun x y H Q => r x y H Q ∨ r' x y H Q) (orO o o') := fun ρ σ B H x y dx dy h Q S tx ty e k => by
  unfold orO at e
  cases q : o dx dy with
  | some h' =>
    rw [q] at e
    cases e
    exact .inl (a ρ σ B H x y dx dy _ Q S tx ty q k)
  | none =>
    rw [q] at e
    exact .inr (b ρ σ B H x y dx dy _ Q S tx ty e k)
end
end GS
namespace GS
open PySem L2 PySem.Calls
section
variable {K : KW} {ρ : Rho} {σ : St} {B H : Hp} {v x y : V} {Q : VK}
theorem Tp.int {i : Int} (h : Tp K B H v (.int i)) : v = .int i := by cases h; rfl
theorem Tp.str {i : Str} (h : Tp K B H v (.str i)) : v = .str i := by cases h; rfl
theorem Tp.bl {i : Bool} (h : Tp K B H v (.bool i)) : v = .bl i := by cases h; rfl
theorem Tp.non (h : Tp K B H v .none) : v = .non := by cases h; rfl
theorem Rp.tupE {ds : List D} (h : Rp K B v (.tuple ds)) : ∃ a vs, v = .ref a ∧ SqT K B a vs ∧ RpL K B vs ds := by
  cases h with
  | tup h t => exact ⟨_, _, rfl, h.sq, t⟩
theorem Rp.tupX {ds : List D} (h : Rp K B v (.tuple ds)) : ∃ a vs, v = .ref a ∧ XT B a vs ∧ RpL K B vs ds := by
  cases h with
  | tup h t => exact ⟨_, _, rfl, h, t⟩
theorem Rp.lstE {ds : List D} (h : Rp K B v (.list ds)) : ∃ a vs, v = .ref a ∧ SqL K B a vs ∧ RpL K B vs ds := by
  cases h with
  | lst h t => exact ⟨_, _, rfl, h, t⟩
theorem Tp.tup {ds : List D} (h : Tp K B H v (.tuple ds)) : ∃ a vs, v = .ref a ∧ SqT K B a vs ∧ RpL K B vs ds := Rp.tupE h
theorem Tp.tupX {ds : List D} (h : Tp K B H v (.tuple ds)) : ∃ a vs, v = .ref a ∧ XT B a vs ∧ RpL K B vs ds := Rp.tupX h
/-- the state as it is, a shared value -/
theorem now (S : Sim K ρ σ B H) {d : D} (h : Rp K B v d) (k : ∀ v B' H', Sim K ρ σ B' H' → Ext ρ σ B H ρ σ B' H' → HdOk K (New ρ σ H) ρ σ B' H' v (.sh d) → Q v H') : Q v H := k v B H S Ext.refl h
/-- a new tuple, shared -/
theorem newT (S : Sim K ρ σ B H) {vs : List V} {ds : List D} (h : RpL K B vs ds) (k : ∀ v B' H', Sim K ρ σ B' H' → Ext ρ σ B H ρ σ B' H' → HdOk K (New ρ σ H) ρ σ B' H' v (.sh (.tuple ds)) → Q v H') :
    ∀ p o, H p = none → o.dict = none → Q (.ref p) (upd H p (.frz o (.tup vs))) := fun p o hp ho => by
  obtain ⟨S', x⟩ := S.newB hp (.frz o (.tup vs))
  exact k _ _ _ S' x (.tup (XT.new ho) (h.mono x.bb))
/-- a new list that nobody holds -/
theorem newL (S : Sim K ρ σ B H) {vs : List V} {ds : List D} (h : RpL K B vs ds) (k : ∀ v B' H', Sim K ρ σ B' H' → Ext ρ σ B H ρ σ B' H' → HdOk K (New ρ σ H) ρ σ B' H' v (.fr (.list ds)) → Q v H') :
    ∀ p, H p = none → Q (.ref p) (upd H p (.lst vs)) := fun p hp => by
  obtain ⟨S', x⟩ := S.newH hp (.lst vs)
  obtain ⟨b, n⟩ := S.free hp
  exact k _ _ _ S' x ⟨p, rfl, b, ⟨vs, upd_same, h⟩, n, .inl hp⟩
end
section
variable {X : Cx}
def rCatL (K : PySem.W.Frag) : R2 := fun x y H Q => ∃ l b xs zs, x = .ref l ∧ y = .ref b ∧ SqL K H l xs ∧ SqL K H b zs ∧ xs.length + zs.length ≤ sizeLine ∧ ∀ p, H p = none → Q (.ref p) (upd H p (.lst (xs ++ zs)))
theorem op_catL : OpR X (binaryOp .Add) (rCatL X.K) := by
  intro pins s σ H x y v u Q I rx ry h
  obtain ⟨l, b, xs, zs, rfl, rfl, hH, hB, hz, q⟩ := h
  cases rx
  cases ry
  obtain ⟨its, r, p1, _⟩ := I.list hH
  obtain ⟨its2, r2, p2, _⟩ := I.list hB
  have l1 := r.length
  have l2 := r2.length
  obtain ⟨⟨cls, dd, data, sl⟩, ho, hc, n, hd⟩ := p1.isList
  obtain ⟨⟨cls2, dd2, data2, sl2⟩, ho2, hc2, n2, hd2⟩ := p2.isList
  simp only at hc hd hc2 hd2
  subst hc hd hc2 hd2
  refine concat_meets ⟨_, ho, rfl⟩ ⟨_, ho2, rfl⟩ noFill_list_add seq_list_add PySem.F.slot_list_add PySem.F.entry_list_add (PySem.F.args_list_add_2 _ _) (PyProof.Rows.list_addW l b its.toArray its2.toArray n n2 dd dd2 sl sl2 (by simp; omega)) ⟨ho, ho2, ?_⟩
  have e : its.toArray ++ its2.toArray = (its ++ its2).toArray := by simp
  rw [e]
  exact ⟨.ref _, _, I.lnew (t' := s.toks) (r.append r2) (by rw [List.length_append]; omega), rfl, q _ I.fresh⟩
end
theorem if_some {c : Prop} [Decidable c] {α : Type} {a h : α} (e : (if c then some a else none) = some h) : c ∧ a = h := by
  split at e
  · cases e; exact ⟨by assumption, rfl⟩
  · cases e
/-- + -/
def addD : D → D → Option Hd
  | .int i, .int j => some (.sh (.int (i + j)))
  | .str i, .str j => if i.length + j.length ≤ sizeLine then some (.sh (.str (i ++ j))) else none
  | .tuple xs, .tuple ys => if xs.length + ys.length ≤ sizeLine then some (.sh (.tuple (xs ++ ys))) else none
  | .list xs, .list ys => if xs.length + ys.length ≤ sizeLine then some (.fr (.list (xs ++ ys))) else none
  | _, _ => none
def rAddA (K : PySem.W.Frag) : R2 := fun x y H Q => (rI0 fun i j => .int (i + j)) x y H Q ∨ ((∃ i j, x = .str i ∧ y = .str j ∧ i.length + j.length ≤ sizeLine ∧ Q (.str (i ++ j)) H) ∨ (rCatX K x y H Q ∨ rCatL K x y H Q))
theorem op_addA {X : Cx} : OpR X (binaryOp .Add) (rAddA X.K) := OpR.or op_add (OpR.or op_add_str (OpR.or op_catX op_catL))
theorem ol_add {K : KW} : OpL K (rAddA K) addD := fun ρ σ B H x y dx dy h Q S tx ty e k => by
  cases dx <;> cases dy <;> first | (cases (show none = some h from e); done) | skip
  · cases e
    rw [tx.int, ty.int]
    exact .inl ⟨_, _, rfl, rfl, now S (.int _) k⟩
  · obtain ⟨c, rfl⟩ := if_some e
    rw [tx.str, ty.str]
    exact .inr (.inl ⟨_, _, rfl, rfl, c, now S (.str _) k⟩)
  · obtain ⟨c, rfl⟩ := if_some e
    obtain ⟨a, vs, rfl, ha, ra⟩ := tx
    obtain ⟨b, ws, rfl, hb, rb⟩ := ty
    exact .inr (.inr (.inr ⟨a, b, vs, ws, rfl, rfl, ha, hb, by rw [ra.length, rb.length]; exact c, newL S (ra.append rb) k⟩))
  · obtain ⟨c, rfl⟩ := if_some e
    obtain ⟨a, vs, rfl, ha, ra⟩ := tx.tupX
    obtain ⟨b, ws, rfl, hb, rb⟩ := ty.tupX
    have l1 := ra.length
    have l2 := rb.length
    refine .inr (.inr (.inl ⟨a, b, vs, ws, rfl, rfl, (same_x S.bh ha).sq, (same_x S.bh hb).sq, by omega, fun e => ?_, fun _ e => ?_, fun _ _ => newT S (ra.append rb) k⟩))
    · subst e
      cases ra
      exact now S (.tup hb rb) k
    · subst e
      cases rb
      rw [List.append_nil] at k
      exact now S (.tup ha ra) k
/-- int operators -/
def intD (c : Int → Int → Bool) (f : Int → Int → D) : D → D → Option Hd
  | .int i, .int j => if c i j then some (.sh (f i j)) else none
  | _, _ => none
theorem ol_int {K : KW} {c : Int → Int → Bool} {P : Int → Int → Prop} {f : Int → Int → D} {g : Int → Int → V} (hc : ∀ i j, c i j = true → P i j) (hg : ∀ B i j, Rp K B (g i j) (f i j)) : OpL K (rI P g) (intD c f) := fun ρ σ B H x y dx dy h Q S tx ty e k => by
  cases dx <;> cases dy <;> first | (cases (show none = some h from e); done) | skip
  obtain ⟨c, rfl⟩ := if_some e
  rw [tx.int, ty.int]
  exact ⟨_, _, rfl, rfl, hc _ _ c, now S (hg B _ _) k⟩
theorem ol_int0 {K : KW} {f : Int → Int → D} {g : Int → Int → V} (hg : ∀ B i j, Rp K B (g i j) (f i j)) : OpL K (rI0 g) (intD (fun _ _ => true) f) := fun ρ σ B H x y dx dy h Q S tx ty e k => by
  cases dx <;> cases dy <;> first | (cases (show none = some h from e); done) | skip
  cases e
  rw [tx.int, ty.int]
  exact ⟨_, _, rfl, rfl, now S (hg B _ _) k⟩
def subD : D → D → Option Hd := intD (fun _ _ => true) fun i j => .int (i - j)
def divD : D → D → Option Hd := intD (fun _ j => decide (0 < j) && Nat.ble j.natAbs 1073741823) fun i j => .int (i / j)
def modD : D → D → Option Hd := intD (fun _ j => decide (0 < j)) fun i j => .int (i % j)
theorem ol_sub {K : KW} : OpL K (rI0 fun i j => .int (i - j)) subD := ol_int0 fun _ _ _ => .int _
theorem ol_div {K : KW} : OpL K (rI CDiv fun i j => .int (i / j)) divD := ol_int (fun i j h => by
  simp only [Bool.and_eq_true, decide_eq_true_eq] at h
  have := Nat.le_of_ble_eq_true h.2
  exact ⟨h.1, by omega⟩) fun _ _ _ => .int _
theorem ol_mod {K : KW} : OpL K (rI (fun _ j => 0 < j) fun i j => .int (i % j)) modD := ol_int (fun i j h => by simpa using h) fun _ _ _ => .int _
def intsT : List D → Option (List Int)
  | [] => some []
  | .int i :: r => (intsT r).map fun l => i :: l
  | _ => none
/-- < of ints, and of tuples of ints -/
def ltI (f : Int → Int → Bool) : D → D → Option Hd
  | .int i, .int j => some (.sh (.bool (f i j)))
  | .tuple xs, .tuple ys => if f 0 1 && !f 0 0 then (intsT xs).bind fun a => (intsT ys).map fun b => .sh (.bool (HT.lexLt a b)) else none
  | _, _ => none
theorem intsT_ok {K : KW} {B : Hp} : ∀ {vs : List V} {ds : List D} {ns : List Int}, RpL K B vs ds → intsT ds = some ns → vs = ns.map V.int
  | _, [], _, .nil, e => by cases e; rfl
  | _, d :: ds, ns, .cons h t, e => by
    match d, h, e with
    | .int i, h, e =>
      obtain ⟨l, e1, rfl⟩ := Option.map_eq_some_iff.mp (show (intsT ds).map (fun l => i :: l) = some ns from e)
      cases h
      rw [intsT_ok t e1, List.map_cons]
theorem ol_cmp {K : KW} {f : Int → Int → Bool} (hf : (f 0 1 && !f 0 0) = false := by rfl) : OpL K (rI0 fun i j => .bl (f i j)) (ltI f) := fun ρ σ B H x y dx dy h Q S tx ty e k => by
  cases dx <;> cases dy <;> first | (cases (show none = some h from e); done) | skip
  · cases e
    rw [tx.int, ty.int]
    exact ⟨_, _, rfl, rfl, now S (.bl _) k⟩
  · rename_i xs ys
    have e : (if f 0 1 && !f 0 0 then (intsT xs).bind fun a => (intsT ys).map fun b => Hd.sh (.bool (HT.lexLt a b)) else none) = some h := e
    rw [hf] at e
    cases e
def rLtA (K : PySem.W.Frag) : R2 := fun x y H Q => (rI0 fun i j => .bl (decide (i < j))) x y H Q ∨ rLtT K x y H Q
theorem op_ltA {X : Cx} (hu : X.A.units + 65 < cLine) : OpR X (compareOp .Lt) (rLtA X.K) := OpR.or op_lt (op_ltT (by omega))
theorem ol_ltA {K : KW} : OpL K (rLtA K) (ltI fun i j => decide (i < j)) := fun ρ σ B H x y dx dy h Q S tx ty e k => by
  cases dx <;> cases dy <;> first | (cases (show none = some h from e); done) | skip
  · cases e
    rw [tx.int, ty.int]
    exact .inl ⟨_, _, rfl, rfl, now S (.bl _) k⟩
  · rename_i xs ys
    have e : ((intsT xs).bind fun a => (intsT ys).map fun b => Hd.sh (.bool (HT.lexLt a b))) = some h := e
    obtain ⟨as, e1, e2⟩ := Option.bind_eq_some_iff.mp e
    obtain ⟨bs, e3, rfl⟩ := Option.map_eq_some_iff.mp e2
    obtain ⟨a, vs, rfl, ha, ra⟩ := tx.tup
    obtain ⟨b, ws, rfl, hb, rb⟩ := ty.tup
    have ea := intsT_ok ra e1
    have eb := intsT_ok rb e3
    subst ea eb
    exact .inr ⟨a, b, as, bs, rfl, rfl, same_t S.bh ha, same_t S.bh hb, now S (.bl _) k⟩
/-- == of data without dicts, at most 64 deep -/
def okEq (d : D) : Bool := plain d && SeqAt.shaped d
/-- is None, is True -/
def isD (neg : Bool) : D → D → Option Hd
  | .none, .none => some (.sh (.bool (!neg)))
  | .bool a, .bool b => some (.sh (.bool (neg ^^ decide (a = b))))
  | _, .none => some (.sh (.bool neg))
  | _, _ => none
def rIsA : R2 := fun x y H Q => (y = .non ∧ Q (.bl (decide (x = .non))) H) ∨ (∃ a b, x = .bl a ∧ y = .bl b ∧ Q (.bl (decide (a = b))) H)
def rNotA : R2 := fun x y H Q => (y = .non ∧ Q (.bl (!decide (x = .non))) H) ∨ (∃ a b, x = .bl a ∧ y = .bl b ∧ Q (.bl (!decide (a = b))) H)
theorem op_isA {X : Cx} : OpR X (compareOp .Is) rIsA := OpR.or op_isN op_isBl
theorem op_notA {X : Cx} : OpR X (compareOp .IsNot) rNotA := OpR.or op_notN op_notBl
theorem Tp.ne_non {K : KW} {B H : Hp} {v : V} {d : D} (h : Tp K B H v d) (hd : d ≠ .none) : v ≠ .non := by
  intro e
  subst e
  cases d with
  | none => exact hd rfl
  | bool _ => cases h
  | int _ => cases h
  | str _ => cases h
  | list _ => obtain ⟨_, _, e, _⟩ := h; cases e
  | tuple _ => cases h
  | dict _ =>
    rcases h with ⟨_, _, _, _, e, _⟩ | ⟨_, h⟩
    · cases e
    · cases h
theorem ol_is {K : KW} : OpL K rIsA (isD false) := fun ρ σ B H x y dx dy h Q S tx ty e k => by
  cases dy with
  | none =>
    rw [ty.non]
    refine .inl ⟨rfl, ?_⟩
    by_cases hn : dx = .none
    · subst hn
      cases e
      rw [tx.non]
      exact now S (.bl _) k
    · have q := tx.ne_non hn
      have e' : h = .sh (.bool false) := by cases dx <;> simp [isD] at e hn ⊢ <;> exact e.symm
      subst e'
      rw [decide_eq_false q]
      exact now S (.bl _) k
  | bool b =>
    cases dx with
    | bool a =>
      cases e
      rw [tx.bl, ty.bl]
      refine .inr ⟨a, b, rfl, rfl, ?_⟩
      have := now (v := .bl (false ^^ decide (a = b))) S (.bl _) k
      rwa [Bool.false_xor] at this
    | _ => simp [isD] at e
  | _ => cases dx <;> simp [isD] at e
theorem ol_not {K : KW} : OpL K rNotA (isD true) := fun ρ σ B H x y dx dy h Q S tx ty e k => by
  cases dy with
  | none =>
    rw [ty.non]
    refine .inl ⟨rfl, ?_⟩
    by_cases hn : dx = .none
    · subst hn
      cases e
      rw [tx.non]
      exact now S (.bl _) k
    · have q := tx.ne_non hn
      have e' : h = .sh (.bool true) := by cases dx <;> simp [isD] at e hn ⊢ <;> exact e.symm
      subst e'
      rw [decide_eq_false q]
      exact now S (.bl _) k
  | bool b =>
    cases dx with
    | bool a =>
      cases e
      rw [tx.bl, ty.bl]
      refine .inr ⟨a, b, rfl, rfl, ?_⟩
      have := now (v := .bl (true ^^ decide (a = b))) S (.bl _) k
      rwa [Bool.true_xor] at this
    | _ => simp [isD] at e
  | _ => cases dx <;> simp [isD] at e
def flatD : D → Bool
  | .none => true
  | .bool _ => true
  | .int _ => true
  | .str _ => true
  | _ => false
def inD (neg : Bool) : D → D → Option Hd
  | .str x, .str z => match x.cps.toList with
    | [c] => some (.sh (.bool (neg ^^ decide (c ∈ z.cps.toList))))
    | _ => none
  | d, .tuple ds => if flatD d && ds.all flatD then some (.sh (.bool (neg ^^ ds.any fun z => PyData.eqv z d))) else none
  | d, .list ds => if okEq d && okEq (.list ds) then some (.sh (.bool (neg ^^ ds.any fun z => PyData.eqv z d))) else none
  | _, _ => none
end GS
namespace GS
open PySem L2
def rInA (K : PySem.W.Frag) : R2 := fun x y H Q => (∃ (c : Nat) (z : Str), x = .str ⟨#[c]⟩ ∧ y = .str z ∧ Q (.bl (decide (c ∈ z.cps.toList))) H) ∨ (rIn K false x y H Q ∨ rInD K x y H Q)
def rNotInA (K : PySem.W.Frag) : R2 := fun x y H Q => (∃ (c : Nat) (z : Str), x = .str ⟨#[c]⟩ ∧ y = .str z ∧ Q (.bl (!decide (c ∈ z.cps.toList))) H) ∨ (rIn K true x y H Q ∨ rNotInD K x y H Q)
theorem op_inA {X : Cx} (hu : X.A.units + 65 < cLine) : OpR X (compareOp .In) (rInA X.K) := OpR.or op_in_sign (OpR.or op_in_seq (op_inD hu))
theorem op_notInA {X : Cx} (hu : X.A.units + 65 < cLine) : OpR X (compareOp .NotIn) (rNotInA X.K) := OpR.or op_notIn_sign (OpR.or op_notIn_seq (op_notInD hu))
section
variable {K : KW} {ρ : Rho} {σ : St} {B H : Hp} {v x y : V} {Q : VK}
theorem flat_of {d : D} (h : Rp K B v d) (f : flatD d = true) : flatV v = true := by
  cases h <;> first | rfl | cases f
theorem eqV_of {d e : D} (h : Rp K B x d) (g : Rp K B y e) (f : flatD d = true) (k : flatD e = true) : eqV x y = PyData.eqv d e := by
  cases h <;> first | (cases f; done) | (cases g <;> first | (cases k; done) | rfl | (simp [eqV, PyData.eqv]))
theorem any_of {e : D} (g : Rp K B y e) (k : flatD e = true) : ∀ {vs : List V} {ds : List D}, RpL K B vs ds → ds.all flatD = true → vs.all flatV = true ∧ inV y vs = ds.any fun z => PyData.eqv z e
  | _, _, .nil, _ => ⟨rfl, rfl⟩
  | _, _, .cons h t, a => by
    rw [List.all_cons, Bool.and_eq_true] at a
    obtain ⟨q1, q2⟩ := any_of g k t a.2
    refine ⟨by rw [List.all_cons, Bool.and_eq_true]; exact ⟨flat_of h a.1, q1⟩, ?_⟩
    show ((eqV _ y) || inV y _) = _
    rw [q2, eqV_of h g a.1 k, List.any_cons]
theorem str1 {x : Str} {c : Nat} (h : x.cps.toList = [c]) : x = ⟨#[c]⟩ := by
  obtain ⟨a⟩ := x
  congr
  exact Array.ext' (by simpa using h)
theorem ol_in : OpL K (rInA K) (inD false) := fun ρ σ B H x y dx dy h Q S tx ty e k => by
  cases dy with
  | str z =>
    cases dx with
    | str w =>
      replace e : (match w.cps.toList with | [c] => some (Hd.sh (.bool (false ^^ decide (c ∈ z.cps.toList)))) | _ => none) = some h := e
      split at e
      · rename_i c ec
        cases e
        rw [tx.str, ty.str, str1 ec]
        refine .inl ⟨c, z, rfl, rfl, ?_⟩
        have := now (v := .bl (false ^^ decide (c ∈ z.cps.toList))) S (.bl _) k
        rwa [Bool.false_xor] at this
      · cases e
    | _ => cases e
  | tuple ds =>
    have e' : (if flatD dx && ds.all flatD then some (.sh (.bool (false ^^ ds.any fun z => PyData.eqv z dx))) else none) = some h := by cases dx <;> exact e
    obtain ⟨c, rfl⟩ := if_some e'
    rw [Bool.and_eq_true] at c
    obtain ⟨a, vs, rfl, ha, ra⟩ := ty.tup
    have tx' : Rp K B x dx := by cases dx <;> first | exact tx | (cases c.1; done)
    obtain ⟨q1, q2⟩ := any_of tx' c.1 ra c.2
    refine .inr (.inl ⟨a, vs, rfl, .inr (same_t S.bh ha), flat_of tx' c.1, q1, ?_⟩)
    rw [if_neg Bool.false_ne_true, q2]
    have := now (v := .bl (false ^^ ds.any fun z => PyData.eqv z dx)) S (.bl _) k
    rwa [Bool.false_xor] at this
  | list ds =>
    have e' : (if okEq dx && okEq (.list ds) then some (.sh (.bool (false ^^ ds.any fun z => PyData.eqv z dx))) else none) = some h := by cases dx <;> exact e
    obtain ⟨c, rfl⟩ := if_some e'
    unfold okEq at c
    simp only [Bool.and_eq_true] at c
    refine .inr (.inr ⟨dx, ds, (tx.rp S.bh).dp _ c.1.1, (ty.rp S.bh).dp _ c.2.1, c.1.2, c.2.2, ?_⟩)
    have := now (v := .bl (false ^^ ds.any fun z => PyData.eqv z dx)) S (.bl _) k
    rwa [Bool.false_xor] at this
  | _ => cases dx <;> cases (show none = some h from e)
theorem ol_notIn : OpL K (rNotInA K) (inD true) := fun ρ σ B H x y dx dy h Q S tx ty e k => by
  cases dy with
  | str z =>
    cases dx with
    | str w =>
      replace e : (match w.cps.toList with | [c] => some (Hd.sh (.bool (true ^^ decide (c ∈ z.cps.toList)))) | _ => none) = some h := e
      split at e
      · rename_i c ec
        cases e
        rw [tx.str, ty.str, str1 ec]
        refine .inl ⟨c, z, rfl, rfl, ?_⟩
        have := now (v := .bl (true ^^ decide (c ∈ z.cps.toList))) S (.bl _) k
        rwa [Bool.true_xor] at this
      · cases e
    | _ => cases e
  | tuple ds =>
    have e' : (if flatD dx && ds.all flatD then some (.sh (.bool (true ^^ ds.any fun z => PyData.eqv z dx))) else none) = some h := by cases dx <;> exact e
    obtain ⟨c, rfl⟩ := if_some e'
    rw [Bool.and_eq_true] at c
    obtain ⟨a, vs, rfl, ha, ra⟩ := ty.tup
    have tx' : Rp K B x dx := by cases dx <;> first | exact tx | (cases c.1; done)
    obtain ⟨q1, q2⟩ := any_of tx' c.1 ra c.2
    refine .inr (.inl ⟨a, vs, rfl, .inr (same_t S.bh ha), flat_of tx' c.1, q1, ?_⟩)
    rw [if_pos rfl, q2]
    have := now (v := .bl (true ^^ ds.any fun z => PyData.eqv z dx)) S (.bl _) k
    rwa [Bool.true_xor] at this
  | list ds =>
    have e' : (if okEq dx && okEq (.list ds) then some (.sh (.bool (true ^^ ds.any fun z => PyData.eqv z dx))) else none) = some h := by cases dx <;> exact e
    obtain ⟨c, rfl⟩ := if_some e'
    unfold okEq at c
    simp only [Bool.and_eq_true] at c
    refine .inr (.inr ⟨dx, ds, (tx.rp S.bh).dp _ c.1.1, (ty.rp S.bh).dp _ c.2.1, c.1.2, c.2.2, ?_⟩)
    have := now (v := .bl (true ^^ ds.any fun z => PyData.eqv z dx)) S (.bl _) k
    rwa [Bool.true_xor] at this
  | _ => cases dx <;> cases (show none = some h from e)
def ixD : D → D → Option Hd
  | .list ds, .int i => (atI ds i).map Hd.sh
  | .tuple ds, .int i => (atI ds i).map Hd.sh
  | .str z, .int i => if z.length ≤ sizeLine then (atI z.cps.toList i).map fun c => Hd.sh (.str ⟨#[c]⟩) else none
  | _, _ => none
theorem RpL.atI {vs : List V} {ds : List D} (h : RpL K B vs ds) {i : Int} {d : D} (e : atI ds i = some d) : ∃ v, atI vs i = some v ∧ Rp K B v d := by
  unfold L2.atI at e ⊢
  rw [h.length]
  cases q : ixN ds.length i with
  | none => rw [q] at e; cases e
  | some j =>
    rw [q] at e
    exact h.get e
theorem ol_ix : OpL K (rIx K) ixD := fun ρ σ B H x y dx dy h Q S tx ty e k => by
  cases dy with
  | int i =>
    rw [ty.int]
    cases dx with
    | list ds =>
      obtain ⟨d, e1, rfl⟩ := Option.map_eq_some_iff.mp e
      obtain ⟨a, vs, rfl, ha, ra⟩ := tx
      obtain ⟨v, q1, q2⟩ := ra.atI e1
      exact .inl ⟨a, vs, i, v, rfl, rfl, ha, q1, now S q2 k⟩
    | tuple ds =>
      obtain ⟨d, e1, rfl⟩ := Option.map_eq_some_iff.mp e
      obtain ⟨a, vs, rfl, ha, ra⟩ := tx.tup
      obtain ⟨v, q1, q2⟩ := ra.atI e1
      exact .inr (.inl ⟨a, vs, i, v, rfl, rfl, same_t S.bh ha, q1, now S q2 k⟩)
    | str z =>
      have e' : (if z.length ≤ sizeLine then (L2.atI z.cps.toList i).map fun c => Hd.sh (.str ⟨#[c]⟩) else none) = some h := e
      split at e'
      · obtain ⟨c, e1, rfl⟩ := Option.map_eq_some_iff.mp e'
        rw [tx.str]
        exact .inr (.inr ⟨z, i, c, rfl, rfl, by assumption, e1, now S (.str _) k⟩)
      · cases e'
    | _ => cases e
  | _ => cases dx <;> cases (show none = some h from e)
end
section
variable {X : Cx} {C : Ct} {a b c e : Expr} {ta tb tc te : TE} {fa fb fc fe : EF} {pos p2 : Pos}
def cutD (ds : List D) (lo hi : Option Int) : List D := (ds.drop (HT.sIx ds.length 0 lo)).take (HT.sIx ds.length ds.length hi - HT.sIx ds.length 0 lo)
def slD (lo hi : Option Int) : D → Option Hd
  | .list ds => some (.fr (.list (cutD ds lo hi)))
  | .tuple ds => some (.sh (.tuple (cutD ds lo hi)))
  | .str z => if z.length ≤ sizeLine then some (.sh (.str (cutS z lo hi))) else none
  | _ => none
def rSlAll (K : PySem.W.Frag) : V → Option Int → Option Int → Hp → VK → Prop := fun x lo hi H Q => rSlL K x lo hi H Q ∨ (rSlX K x lo hi H Q ∨ rSlS x lo hi H Q)
theorem sl_all : SlR X (rSlAll X.K) := SlR.or sl_list (SlR.or sl_tupX sl_str)
theorem RpL.cut {K : KW} {B : Hp} {vs : List V} {ds : List D} (h : RpL K B vs ds) (lo hi : Option Int) : RpL K B (cutV vs lo hi) (cutD ds lo hi) := by
  unfold cutV cutD
  rw [h.length]
  exact (h.drop _).take _
theorem ls_all {K : KW} {ρ : Rho} {σ : St} {B H : Hp} {x : V} {Q : VK} {d : D} {h : Hd} {lo hi : Option Int} (S : Sim K ρ σ B H) (tx : Tp K B H x d) (e : slD lo hi d = some h)
    (k : ∀ v B' H', Sim K ρ σ B' H' → Ext ρ σ B H ρ σ B' H' → HdOk K (New ρ σ H) ρ σ B' H' v h → Q v H') : rSlAll K x lo hi H Q := by
  cases d with
  | list ds =>
    cases e
    obtain ⟨a, vs, rfl, ha, ra⟩ := tx
    exact .inl ⟨a, vs, rfl, ha, newL S (ra.cut lo hi) k⟩
  | tuple ds =>
    cases e
    obtain ⟨a, vs, rfl, ha, ra⟩ := tx.tupX
    refine .inr (.inl ⟨a, vs, rfl, (same_x S.bh ha).sq, fun w => ?_, fun _ => newT S (ra.cut lo hi) k⟩)
    have ec : cutD ds lo hi = ds := by
      unfold cutD
      rw [← ra.length, w.1, w.2, List.drop_zero, Nat.sub_zero, ra.length, List.take_length]
    rw [ec] at k
    exact now S (.tup ha ra) k
  | str z =>
    obtain ⟨c, rfl⟩ := if_some e
    rw [tx.str]
    exact .inr (.inr ⟨z, rfl, c, now S (.str _) k⟩)
  | _ => cases e
/-- a part of a slice: nothing, or an int -/
inductive PartOk (X : Cx) (C : Ct) : Option Expr → TO → Option EF → Prop
  | non : PartOk X C none tNoPart none
  | some {e : Expr} {t : TE} {f : EF} : SE X C e t f → PartOk X C (some e) (tPart t) (some f)
def ePart (f : Option EF) (ρ : Rho) (k : Option Int → Rho → RE) : RE := match f with
  | none => k none ρ
  | some g => bindE (eSet g ρ) fun h ρ1 => match getH ρ1 h with
    | some (.int i) => k (some i) ρ1
    | _ => .stuck
def eSl (fe : EF) (fl fh : Option EF) : EF := fun ρ => bindE (eSet fe ρ) fun h ρ1 => ePart fl ρ1 fun lo ρ2 => ePart fh ρ2 fun hi ρ3 => match (getH ρ3 h).bind (slD lo hi) with
  | some r => .ok r ρ3
  | none => .stuck
theorem PartOk.pe {o : Option Expr} {t : TO} {f : Option EF} (h : PartOk X C o t f) : PO X o t := by
  cases h with
  | non => exact po_none
  | some s => exact po_some s.pe
theorem PartOk.bind {o : Option Expr} {t : TO} {f : Option EF} (h : PartOk X C o t f) {ρ : Rho} {σ : St} {B H : Hp} {Q : VK} (S : Sim C.K ρ σ B H) {k : Option Int → Rho → RE} {Q' : Option Int → Hp → Prop} (g : GoodE C ρ σ B H Q (ePart f ρ k))
    (q : ∀ i ρ1 B1 H1, Sim C.K ρ1 σ B1 H1 → Ext ρ σ B H ρ1 σ B1 H1 → GoodE C ρ1 σ B1 H1 Q (k i ρ1) → Q' i H1) : t σ H Q' := by
  cases h with
  | non => exact q none ρ B H S Ext.refl g
  | some s =>
    refine s.lk.setBind S g fun hd ρ1 x B1 H1 S1 e1 y1 g1 => ?_
    split at g1
    · rename_i i ei
      exact ⟨i, (S1.tp y1 ei).int, q (Option.some i) ρ1 B1 H1 S1 e1 g1⟩
    · exact g1.elim
theorem se_slice {lo hi : Option Expr} {tl th : TO} {fl fh : Option EF} (le : SE X C e te fe) (hl : PartOk X C lo tl fl) (hh : PartOk X C hi th fh) (hk : X.K = C.K := by rfl) :
    SE X C (.Subscript e (.Slice lo hi none p2) pos) (tSl (rSlAll C.K) te tl th) (eSl fe fl fh) := by
  refine ⟨by rw [← hk]; exact pe_slice sl_all le.pe hl.pe hh.pe, fun ρ σ B H Q S g => ?_⟩
  refine le.lk.setBind S g fun hd ρ1 x B1 H1 S1 e1 y1 g1 => ?_
  refine hl.bind S1 g1 fun i ρ2 B2 H2 S2 e2 g2 => ?_
  refine hh.bind S2 g2 fun j ρ3 B3 H3 S3 e3 g3 => ?_
  split at g3
  · rename_i r er
    obtain ⟨d, ed, es⟩ := Option.bind_eq_some_iff.mp er
    exact ls_all S3 (S3.tp (N := fun _ => True) (HdOk.ext (e2.trans e3) y1) ed) es g3
  · exact g3.elim
def GoodT (C : Ct) (ρ : Rho) (σ : St) (B H : Hp) (Q : Bool → Hp → Prop) : RE → Prop
  | .ok (.sh (.bool b)) ρ' => ∀ B' H', Sim C.K ρ' σ B' H' → Ext ρ σ B H ρ' σ B' H' → Q b H'
  | .exc x ρ' => ∀ cls dct B' H', Sim C.K ρ' σ B' H' → Ext ρ σ B H ρ' σ B' H' → XcOk C B' x cls dct → C.W cls dct σ H'
  | _ => False
def LkT (C : Ct) (t : TT) (f : EF) : Prop := ∀ ρ σ B H Q, Sim C.K ρ σ B H → GoodT C ρ σ B H Q (f ρ) → t σ H Q
structure ST (X : Cx) (C : Ct) (e : Expr) (t : TT) (f : EF) : Prop where
  pt : PT X e t
  lk : LkT C t f
structure SW (X : Cx) (C : Ct) (e : Expr) (t : TT) (f : EF) : Prop where
  pw : PW X e t
  lk : LkT C t f
theorem SW.st {t : TT} {f : EF} (h : SW X C e t f) : ST X C e t f := ⟨h.pw.pt, h.lk⟩
theorem GoodT.ext {ρ ρ1 : Rho} {σ : St} {B H B1 H1 : Hp} {Q : Bool → Hp → Prop} (x : Ext ρ σ B H ρ1 σ B1 H1) : ∀ {r : RE}, GoodT C ρ σ B H Q r → GoodT C ρ1 σ B1 H1 Q r := fun {r} g => by
  cases r with
  | stuck => exact g
  | exc c ρ2 => exact fun cls dct B' H' s y => g cls dct B' H' s (x.trans y)
  | ok h ρ2 =>
    cases h with
    | sh d =>
      cases d with
      | bool b => exact fun B' H' s y => g B' H' s (x.trans y)
      | _ => exact g
    | _ => exact g
/-- a bool: looked at -/
def eB (f : EF) : EF := fun ρ => bindE (eSet f ρ) fun h ρ1 => match getH ρ1 h with
  | some (.bool b) => .ok (.sh (.bool b)) ρ1
  | _ => .stuck
theorem lk_B {t : TE} {f : EF} (l : LkE C t f) : LkT C (tB t) (eB f) := fun ρ σ B H Q S g => by
  refine l.set ρ σ B H _ S ?_
  unfold eB at g
  cases e : eSet f ρ with
  | stuck => rw [e] at g; exact g
  | exc c ρ1 => rw [e] at g; exact g
  | ok h ρ1 =>
    rw [e] at g
    replace g : GoodT C ρ σ B H Q (match getH ρ1 h with | some (.bool b) => .ok (.sh (.bool b)) ρ1 | _ => .stuck) := g
    intro v B1 H1 S1 x y
    split at g
    · rename_i b eb
      exact ⟨b, (S1.tp y eb).bl, g B1 H1 S1 x⟩
    · exact g.elim
theorem st_val {t : TE} {f : EF} (h : SE X C e t f) (he : ∀ whole, isTrue e X.env whole = (do let v ← whole; standAt e.pos; holding [v] (truthy v)) := by intro _; rfl) : ST X C e (tB t) (eB f) := ⟨pt_val h.pe he, lk_B h.lk⟩
theorem se_cmp {op : CmpOp} {r : R2} {o : D → D → Option Hd} (hr : OpL C.K r o) (ho : OpR X (compareOp op) r) (la : SE X C a ta fa) (lb : SE X C b tb fb) (hm : behindInMarks op b = false := by first | exact nomark _ | rfl) : SE X C (.Compare a [op] [b] pos) (tOp r ta tb) (eBin o fa fb) :=
  ⟨pe_cmpR ho la.pe lb.pe hm, lk_op hr la.lk lb.lk⟩
theorem st_cmp {op : CmpOp} {r : R2} {o : D → D → Option Hd} (hr : OpL C.K r o) (ho : OpR X (compareOp op) r) (la : SE X C a ta fa) (lb : SE X C b tb fb) (hm : behindInMarks op b = false := by first | exact nomark _ | rfl) : ST X C (.Compare a [op] [b] pos) (tTest (tOp r ta tb)) (eB (eBin o fa fb)) :=
  ⟨pt_cmpR ho la.pe lb.pe hm, lk_B (lk_op hr la.lk lb.lk)⟩
/-- a test, then what follows -/
theorem LkT.bind {t : TT} {f : EF} (l : LkT C t f) {ρ : Rho} {σ : St} {B H : Hp} (S : Sim C.K ρ σ B H) {Q' : Bool → Hp → Prop}
    (hx : ∀ x ρ1, f ρ = .exc x ρ1 → ∀ cls dct B' H', Sim C.K ρ1 σ B' H' → Ext ρ σ B H ρ1 σ B' H' → XcOk C B' x cls dct → C.W cls dct σ H')
    (h : ∀ b ρ1, f ρ = .ok (.sh (.bool b)) ρ1 → ∀ B1 H1, Sim C.K ρ1 σ B1 H1 → Ext ρ σ B H ρ1 σ B1 H1 → Q' b H1) (hs : (∃ b ρ1, f ρ = .ok (.sh (.bool b)) ρ1) ∨ ∃ x ρ1, f ρ = .exc x ρ1) : t σ H Q' := by
  refine l ρ σ B H Q' S ?_
  rcases hs with ⟨b, ρ1, e⟩ | ⟨x, ρ1, e⟩
  · rw [e]; exact h b ρ1 e
  · rw [e]; exact hx x ρ1 e
def bindB (r : RE) (k : Bool → Rho → RE) : RE := match r with
  | .ok (.sh (.bool b)) ρ => k b ρ
  | .exc x ρ => .exc x ρ
  | _ => .stuck
theorem LkT.bindE {t : TT} {f : EF} (l : LkT C t f) {ρ : Rho} {σ : St} {B H : Hp} (S : Sim C.K ρ σ B H) {Q : VK} {k : Bool → Rho → RE} {Q' : Bool → Hp → Prop} (g : GoodE C ρ σ B H Q (bindB (f ρ) k))
    (h : ∀ b ρ1 B1 H1, Sim C.K ρ1 σ B1 H1 → Ext ρ σ B H ρ1 σ B1 H1 → GoodE C ρ1 σ B1 H1 Q (k b ρ1) → Q' b H1) : t σ H Q' := by
  refine l ρ σ B H Q' S ?_
  cases e : f ρ with
  | stuck => rw [e] at g; exact g
  | exc x ρ1 => rw [e] at g; exact g
  | ok hd ρ1 =>
    rw [e] at g
    cases hd with
    | sh d =>
      cases d with
      | bool b => exact fun B1 H1 s x => h b ρ1 B1 H1 s x (GoodE.ext x g)
      | _ => exact g
    | _ => exact g
theorem LkT.bindT {t : TT} {f : EF} (l : LkT C t f) {ρ : Rho} {σ : St} {B H : Hp} (S : Sim C.K ρ σ B H) {Q : Bool → Hp → Prop} {k : Bool → Rho → RE} {Q' : Bool → Hp → Prop} (g : GoodT C ρ σ B H Q (bindB (f ρ) k))
    (h : ∀ b ρ1 B1 H1, Sim C.K ρ1 σ B1 H1 → Ext ρ σ B H ρ1 σ B1 H1 → GoodT C ρ1 σ B1 H1 Q (k b ρ1) → Q' b H1) : t σ H Q' := by
  refine l ρ σ B H Q' S ?_
  cases e : f ρ with
  | stuck => rw [e] at g; exact g
  | exc x ρ1 => rw [e] at g; exact g
  | ok hd ρ1 =>
    rw [e] at g
    cases hd with
    | sh d =>
      cases d with
      | bool b => exact fun B1 H1 s x => h b ρ1 B1 H1 s x (GoodT.ext x g)
      | _ => exact g
    | _ => exact g
def eNot (f : EF) : EF := fun ρ => bindB (f ρ) fun b ρ1 => .ok (.sh (.bool (!b))) ρ1
def eAnd (f g : EF) : EF := fun ρ => bindB (f ρ) fun b ρ1 => if b then g ρ1 else .ok (.sh (.bool false)) ρ1
def eOr (f g : EF) : EF := fun ρ => bindB (f ρ) fun b ρ1 => if b then .ok (.sh (.bool true)) ρ1 else g ρ1
def eIf (f g h : EF) : EF := fun ρ => bindB (f ρ) fun b ρ1 => if b then g ρ1 else h ρ1
variable {t u w : TT} {f g h : EF}
theorem st_not (l : ST X C a t f) : ST X C (.UnaryOp .Not a pos) (tNot t) (eNot f) := ⟨pt_not l.pt, fun ρ σ B H Q S g => l.lk.bindT S g fun b ρ1 B1 H1 S1 e1 g1 => g1 B1 H1 S1 Ext.refl⟩
theorem sw_one {op : BoolOp} (l : ST X C a t f) : SW X C (.BoolOp op [a] pos) t f := by
  cases op
  · exact ⟨pw_and1 l.pt, l.lk⟩
  · exact ⟨pw_or1 l.pt, l.lk⟩
theorem sw_and {rest : List Expr} (l : ST X C a t f) (m : SW X C (.BoolOp .And (b :: rest) pos) u g) : SW X C (.BoolOp .And (a :: b :: rest) pos) (tAnd t u) (eAnd f g) :=
  ⟨pw_and l.pt m.pw, fun ρ σ B H Q S gd => l.lk.bindT S gd fun b ρ1 B1 H1 S1 e1 g1 => by
    cases b with
    | true => exact m.lk ρ1 σ B1 H1 Q S1 g1
    | false => exact g1 B1 H1 S1 Ext.refl⟩
theorem sw_or {rest : List Expr} (l : ST X C a t f) (m : SW X C (.BoolOp .Or (b :: rest) pos) u g) : SW X C (.BoolOp .Or (a :: b :: rest) pos) (tOr t u) (eOr f g) :=
  ⟨pw_or l.pt m.pw, fun ρ σ B H Q S gd => l.lk.bindT S gd fun b ρ1 B1 H1 S1 e1 g1 => by
    cases b with
    | false => exact m.lk ρ1 σ B1 H1 Q S1 g1
    | true => exact g1 B1 H1 S1 Ext.refl⟩
theorem se_one {op : BoolOp} (l : SE X C a ta fa) : SE X C (.BoolOp op [a] pos) ta fa := ⟨pe_one l.pe, l.lk⟩
theorem se_and {rest : List Expr} (l : SE X C a ta fa) (m : SE X C (.BoolOp .And (b :: rest) pos) tb fb) : SE X C (.BoolOp .And (a :: b :: rest) pos) (tAndV ta tb) (eAnd (eB fa) fb) := ⟨pe_and l.pe m.pe, fun ρ σ B H Q S g => by
  have q : tB ta σ H fun b H1 => if b = true then tb σ H1 Q else Q (.bl false) H1 := (lk_B l.lk).bindE S g fun b ρ1 B1 H1 S1 e1 g1 => by
    cases b with
    | true => exact m.lk ρ1 σ B1 H1 Q S1 g1
    | false => exact g1 (.bl false) B1 H1 S1 Ext.refl (.bl _)
  exact q⟩
theorem se_or {rest : List Expr} (l : SE X C a ta fa) (m : SE X C (.BoolOp .Or (b :: rest) pos) tb fb) : SE X C (.BoolOp .Or (a :: b :: rest) pos) (tOrV ta tb) (eOr (eB fa) fb) := ⟨pe_or l.pe m.pe, fun ρ σ B H Q S g => by
  have q : tB ta σ H fun b H1 => if b = true then Q (.bl true) H1 else tb σ H1 Q := (lk_B l.lk).bindE S g fun b ρ1 B1 H1 S1 e1 g1 => by
    cases b with
    | false => exact m.lk ρ1 σ B1 H1 Q S1 g1
    | true => exact g1 (.bl true) B1 H1 S1 Ext.refl (.bl _)
  exact q⟩
theorem se_if (l : ST X C c t f) (la : SE X C a ta fa) (lb : SE X C b tb fb) : SE X C (.IfExp c a b pos) (tIf t ta tb) (eIf f fa fb) := ⟨pe_ifExp l.pt la.pe lb.pe, fun ρ σ B H Q S g => l.lk.bindE S g fun b ρ1 B1 H1 S1 e1 g1 => by
  cases b with
  | true => exact la.lk ρ1 σ B1 H1 Q S1 g1
  | false => exact lb.lk ρ1 σ B1 H1 Q S1 g1⟩
def eChain (o o' : D → D → Option Hd) (fa fb fc : EF) : EF := fun ρ => bindE (eSet fa ρ) fun ha ρ1 => bindE (eSet fb ρ1) fun hb ρ2 => match getH ρ2 ha, getH ρ2 hb with
  | some da, some db => match o da db with
    | some (.sh (.bool b)) => if b then bindE (eSet fc ρ2) (fun hc ρ3 => match getH ρ3 hb, getH ρ3 hc with
      | some db', some dc => match o' db' dc with
        | some h => .ok h ρ3
        | none => .stuck
      | _, _ => .stuck) else .ok (.sh (.bool false)) ρ2
    | _ => .stuck
  | _, _ => .stuck
theorem lk_chain {r r' : R2} {o o' : D → D → Option Hd} (hr : OpL C.K r o) (hr' : OpL C.K r' o') (la : LkE C ta fa) (lb : LkE C tb fb) (lc : LkE C tc fc) : LkE C (tChain r r' ta tb tc) (eChain o o' fa fb fc) := fun ρ σ B H Q S g => by
  refine la.setBind S g fun ha ρ1 x B1 H1 S1 e1 y1 g1 => ?_
  refine lb.setBind S1 g1 fun hb ρ2 y B2 H2 S2 e2 y2 g2 => ?_
  split at g2
  · rename_i da db ea eb
    split at g2
    · rename_i b eh
      refine hr ρ2 σ B2 H2 x y da db _ _ S2 (S2.tp (N := fun _ => True) (HdOk.ext e2 y1) ea) (S2.tp y2 eb) eh fun v B3 H3 S3 e3 y3 => ?_
      cases (show Rp C.K B3 v (.bool b) from y3)
      refine ⟨b, rfl, ?_⟩
      cases b with
      | true =>
        rw [if_pos rfl] at g2 ⊢
        refine lc.setBind S3 (GoodE.ext e3 g2) fun hc ρ4 z B4 H4 S4 e4 y4 g4 => ?_
        split at g4
        · rename_i db' dc eb' ec
          split at g4
          · rename_i h eh'
            exact hr' ρ4 σ B4 H4 y z db' dc h Q S4 (S4.tp (N := fun _ => True) (HdOk.ext (e3.trans e4) y2) eb') (S4.tp y4 ec) eh' g4
          · exact g4.elim
        · exact g4.elim
      | false =>
        rw [if_neg Bool.false_ne_true] at g2 ⊢
        exact g2 (.bl false) B3 H3 S3 e3 (.bl _)
    · exact g2.elim
  · exact g2.elim
theorem st_chain {op op' : CmpOp} {r r' : R2} {o o' : D → D → Option Hd} (hr : OpL C.K r o) (ho : OpR X (compareOp op) r) (hr' : OpL C.K r' o') (ho' : OpR X (compareOp op') r') (la : SE X C a ta fa) (lb : SE X C b tb fb) (lc : SE X C c tc fc)
    (hm : lastMarks [op, op'] [b, c] = false := by with_unfolding_all rfl) : ST X C (.Compare a [op, op'] [b, c] pos) (tTest (tChain r r' ta tb tc)) (eB (eChain o o' fa fb fc)) := ⟨pt_chain ho ho' la.pe lb.pe lc.pe hm, lk_B (lk_chain hr hr' la.lk lb.lk lc.lk)⟩
end
end GS
namespace GS
open PySem L2
section
variable {X : Cx} {C : Ct} {e : Expr} {es : List Expr} {te : TE} {fe : EF} {pos : Pos}
/-- a name, looked at -/
def eVb (i : Nat) : EF := fun ρ => match slot ρ i with
  | some _ => .ok (.bw i) ρ
  | none => .stuck
/-- a name whose datum is shared from here on -/
def eMv (i : Nat) : EF := fun ρ => match slot ρ i with
  | some ⟨d, .sh⟩ => .ok (.sh d) ρ
  | some ⟨d, .ow⟩ => .ok (.sh d) (ρ.set i (some ⟨d, .sh⟩))
  | _ => .stuck
def eC (d : D) : EF := fun ρ => .ok (.sh d) ρ
theorem lk_vb {i : Nat} : LkE C (tVar i) (eVb i) := fun ρ σ B H Q S g => by
  unfold eVb at g
  cases h : slot ρ i with
  | none => rw [h] at g; exact g.elim
  | some c =>
    rw [h] at g
    obtain ⟨v, e, q⟩ := S.sl i c (slot_some h)
    exact ⟨v, e, g v B H S Ext.refl e⟩
theorem set_get {ρ : Rho} {i j : Nat} {c : Option Cel} {x : Option Cel} (h : (ρ.set i c)[j]? = some x) : (i = j ∧ x = c) ∨ (i ≠ j ∧ ρ[j]? = some x) := by
  rw [List.getElem?_set] at h
  by_cases e : i = j
  · rw [if_pos e] at h
    split at h
    · cases h; exact .inl ⟨e, rfl⟩
    · cases h
  · rw [if_neg e] at h
    exact .inr ⟨e, h⟩
theorem set_at {ρ : Rho} {i : Nat} {c : Option Cel} (h : i < ρ.length) : (ρ.set i c)[i]? = some c := by
  rw [List.getElem?_set, if_pos rfl, if_pos h]
theorem set_other {ρ : Rho} {i j : Nat} {c : Option Cel} (h : i ≠ j) : (ρ.set i c)[j]? = ρ[j]? := by
  rw [List.getElem?_set, if_neg h]
theorem lt_of {ρ : Rho} {i : Nat} {x : Option Cel} (h : ρ[i]? = some x) : i < ρ.length := (List.getElem?_eq_some_iff.mp h).1
/-- an owned slot is given up: the datum is shared from here on -/
theorem Sim.freeze {K : KW} {ρ : Rho} {σ : St} {B H : Hp} (S : Sim K ρ σ B H) {i : Nat} {d : D} (hi : ρ[i]? = some (some ⟨d, .ow⟩)) :
    ∃ v B1, σ[i]? = some (some v) ∧ Sim K (ρ.set i (some ⟨d, .sh⟩)) σ B1 H ∧ Ext ρ σ B H (ρ.set i (some ⟨d, .sh⟩)) σ B1 H ∧ Rp K B1 v d := by
  obtain ⟨v, e, q⟩ := S.sl i _ hi
  rcases q with ⟨q, _⟩ | ⟨_, a, rfl, hb, ho⟩
  · cases q
  obtain ⟨o, eo⟩ := ho.some
  have own : OwnA ρ σ a := ⟨i, _, hi, by simp, e⟩
  have sB : Same B (upd B a o) := fun b u e => by rw [upd_ne (ne_of_none e hb)]; exact e
  have rp : Rp K (upd B a o) (.ref a) d := by
    rw [eo] at ho
    have ho := ho.mono sB
    cases d with
    | list ds =>
      obtain ⟨vs, e1, e2⟩ := ho
      cases e1
      exact .lst (.inl (.inl upd_same)) e2
    | dict ps =>
      obtain ⟨ep, b, xs, e1, e2⟩ := ho
      cases e1
      exact .dct upd_same e2
    | _ => exact ho.elim
  refine ⟨.ref a, upd B a o, e, ⟨fun b u z => ?_, by rw [List.length_set]; exact S.len, fun j c hj => ?_, fun j k cj ck b hj hk nj nk ej ek => ?_⟩, ⟨sB, fun b u z => ?_, fun b u z _ => z, fun b z => ?_, fun j c hj hc => ?_, fun j c hj hc => ?_⟩, rp⟩
  · by_cases h : b = a
    · subst h; rw [upd_same] at z; cases z; exact eo
    · rw [upd_ne h] at z; exact S.bh _ _ z
  · rcases set_get hj with ⟨rfl, ec⟩ | ⟨ne, hj⟩
    · cases ec
      exact ⟨.ref a, e, .inl ⟨rfl, rp⟩⟩
    · obtain ⟨v, ev, q⟩ := S.sl j c hj
      refine ⟨v, ev, q.mono sB fun b hv hb' ho' hf => ⟨?_, rfl⟩⟩
      have nb : b ≠ a := fun z => by
        subst z hv
        exact ne (S.dj i j _ c b hi hj (by simp) hf e ev)
      rw [upd_ne nb]; exact hb'
  · rcases set_get hj with ⟨rfl, ec⟩ | ⟨_, hj⟩
    · cases ec; exact absurd rfl nj
    · rcases set_get hk with ⟨rfl, ec⟩ | ⟨_, hk⟩
      · cases ec; exact absurd rfl nk
      · exact S.dj j k cj ck b hj hk nj nk ej ek
  · by_cases h : b = a
    · subst h; exact .inr (.inr own)
    · rw [upd_ne h] at z; exact .inl z
  · obtain ⟨j, c, hj, hc, ej⟩ := z
    rcases set_get hj with ⟨rfl, ec⟩ | ⟨_, hj⟩
    · cases ec; exact absurd rfl hc
    · exact .inr ⟨j, c, hj, hc, ej⟩
  · have ne : i ≠ j := fun z => by
      subst z
      rw [hi] at hj
      cases hj
      cases hc
    exact ⟨rfl, c, by rw [set_other ne]; exact hj, hc⟩
  · rcases set_get hj with ⟨rfl, ec⟩ | ⟨_, hj⟩
    · cases ec; cases hc
    · exact ⟨c, hj, hc⟩
/-- .. it is nobody's from here on -/
theorem Sim.give {K : KW} {ρ : Rho} {σ : St} {B H : Hp} (S : Sim K ρ σ B H) {i : Nat} {d : D} (hi : ρ[i]? = some (some ⟨d, .ow⟩)) :
    ∃ a, σ[i]? = some (some (.ref a)) ∧ Sim K (ρ.set i none) σ B H ∧ Ext ρ σ B H (ρ.set i none) σ B H ∧ HdOk K (New ρ σ H) (ρ.set i none) σ B H (.ref a) (.fr d) := by
  obtain ⟨v, e, q⟩ := S.sl i _ hi
  rcases q with ⟨q, _⟩ | ⟨_, a, rfl, hb, ho⟩
  · cases q
  have own : OwnA ρ σ a := ⟨i, _, hi, by simp, e⟩
  refine ⟨a, e, ⟨S.bh, by rw [List.length_set]; exact S.len, fun j c hj => ?_, fun j k cj ck b hj hk nj nk ej ek => ?_⟩, ⟨Same.refl B, fun b u z => .inl z, fun b u z _ => z, fun b z => ?_, fun j c hj hc => ?_, fun j c hj hc => ?_⟩, a, rfl, hb, ho, fun z => ?_, .inr own⟩
  · rcases set_get hj with ⟨rfl, ec⟩ | ⟨ne, hj⟩
    · cases ec
    · exact S.sl j c hj
  · rcases set_get hj with ⟨rfl, ec⟩ | ⟨_, hj⟩
    · cases ec
    · rcases set_get hk with ⟨rfl, ec⟩ | ⟨_, hk⟩
      · cases ec
      · exact S.dj j k cj ck b hj hk nj nk ej ek
  · obtain ⟨j, c, hj, hc, ej⟩ := z
    rcases set_get hj with ⟨rfl, ec⟩ | ⟨_, hj⟩
    · cases ec
    · exact .inr ⟨j, c, hj, hc, ej⟩
  · have ne : i ≠ j := fun z => by
      subst z
      rw [hi] at hj
      cases hj
      cases hc
    exact ⟨rfl, c, by rw [set_other ne]; exact hj, hc⟩
  · rcases set_get hj with ⟨rfl, ec⟩ | ⟨_, hj⟩
    · cases ec
    · exact ⟨c, hj, hc⟩
  · obtain ⟨j, c, hj, hc, ej⟩ := z
    rcases set_get hj with ⟨rfl, ec⟩ | ⟨ne, hj⟩
    · cases ec
    · exact ne (S.dj i j _ c a hi hj (by simp) hc e ej)
theorem lk_mv {i : Nat} : LkE C (tVar i) (eMv i) := fun ρ σ B H Q S g => by
  unfold eMv at g
  cases h : slot ρ i with
  | none => rw [h] at g; exact g.elim
  | some c =>
    rw [h] at g
    obtain ⟨d, fl⟩ := c
    have hi := slot_some h
    cases fl with
    | sh =>
      obtain ⟨v, e, q⟩ := S.sl i _ hi
      rcases q with ⟨_, q⟩ | ⟨q, _⟩
      · exact ⟨v, e, g v B H S Ext.refl q⟩
      · exact absurd rfl q
    | ow =>
      obtain ⟨v, B1, e, S1, x1, r⟩ := S.freeze hi
      exact ⟨v, e, g v B1 H S1 x1 r⟩
    | io => exact g.elim
theorem se_vb (i : Nat) {x : Str} (hN : X.N[i]? = some x := by rfl) (hv : Vis X.env.scope x := by first | exact Or.inl rfl | exact Or.inr (Or.inl rfl) | exact Or.inr (Or.inr rfl)) (hd : (x == ("__debug__" : Str)) = false := by decide)
    (hcd : (x == ("__classdict__" : Str)) = false := by decide) : SE X C (.Name x pos) (tVar i) (eVb i) := ⟨pe_var hN hv hd hcd, lk_vb⟩
theorem se_mv (i : Nat) {x : Str} (hN : X.N[i]? = some x := by rfl) (hv : Vis X.env.scope x := by first | exact Or.inl rfl | exact Or.inr (Or.inl rfl) | exact Or.inr (Or.inr rfl)) (hd : (x == ("__debug__" : Str)) = false := by decide)
    (hcd : (x == ("__classdict__" : Str)) = false := by decide) : SE X C (.Name x pos) (tVar i) (eMv i) := ⟨pe_var hN hv hd hcd, lk_mv⟩
theorem lk_c {v : V} {d : D} (h : ∀ B, Rp C.K B v d) : LkE C (tC v) (eC d) := fun ρ σ B H Q S g => g v B H S Ext.refl (h B)
theorem se_int {i : Int} {j : Nat} : SE X C (.Constant (.int i) j pos) (tC (.int i)) (eC (.int i)) := ⟨pe_int, lk_c fun _ => .int i⟩
theorem se_str {i : Str} {j : Nat} : SE X C (.Constant (.str i) j pos) (tC (.str i)) (eC (.str i)) := ⟨pe_str, lk_c fun _ => .str i⟩
theorem se_bl {i : Bool} {j : Nat} : SE X C (.Constant (.bool i) j pos) (tC (.bl i)) (eC (.bool i)) := ⟨pe_bl, lk_c fun _ => .bl i⟩
theorem se_non {j : Nat} : SE X C (.Constant .none j pos) (tC .non) (eC .none) := ⟨pe_non, lk_c fun _ => .non⟩
/-- a module's constant -/
theorem se_glob {x : Str} {v : V} {u : Value} {d : D} (hm : X.mg x = some u) (r : RelV v u) (h : ∀ B, Rp C.K B v d) (hg : Gl X x := by rfl) (hd : (x == ("__debug__" : Str)) = false := by decide) : SE X C (.Name x pos) (tC v) (eC d) := ⟨pe_glob hg hm r hd, lk_c h⟩
inductive RA where | stuck | ok (hs : List Hd) (ρ : Rho) | exc (x : Xc) (ρ : Rho)
abbrev AF := Rho → RA
def HsOk (K : KW) (σ : St) (B : Hp) (v : V) : Hd → Prop
  | .sh d => Rp K B v d
  | .fr _ => False
  | .bw i => σ[i]? = some (some v)
inductive HdL (K : KW) (σ : St) (B : Hp) : List V → List Hd → Prop
  | nil : HdL K σ B [] []
  | cons {v : V} {vs : List V} {h : Hd} {hs : List Hd} : HsOk K σ B v h → HdL K σ B vs hs → HdL K σ B (v :: vs) (h :: hs)
theorem HsOk.mono {K : KW} {σ : St} {B B1 : Hp} (e : Same B B1) {v : V} : ∀ {h : Hd}, HsOk K σ B v h → HsOk K σ B1 v h
  | .sh _, q => Rp.mono e q
  | .fr _, q => q
  | .bw _, q => q
theorem HdL.mono {K : KW} {σ : St} {B B1 : Hp} (e : Same B B1) : ∀ {vs : List V} {hs : List Hd}, HdL K σ B vs hs → HdL K σ B1 vs hs
  | _, _, .nil => .nil
  | _, _, .cons h t => .cons (h.mono e) (HdL.mono e t)
theorem HdL.length {K : KW} {σ : St} {B : Hp} : ∀ {vs : List V} {hs : List Hd}, HdL K σ B vs hs → vs.length = hs.length
  | _, _, .nil => rfl
  | _, _, .cons h t => by rw [List.length_cons, List.length_cons, HdL.length t]
def GoodA (C : Ct) (ρ : Rho) (σ : St) (B H : Hp) (Q : List V → Hp → Prop) : RA → Prop
  | .stuck => False
  | .ok hs ρ' => ∀ vs B' H', Sim C.K ρ' σ B' H' → Ext ρ σ B H ρ' σ B' H' → HdL C.K σ B' vs hs → Q vs H'
  | .exc x ρ' => ∀ cls dct B' H', Sim C.K ρ' σ B' H' → Ext ρ σ B H ρ' σ B' H' → XcOk C B' x cls dct → C.W cls dct σ H'
def LkA (C : Ct) (t : TA) (f : AF) : Prop := ∀ ρ σ B H Q, Sim C.K ρ σ B H → GoodA C ρ σ B H Q (f ρ) → t σ H Q
structure SA (X : Cx) (C : Ct) (es : List Expr) (t : TA) (f : AF) : Prop where
  pa : PA X es t
  lk : LkA C t f
def aNil : AF := fun ρ => .ok [] ρ
def aCons (f : EF) (g : AF) : AF := fun ρ => match eSet f ρ with
  | .stuck => .stuck
  | .exc x ρ1 => .exc x ρ1
  | .ok h ρ1 => match g ρ1 with
    | .stuck => .stuck
    | .exc x ρ2 => .exc x ρ2
    | .ok hs ρ2 => .ok (h :: hs) ρ2
theorem GoodA.ext {ρ ρ1 : Rho} {σ : St} {B H B1 H1 : Hp} {Q : List V → Hp → Prop} (x : Ext ρ σ B H ρ1 σ B1 H1) : ∀ {r : RA}, GoodA C ρ σ B H Q r → GoodA C ρ1 σ B1 H1 Q r
  | .stuck, g => g
  | .ok _ _, g => fun vs B' H' s y z => g vs B' H' s (x.trans y) z
  | .exc _ _, g => fun c d B' H' s y z => g c d B' H' s (x.trans y) z
theorem hs_of {K : KW} {N : Addr → Prop} {ρ : Rho} {σ : St} {B H : Hp} {v : V} {h : Hd} (y : HdOk K N ρ σ B H v (setl h)) : HsOk K σ B v (setl h) := by
  cases h <;> exact y
theorem sa_nil : SA X C [] tNil aNil := ⟨pa_nil, fun ρ σ B H Q S g => g [] B H S Ext.refl .nil⟩
theorem sa_cons {t : TA} {g : AF} (l : SE X C e te fe) (m : SA X C es t g) (hs : starEach (e :: es) X.env = (false, eval e X.env) :: starEach es X.env := by rfl) : SA X C (e :: es) (tCons te t) (aCons fe g) := ⟨pa_cons l.pe m.pa hs, fun ρ σ B H Q S gd => by
  refine l.lk.set ρ σ B H _ S ?_
  unfold aCons at gd
  cases e : eSet fe ρ with
  | stuck => rw [e] at gd; exact gd
  | exc x ρ1 => rw [e] at gd; exact gd
  | ok h ρ1 =>
    rw [e] at gd
    intro v B1 H1 S1 x1 y1
    have y2 : HsOk C.K σ B1 v h := by
      unfold eSet bindE at e
      split at e
      · cases e
      · rename_i h' ρ' e'
        cases e
        exact hs_of y1
      · cases e
    refine m.lk ρ1 σ B1 H1 _ S1 ?_
    cases e2 : g ρ1 with
    | stuck => simp only [e2] at gd; exact gd
    | exc x ρ2 => simp only [e2] at gd; exact GoodA.ext x1 (r := .exc x ρ2) gd
    | ok hs ρ2 =>
      simp only [e2] at gd
      exact fun vs B2 H2 S2 x2 y3 => gd (v :: vs) B2 H2 S2 (x1.trans x2) (.cons (y2.mono x2.bb) y3)⟩
def bindA (r : RA) (k : List Hd → Rho → RE) : RE := match r with
  | .stuck => .stuck
  | .ok hs ρ => k hs ρ
  | .exc x ρ => .exc x ρ
theorem LkA.bind {t : TA} {f : AF} (l : LkA C t f) {ρ : Rho} {σ : St} {B H : Hp} (S : Sim C.K ρ σ B H) {Q : VK} {k : List Hd → Rho → RE} {Q' : List V → Hp → Prop} (g : GoodE C ρ σ B H Q (bindA (f ρ) k))
    (h : ∀ hs ρ1 vs B1 H1, Sim C.K ρ1 σ B1 H1 → Ext ρ σ B H ρ1 σ B1 H1 → HdL C.K σ B1 vs hs → GoodE C ρ1 σ B1 H1 Q (k hs ρ1) → Q' vs H1) : t σ H Q' := by
  refine l ρ σ B H Q' S ?_
  cases e : f ρ with
  | stuck => rw [e] at g; exact g
  | exc x ρ1 => rw [e] at g; exact g
  | ok hs ρ1 =>
    rw [e] at g
    exact fun vs B1 H1 s x y => h hs ρ1 vs B1 H1 s x y (GoodE.ext x g)
/-- all are data of their own -/
def shs : List Hd → Option (List D)
  | [] => some []
  | .sh d :: hs => (shs hs).map (d :: ·)
  | _ :: _ => none
theorem shs_ok {K : KW} {σ : St} {B : Hp} : ∀ {vs : List V} {hs : List Hd} {ds : List D}, HdL K σ B vs hs → shs hs = some ds → RpL K B vs ds
  | _, _, _, .nil, e => by cases e; exact .nil
  | _, .sh d :: hs, _, .cons h t, e => by
    obtain ⟨r, er, rfl⟩ := Option.map_eq_some_iff.mp (show (shs hs).map (d :: ·) = some _ from e)
    exact .cons h (shs_ok t er)
/-- what they are, looked at -/
def gets (ρ : Rho) : List Hd → Option (List D)
  | [] => some []
  | h :: hs => match getH ρ h, gets ρ hs with
    | some d, some ds => some (d :: ds)
    | _, _ => none
inductive TpL (K : KW) (B H : Hp) : List V → List D → Prop
  | nil : TpL K B H [] []
  | cons {v : V} {vs : List V} {d : D} {ds : List D} : Tp K B H v d → TpL K B H vs ds → TpL K B H (v :: vs) (d :: ds)
theorem hd_hs {K : KW} {N : Addr → Prop} {ρ : Rho} {σ : St} {B H : Hp} {v : V} : ∀ {h : Hd}, HsOk K σ B v h → HdOk K N ρ σ B H v h
  | .sh _, q => q
  | .bw _, q => q
theorem gets_ok {ρ : Rho} {σ : St} {B H : Hp} (S : Sim C.K ρ σ B H) : ∀ {vs : List V} {hs : List Hd} {ds : List D}, HdL C.K σ B vs hs → gets ρ hs = some ds → TpL C.K B H vs ds
  | _, _, _, .nil, e => by cases e; exact .nil
  | _, h :: hs, _, .cons y t, e => by
    unfold gets at e
    split at e
    · rename_i d ds e1 e2
      cases e
      exact .cons (S.tp (N := fun _ => True) (hd_hs y) e1) (gets_ok S t e2)
    · cases e
def eTup (f : AF) : EF := fun ρ => bindA (f ρ) fun hs ρ1 => match shs hs with
  | some ds => if ds.length ≤ 1000 then .ok (.sh (.tuple ds)) ρ1 else .stuck
  | none => .stuck
def eLst (f : AF) : EF := fun ρ => bindA (f ρ) fun hs ρ1 => match shs hs with
  | some ds => if ds.length ≤ 1000 then .ok (.fr (.list ds)) ρ1 else .stuck
  | none => .stuck
theorem small {n : Nat} (h : n ≤ 1000) : n ≤ sizeLine := Nat.le_of_lt (small1000 h)
theorem se_tup {t : TA} {f : AF} {k : Nat} (l : SA X C es t f) : SE X C (.Tuple es k pos) (tTupX t) (eTup f) := ⟨pe_tupX l.pa, fun ρ σ B H Q S g => by
  refine l.lk.bind S g fun hs ρ1 vs B1 H1 S1 x1 y1 g1 => ?_
  split at g1
  · rename_i ds e
    split at g1
    · have r := shs_ok y1 e
      exact ⟨by rw [r.length]; exact small (by assumption), newT S1 r g1⟩
    · exact g1.elim
  · exact g1.elim⟩
theorem se_lst {t : TA} {f : AF} (l : SA X C es t f) : SE X C (.List es pos) (tLst t) (eLst f) := ⟨pe_lst l.pa, fun ρ σ B H Q S g => by
  refine l.lk.bind S g fun hs ρ1 vs B1 H1 S1 x1 y1 g1 => ?_
  split at g1
  · rename_i ds e
    split at g1
    · have r := shs_ok y1 e
      exact ⟨by rw [r.length]; exact small (by assumption), newL S1 r g1⟩
    · exact g1.elim
  · exact g1.elim⟩
def CalL (K : KW) (r : List V → Hp → VK → Prop) (o : List D → Option Hd) : Prop := ∀ ρ σ B H xs ds h Q, Sim K ρ σ B H → TpL K B H xs ds → o ds = some h →
  (∀ v B' H', Sim K ρ σ B' H' → Ext ρ σ B H ρ σ B' H' → HdOk K (New ρ σ H) ρ σ B' H' v h → Q v H') → r xs H Q
def eCB (o : List D → Option Hd) (f : AF) : EF := fun ρ => bindA (f ρ) fun hs ρ1 => match (gets ρ1 hs).bind o with
  | some h => .ok h ρ1
  | none => .stuck
theorem lk_cb {t : TA} {f : AF} {r : List V → Hp → VK → Prop} {o : List D → Option Hd} (hr : CalL C.K r o) (l : LkA C t f) : LkE C (tCB r t) (eCB o f) := fun ρ σ B H Q S g => by
  refine l.bind S g fun hs ρ1 vs B1 H1 S1 x1 y1 g1 => ?_
  split at g1
  · rename_i h e
    obtain ⟨ds, e1, e2⟩ := Option.bind_eq_some_iff.mp e
    exact hr ρ1 σ B1 H1 vs ds h Q S1 (gets_ok S1 y1 e1) e2 g1
  · exact g1.elim
theorem se_cb {x : Str} {id : String} {p : Pos} {t : TA} {f : AF} {r : List V → Hp → VK → Prop} {o : List D → Option Hd} (hr : CalL C.K r o) (hc : CallR X (.builtin id) r) (hm : X.mg x = none) (l : SA X C (e :: es) t f) (hv : bootBuiltins x = some (.builtin id) := by decide +kernel) (hg : Gl X x := by rfl)
    (hn : x ≠ "__name__" := by decide) (hdb : (x == ("__debug__" : Str)) = false := by decide) (he : starEach (e :: es) X.env = (false, eval e X.env) :: starEach es X.env := by rfl) (hpl : (backTo pos (starEach es X.env)).any (·.1) = false := by rfl) :
    SE X C (.Call (.Name x p) (e :: es) [] pos) (tCB r t) (eCB o f) := ⟨pe_callB hc hg hm hv l.pa hn hdb he hpl, lk_cb hr l.lk⟩
theorem se_ct {x : Str} {T : String} {p : Pos} {t : TA} {f : AF} {r : List V → Hp → VK → Prop} {o : List D → Option Hd} (hr : CalL C.K r o) (hc : CallR X (.type T) r) (hm : X.mg x = none) (l : SA X C (e :: es) t f) (hv : bootBuiltins x = some (.type T) := by decide +kernel) (hg : Gl X x := by rfl)
    (hn : x ≠ "__name__" := by decide) (hdb : (x == ("__debug__" : Str)) = false := by decide) (he : starEach (e :: es) X.env = (false, eval e X.env) :: starEach es X.env := by rfl) (hpl : (backTo pos (starEach es X.env)).any (·.1) = false := by rfl) :
    SE X C (.Call (.Name x p) (e :: es) [] pos) (tCB r t) (eCB o f) := ⟨pe_callTy hc hg hm hv l.pa hn hdb he hpl, lk_cb hr l.lk⟩
end
section
variable {K : KW}
/-- one argument, two -/
def un1 (o : D → Option Hd) : List D → Option Hd
  | [d] => o d
  | _ => none
def un2 (o : D → D → Option Hd) : List D → Option Hd
  | [d, e] => o d e
  | _ => none
theorem CalL.one {r : List V → Hp → VK → Prop} {o : D → Option Hd} (k : ∀ ρ σ B H x d h Q, Sim K ρ σ B H → Tp K B H x d → o d = some h →
    (∀ v B' H', Sim K ρ σ B' H' → Ext ρ σ B H ρ σ B' H' → HdOk K (New ρ σ H) ρ σ B' H' v h → Q v H') → r [x] H Q) : CalL K r (un1 o) := fun ρ σ B H xs ds h Q S y e q => by
  cases y with
  | nil => cases e
  | cons t u =>
    cases u with
    | nil => exact k ρ σ B H _ _ h Q S t e q
    | cons _ _ => cases e
theorem CalL.two {r : List V → Hp → VK → Prop} {o : D → D → Option Hd} (k : ∀ ρ σ B H x y d d' h Q, Sim K ρ σ B H → Tp K B H x d → Tp K B H y d' → o d d' = some h →
    (∀ v B' H', Sim K ρ σ B' H' → Ext ρ σ B H ρ σ B' H' → HdOk K (New ρ σ H) ρ σ B' H' v h → Q v H') → r [x, y] H Q) : CalL K r (un2 o) := fun ρ σ B H xs ds h Q S y e q => by
  cases y with
  | nil => cases e
  | cons t u =>
    cases u with
    | nil => cases e
    | cons u w =>
      cases w with
      | nil => exact k ρ σ B H _ _ _ _ h Q S t u e q
      | cons _ _ => cases e
def lenD : D → Option Hd
  | .list ds => some (.sh (.int ds.length))
  | .tuple ds => some (.sh (.int ds.length))
  | .str z => if z.length ≤ sizeLine then some (.sh (.int z.length)) else none
  | _ => none
def rLen (K : PySem.W.Frag) : List V → Hp → VK → Prop := fun xs H Q => ∃ x n, xs = [x] ∧ LenV K x H n ∧ Q (.int n) H
theorem cl_len : CalL K (rLen K) (un1 lenD) := CalL.one fun ρ σ B H x d h Q S t e k => by
  cases d with
  | list ds =>
    cases e
    obtain ⟨a, vs, rfl, ha, ra⟩ := t
    refine ⟨_, vs.length, rfl, .inl ⟨vs, ha, rfl⟩, ?_⟩
    rw [ra.length]
    exact now S (.int _) k
  | tuple ds =>
    cases e
    obtain ⟨a, vs, rfl, ha, ra⟩ := Tp.tup t
    refine ⟨_, vs.length, rfl, .inr ⟨vs, same_t S.bh ha, rfl⟩, ?_⟩
    rw [ra.length]
    exact now S (.int _) k
  | str z =>
    obtain ⟨c, rfl⟩ := if_some e
    rw [Tp.str t]
    exact ⟨_, z.length, rfl, ⟨c, rfl⟩, now S (.int _) k⟩
  | _ => cases e
def listD : D → Option Hd
  | .list ds => some (.fr (.list ds))
  | .tuple ds => some (.fr (.list ds))
  | _ => none
def rListA (K : PySem.W.Frag) : List V → Hp → VK → Prop := fun xs H Q => ∃ p ys, xs = [.ref p] ∧ (SqL K H p ys ∨ SqT K H p ys) ∧ ∀ l, H l = none → Q (.ref l) (upd H l (.lst ys))
theorem cl_list : CalL K (rListA K) (un1 listD) := CalL.one fun ρ σ B H x d h Q S t e k => by
  cases d with
  | list ds =>
    cases e
    obtain ⟨a, vs, rfl, ha, ra⟩ := t
    exact ⟨a, vs, rfl, .inl ha, newL S ra k⟩
  | tuple ds =>
    cases e
    obtain ⟨a, vs, rfl, ha, ra⟩ := Tp.tup t
    exact ⟨a, vs, rfl, .inr (same_t S.bh ha), newL S ra k⟩
  | _ => cases e
def tupleD : D → Option Hd
  | .list ds => some (.sh (.tuple ds))
  | .tuple ds => some (.sh (.tuple ds))
  | _ => none
abbrev rTupleA := rTupX
theorem cl_tuple : CalL K (rTupleA K) (un1 tupleD) := CalL.one fun ρ σ B H x d h Q S t e k => by
  cases d with
  | list ds =>
    cases e
    obtain ⟨a, vs, rfl, ha, ra⟩ := t
    exact ⟨a, vs, rfl, .inl ⟨ha, newT S ra k⟩⟩
  | tuple ds =>
    cases e
    obtain ⟨a, vs, rfl, ha, ra⟩ := Tp.tupX t
    exact ⟨a, vs, rfl, .inr ⟨(same_x S.bh ha).sq, now S (.tup ha ra) k⟩⟩
  | _ => cases e
def maxD : D → D → Option Hd
  | .int i, .int j => some (.sh (.int (if j > i then j else i)))
  | _, _ => none
theorem cl_max2 : CalL K (fun xs H Q => ∃ i j, xs = [.int i, .int j] ∧ Q (.int (if j > i then j else i)) H) (un2 maxD) := CalL.two fun ρ σ B H x y d d' h Q S t u e k => by
  cases d <;> cases d' <;> first | (cases (show none = some h from e); done) | skip
  cases e
  rw [Tp.int t, Tp.int u]
  exact ⟨_, _, rfl, now S (.int _) k⟩
def strD : D → Option Hd
  | .int i => if i.natAbs.log2 < 1920 then some (.sh (.str (toString i))) else none
  | _ => none
theorem cl_str : CalL K (fun xs H Q => ∃ i : Int, xs = [.int i] ∧ i.natAbs.log2 < 1920 ∧ Q (.str (toString i)) H) (un1 strD) := CalL.one fun ρ σ B H x d h Q S t e k => by
  cases d with
  | int i =>
    obtain ⟨c, rfl⟩ := if_some e
    rw [Tp.int t]
    exact ⟨i, rfl, c, now S (.str _) k⟩
  | _ => cases e
end
section
variable {X : Cx} {C : Ct} {e : Expr} {te : TE} {fe : EF} {pos : Pos}
end
end GS
namespace GS
open PySem L2
/-- what a def does: of its parameters' cells what comes back, and the lent cell behind -/
abbrev FF := Rho → RE
def spF (K : KW) (cv : Str → Value) (n : Nat) (F : FF) : Sp := fun vs H Q E => ∃ ρ B, ρ.length = n ∧ Sim K ρ (vs.map some) B H ∧
  GoodE ⟨K, cv, fun cls d _ H' => E cls d H'⟩ ρ (vs.map some) B H Q (F ρ)
def argC (ρ : Rho) (io : Bool) : Hd → Option Cel
  | .sh d => if io then none else some ⟨d, .sh⟩
  | .bw i => if io then (match slot ρ i with
    | some ⟨d, .ow⟩ => some ⟨d, .io⟩
    | some ⟨d, .io⟩ => some ⟨d, .io⟩
    | _ => none) else none
  | .fr _ => none
/-- the callee's cells; io: the place of the lent argument -/
def args (ρ : Rho) (io : Option Nat) : Nat → List Hd → Option Rho
  | _, [] => some []
  | k, h :: hs => match argC ρ (decide (io = some k)) h, args ρ io (k + 1) hs with
    | some c, some r => some (some c :: r)
    | _, _ => none
def putB (ρ : Rho) (io : Option Nat) (hs : List Hd) (outs : Rho) : Option Rho := match io with
  | none => some ρ
  | some j => match hs[j]? with
    | some (.bw i) => match slot ρ i, slot outs j with
      | some c, some c' => some (ρ.set i (some ⟨c'.d, c.fl⟩))
      | _, _ => none
    | _ => none
def eCall (n : Nat) (io : Option Nat) (F : FF) (fs : AF) : EF := fun ρ => bindA (fs ρ) fun hs ρ1 => match args ρ1 io 0 hs with
  | none => .stuck
  | some ρ0 => if ρ0.length ≠ n then .stuck else match F ρ0 with
    | .stuck => .stuck
    | .ok h outs => match h, putB ρ1 io hs outs with
      | .bw _, _ => .stuck
      | _, none => .stuck
      | _, some ρ2 => .ok h ρ2
    | .exc x outs => match putB ρ1 io hs outs with
      | none => .stuck
      | some ρ2 => .exc x ρ2
theorem argC_sh {ρ : Rho} {b : Bool} {d : D} {c : Cel} (h : argC ρ b (.sh d) = some c) : b = false ∧ c = ⟨d, .sh⟩ := by
  cases b
  · cases h; exact ⟨rfl, rfl⟩
  · cases h
theorem argC_bw {ρ : Rho} {b : Bool} {i : Nat} {c : Cel} (h : argC ρ b (.bw i) = some c) : b = true ∧ ∃ d fl, ρ[i]? = some (some ⟨d, fl⟩) ∧ fl ≠ .sh ∧ c = ⟨d, .io⟩ := by
  cases b
  · cases h
  · refine ⟨rfl, ?_⟩
    replace h : (match slot ρ i with | some ⟨d, .ow⟩ => some ⟨d, .io⟩ | some ⟨d, .io⟩ => some ⟨d, .io⟩ | _ => none) = some c := h
    split at h
    · rename_i d es
      cases h
      exact ⟨d, .ow, slot_some es, by simp, rfl⟩
    · rename_i d es
      cases h
      exact ⟨d, .io, slot_some es, by simp, rfl⟩
    · cases h
theorem args_at {ρ : Rho} {io : Option Nat} : ∀ {k : Nat} {hs : List Hd} {r : Rho}, args ρ io k hs = some r → r.length = hs.length ∧ ∀ (j : Nat) (c : Cel), r[j]? = some (some c) → ∃ h, hs[j]? = some h ∧ argC ρ (decide (io = some (k + j))) h = some c
  | _, [], _, e => by cases e; exact ⟨rfl, fun j c h => by simp at h⟩
  | k, h :: hs, r, e => by
    unfold args at e
    split at e
    · rename_i c r' e1 e2
      cases e
      obtain ⟨l, q⟩ := args_at e2
      refine ⟨by rw [List.length_cons, List.length_cons, l], fun j c' hj => ?_⟩
      cases j with
      | zero => simp at hj; subst hj; exact ⟨h, rfl, e1⟩
      | succ j =>
        obtain ⟨h', q1, q2⟩ := q j c' (by simpa using hj)
        exact ⟨h', by simpa using q1, by rw [show k + (j + 1) = k + 1 + j by omega]; exact q2⟩
    · cases e
theorem args_has {ρ : Rho} {io : Option Nat} : ∀ {k : Nat} {hs : List Hd} {r : Rho} {j : Nat} {h : Hd}, args ρ io k hs = some r → hs[j]? = some h → ∃ c, r[j]? = some (some c)
  | _, [], _, _, _, _, h => by simp at h
  | k, h :: hs, r, j, h', e, hj => by
    unfold args at e
    split at e
    · rename_i c r' e1 e2
      cases e
      cases j with
      | zero => exact ⟨c, rfl⟩
      | succ j =>
        obtain ⟨c', q⟩ := args_has (j := j) e2 (by simpa using hj)
        exact ⟨c', by simpa using q⟩
    · cases e
theorem HdL.get {K : KW} {σ : St} {B : Hp} : ∀ {vs : List V} {hs : List Hd} {j : Nat} {h : Hd}, HdL K σ B vs hs → hs[j]? = some h → ∃ v, vs[j]? = some v ∧ HsOk K σ B v h
  | _, _, _, _, .nil, e => by simp at e
  | _, _, 0, _, .cons h _, e => by simp at e; subst e; exact ⟨_, rfl, h⟩
  | _, _, j + 1, h, .cons _ t, e => by
    obtain ⟨v, q1, q2⟩ := HdL.get (j := j) (h := h) t (by simpa using e)
    exact ⟨v, by simpa using q1, q2⟩
section
variable {K : KW} {ρ ρ0 ρ0' ρ2 : Rho} {σ : St} {B H B' H' : Hp} {io : Option Nat} {hs : List Hd} {vs : List V}
/-- the callee's cell j that is lent is the caller's slot i -/
theorem args_own (e : args ρ io 0 hs = some ρ0) {j : Nat} {c : Cel} (hc : ρ0[j]? = some (some c)) (nf : c.fl ≠ .sh) : io = some j ∧ ∃ i d fl, hs[j]? = some (.bw i) ∧ ρ[i]? = some (some ⟨d, fl⟩) ∧ fl ≠ .sh ∧ c = ⟨d, .io⟩ := by
  obtain ⟨_, q⟩ := args_at e
  obtain ⟨h, h1, h2⟩ := q j c hc
  rw [Nat.zero_add] at h2
  cases h with
  | sh d =>
    obtain ⟨_, rfl⟩ := argC_sh h2
    exact absurd rfl nf
  | fr d => cases h2
  | bw i =>
    obtain ⟨b, d, fl, q1, q2, q3⟩ := argC_bw h2
    exact ⟨of_decide_eq_true b, i, d, fl, h1, q1, q2, q3⟩
theorem args_sim (S : Sim K ρ σ B H) (y : HdL K σ B vs hs) (e : args ρ io 0 hs = some ρ0) : Sim K ρ0 (vs.map some) B H := by
  obtain ⟨l, q⟩ := args_at e
  refine ⟨S.bh, by rw [l, List.length_map, y.length], fun j c hj => ?_, fun i j ci cj a hi hj ni nj _ _ => ?_⟩
  · obtain ⟨h, h1, h2⟩ := q j c hj
    obtain ⟨v, hv, ok⟩ := y.get h1
    refine ⟨v, by rw [List.getElem?_map, hv]; rfl, ?_⟩
    by_cases nf : c.fl = .sh
    · refine .inl ⟨nf, ?_⟩
      cases h with
      | sh d =>
        obtain ⟨_, rfl⟩ := argC_sh h2
        exact ok
      | fr d => cases h2
      | bw i =>
        obtain ⟨_, d, fl, _, _, rfl⟩ := argC_bw h2
        cases nf
    · obtain ⟨_, i, d, fl, h3, h4, h5, rfl⟩ := args_own e hj nf
      rw [h1] at h3
      cases h3
      obtain ⟨v', e1, cok⟩ := S.sl i _ h4
      have ok' : σ[i]? = some (some v) := ok
      rw [ok'] at e1
      cases e1
      rcases cok with ⟨z, _⟩ | ⟨_, z⟩
      · exact absurd z h5
      · exact .inr ⟨by simp, z⟩
  · obtain ⟨e1, _⟩ := args_own e hi ni
    obtain ⟨e2, _⟩ := args_own e hj nj
    rw [e1] at e2
    cases e2
    rfl
theorem args_ownA (y : HdL K σ B vs hs) (e : args ρ io 0 hs = some ρ0) {a : Addr} (h : OwnA ρ0 (vs.map some) a) : OwnA ρ σ a := by
  obtain ⟨j, c, h1, h2, h3⟩ := h
  obtain ⟨_, i, d, fl, q1, q2, q3, _⟩ := args_own e h1 h2
  obtain ⟨v, hv, ok⟩ := y.get q1
  rw [List.getElem?_map, hv] at h3
  cases h3
  exact ⟨i, _, q2, q3, ok⟩
/-- behind the call -/
theorem back_sim (S : Sim K ρ σ B H) (y : HdL K σ B vs hs) (e : args ρ io 0 hs = some ρ0) (S' : Sim K ρ0' (vs.map some) B' H') (x : Ext ρ0 (vs.map some) B H ρ0' (vs.map some) B' H') (p : putB ρ io hs ρ0' = some ρ2) :
    Sim K ρ2 σ B' H' ∧ Ext ρ σ B H ρ2 σ B' H' ∧ (∀ a, New ρ0 (vs.map some) H a → New ρ σ H a) ∧ ∀ a, ¬ OwnA ρ0' (vs.map some) a → New ρ0 (vs.map some) H a → ¬ OwnA ρ2 σ a := by
  -- a slot of the caller that is not lent
  have sub0 : ∀ a, OwnA ρ0 (vs.map some) a → OwnA ρ σ a := fun a h => args_ownA y e h
  have newN : ∀ a, New ρ0 (vs.map some) H a → New ρ σ H a := fun a h => h.elim .inl fun h => .inr (sub0 a h)
  -- what ρ2 is
  have key : (∀ (k : Nat) (c : Cel), ρ2[k]? = some (some c) → (ρ[k]? = some (some c) ∧ ∀ j, io = some j → hs[j]? ≠ some (.bw k)) ∨ ∃ j c0 c', io = some j ∧ hs[j]? = some (.bw k) ∧ ρ[k]? = some (some c0) ∧ ρ0'[j]? = some (some c') ∧ c = ⟨c'.d, c0.fl⟩) ∧
      ρ2.length = ρ.length ∧ (∀ (k : Nat) (c : Cel), ρ[k]? = some (some c) → ∃ c2, ρ2[k]? = some (some c2) ∧ c2.fl = c.fl) := by
    unfold putB at p
    split at p
    · cases p
      exact ⟨fun k c h => .inl ⟨h, fun j z => nomatch z⟩, rfl, fun k c h => ⟨c, h, rfl⟩⟩
    · rename_i j
      split at p
      · rename_i i hi
        split at p
        · rename_i c0 c' e1 e2
          cases p
          have e1 := slot_some e1
          have e2 := slot_some e2
          refine ⟨fun k c h => ?_, by rw [List.length_set], fun k c h => ?_⟩
          · rcases set_get h with ⟨rfl, ec⟩ | ⟨ne, h⟩
            · cases ec
              exact .inr ⟨j, c0, c', rfl, hi, e1, e2, rfl⟩
            · refine .inl ⟨h, fun j' z w => ?_⟩
              cases z
              rw [hi] at w
              cases w
              exact ne rfl
          · by_cases hk : i = k
            · subst hk
              rw [e1] at h
              cases h
              exact ⟨_, set_at (lt_of e1), rfl⟩
            · exact ⟨c, by rw [set_other hk]; exact h, rfl⟩
        · cases p
      · cases p
  obtain ⟨k1, k2, k3⟩ := key
  -- an owned slot that is not lent keeps its object
  have keep : ∀ (k : Nat) (c : Cel) (a : Addr), ρ[k]? = some (some c) → c.fl ≠ .sh → σ[k]? = some (some (.ref a)) → (∀ j, io = some j → hs[j]? ≠ some (.bw k)) → ¬ OwnA ρ0 (vs.map some) a := fun k c a hk hf hs' hn ho => by
    obtain ⟨j, c0, h1, h2, h3⟩ := ho
    obtain ⟨q0, i, d, fl, q1, q2, q3, _⟩ := args_own e h1 h2
    obtain ⟨v, hv, ok⟩ := y.get q1
    rw [List.getElem?_map, hv] at h3
    cases h3
    have := S.dj i k _ c a q2 hk q3 hf ok hs'
    subst this
    exact hn j q0 q1
  have ownBack : ∀ a, OwnA ρ2 σ a → OwnA ρ σ a := fun a ⟨k, c, h1, h2, h3⟩ => by
    rcases k1 k c h1 with ⟨h, _⟩ | ⟨j, c0, c', _, _, h, _, rfl⟩
    · exact ⟨k, c, h, h2, h3⟩
    · exact ⟨k, c0, h, h2, h3⟩
  refine ⟨⟨S'.bh, by rw [k2]; exact S.len, fun k c hk => ?_, fun i j ci cj a hi hj ni nj ei ej => ?_⟩, ⟨x.bb, fun a o h => (x.nw a o h).imp id (newN a), fun a o h n => x.kp a o h fun z => n (sub0 a z), fun a h => .inr (ownBack a h), fun k c hk hf => ?_, fun k c hk hf => ?_⟩, newN, fun a n1 n2 ho => ?_⟩
  · rcases k1 k c hk with ⟨h, hn⟩ | ⟨j, c0, c', hj, q1, h, q2, rfl⟩
    · obtain ⟨v, ev, ok⟩ := S.sl k c h
      refine ⟨v, ev, ok.mono x.bb fun a hv hb ho hf => ?_⟩
      subst hv
      obtain ⟨o, eo⟩ := ho
      obtain ⟨r1, r2, _⟩ := x.keepN eo hb (keep k c a h hf ev hn)
      exact ⟨r2, by rw [r1, eo]⟩
    · obtain ⟨v, ev, ok⟩ := y.get q1
      have ok' : σ[k]? = some (some v) := ok
      refine ⟨v, ok', ?_⟩
      -- the lent cell is lent at the start, so it is behind
      obtain ⟨cs, hcs⟩ := args_has e q1
      by_cases hsh : cs.fl = .sh
      · exfalso
        obtain ⟨_, qq⟩ := args_at e
        obtain ⟨h', w1, w2⟩ := qq j cs hcs
        rw [q1] at w1
        cases w1
        obtain ⟨_, d, fl, _, _, rfl⟩ := argC_bw w2
        cases hsh
      · obtain ⟨_, i, d, fl, r1, r2, r3, rfl⟩ := args_own e hcs hsh
        rw [q1] at r1
        cases r1
        rw [h] at r2
        cases r2
        obtain ⟨_, c2, w1, w2⟩ := x.io j _ hcs rfl
        rw [q2] at w1
        cases w1
        obtain ⟨v', e1, cok⟩ := S'.sl j c' q2
        rw [List.getElem?_map, ev] at e1
        cases e1
        rcases cok with ⟨z, _⟩ | ⟨_, z⟩
        · rw [w2] at z; cases z
        · exact .inr ⟨r3, z⟩
  · have f1 : ∃ c1, ρ[i]? = some (some c1) ∧ c1.fl ≠ .sh := by
      rcases k1 i ci hi with ⟨h, _⟩ | ⟨_, c0, _, _, _, h, _, rfl⟩
      · exact ⟨ci, h, ni⟩
      · exact ⟨c0, h, ni⟩
    have f2 : ∃ c1, ρ[j]? = some (some c1) ∧ c1.fl ≠ .sh := by
      rcases k1 j cj hj with ⟨h, _⟩ | ⟨_, c0, _, _, _, h, _, rfl⟩
      · exact ⟨cj, h, nj⟩
      · exact ⟨c0, h, nj⟩
    obtain ⟨c1, a1, a2⟩ := f1
    obtain ⟨c2, b1, b2⟩ := f2
    exact S.dj i j c1 c2 a a1 b1 a2 b2 ei ej
  · obtain ⟨c2, h1, h2⟩ := k3 k c hk
    exact ⟨rfl, c2, h1, by rw [h2, hf]⟩
  · rcases k1 k c hk with ⟨h, _⟩ | ⟨_, c0, _, _, _, h, _, rfl⟩
    · exact ⟨c, h, hf⟩
    · exact ⟨c0, h, hf⟩
  · obtain ⟨k, c, h1, h2, h3⟩ := ho
    rcases k1 k c h1 with ⟨h, hn⟩ | ⟨j, c0, c', hj, q1, h, q2, rfl⟩
    · have n0 := keep k c a h h2 h3 hn
      have := S.ownH ⟨k, c, h, h2, h3⟩
      obtain ⟨_, o, eo⟩ := this
      rcases n2 with z | z
      · rw [eo] at z; cases z
      · exact n0 z
    · obtain ⟨v, ev, ok⟩ := y.get q1
      have ok' : σ[k]? = some (some v) := ok
      rw [h3] at ok'
      cases ok'
      obtain ⟨cs, hcs⟩ := args_has e q1
      by_cases hsh : cs.fl = .sh
      · obtain ⟨_, qq⟩ := args_at e
        obtain ⟨h', w1, w2⟩ := qq j cs hcs
        rw [q1] at w1
        cases w1
        obtain ⟨_, d, fl, _, _, rfl⟩ := argC_bw w2
        cases hsh
      · obtain ⟨_, i, d, fl, r1, r2, r3, rfl⟩ := args_own e hcs hsh
        obtain ⟨_, c2, w1, w2⟩ := x.io j _ hcs rfl
        rw [q2] at w1
        cases w1
        exact n1 ⟨j, c', q2, by rw [w2]; simp, by rw [List.getElem?_map, ev]; rfl⟩
end
section
variable {X : Cx} {C : Ct} {e : Expr} {es : List Expr} {pos p : Pos} {x : Str} {k n : Nat} {f : Addr} {fd : FuncData} {ps : List Str} {io : Option Nat} {F : FF} {t : TA} {g : AF}
theorem lk_call (l : LkA C t g) : LkE C (tCallS (spF C.K C.cv n F) (WE C.W) t) (eCall n io F g) := fun ρ σ B H Q S gd => by
  refine l.bind S gd fun hs ρ1 vs B1 H1 S1 x1 y1 g1 => ?_
  split at g1
  · exact g1.elim
  · rename_i ρ0 ea
    split at g1
    · exact g1.elim
    · rename_i hl
      have hl : ρ0.length = n := Classical.not_not.mp hl
      refine ⟨ρ0, B1, hl, args_sim S1 y1 ea, ?_⟩
      cases ef : F ρ0 with
      | stuck => rw [ef] at g1; exact g1
      | exc c outs =>
        rw [ef] at g1
        dsimp only at g1
        split at g1
        · exact g1.elim
        · rename_i ρ2 ep
          intro cls dct B2 H2 S2 x2 ok
          obtain ⟨S3, x3, _, _⟩ := back_sim S1 y1 ea S2 x2 ep
          exact g1 cls dct B2 H2 S3 x3 ok
      | ok h outs =>
        rw [ef] at g1
        dsimp only at g1
        intro v B2 H2 S2 x2 y2
        cases ep : putB ρ1 io hs outs with
        | none => rw [ep] at g1; cases h <;> exact g1.elim
        | some ρ2 =>
          rw [ep] at g1
          obtain ⟨S3, x3, n1, n2⟩ := back_sim S1 y1 ea S2 x2 ep
          cases h with
          | sh d => exact g1 v B2 H2 S3 x3 y2
          | fr d =>
            obtain ⟨a, r1, r2, r3, r4, r5⟩ := y2
            exact g1 v B2 H2 S3 x3 ⟨a, r1, r2, r3, n2 a r4 r5, n1 a r5⟩
          | bw i => exact g1.elim
theorem se_call (FO : FnOk X.prog X.w X.K X.mg X.base (L2.CX X.prog X.w) k f fd ps (spF C.K C.cv n F)) (hr : Room k X.A) (hm : X.mg x = some (.ref f)) (hkp : PySem.W.keepIn X.K (.ref f) = true) (hb : Binds X.K fd ps []) (tk : Takes X C.W)
    (l : SA X C (e :: es) t g) (io : Option Nat) (hg : Gl X x := by rfl) (hdb : (x == ("__debug__" : Str)) = false := by decide) (he : starEach (e :: es) X.env = (false, eval e X.env) :: starEach es X.env := by rfl)
    (hpl : (backTo pos (starEach es X.env)).any (·.1) = false := by rfl) : SE X C (.Call (.Name x p) (e :: es) [] pos) (tCallS (spF C.K C.cv n F) (WE C.W) t) (eCall n io F g) :=
  ⟨pe_callS FO hr hg hm hkp hb (fun σ => passAt tk σ) l.pa hdb he hpl, lk_call l.lk⟩
end
end GS
namespace GS
open PySem L2
def GoodS (C : Ct) (ρ : Rho) (σ : St) (B H : Hp) (D : Ends) : RS → Prop
  | .stuck => False
  | .nx ρ' => ∀ σ' B' H', Sim C.K ρ' σ' B' H' → Ext ρ σ B H ρ' σ' B' H' → D.nx σ' H'
  | .bk ρ' => ∀ σ' B' H', Sim C.K ρ' σ' B' H' → Ext ρ σ B H ρ' σ' B' H' → D.bk σ' H'
  | .ct ρ' => ∀ σ' B' H', Sim C.K ρ' σ' B' H' → Ext ρ σ B H ρ' σ' B' H' → D.ct σ' H'
  | .rt h ρ' => ∀ v σ' B' H', Sim C.K ρ' σ' B' H' → Ext ρ σ B H ρ' σ' B' H' → HdOk C.K (New ρ σ H) ρ' σ' B' H' v h → D.rt v H'
  | .exc x ρ' => ∀ cls dct σ' B' H', Sim C.K ρ' σ' B' H' → Ext ρ σ B H ρ' σ' B' H' → XcOk C B' x cls dct → C.W cls dct σ' H'
def LkS (C : Ct) (t : TS) (g : SF) : Prop := ∀ ρ σ B H D, Sim C.K ρ σ B H → GoodS C ρ σ B H D (g ρ) → t D σ H
structure SS (X : Cx) (C : Ct) (st : Stmt) (t : TS) (g : SF) : Prop where
  ps : PS X st t
  lk : LkS C t g
structure SSs (X : Cx) (C : Ct) (st : List Stmt) (t : TS) (g : SF) : Prop where
  ps : PSs X st t
  lk : LkS C t g
section
variable {X : Cx} {C : Ct} {ρ ρ1 : Rho} {σ σ1 : St} {B H B1 H1 : Hp} {Ed : Ends} {t u : TS} {f g : SF} {st : Stmt} {rest : List Stmt} {pos : Pos}
theorem GoodS.ext (e : Ext ρ σ B H ρ1 σ1 B1 H1) : ∀ {r : RS}, GoodS C ρ σ B H Ed r → GoodS C ρ1 σ1 B1 H1 Ed r
  | .stuck, h => h
  | .nx _, h => fun σ' B' H' s x => h σ' B' H' s (e.trans x)
  | .bk _, h => fun σ' B' H' s x => h σ' B' H' s (e.trans x)
  | .ct _, h => fun σ' B' H' s x => h σ' B' H' s (e.trans x)
  | .rt _ _, h => fun v σ' B' H' s x y => h v σ' B' H' s (e.trans x) (y.mono fun _ z => e.back z)
  | .exc _ _, h => fun c d σ' B' H' s x => h c d σ' B' H' s (e.trans x)
def sNil : SF := fun ρ => .nx ρ
def bindS (r : RS) (k : Rho → RS) : RS := match r with
  | .nx ρ => k ρ
  | r => r
def sSeq (f g : SF) : SF := fun ρ => bindS (f ρ) g
theorem lk_seq (lf : LkS C t f) (lg : LkS C u g) : LkS C (tSeq t u) (sSeq f g) := fun ρ σ B H D S gd => by
  refine lf ρ σ B H _ S ?_
  unfold sSeq bindS at gd
  cases e : f ρ with
  | nx ρ1 =>
    rw [e] at gd
    exact fun σ' B' H' s x => lg ρ1 σ' B' H' D s (GoodS.ext x gd)
  | stuck => rw [e] at gd; exact gd
  | bk _ => rw [e] at gd; exact gd
  | ct _ => rw [e] at gd; exact gd
  | rt _ _ => rw [e] at gd; exact gd
  | exc _ _ => rw [e] at gd; exact gd
theorem sss_nil : SSs X C [] tNext sNil := ⟨pss_nil, fun ρ σ B H D S g => g σ B H S Ext.refl⟩
theorem sss_cons (a : SS X C st t f) (b : SSs X C rest u g) : SSs X C (st :: rest) (tSeq t u) (sSeq f g) := ⟨pss_cons a.ps b.ps, lk_seq a.lk b.lk⟩
theorem sss_one (a : SS X C st t f) : SSs X C [st] t f := ⟨pss_one a.ps, a.lk⟩
def bindES (r : RE) (k : Hd → Rho → RS) : RS := match r with
  | .stuck => .stuck
  | .ok h ρ => k h ρ
  | .exc x ρ => .exc x ρ
theorem LkE.bindS {te : TE} {fe : EF} (l : LkE C te fe) (S : Sim C.K ρ σ B H) {k : Hd → Rho → RS} {Q' : VK} (g : GoodS C ρ σ B H Ed (bindES (fe ρ) k))
    (h : ∀ hd ρ1 v B1 H1, Sim C.K ρ1 σ B1 H1 → Ext ρ σ B H ρ1 σ B1 H1 → HdOk C.K (New ρ σ H) ρ1 σ B1 H1 v hd → GoodS C ρ σ B H Ed (k hd ρ1) → Q' v H1) : te σ H Q' := by
  refine l ρ σ B H Q' S ?_
  cases e : fe ρ with
  | stuck => rw [e] at g; exact g
  | ok hd ρ1 => rw [e] at g; exact fun v B1 H1 s x y => h hd ρ1 v B1 H1 s x y g
  | exc x ρ1 => rw [e] at g; exact fun c d B' H' s x => g c d σ B' H' s x
variable {e : Expr} {te : TE} {fe : EF}
def sRet (fe : EF) : SF := fun ρ => bindES (fe ρ) fun h ρ1 => match h with
  | .bw i => match capH ρ1 (.bw i) with
    | some d => .rt (.sh d) ρ1
    | none => .stuck
  | h => .rt h ρ1
theorem cap_bw (S : Sim C.K ρ σ B H) {i : Nat} {d : D} {v : V} (y : σ[i]? = some (some v)) (e : capH ρ (.bw i) = some d) : Rp C.K B v d := by
  replace e : (match slot ρ i with | some ⟨d, .sh⟩ => some d | _ => none) = some d := e
  split at e
  · rename_i d' e'
    cases e
    obtain ⟨v', q1, q2⟩ := S.sl i _ (slot_some e')
    rw [y] at q1
    cases q1
    rcases q2 with ⟨_, q2⟩ | ⟨q, _⟩
    · exact q2
    · exact absurd rfl q
  · cases e
theorem ss_ret (l : SE X C e te fe) : SS X C (.Return (some e) pos) (tRet te) (sRet fe) := ⟨ps_ret l.pe, fun ρ σ B H D S g => by
  refine l.lk.bindS S g fun hd ρ1 v B1 H1 S1 x1 y1 g1 => ?_
  cases hd with
  | sh d => exact g1 v σ B1 H1 S1 x1 y1
  | fr d => exact g1 v σ B1 H1 S1 x1 y1
  | bw i =>
    dsimp only at g1
    split at g1
    · rename_i d ed
      exact g1 v σ B1 H1 S1 x1 (cap_bw S1 y1 ed)
    · exact g1.elim⟩
def bindBS (r : RE) (k : Bool → Rho → RS) : RS := match r with
  | .ok (.sh (.bool b)) ρ => k b ρ
  | .exc x ρ => .exc x ρ
  | _ => .stuck
theorem LkT.bindS {tt : TT} {ft : EF} (l : LkT C tt ft) (S : Sim C.K ρ σ B H) {k : Bool → Rho → RS} {Q' : Bool → Hp → Prop} (g : GoodS C ρ σ B H Ed (bindBS (ft ρ) k))
    (h : ∀ b ρ1 B1 H1, Sim C.K ρ1 σ B1 H1 → Ext ρ σ B H ρ1 σ B1 H1 → GoodS C ρ1 σ B1 H1 Ed (k b ρ1) → Q' b H1) : tt σ H Q' := by
  refine l ρ σ B H Q' S ?_
  cases e : ft ρ with
  | stuck => rw [e] at g; exact g
  | exc x ρ1 => rw [e] at g; exact fun c d B' H' s x => g c d σ B' H' s x
  | ok hd ρ1 =>
    rw [e] at g
    cases hd with
    | sh d =>
      cases d with
      | bool b => exact fun B1 H1 s x => h b ρ1 B1 H1 s x (GoodS.ext x g)
      | _ => exact g
    | _ => exact g
def sIf (ft : EF) (f g : SF) : SF := fun ρ => bindBS (ft ρ) fun b ρ1 => if b then f ρ1 else g ρ1
theorem ss_if {c : Expr} {a b : List Stmt} {tt : TT} {ft : EF} (l : ST X C c tt ft) (la : SSs X C a t f) (lb : SSs X C b u g) : SS X C (.If c a b pos) (tIfS tt t u) (sIf ft f g) := ⟨ps_if l.pt la.ps lb.ps, fun ρ σ B H D S gd =>
  l.lk.bindS S gd fun b ρ1 B1 H1 S1 x1 g1 => by
    cases b with
    | true => exact la.lk ρ1 σ B1 H1 D S1 g1
    | false => exact lb.lk ρ1 σ B1 H1 D S1 g1⟩
def ioAt (ρ : Rho) (i : Nat) : Bool := match slot ρ i with
  | some ⟨_, .io⟩ => true
  | _ => false
theorem not_io {i : Nat} (h : ioAt ρ i = false) {c : Cel} (e : ρ[i]? = some (some c)) : c.fl ≠ .io := fun z => by
  unfold ioAt slot at h
  rw [e] at h
  obtain ⟨d, fl⟩ := c
  cases z
  cases h
/-- what may be put into slot i of the state behind -/
theorem store_ok {K : KW} (S : Sim K ρ1 σ B1 H1) (x : Ext ρ σ B H ρ1 σ B1 H1) {i : Nat} {c : Cel} {v : V} (hi : i < ρ1.length) (hn : ioAt ρ1 i = false) (hf : c.fl ≠ .io) (ok : COk K B1 H1 c v)
    (hnew : c.fl ≠ .sh → ∀ a, v = .ref a → New ρ σ H a ∧ ∀ j cj, i ≠ j → ρ1[j]? = some (some cj) → cj.fl ≠ .sh → σ[j]? ≠ some (some (.ref a))) :
    Sim K (ρ1.set i (some c)) (σ.set i (some v)) B1 H1 ∧ Ext ρ σ B H (ρ1.set i (some c)) (σ.set i (some v)) B1 H1 := by
  have hl := S.len
  have ats : (σ.set i (some v))[i]? = some (some v) := by rw [List.getElem?_set, if_pos rfl, if_pos (by omega)]
  have oth : ∀ j, i ≠ j → (σ.set i (some v))[j]? = σ[j]? := fun j h => by rw [List.getElem?_set, if_neg h]
  refine ⟨⟨S.bh, by rw [List.length_set, List.length_set]; exact hl, fun j cj hj => ?_, fun j k cj ck a hj hk nj nk ej ek => ?_⟩, ⟨x.bb, x.nw, x.kp, fun a ha => ?_, fun j cj hj hjf => ?_, fun j cj hj hjf => ?_⟩⟩
  · rcases set_get hj with ⟨rfl, ec⟩ | ⟨ne, hj⟩
    · cases ec; exact ⟨v, ats, ok⟩
    · rw [oth j ne]; exact S.sl j cj hj
  · rcases set_get hj with ⟨rfl, ec⟩ | ⟨ne, hj⟩
    · rcases set_get hk with ⟨rfl, _⟩ | ⟨ne', hk⟩
      · rfl
      · cases ec
        rw [ats] at ej
        cases ej
        rw [oth k ne'] at ek
        exact absurd ek ((hnew nj a rfl).2 k ck ne' hk nk)
    · rcases set_get hk with ⟨rfl, ec⟩ | ⟨ne', hk⟩
      · cases ec
        rw [ats] at ek
        cases ek
        rw [oth j ne] at ej
        exact absurd ej ((hnew nk a rfl).2 j cj ne hj nj)
      · rw [oth j ne] at ej
        rw [oth k ne'] at ek
        exact S.dj j k cj ck a hj hk nj nk ej ek
  · obtain ⟨j, cj, hj, nj, ej⟩ := ha
    rcases set_get hj with ⟨rfl, ec⟩ | ⟨ne, hj⟩
    · cases ec
      rw [ats] at ej
      cases ej
      exact (hnew nj a rfl).1
    · rw [oth j ne] at ej
      exact x.sub a ⟨j, cj, hj, nj, ej⟩
  · obtain ⟨e1, c1, q1, q2⟩ := x.io j cj hj hjf
    have ne : i ≠ j := fun z => by subst z; exact not_io hn q1 q2
    exact ⟨(oth j ne).trans e1, c1, (set_other ne).trans q1, q2⟩
  · rcases set_get hj with ⟨rfl, ec⟩ | ⟨ne, hj⟩
    · cases ec; exact absurd hjf hf
    · exact x.oi j cj hj hjf
def setR (ρ : Rho) (i : Nat) (c : Cel) : RS := if i < ρ.length && !ioAt ρ i then .nx (ρ.set i (some c)) else .stuck
def setHd (ρ1 : Rho) (i : Nat) : Hd → RS
  | .sh d => setR ρ1 i ⟨d, .sh⟩
  | .fr d => setR ρ1 i ⟨d, .ow⟩
  | .bw j => match capH ρ1 (.bw j) with
    | some d => setR ρ1 i ⟨d, .sh⟩
    | none => .stuck
def sSet (i : Nat) (fe : EF) : SF := fun ρ => bindES (fe ρ) fun h ρ1 => setHd ρ1 i h
theorem setR_ok {i : Nat} {c : Cel} (g : GoodS C ρ σ B H Ed (setR ρ1 i c)) : i < ρ1.length ∧ ioAt ρ1 i = false ∧ ∀ σ' B' H', Sim C.K (ρ1.set i (some c)) σ' B' H' → Ext ρ σ B H (ρ1.set i (some c)) σ' B' H' → Ed.nx σ' H' := by
  unfold setR at g
  split at g
  · rename_i h
    simp only [Bool.and_eq_true, decide_eq_true_eq, Bool.not_eq_true'] at h
    exact ⟨h.1, h.2, g⟩
  · exact g.elim
/-- storing what an expression gave -/
theorem put_hd (S1 : Sim C.K ρ1 σ B1 H1) (x1 : Ext ρ σ B H ρ1 σ B1 H1) {hd : Hd} {v : V} (y1 : HdOk C.K (New ρ σ H) ρ1 σ B1 H1 v hd) {i : Nat} (g : GoodS C ρ σ B H Ed (setHd ρ1 i hd)) : Ed.nx (σ.set i (some v)) H1 := by
  cases hd with
  | sh d =>
    obtain ⟨h1, h2, h3⟩ := setR_ok g
    obtain ⟨S2, x2⟩ := store_ok S1 x1 (c := ⟨d, .sh⟩) h1 h2 (by simp) (.inl ⟨rfl, y1⟩) fun z => absurd rfl z
    exact h3 _ _ _ S2 x2
  | fr d =>
    obtain ⟨h1, h2, h3⟩ := setR_ok g
    obtain ⟨a, rfl, q1, q2, q3, q4⟩ := y1
    obtain ⟨S2, x2⟩ := store_ok S1 x1 (c := ⟨d, .ow⟩) h1 h2 (by simp) (.inr ⟨by simp, a, rfl, q1, q2⟩) fun _ b e => by
      cases e
      exact ⟨q4, fun j cj _ hj nj ej => q3 ⟨j, cj, hj, nj, ej⟩⟩
    exact h3 _ _ _ S2 x2
  | bw j =>
    unfold setHd at g
    dsimp only at g
    split at g
    · rename_i d ed
      obtain ⟨h1, h2, h3⟩ := setR_ok g
      obtain ⟨S2, x2⟩ := store_ok S1 x1 (c := ⟨d, .sh⟩) h1 h2 (by simp) (.inl ⟨rfl, cap_bw S1 y1 ed⟩) fun z => absurd rfl z
      exact h3 _ _ _ S2 x2
    · exact g.elim
theorem lk_set {i : Nat} (l : LkE C te fe) : LkS C (tAsg te (gName i)) (sSet i fe) := fun ρ σ B H D S g =>
  l.bindS S g fun hd ρ1 v B1 H1 S1 x1 y1 g1 => put_hd S1 x1 y1 g1
theorem ss_set {i : Nat} {x : Str} {pos' : Pos} (hN : X.N.Nodup) (l : SE X C e te fe) (hi : X.N[i]? = some x := by rfl) (hx : Loc X.env.scope x := by first | exact Or.inl rfl | exact Or.inr rfl) (hs : swapsWith e (some (.Name x pos')) pos.line X.env = pure false := by rfl)
    (hf : X.fn x = true ∨ X.env.scope.names.lookup x = some .local := by first | exact .inl rfl | exact .inr rfl | assumption) : SS X C (.Assign [.Name x pos'] e pos) (tAsg te (gName i)) (sSet i fe) := ⟨ps_set hN hi hx l.pe hs hf, lk_set l.lk⟩
def LkG (C : Ct) (g : TG) (f : D → Rho → Option Rho) : Prop := ∀ ρ σ B H v d ρ' Q, Sim C.K ρ σ B H → Rp C.K B v d → f d ρ = some ρ' → (∀ σ' B' H', Sim C.K ρ' σ' B' H' → Ext ρ σ B H ρ' σ' B' H' → Q σ' H') → g v σ H Q
def LkGs (C : Ct) (g : TGs) (f : List D → Rho → Option Rho) : Prop := ∀ ρ σ B H vs ds ρ' Q, Sim C.K ρ σ B H → RpL C.K B vs ds → f ds ρ = some ρ' → (∀ σ' B' H', Sim C.K ρ' σ' B' H' → Ext ρ σ B H ρ' σ' B' H' → Q σ' H') → g vs σ H Q
structure SG (X : Cx) (C : Ct) (tg : Expr) (t : TG) (f : D → Rho → Option Rho) : Prop where
  pg : PG X tg t
  lk : LkG C t f
structure SGs (X : Cx) (C : Ct) (tg : List Expr) (t : TGs) (f : List D → Rho → Option Rho) : Prop where
  pg : PGs X tg t
  lk : LkGs C t f
def gN (i : Nat) : D → Rho → Option Rho := fun d ρ => if i < ρ.length && !ioAt ρ i then some (ρ.set i (some ⟨d, .sh⟩)) else none
theorem lk_gN {i : Nat} : LkG C (gName i) (gN i) := fun ρ σ B H v d ρ' Q S r e k => by
  unfold gN at e
  obtain ⟨h, rfl⟩ := if_some e
  simp only [Bool.and_eq_true, decide_eq_true_eq, Bool.not_eq_true'] at h
  obtain ⟨S2, x2⟩ := store_ok S Ext.refl (c := ⟨d, .sh⟩) h.1 h.2 (by simp) (.inl ⟨rfl, r⟩) fun z => absurd rfl z
  exact k _ _ _ S2 x2
def gsN : List D → Rho → Option Rho := fun ds ρ => match ds with
  | [] => some ρ
  | _ => none
def gsC (f : D → Rho → Option Rho) (g : List D → Rho → Option Rho) : List D → Rho → Option Rho := fun ds ρ => match ds with
  | d :: ds => (f d ρ).bind (g ds)
  | [] => none
def gT (n : Nat) (f : List D → Rho → Option Rho) : D → Rho → Option Rho := fun d ρ => match d with
  | .tuple ds => if ds.length = n then f ds ρ else none
  | .list ds => if ds.length = n then f ds ρ else none
  | _ => none
/-- a tuple or a list taken apart -/
def gTL (K : PySem.W.Frag) (n : Nat) (t : TGs) : TG := fun v σ H Q => gTup K n t v σ H Q ∨ gUnl K n t v σ H Q
theorem pg_tl {es : List Expr} {k : Nat} {t : TGs} {n : Nat} (hc : X.calm = true) (h : PGs X es t) (hn : (assignEach es X.env).length = n) (hst : (assignEach es X.env).findIdx? (·.1) = none) : PG X (.Tuple es k pos) (gTL X.K n t) :=
  ⟨fun pins s σ H v u Q I r hw => hw.elim ((pg_tup hc h hn hst).run pins s σ H v u Q I r) ((pg_unl hc h hn hst).run pins s σ H v u Q I r)⟩
theorem sg_name {i : Nat} {x : Str} (hN : X.N.Nodup) (hi : X.N[i]? = some x := by rfl) (hx : Loc X.env.scope x := by first | exact Or.inl rfl | exact Or.inr rfl)
    (hf : X.fn x = true ∨ X.env.scope.names.lookup x = some .local := by first | exact .inl rfl | exact .inr rfl | assumption) : SG X C (.Name x pos) (gName i) (gN i) := ⟨pg_name hN hi hx hf, lk_gN⟩
theorem sgs_nil : SGs X C [] gNil gsN := ⟨pgs_nil, fun ρ σ B H vs ds ρ' Q S r e k => by
  cases r with
  | nil => cases e; exact ⟨rfl, k _ _ _ S Ext.refl⟩
  | cons _ _ => cases e⟩
theorem lk_gC {tg : TG} {tgs : TGs} {f : D → Rho → Option Rho} {g : List D → Rho → Option Rho} (a : LkG C tg f) (b : LkGs C tgs g) : LkGs C (gCons tg tgs) (gsC f g) := fun ρ σ B H vs ds ρ' Q S r e k => by
  cases r with
  | nil => cases e
  | cons h t =>
    obtain ⟨ρ1, e1, e2⟩ := Option.bind_eq_some_iff.mp (show (f _ ρ).bind (g _) = some ρ' from e)
    refine ⟨_, _, rfl, a ρ σ B H _ _ ρ1 _ S h e1 fun σ1 B1 H1 S1 x1 => ?_⟩
    exact b ρ1 σ1 B1 H1 _ _ ρ' Q S1 (t.mono x1.bb) e2 fun σ2 B2 H2 S2 x2 => k _ _ _ S2 (x1.trans x2)
theorem sgs_cons {a : Expr} {as : List Expr} {tg : TG} {tgs : TGs} {f : D → Rho → Option Rho} {g : List D → Rho → Option Rho} (h : SG X C a tg f) (t : SGs X C as tgs g) (hs : (assignEach (a :: as) X.env).map (·.2) = assign a X.env :: (assignEach as X.env).map (·.2) := by rfl) : SGs X C (a :: as) (gCons tg tgs) (gsC f g) := ⟨pgs_cons h.pg t.pg hs, lk_gC h.lk t.lk⟩
theorem lk_gT {tgs : TGs} {n : Nat} {g : List D → Rho → Option Rho} (b : LkGs C tgs g) : LkG C (gTL C.K n tgs) (gT n g) := fun ρ σ B H v d ρ' Q S r e k => by
  cases d with
  | tuple ds =>
    replace e : (if ds.length = n then g ds ρ else none) = some ρ' := e
    split at e
    · obtain ⟨a, vs, rfl, ha, ra⟩ := r.tupE
      exact .inl ⟨a, vs, rfl, same_t S.bh ha, by rw [ra.length]; assumption, b ρ σ B H vs ds ρ' Q S ra e k⟩
    · cases e
  | list ds =>
    replace e : (if ds.length = n then g ds ρ else none) = some ρ' := e
    split at e
    · cases r with
      | lst ha ra => exact .inr ⟨_, _, rfl, same_l S.bh ha, by rw [ra.length]; assumption, b ρ σ B H _ ds ρ' Q S ra e k⟩
    · cases e
  | _ => cases e
theorem sg_tup {as : List Expr} {tgs : TGs} {n k : Nat} {g : List D → Rho → Option Rho} (hc : X.calm = true) (t : SGs X C as tgs g) (hk : X.K = C.K := by rfl) (hn : (assignEach as X.env).length = n := by rfl) (hst : (assignEach as X.env).findIdx? (·.1) = none := by rfl) : SG X C (.Tuple as k pos) (gTL C.K n tgs) (gT n g) := ⟨by rw [← hk]; exact pg_tl hc t.pg hn hst, lk_gT t.lk⟩
/-- a, b = e -/
def sUnp (f : D → Rho → Option Rho) (fe : EF) : SF := fun ρ => bindES (eCap fe ρ) fun h ρ1 => match h with
  | .sh d => match f d ρ1 with
    | some ρ2 => .nx ρ2
    | none => .stuck
  | _ => .stuck
theorem lk_unp {tg : TG} {f : D → Rho → Option Rho} (l : LkE C te fe) (lg : LkG C tg f) : LkS C (tAsg te tg) (sUnp f fe) := fun ρ σ B H E S g =>
  l.cap.bindS S g fun hd ρ1 v B1 H1 S1 x1 y1 g1 => by
    cases hd with
    | sh d =>
      dsimp only at g1
      split at g1
      · rename_i ρ2 e2
        exact lg ρ1 σ B1 H1 v d ρ2 _ S1 y1 e2 fun σ2 B2 H2 S2 x2 => g1 σ2 B2 H2 S2 (x1.trans x2)
      · exact g1.elim
    | _ => exact g1.elim
theorem ss_unp {tgt : Expr} {tg : TG} {f : D → Rho → Option Rho} (l : SE X C e te fe) (lg : SG X C tgt tg f) (hs : swapsWithSole [tgt] e pos.line X.env = pure false := by rfl) (hw : swappedStores [tgt] e X.env = pure none := by rfl)
    (h1 : (assignEach [tgt] X.env).map (·.2) = [assign tgt X.env] := by rfl) : SS X C (.Assign [tgt] e pos) (tAsg te tg) (sUnp f fe) := ⟨ps_asg l.pe lg.pg hs hw h1, lk_unp l.lk lg.lk⟩
end
end GS
namespace GS
open PySem L2
/-- a list, a tuple, a text: whichever comes -/
def iSeq (K : PySem.W.Frag) (w : World) (te : TE) : TI := fun σ H R => te σ H fun x H1 =>
  (∃ a, x = .ref a ∧ (∃ xs, SqL K H1 a xs) ∧ R (Itl K a) H1) ∨ (∃ a, x = .ref a ∧ (∃ xs, SqT K H1 a xs) ∧ R (Itt K a) H1) ∨ (∃ z, x = .str z ∧ R (Its z) H1) ∨ ∃ a ep xs vs, x = .ref a ∧ H1 a = some (dX w a ep xs) ∧ Vals vs (xs.map (·.2.1)) ∧ R (Itx w a ep xs vs) H1
theorem pi_seq {X : Cx} {tg e : Expr} {te : TE} (he : PE X e te) : PI X tg e (iSeq X.K X.w te) := by
  refine ⟨fun pins s σ H R I h => ?_⟩
  refine thn (he.run pins s σ H _ I h) fun v s1 ⟨x, H1, I1, r1, q1⟩ => ?_
  rcases q1 with ⟨a, e, ⟨xs, hq⟩, q⟩ | ⟨a, e, ⟨xs, hq⟩, q⟩ | ⟨x, ex, q⟩ | ⟨d, ep, xs, vs, ex, hd, rv, q⟩
  · subst e
    cases r1
    obtain ⟨its, rv, p, hz⟩ := I1.list hq
    refine wpAny_pyIter_list p.isList ?_
    exact pi_one (tk := s1.toks) I1 _ (turn_list a _) ⟨_, Heap.get?_push_size _ rfl, rfl, rfl⟩ q
  · subst e
    cases r1
    obtain ⟨its, rv, p, hz⟩ := I1.tuple hq
    refine wpAny_pyIter_tuple (show s1.heap.IsTuple a its.toArray from p) ?_
    exact pi_one (tk := s1.toks) I1 _ (turn_tuple a _) ⟨_, Heap.get?_push_size _ rfl, rfl, rfl⟩ q
  · subst ex
    obtain ⟨t, rfl⟩ := r1
    cases ha : x.cps.all (· < 128)
    · exact wpAny_pyIter_wide ha (pi_one (tk := s1.toks) I1 _ (turn_str _ x t "str_iterator" (.inr rfl)) ⟨_, Heap.get?_push_size _ rfl, rfl, rfl⟩ q)
    · exact wpAny_pyIter_ascii ha (pi_one (tk := s1.toks) I1 _ (turn_str _ x t "str_ascii_iterator" (.inl rfl)) ⟨_, Heap.get?_push_size _ rfl, rfl, rfl⟩ q)
  · subst ex
    obtain rfl : v = Value.ref d := r1
    obtain ⟨es, hm, he, _, hs⟩ := dX_raw I1.hok hd
    have ls : es.size = vs.length := by rw [← Array.length_toList, he, List.length_map, rv.length, List.length_map]
    refine wpAny_pyIter_dict_raw hs hm (pi_one (tk := s1.toks) I1 _ (turn_dX _ rv) ⟨_, Heap.get?_push_size _ rfl, rfl, ?_⟩ q)
    rw [ls] <;> rfl
/-- what the i-th turn gives -/
def YOk (K : KW) (B : Hp) (ds : List D) : Nat → Hp → V → Hp → Prop := fun i H x H' => ∃ d, ds[i]? = some d ∧
  ((H' = H ∧ Rp K B x d) ∨ ∃ T o vs es, x = .ref T ∧ H T = none ∧ o.dict = none ∧ H' = upd H T (.frz o (.tup vs)) ∧ d = .tuple es ∧ RpL K B vs es)
def ItOk (K : KW) (B : Hp) (ds : List D) (J : It) : Prop := Walk J ds.length (fun H => Same B H) (YOk K B ds)
inductive RI where | stuck | ok (ds : List D) (ρ : Rho) | exc (x : Xc) (ρ : Rho)
abbrev IF := Rho → RI
def GoodI (C : Ct) (ρ : Rho) (σ : St) (B H : Hp) (R : It → Hp → Prop) : RI → Prop
  | .stuck => False
  | .ok ds ρ' => ∀ J B' H', Sim C.K ρ' σ B' H' → Ext ρ σ B H ρ' σ B' H' → ItOk C.K B' ds J → R J H'
  | .exc x ρ' => ∀ cls dct B' H', Sim C.K ρ' σ B' H' → Ext ρ σ B H ρ' σ B' H' → XcOk C B' x cls dct → C.W cls dct σ H'
def LkI (C : Ct) (w : TI) (f : IF) : Prop := ∀ ρ σ B H R, Sim C.K ρ σ B H → GoodI C ρ σ B H R (f ρ) → w σ H R
structure SI (X : Cx) (C : Ct) (tg it : Expr) (w : TI) (f : IF) : Prop where
  pi : PI X tg it w
  lk : LkI C w f
def bindEI (r : RE) (k : Hd → Rho → RI) : RI := match r with
  | .stuck => .stuck
  | .ok h ρ => k h ρ
  | .exc x ρ => .exc x ρ
def items : D → Option (List D)
  | .list ds => some ds
  | .tuple ds => some ds
  | .str z => some (z.cps.toList.map fun c => .str ⟨#[c]⟩)
  | .dict ps => if xnB ps then none else some (ps.map (·.1))
  | _ => none
/-- for over a list, a tuple or a text that is shared -/
def iSq (fe : EF) : IF := fun ρ => bindEI (eCap fe ρ) fun h ρ1 => match h with
  | .sh d => match items d with
    | some ds => .ok ds ρ1
    | none => .stuck
  | _ => .stuck
section
variable {X : Cx} {C : Ct} {ρ ρ1 : Rho} {σ σ1 : St} {B H B1 H1 : Hp} {e tg : Expr} {te : TE} {fe : EF} {pos p : Pos}
theorem LkE.bindI (l : LkE C te fe) (S : Sim C.K ρ σ B H) {k : Hd → Rho → RI} {R : It → Hp → Prop} {Q' : VK} (g : GoodI C ρ σ B H R (bindEI (fe ρ) k))
    (h : ∀ hd ρ1 v B1 H1, Sim C.K ρ1 σ B1 H1 → Ext ρ σ B H ρ1 σ B1 H1 → HdOk C.K (New ρ σ H) ρ1 σ B1 H1 v hd → GoodI C ρ σ B H R (k hd ρ1) → Q' v H1) : te σ H Q' := by
  refine l ρ σ B H Q' S ?_
  cases e : fe ρ with
  | stuck => rw [e] at g; exact g
  | ok hd ρ1 => rw [e] at g; exact fun v B1 H1 s x y => h hd ρ1 v B1 H1 s x y g
  | exc x ρ1 => rw [e] at g; exact g
theorem it_list {K : KW} {a : Addr} {vs : List V} {ds : List D} (h : SqL K B a vs) (r : RpL K B vs ds) : ItOk K B ds (Itl K a) := by
  unfold ItOk
  rw [← r.length]
  refine (walk_list (K := K) (a := a) (xs := vs)).mono (fun H s => same_l s h) fun i H x H' hi s y => ?_
  obtain ⟨rfl, hv⟩ := y
  obtain ⟨d, q1, q2⟩ := r.getV hv
  exact ⟨d, q1, .inl ⟨rfl, q2⟩⟩
theorem it_tup {K : KW} {a : Addr} {vs : List V} {ds : List D} (h : SqT K B a vs) (r : RpL K B vs ds) : ItOk K B ds (Itt K a) := by
  unfold ItOk
  rw [← r.length]
  refine (walk_tup (K := K) (a := a) (xs := vs)).mono (fun H s => same_t s h) fun i H x H' hi s y => ?_
  obtain ⟨rfl, hv⟩ := y
  obtain ⟨d, q1, q2⟩ := r.getV hv
  exact ⟨d, q1, .inl ⟨rfl, q2⟩⟩
theorem it_str {K : KW} {z : Str} : ItOk K B (z.cps.toList.map fun c => .str ⟨#[c]⟩) (Its z) := by
  unfold ItOk
  rw [List.length_map, Array.length_toList]
  refine (walk_str (z := z)).mono (fun H _ => trivial) fun i H x H' hi s y => ?_
  obtain ⟨rfl, c, hc, rfl⟩ := y
  refine ⟨.str ⟨#[c]⟩, ?_, .inl ⟨rfl, .str _⟩⟩
  rw [List.getElem?_map, Array.getElem?_toList, hc]
  rfl
theorem rpx_keys {K : KW} {b : Bool} : ∀ {xs : List (NestedKey × Value × Value)} {ps : List (D × D)}, RpX K B b xs ps → ∃ vs, Vals vs (xs.map (·.2.1)) ∧ RpL K B vs (ps.map (·.1))
  | _, _, .nil => ⟨[], .nil, .nil⟩
  | _, _, .cons (kv := kv) _ _ h3 h4 _ _ h7 => by
    obtain ⟨vs, q1, q2⟩ := rpx_keys h7
    exact ⟨kv :: vs, .cons h4 q1, .cons h3 q2⟩
theorem it_dct {K : KW} {a : Addr} {ep : Nat} {xs : List (NestedKey × Value × Value)} {vs : List V} {ds : List D} (h : B a = some (dX K.w a ep xs)) (r : RpL K B vs ds) : ItOk K B ds (Itx K.w a ep xs vs) := by
  unfold ItOk
  rw [← r.length]
  refine walk_dX.mono (fun H s => s _ _ h) fun i H x H' hi s y => ?_
  obtain ⟨rfl, hv⟩ := y
  obtain ⟨d, q1, q2⟩ := r.getV hv
  exact ⟨d, q1, .inl ⟨rfl, q2⟩⟩
theorem lk_sq (l : LkE C te fe) : LkI C (iSeq C.K C.K.w te) (iSq fe) := fun ρ σ B H R S g => by
  refine l.cap.bindI S g fun hd ρ1 v B1 H1 S1 x1 y1 g1 => ?_
  cases hd with
  | sh d =>
    dsimp only at g1
    split at g1
    · rename_i ds ed
      cases d with
      | list es =>
        cases ed
        obtain ⟨a, vs, rfl, ha, ra⟩ := Rp.lstE y1
        exact .inl ⟨a, rfl, ⟨vs, same_l S1.bh ha⟩, g1 _ _ _ S1 x1 (it_list ha ra)⟩
      | tuple es =>
        cases ed
        obtain ⟨a, vs, rfl, ha, ra⟩ := Rp.tupE y1
        exact .inr (.inl ⟨a, rfl, ⟨vs, same_t S1.bh ha⟩, g1 _ _ _ S1 x1 (it_tup ha ra)⟩)
      | str z =>
        cases ed
        cases (show Rp C.K B1 v (.str z) from y1)
        exact .inr (.inr (.inl ⟨z, rfl, g1 _ _ _ S1 x1 it_str⟩))
      | dict ps =>
        obtain ⟨c, rfl⟩ : xnB ps = false ∧ ds = ps.map (·.1) := by
          replace ed : (if xnB ps then none else some (ps.map (·.1))) = some ds := ed
          split at ed
          · cases ed
          · rename_i c
            exact ⟨by simpa using c, (Option.some.inj ed).symm⟩
        cases (show Rp C.K B1 v (.dict ps) from y1) with
        | dct h r =>
          obtain ⟨vs, q1, q2⟩ := rpx_keys r
          exact .inr (.inr (.inr ⟨_, _, _, vs, rfl, S1.bh _ _ h, q1, g1 _ _ _ S1 x1 (it_dct h q2)⟩))
        | exn _ _ _ _ => cases c
      | _ => cases ed
    · exact g1.elim
  | _ => exact g1.elim
theorem si_sq (l : SE X C e te fe) (hk : X.K = C.K := by rfl) (hw : X.w = C.K.w := by rfl) : SI X C tg e (iSeq C.K C.K.w te) (iSq fe) := ⟨by rw [← hk, ← hw]; exact pi_seq l.pe, lk_sq l.lk⟩
def rgD (lo : Int) (n : Nat) : List D := (List.range n).map fun (i : Nat) => PyData.int (lo + (i : Int))
theorem it_range {K : KW} {lo : Int} {n : Nat} : ItOk K B (rgD lo n) (Itr lo n) := by
  unfold ItOk rgD
  rw [List.length_map, List.length_range]
  refine (walk_range (lo := lo) (n := n)).mono (fun H _ => trivial) fun i H x H' hi s y => ?_
  obtain ⟨rfl, rfl⟩ := y
  refine ⟨.int (lo + i), ?_, .inl ⟨rfl, .int _⟩⟩
  rw [List.getElem?_map, List.getElem?_range hi]
  rfl
def okR (i : Int) : Bool := Nat.ble i.natAbs 1000000000
def iR1 (fe : EF) : IF := fun ρ => bindEI (eSet fe ρ) fun h ρ1 => match getH ρ1 h with
  | some (.int j) => if okR j then .ok (rgD 0 j.toNat) ρ1 else .stuck
  | _ => .stuck
theorem e62 : (2 : Int) ^ 62 = 4611686018427387904 := by decide +kernel
theorem okR_ok {i : Int} (h : okR i = true) : -(2 ^ 62) ≤ i ∧ i < 2 ^ 62 := by
  have := Nat.le_of_ble_eq_true h
  rw [e62]
  omega
theorem si_r1 (l : SE X C e te fe) (hm : X.mg "range" = none) (hg : Gl X "range" := by rfl) (hs : starEach [e] X.env = [(false, eval e X.env)] := by rfl) : SI X C tg (.Call (.Name "range" p) [e] [] pos) (iRng1 (tCons te tNil)) (iR1 fe) := ⟨pi_range1 hg hm (pa_cons l.pe pa_nil hs) hs, fun ρ σ B H R S g => by
  refine l.lk.set.bindI S g fun hd ρ1 v B1 H1 S1 x1 y1 g1 => ?_
  split at g1
  · rename_i j ej
    split at g1
    · rename_i ok
      obtain ⟨h1, h2⟩ := okR_ok ok
      exact ⟨j, by rw [(S1.tp y1 ej).int], h1, h2, g1 _ _ _ S1 x1 it_range⟩
    · exact g1.elim
  · exact g1.elim⟩
def iR2 (fa fb : EF) : IF := fun ρ => bindEI (eSet fa ρ) fun ha ρ1 => bindEI (eSet fb ρ1) fun hb ρ2 => match getH ρ2 ha, getH ρ2 hb with
  | some (.int i), some (.int j) => if okR i && okR j then .ok (rgD i (j - i).toNat) ρ2 else .stuck
  | _, _ => .stuck
theorem GoodI.ext (x : Ext ρ σ B H ρ1 σ B1 H1) {R : It → Hp → Prop} : ∀ {r : RI}, GoodI C ρ σ B H R r → GoodI C ρ1 σ B1 H1 R r
  | .stuck, g => g
  | .ok _ _, g => fun J B' H' s y z => g J B' H' s (x.trans y) z
  | .exc _ _, g => fun c d B' H' s y z => g c d B' H' s (x.trans y) z
theorem setl_setl (h : Hd) : setl (setl h) = setl h := by cases h <;> rfl
theorem set_set {fe : EF} {hd : Hd} (e : eSet fe ρ = .ok hd ρ1) : setl hd = hd := by
  unfold eSet bindE at e
  split at e
  · cases e
  · cases e
    exact setl_setl _
  · cases e
theorem LkE.setBindI (l : LkE C te fe) (S : Sim C.K ρ σ B H) {k : Hd → Rho → RI} {R : It → Hp → Prop} {Q' : VK} (g : GoodI C ρ σ B H R (bindEI (eSet fe ρ) k))
    (h : ∀ hd ρ1 v B1 H1, Sim C.K ρ1 σ B1 H1 → Ext ρ σ B H ρ1 σ B1 H1 → HdOk C.K (New ρ σ H) ρ1 σ B1 H1 v (setl hd) → GoodI C ρ1 σ B1 H1 R (k (setl hd) ρ1) → Q' v H1) : te σ H Q' := by
  refine l.set ρ σ B H Q' S ?_
  cases e : eSet fe ρ with
  | stuck => rw [e] at g; exact g
  | ok hd ρ1 =>
    rw [e] at g
    refine fun v B1 H1 s x y => h hd ρ1 v B1 H1 s x ?_ ?_
    · rw [set_set e]; exact y
    · rw [set_set e]; exact GoodI.ext x g
  | exc x ρ1 => rw [e] at g; exact g
theorem si_r2 {a b : Expr} {ta tb : TE} {fa fb : EF} (la : SE X C a ta fa) (lb : SE X C b tb fb) (hm : X.mg "range" = none) (hg : Gl X "range" := by rfl) (hs : starEach [a, b] X.env = [(false, eval a X.env), (false, eval b X.env)] := by rfl) (hs2 : starEach [b] X.env = [(false, eval b X.env)] := by rfl) :
    SI X C tg (.Call (.Name "range" p) [a, b] [] pos) (iRng2 (tCons ta (tCons tb tNil))) (iR2 fa fb) := ⟨pi_range2 hg hm (pa_cons la.pe (pa_cons lb.pe pa_nil hs2) (by rw [hs, hs2])) hs hs2, fun ρ σ B H R S g => by
  refine la.lk.setBindI S g fun ha ρ1 v B1 H1 S1 x1 y1 g1 => ?_
  refine lb.lk.setBindI S1 g1 fun hb ρ2 u B2 H2 S2 x2 y2 g2 => ?_
  split at g2
  · rename_i i j ei ej
    split at g2
    · rename_i ok
      rw [Bool.and_eq_true] at ok
      obtain ⟨h1, h2⟩ := okR_ok ok.1
      obtain ⟨h3, h4⟩ := okR_ok ok.2
      exact ⟨i, j, by rw [(S2.tp (N := fun _ => True) (HdOk.ext x2 y1) ei).int, (S2.tp y2 ej).int], ⟨h1, h2, h3, h4⟩, g2 _ _ _ S2 Ext.refl it_range⟩
    · exact g2.elim
  · exact g2.elim⟩
def forL (g : D → Rho → Option Rho) (b : SF) : List D → Rho → RS
  | [], ρ => .nx ρ
  | d :: ds, ρ => match g d ρ with
    | none => .stuck
    | some ρ1 => match b ρ1 with
      | .nx ρ2 => forL g b ds ρ2
      | .ct ρ2 => forL g b ds ρ2
      | .bk ρ2 => .nx ρ2
      | r => r
def sFor (fi : IF) (g : D → Rho → Option Rho) (b : SF) : SF := fun ρ => match fi ρ with
  | .stuck => .stuck
  | .exc x ρ1 => .exc x ρ1
  | .ok ds ρ1 => forL g b ds ρ1
theorem lk_for {w : TI} {tgt : TG} {tb : TS} {fi : IF} {g : D → Rho → Option Rho} {b : SF} (li : LkI C w fi) (lg : LkG C tgt g) (lb : LkS C tb b) : LkS C (tFor w tgt tb) (sFor fi g b) := fun ρ σ B H E S gd => by
  refine li ρ σ B H _ S ?_
  unfold sFor at gd
  cases e : fi ρ with
  | stuck => rw [e] at gd; exact gd
  | exc x ρ1 => rw [e] at gd; exact fun c d B' H' s x => gd c d σ B' H' s x
  | ok ds ρ1 =>
    rw [e] at gd
    replace gd : GoodS C ρ σ B H E (forL g b ds ρ1) := gd
    intro J B1 H1 S1 x1 ok
    refine for_it ok (fun i σ' H' => ∃ ρ' B', Sim C.K ρ' σ' B' H' ∧ Ext ρ σ B H ρ' σ' B' H' ∧ Same B1 B' ∧ GoodS C ρ σ B H E (forL g b (ds.drop i) ρ')) ⟨ρ1, B1, S1, x1, Same.refl _, gd⟩ (fun i σ' H' _ ⟨ρ', B', S', _, s', _⟩ => s'.trans S'.bh) ?_ ?_
    · rintro i v σ' H' H2 hi ⟨ρ', B', S', x', s', g'⟩ ⟨d, ed, y⟩
      have hd : ds.drop i = d :: ds.drop (i + 1) := by
        have := List.drop_eq_getElem_cons hi
        rw [this]
        congr 1
        exact Option.some.inj ((List.getElem?_eq_getElem hi).symm.trans ed)
      rw [hd] at g'
      have step : ∃ B2, Sim C.K ρ' σ' B2 H2 ∧ Ext ρ σ B H ρ' σ' B2 H2 ∧ Same B1 B2 ∧ Rp C.K B2 v d := by
        rcases y with ⟨rfl, r⟩ | ⟨T, o, vs, es, rfl, hT, ho, rfl, rfl, r⟩
        · exact ⟨B', S', x', s', r.mono s'⟩
        · obtain ⟨S2, x2⟩ := S'.newB hT (.frz o (.tup vs))
          exact ⟨_, S2, x'.trans x2, s'.trans x2.bb, .tup (XT.new ho) (r.mono (s'.trans x2.bb))⟩
      obtain ⟨B2, S2, x2, s2, r2⟩ := step
      unfold forL at g'
      cases eg : g d ρ' with
      | none => rw [eg] at g'; exact g'.elim
      | some ρ3 =>
        rw [eg] at g'
        refine lg ρ' σ' B2 H2 v d ρ3 _ S2 r2 eg fun σ3 B3 H3 S3 x3 => ?_
        refine lb ρ3 σ3 B3 H3 _ S3 ?_
        have x3' := x2.trans x3
        cases eb : b ρ3 with
        | stuck => simp only [eb] at g'; exact g'
        | nx ρ4 => simp only [eb] at g'; exact fun σ4 B4 H4 S4 x4 => ⟨ρ4, B4, S4, x3'.trans x4, (s2.trans x3.bb).trans x4.bb, g'⟩
        | ct ρ4 => simp only [eb] at g'; exact fun σ4 B4 H4 S4 x4 => ⟨ρ4, B4, S4, x3'.trans x4, (s2.trans x3.bb).trans x4.bb, g'⟩
        | bk ρ4 => simp only [eb] at g'; exact fun σ4 B4 H4 S4 x4 => g' σ4 B4 H4 S4 (x3'.trans x4)
        | rt h ρ4 => simp only [eb] at g'; exact GoodS.ext (r := .rt h ρ4) x3' g'
        | exc c ρ4 => simp only [eb] at g'; exact GoodS.ext (r := .exc c ρ4) x3' g'
    · rintro σ' H' ⟨ρ', B', S', x', _, g'⟩
      rw [List.drop_length] at g'
      exact g' σ' B' H' S' x'
theorem ss_for {it : Expr} {body : List Stmt} {w : TI} {tgt : TG} {tb : TS} {fi : IF} {g : D → Rho → Option Rho} {b : SF} (hp : PassesOwn (model X.prog X.w) X.A X.env X.xe) (hc : X.calm = true) (li : SI X C tg it w fi) (lg : SG X C tg tgt g) (lb : SSs X C body tb b)
    (hs : ∀ x, foldedSetIterable it X.env x = pure x := by intro _; rfl) : SS X C (.For tg it body [] pos) (tFor w tgt tb) (sFor fi g b) := ⟨ps_for hp hc li.pi lg.pg lb.ps hs, lk_for li.lk lg.lk lb.lk⟩
def whileL (ft : EF) (b : SF) : Nat → Rho → RS
  | 0, _ => .stuck
  | n + 1, ρ => bindBS (ft ρ) fun c ρ1 => if c then (match b ρ1 with
      | .nx ρ2 => whileL ft b n ρ2
      | .ct ρ2 => whileL ft b n ρ2
      | .bk ρ2 => .nx ρ2
      | r => r) else .nx ρ1
theorem lk_while {tt : TT} {tb : TS} {ft : EF} {b : SF} (n : Nat) (lt : LkT C tt ft) (lb : LkS C tb b) : LkS C (tWhile tt tb) (whileL ft b n) := fun ρ σ B H E S gd => by
  refine ⟨fun m σ' H' => ∃ ρ' B', Sim C.K ρ' σ' B' H' ∧ GoodS C ρ' σ' B' H' E (whileL ft b m ρ'), ⟨n, ρ, B, S, gd⟩, ?_⟩
  rintro m σ' H' ⟨ρ', B', S', g'⟩
  cases m with
  | zero => exact g'.elim
  | succ m =>
    unfold whileL at g'
    refine lt.bindS S' g' fun c ρ1 B1 H1 S1 x1 g1 => ?_
    cases c with
    | false =>
      rw [if_neg Bool.false_ne_true]
      exact g1 σ' B1 H1 S1 Ext.refl
    | true =>
      rw [if_pos rfl]
      refine ⟨fun σ2 H2 => ∃ ρ2 B2, Sim C.K ρ2 σ2 B2 H2 ∧ GoodS C ρ2 σ2 B2 H2 E (whileL ft b m ρ2), fun σ2 H2 h => ⟨m, Nat.lt_succ_self m, h⟩, ?_⟩
      refine lb ρ1 σ' B1 H1 _ S1 ?_
      replace g1 : GoodS C ρ1 σ' B1 H1 E (match b ρ1 with
        | .nx ρ2 => whileL ft b m ρ2
        | .ct ρ2 => whileL ft b m ρ2
        | .bk ρ2 => .nx ρ2
        | r => r) := g1
      cases eb : b ρ1 with
      | stuck => simp only [eb] at g1; exact g1
      | nx ρ4 => simp only [eb] at g1; exact fun σ4 B4 H4 S4 x4 => ⟨ρ4, B4, S4, GoodS.ext x4 g1⟩
      | ct ρ4 => simp only [eb] at g1; exact fun σ4 B4 H4 S4 x4 => ⟨ρ4, B4, S4, GoodS.ext x4 g1⟩
      | bk ρ4 => simp only [eb] at g1; exact fun σ4 B4 H4 S4 x4 => g1 σ4 B4 H4 S4 x4
      | rt h ρ4 => simp only [eb] at g1; exact g1
      | exc c ρ4 => simp only [eb] at g1; exact g1
theorem ss_while {c : Expr} {body : List Stmt} {tt : TT} {tb : TS} {ft : EF} {b : SF} (n : Nat) (hp : PassesOwn (model X.prog X.w) X.A X.env X.xe) (lt : ST X C c tt ft) (lb : SSs X C body tb b) : SS X C (.While c body [] pos) (tWhile tt tb) (whileL ft b n) := ⟨ps_while hp lt.pt lb.ps, lk_while n lt.lk lb.lk⟩
def wipeR (ρ : Rho) : List Nat → Rho
  | [] => ρ
  | v :: vs => (wipeR ρ vs).set v none
/-- the turns: acc what is made so far -/
def lcL (vs : List Nat) (g : D → Rho → Option Rho) (ft fe : EF) : List D → List D → Rho → RE
  | [], acc, ρ => .ok (.fr (.list acc)) ρ
  | d :: ds, acc, ρ => match g d ρ with
    | none => .stuck
    | some ρ1 => bindB (ft ρ1) fun c ρ2 => if c then bindE (eCap fe ρ2) fun h ρ3 => match h with
        | .sh y => if acc.length < sizeLine then lcL vs g ft fe ds (acc ++ [y]) (wipeR ρ3 vs) else .stuck
        | _ => .stuck
      else lcL vs g ft fe ds acc (wipeR ρ2 vs)
def eLc (vs : List Nat) (fi : IF) (g : D → Rho → Option Rho) (ft fe : EF) : EF := fun ρ => match fi ρ with
  | .stuck => .stuck
  | .exc x ρ1 => .exc x ρ1
  | .ok ds ρ1 => if vs.all fun i => !ioAt ρ1 i then lcL vs g ft fe ds [] (wipeR ρ1 vs) else .stuck
theorem wipeR_len (ρ : Rho) : ∀ vs : List Nat, (wipeR ρ vs).length = ρ.length
  | [] => rfl
  | v :: vs => by unfold wipeR; rw [List.length_set, wipeR_len ρ vs]
theorem wipeR_some {ρ : Rho} {i : Nat} {c : Cel} : ∀ {vs : List Nat}, (wipeR ρ vs)[i]? = some (some c) → ρ[i]? = some (some c) ∧ i ∉ vs
  | [], h => ⟨h, by simp⟩
  | v :: vs, h => by
    unfold wipeR at h
    rcases set_get h with ⟨_, ec⟩ | ⟨ne, h⟩
    · cases ec
    · obtain ⟨h1, h2⟩ := wipeR_some h
      exact ⟨h1, by simp only [List.mem_cons, not_or]; exact ⟨fun e => ne e.symm, h2⟩⟩
theorem wipeR_keep {ρ : Rho} {i : Nat} : ∀ {vs : List Nat}, i ∉ vs → (wipeR ρ vs)[i]? = ρ[i]?
  | [], _ => rfl
  | v :: vs, h => by
    simp only [List.mem_cons, not_or] at h
    unfold wipeR
    rw [set_other (fun e => h.1 e.symm)]
    exact wipeR_keep h.2
theorem wipe_keep {σ : St} {i : Nat} : ∀ {vs : List Nat}, i ∉ vs → (wipe σ vs)[i]? = σ[i]?
  | [], _ => rfl
  | v :: vs, h => by
    simp only [List.mem_cons, not_or] at h
    unfold wipe
    rw [List.getElem?_set, if_neg (fun e => h.1 e.symm)]
    exact wipe_keep h.2
/-- slots are forgotten on both sides -/
theorem Sim.wipe {K : KW} {σ' : St} (S : Sim K ρ σ B H) (vs : List Nat) (hl : σ'.length = σ.length) (he : ∀ i, i ∉ vs → σ'[i]? = σ[i]?) : Sim K (wipeR ρ vs) σ' B H := by
  refine ⟨S.bh, by rw [wipeR_len, hl]; exact S.len, fun i c h => ?_, fun i j ci cj a hi hj ni nj ei ej => ?_⟩
  · obtain ⟨h1, h2⟩ := wipeR_some h
    rw [he i h2]
    exact S.sl i c h1
  · obtain ⟨h1, h2⟩ := wipeR_some hi
    obtain ⟨h3, h4⟩ := wipeR_some hj
    rw [he i h2] at ei
    rw [he j h4] at ej
    exact S.dj i j ci cj a h1 h3 ni nj ei ej
theorem Ext.wipe {σ' : St} (x : Ext ρ σ B H ρ1 σ1 B1 H1) (vs : List Nat) (hn : ∀ i ∈ vs, ∀ c, ρ[i]? = some (some c) → c.fl ≠ .io) (he : ∀ i, i ∉ vs → σ'[i]? = σ1[i]?) : Ext ρ σ B H (wipeR ρ1 vs) σ' B1 H1 := by
  refine ⟨x.bb, x.nw, x.kp, fun a ⟨i, c, h1, h2, h3⟩ => ?_, fun i c h1 h2 => ?_, fun i c h1 h2 => ?_⟩
  · obtain ⟨q1, q2⟩ := wipeR_some h1
    rw [he i q2] at h3
    exact x.sub a ⟨i, c, q1, h2, h3⟩
  · have ni : i ∉ vs := fun z => hn i z c h1 h2
    obtain ⟨e1, c1, q1, q2⟩ := x.io i c h1 h2
    exact ⟨(he i ni).trans e1, c1, (wipeR_keep ni).trans q1, q2⟩
  · obtain ⟨q1, _⟩ := wipeR_some h1
    exact x.oi i c q1 h2
end
end GS
namespace GS
open PySem L2
section
variable {X : Cx} {C : Ct} {ρ ρ1 : Rho} {σ σ1 σ' : St} {B H B1 H1 : Hp} {e tg : Expr} {te : TE} {fe : EF} {pos p : Pos} {vs : List Nat} {K : KW}
theorem wipe_get (σ : St) (j : Nat) : ∀ vs : List Nat, (wipe σ vs)[j]? = if j ∈ vs then (if j < σ.length then some none else none) else σ[j]?
  | [] => by simp [wipe]
  | v :: vs => by
    unfold wipe
    rw [List.getElem?_set, wipe_get σ j vs, wipe_length]
    by_cases h : v = j
    · subst h; simp
    · have h' : ¬ j = v := fun z => h z.symm
      simp [h, h']
theorem wipe_set {i : Nat} {x : Option V} (h : i ∈ vs) : wipe (σ.set i x) vs = wipe σ vs := by
  apply List.ext_getElem?
  intro j
  rw [wipe_get, wipe_get, List.length_set]
  by_cases hj : j ∈ vs
  · simp [hj]
  · rw [if_neg hj, if_neg hj, List.getElem?_set, if_neg (fun (z : i = j) => hj (z ▸ h))]
theorem of_wipe (h : wipe σ1 vs = wipe σ vs) : σ1.length = σ.length ∧ ∀ i, i ∉ vs → σ1[i]? = σ[i]? := by
  refine ⟨by rw [← wipe_length σ1 vs, h, wipe_length], fun i hi => ?_⟩
  rw [← wipe_keep hi, h, wipe_keep hi]
/-- targets of a comprehension -/
def LkGw (C : Ct) (vs : List Nat) (g : TG) (f : D → Rho → Option Rho) : Prop := ∀ ρ σ B H v d ρ' Q, Sim C.K ρ σ B H → Rp C.K B v d → f d ρ = some ρ' → (∀ σ' B' H', Sim C.K ρ' σ' B' H' → Ext ρ σ B H ρ' σ' B' H' → wipe σ' vs = wipe σ vs → Q σ' H') → g v σ H Q
def LkGws (C : Ct) (vs : List Nat) (g : TGs) (f : List D → Rho → Option Rho) : Prop := ∀ ρ σ B H ws ds ρ' Q, Sim C.K ρ σ B H → RpL C.K B ws ds → f ds ρ = some ρ' → (∀ σ' B' H', Sim C.K ρ' σ' B' H' → Ext ρ σ B H ρ' σ' B' H' → wipe σ' vs = wipe σ vs → Q σ' H') → g ws σ H Q
theorem lkw_N {i : Nat} (hi : i ∈ vs) : LkGw C vs (gName i) (gN i) := fun ρ σ B H v d ρ' Q S r e k => by
  unfold gN at e
  obtain ⟨h, rfl⟩ := if_some e
  simp only [Bool.and_eq_true, decide_eq_true_eq, Bool.not_eq_true'] at h
  obtain ⟨S2, x2⟩ := store_ok S Ext.refl (c := ⟨d, .sh⟩) h.1 h.2 (by simp) (.inl ⟨rfl, r⟩) fun z => absurd rfl z
  exact k _ _ _ S2 x2 (wipe_set hi)
theorem lkw_nil : LkGws C vs gNil gsN := fun ρ σ B H ws ds ρ' Q S r e k => by
  cases r with
  | nil => cases e; exact ⟨rfl, k _ _ _ S Ext.refl rfl⟩
  | cons _ _ => cases e
theorem lkw_C {tg : TG} {tgs : TGs} {f : D → Rho → Option Rho} {g : List D → Rho → Option Rho} (a : LkGw C vs tg f) (b : LkGws C vs tgs g) : LkGws C vs (gCons tg tgs) (gsC f g) := fun ρ σ B H ws ds ρ' Q S r e k => by
  cases r with
  | nil => cases e
  | cons h t =>
    obtain ⟨ρ1, e1, e2⟩ := Option.bind_eq_some_iff.mp (show (f _ ρ).bind (g _) = some ρ' from e)
    refine ⟨_, _, rfl, a ρ σ B H _ _ ρ1 _ S h e1 fun σ1 B1 H1 S1 x1 w1 => ?_⟩
    exact b ρ1 σ1 B1 H1 _ _ ρ' Q S1 (t.mono x1.bb) e2 fun σ2 B2 H2 S2 x2 w2 => k _ _ _ S2 (x1.trans x2) (w2.trans w1)
theorem lkw_T {tgs : TGs} {n : Nat} {g : List D → Rho → Option Rho} (b : LkGws C vs tgs g) : LkGw C vs (gTL C.K n tgs) (gT n g) := fun ρ σ B H v d ρ' Q S r e k => by
  cases d with
  | tuple ds =>
    replace e : (if ds.length = n then g ds ρ else none) = some ρ' := e
    split at e
    · obtain ⟨a, ws, rfl, ha, ra⟩ := r.tupE
      exact .inl ⟨a, ws, rfl, same_t S.bh ha, by rw [ra.length]; assumption, b ρ σ B H ws ds ρ' Q S ra e k⟩
    · cases e
  | list ds =>
    replace e : (if ds.length = n then g ds ρ else none) = some ρ' := e
    split at e
    · cases r with
      | lst ha ra => exact .inr ⟨_, _, rfl, same_l S.bh ha, by rw [ra.length]; assumption, b ρ σ B H _ ds ρ' Q S ra e k⟩
    · cases e
  | _ => cases e
/-- without exceptions -/
def eNox (f : EF) : EF := fun ρ => match f ρ with
  | .exc _ _ => .stuck
  | r => r
abbrev Ct.nox (C : Ct) : Ct := { C with W := fun _ _ _ _ => False }
theorem LkE.ofNox {t : TE} {f : EF} (l : LkE C.nox t f) : LkE C t (eNox f) := fun ρ σ B H Q S g => by
  refine l ρ σ B H Q S ?_
  unfold eNox at g
  cases e : f ρ with
  | stuck => rw [e] at g; exact g
  | ok h ρ1 => rw [e] at g; exact g
  | exc x ρ1 => rw [e] at g; exact g.elim
theorem LkT.ofNox {t : TT} {f : EF} (l : LkT C.nox t f) : LkT C t (eNox f) := fun ρ σ B H Q S g => by
  refine l ρ σ B H Q S ?_
  unfold eNox at g
  cases e : f ρ with
  | stuck => rw [e] at g; exact g
  | ok h ρ1 =>
    rw [e] at g
    cases h with
    | sh d => cases d <;> exact g
    | _ => exact g
  | exc x ρ1 => rw [e] at g; exact g.elim
theorem eNox_ne (f : EF) (ρ : Rho) {x : Xc} {ρ1 : Rho} : eNox f ρ ≠ .exc x ρ1 := fun h => by
  unfold eNox at h
  split at h
  · cases h
  · rename_i z; exact z _ _ h
theorem cap_nox_ne (f : EF) (ρ : Rho) {x : Xc} {ρ1 : Rho} : eCap (eNox f) ρ ≠ .exc x ρ1 := fun h => by
  unfold eCap bindE at h
  split at h
  · cases h
  · dsimp only at h
    split at h <;> cases h
  · rename_i e; exact eNox_ne _ _ e
def NoV (ρ : Rho) (vs : List Nat) : Prop := ∀ (i : Nat) (c : Cel), ρ[i]? = some (some c) → i ∉ vs
theorem noV_wipe : NoV (wipeR ρ vs) vs := fun i c h => (wipeR_some h).2
theorem Sim.swap (S : Sim K ρ σ B H) (n : NoV ρ vs) (hl : σ'.length = σ.length) (he : ∀ i, i ∉ vs → σ'[i]? = σ[i]?) : Sim K ρ σ' B H := by
  refine ⟨S.bh, by rw [hl]; exact S.len, fun i c h => ?_, fun i j ci cj a hi hj ni nj ei ej => ?_⟩
  · rw [he i (n i c h)]; exact S.sl i c h
  · rw [he i (n i ci hi)] at ei
    rw [he j (n j cj hj)] at ej
    exact S.dj i j ci cj a hi hj ni nj ei ej
theorem Sim.tweak (S : Sim K ρ σ B H) {q : Addr} {o : HO} (hb : B q = none) (hn : ¬ OwnA ρ σ q) : Sim K ρ σ B (upd H q o) := by
  refine ⟨fun b u z => ?_, S.len, fun i c h => ?_, S.dj⟩
  · rw [upd_ne (ne_of_none z hb)]; exact S.bh _ _ z
  · obtain ⟨v, ev, ok⟩ := S.sl i c h
    refine ⟨v, ev, ok.mono (Same.refl B) fun a hv ha ho hf => ⟨ha, ?_⟩⟩
    have ne : a ≠ q := fun z => by subst z hv; exact hn ⟨i, c, h, hf, ev⟩
    rw [upd_ne ne]
theorem Ext.tweak (x : Ext ρ σ B H ρ1 σ1 B1 H1) {q : Addr} {o : HO} (hn : New ρ σ H q) : Ext ρ σ B H ρ1 σ1 B1 (upd H1 q o) := by
  refine ⟨x.bb, x.nw, fun a u h n => ?_, x.sub, x.io, x.oi⟩
  have ne : a ≠ q := fun z => by
    subst z
    rcases hn with z | z
    · rw [h] at z; cases z
    · exact n z
  rw [upd_ne ne]
  exact x.kp a u h n
theorem OwnA.swap {a : Addr} (n : NoV ρ vs) (he : ∀ i, i ∉ vs → σ'[i]? = σ[i]?) (h : OwnA ρ σ' a) : OwnA ρ σ a := by
  obtain ⟨i, c, h1, h2, h3⟩ := h
  exact ⟨i, c, h1, h2, (he i (n i c h1)).symm.trans h3⟩
theorem Ext.swapL (x : Ext ρ σ' B H ρ1 σ1 B1 H1) (n : NoV ρ vs) (he : ∀ i, i ∉ vs → σ'[i]? = σ[i]?) (ho : ∀ (i : Nat) c, ρ[i]? = some (some c) → c.fl = .io → σ1[i]? = σ[i]?) : Ext ρ σ B H ρ1 σ1 B1 H1 := by
  have own : ∀ a, OwnA ρ σ' a → OwnA ρ σ a := fun a h => h.swap n he
  have own' : ∀ a, OwnA ρ σ a → OwnA ρ σ' a := fun a h => h.swap n fun i hi => (he i hi).symm
  exact ⟨x.bb, fun a o h => (x.nw a o h).imp id fun z => z.elim .inl fun z => .inr (own a z), fun a o h z => x.kp a o h fun w => z (own a w), fun a h => (x.sub a h).elim .inl fun z => .inr (own a z),
    fun i c h1 h2 => ⟨ho i c h1 h2, (x.io i c h1 h2).2⟩, x.oi⟩
theorem lk_lc {w : TI} {tgt : TG} {tt : TT} {fi : IF} {g : D → Rho → Option Rho} {ft : EF} (li : LkI C w fi) (lg : LkGw C vs tgt g) (lt : LkT C.nox tt ft) (le : LkE C.nox te fe) : LkE C (tLc w tgt tt te vs) (eLc vs fi g (eNox ft) (eNox fe)) := fun ρ σ B H Q S gd => by
  have lt' := lt.ofNox
  have le' := le.ofNox
  refine li ρ σ B H _ S ?_
  unfold eLc at gd
  cases e : fi ρ with
  | stuck => rw [e] at gd; exact gd
  | exc x ρ1 => rw [e] at gd; exact gd
  | ok ds ρ1 =>
    rw [e] at gd
    replace gd : GoodE C ρ σ B H Q (if vs.all fun i => !ioAt ρ1 i then lcL vs g (eNox ft) (eNox fe) ds [] (wipeR ρ1 vs) else .stuck) := gd
    by_cases hio : (vs.all fun i => !ioAt ρ1 i) = true
    case neg => rw [if_neg hio] at gd; exact gd.elim
    rw [if_pos hio] at gd
    intro J B1 H1 S1 x1 ok Dd hD
    have hio' : ∀ i ∈ vs, ∀ c, ρ1[i]? = some (some c) → c.fl ≠ .io := fun i hi c hc => by
      have := List.all_eq_true.mp hio i hi
      exact not_io (by simpa using this) hc
    have hio0 : ∀ i ∈ vs, ∀ c, ρ[i]? = some (some c) → c.fl ≠ .io := fun i hi c hc hf => by
      obtain ⟨_, c', q1, q2⟩ := x1.io i c hc hf
      exact hio' i hi c' q1 q2
    obtain ⟨bD, nD⟩ := S1.free hD
    have newD : New ρ σ H Dd := x1.back (.inl hD)
    have wk : ∀ i, i ∉ vs → (wipe σ vs)[i]? = σ[i]? := fun i hi => wipe_keep hi
    have wl : (wipe σ vs).length = σ.length := wipe_length σ vs
    -- the start
    have S0 : Sim C.K (wipeR ρ1 vs) σ B1 (upd H1 Dd (.lst [])) := (S1.wipe vs rfl fun _ _ => rfl).tweak bD fun ⟨i, c, h1, h2, h3⟩ => nD ⟨i, c, (wipeR_some h1).1, h2, h3⟩
    have x0 : Ext ρ σ B H (wipeR ρ1 vs) σ B1 (upd H1 Dd (.lst [])) := (x1.wipe vs hio0 fun _ _ => rfl).tweak newD
    refine lc_it ok (fun i Hc => ∃ ρ' B' vacc acc, Sim C.K ρ' σ B' Hc ∧ NoV ρ' vs ∧ Ext ρ σ B H ρ' σ B' Hc ∧ Same B1 B' ∧ Hc Dd = some (.lst vacc) ∧ B' Dd = none ∧ ¬ OwnA ρ' σ Dd ∧ RpL C.K B' vacc acc ∧ GoodE C ρ σ B H Q (lcL vs g (eNox ft) (eNox fe) (ds.drop i) acc ρ'))
      ⟨wipeR ρ1 vs, B1, [], [], S0, noV_wipe, x0, Same.refl _, upd_same, bD, fun ⟨i, c, h1, h2, h3⟩ => nD ⟨i, c, (wipeR_some h1).1, h2, h3⟩, .nil, gd⟩ (fun i Hc _ ⟨ρ', B', _, _, S', _, _, s', _⟩ => s'.trans S'.bh) ?_ ?_
    · rintro i v Hc H2 hi ⟨ρ', B', vacc, acc, S', nv, x', s', hacc, bacc, nacc, racc, g'⟩ ⟨d, ed, y⟩
      have hd : ds.drop i = d :: ds.drop (i + 1) := by
        have := List.drop_eq_getElem_cons hi
        rw [this]
        congr 1
        exact Option.some.inj ((List.getElem?_eq_getElem hi).symm.trans ed)
      rw [hd] at g'
      -- the turn's item
      have step : ∃ B2, Sim C.K ρ' σ B2 H2 ∧ Ext ρ σ B H ρ' σ B2 H2 ∧ Same B1 B2 ∧ Rp C.K B2 v d ∧ H2 Dd = some (.lst vacc) ∧ B2 Dd = none ∧ RpL C.K B2 vacc acc := by
        rcases y with ⟨rfl, r⟩ | ⟨T, o, ws, es, rfl, hT, ho, rfl, rfl, r⟩
        · exact ⟨B', S', x', s', r.mono s', hacc, bacc, racc⟩
        · obtain ⟨S2, x2⟩ := S'.newB hT (.frz o (.tup ws))
          have ne : Dd ≠ T := ne_of_none hacc hT
          exact ⟨_, S2, x'.trans x2, s'.trans x2.bb, .tup (XT.new ho) (r.mono (s'.trans x2.bb)), by rw [upd_ne ne]; exact hacc, by rw [upd_ne ne]; exact bacc, racc.mono x2.bb⟩
      obtain ⟨B2, S2, x2, s2, r2, hacc2, bacc2, racc2⟩ := step
      unfold lcL at g'
      cases eg : g d ρ' with
      | none => rw [eg] at g'; exact g'.elim
      | some ρ3 =>
        rw [eg] at g'
        have S2w : Sim C.K ρ' (wipe σ vs) B2 H2 := S2.swap nv wl wk
        refine lg ρ' (wipe σ vs) B2 H2 v d ρ3 _ S2w r2 eg fun σ3 B3 H3 S3 x3 w3 => ?_
        have w3' : wipe σ3 vs = wipe σ vs := by
          rw [w3]
          apply List.ext_getElem?
          intro j
          rw [wipe_get, wl, wipe_get]
          by_cases hj : j ∈ vs <;> simp [hj]
        obtain ⟨l3, k3⟩ := of_wipe w3'
        refine ⟨w3', ?_⟩
        have nacc' : ¬ OwnA ρ' (wipe σ vs) Dd := fun z => nacc (z.swap nv wk)
        obtain ⟨hacc3, bacc3, nacc3⟩ := x3.keepN hacc2 bacc2 nacc'
        -- from the start to here, at σ3
        have x3s : Ext ρ σ B H ρ3 σ3 B3 H3 := x2.trans (x3.swapL nv wk fun j c h1 h2 => k3 j (nv j c h1))
        dsimp only at g'
        refine lt' ρ3 σ3 B3 H3 _ S3 ?_
        cases et : eNox ft ρ3 with
        | stuck => rw [et] at g'; exact g'.elim
        | exc c ρ4 => exact absurd et (eNox_ne _ _)
        | ok h ρ4 =>
          rw [et] at g'
          cases h with
          | fr _ => exact g'.elim
          | bw _ => exact g'.elim
          | sh dd =>
            cases dd with
            | bool b =>
              replace g' : GoodE C ρ σ B H Q (if b then bindE (eCap (eNox fe) ρ4) fun h ρ3 => match h with
                | .sh y => if acc.length < sizeLine then lcL vs g (eNox ft) (eNox fe) (ds.drop (i + 1)) (acc ++ [y]) (wipeR ρ3 vs) else .stuck
                | _ => .stuck
                else lcL vs g (eNox ft) (eNox fe) (ds.drop (i + 1)) acc (wipeR ρ4 vs)) := g'
              intro B4 H4 S4 x4
              obtain ⟨hacc4, bacc4, nacc4⟩ := x4.keepN hacc3 bacc3 nacc3
              have x4s : Ext ρ σ B H ρ4 σ3 B4 H4 := x3s.trans x4
              have racc4 := (racc2.mono x3.bb).mono x4.bb
              have s4 : Same B1 B4 := (s2.trans x3.bb).trans x4.bb
              cases b with
              | false =>
                rw [if_neg Bool.false_ne_true] at g' ⊢
                exact ⟨wipeR ρ4 vs, B4, vacc, acc, S4.wipe vs l3.symm fun j hj => (k3 j hj).symm, noV_wipe, x4s.wipe vs hio0 fun j hj => (k3 j hj).symm, s4, hacc4, bacc4,
                  fun ⟨j, c, h1, h2, h3⟩ => nacc4 ⟨j, c, (wipeR_some h1).1, h2, (k3 j (wipeR_some h1).2).trans h3⟩, racc4, g'⟩
              | true =>
                rw [if_pos rfl] at g' ⊢
                refine le'.cap ρ4 σ3 B4 H4 _ S4 ?_
                cases ee : eCap (eNox fe) ρ4 with
                | stuck => rw [ee] at g'; exact g'.elim
                | exc c ρ5 => exact absurd ee (cap_nox_ne _ _)
                | ok h ρ5 =>
                  rw [ee] at g'
                  cases h with
                  | fr _ => exact g'.elim
                  | bw _ => exact g'.elim
                  | sh y =>
                    replace g' : GoodE C ρ σ B H Q (if acc.length < sizeLine then lcL vs g (eNox ft) (eNox fe) (ds.drop (i + 1)) (acc ++ [y]) (wipeR ρ5 vs) else .stuck) := g'
                    intro u B5 H5 S5 x5 y5
                    obtain ⟨hacc5, bacc5, nacc5⟩ := x5.keepN hacc4 bacc4 nacc4
                    by_cases hsz : acc.length < sizeLine
                    case neg => rw [if_neg hsz] at g'; exact g'.elim
                    rw [if_pos hsz] at g'
                    have nown : ¬ OwnA (wipeR ρ5 vs) σ Dd := fun ⟨j, c, h1, h2, h3⟩ => nacc5 ⟨j, c, (wipeR_some h1).1, h2, (k3 j (wipeR_some h1).2).trans h3⟩
                    refine ⟨vacc, hacc5, by rw [racc.length]; exact hsz, wipeR ρ5 vs, B5, vacc ++ [u], acc ++ [y], (S5.wipe vs l3.symm fun j hj => (k3 j hj).symm).tweak bacc5 nown, noV_wipe,
                      ((x4s.trans x5).wipe vs hio0 fun j hj => (k3 j hj).symm).tweak newD, s4.trans x5.bb, upd_same, bacc5, nown, (racc4.mono x5.bb).append (.cons y5 .nil), g'⟩
            | _ => exact g'.elim
    · rintro Hc ⟨ρ', B', vacc, acc, S', nv, x', s', hacc, bacc, nacc, racc, g'⟩
      rw [List.drop_length] at g'
      exact g' _ B' Hc S' x' ⟨Dd, rfl, bacc, ⟨vacc, hacc, racc⟩, nacc, newD⟩
/-- a comprehension with one for -/
theorem se_lc {elt it : Expr} {ifs : List Expr} {scope : Scope} {own : List (Str × Nat)} {w : TI} {tgt : TG} {tt : TT} {fi : IF} {g : D → Rho → Option Rho} {ft : EF} (hc : X.calm = true) (hN : X.N.Nodup) (li : SI X C tg it w fi) (ok : BlkOk X.N X.env.scope scope own)
    (hg : ∀ (s : Shared) (H : Hp) (c : Addr) (cl : List (Str × Addr)) (fp : List Addr), PG (X.blk s H scope (compEnvC scope cl c X.env) fp) tg tgt) (lg : LkGw C (own.map (·.2)) tgt g)
    (ht : ∀ (s : Shared) (H : Hp) (c : Addr) (cl : List (Str × Addr)) (fp : List Addr), PTs (X.blk s H scope (compEnvC scope cl c X.env) fp) ifs tt) (lt : LkT C.nox tt ft)
    (he : ∀ (s : Shared) (H : Hp) (c : Addr) (cl : List (Str × Addr)) (fp : List Addr), PE (X.blk s H scope (compEnvC scope cl c X.env) fp) elt te) (le : LkE C.nox te fe)
    (hs : ∀ x, foldedSetIterable it X.env x = pure x := by intro _; rfl) : SE X C (.ListComp elt [⟨tg, it, ifs, 0⟩] scope pos) (tLc w tgt tt te (own.map (·.2))) (eLc (own.map (·.2)) fi g (eNox ft) (eNox fe)) :=
  ⟨pe_lc hc hN li.pi ok hg ht he hs, lk_lc li.lk lg lt le⟩
end
end GS
namespace GS
open PySem L2
section
variable {X : Cx} {C : Ct} {ρ ρ1 : Rho} {σ σ1 σ' : St} {B H B1 H1 : Hp} {e tg : Expr} {te : TE} {fe : EF} {pos p : Pos} {vs : List Nat} {K : KW}
theorem Sim.mut (S : Sim K ρ σ B H) {i : Nat} {c : Cel} {a : Addr} {o : HO} {d : D} (hi : ρ[i]? = some (some c)) (hf : c.fl ≠ .sh) (ha : σ[i]? = some (some (.ref a))) (ow : Ow K B a (some o) d) :
    Sim K (ρ.set i (some ⟨d, c.fl⟩)) σ B (upd H a o) ∧ Ext ρ σ B H (ρ.set i (some ⟨d, c.fl⟩)) σ B (upd H a o) := by
  obtain ⟨v, ev, ok⟩ := S.sl i c hi
  rw [ha] at ev
  cases ev
  rcases ok with ⟨z, _⟩ | ⟨_, b, eb, hb, _⟩
  · exact absurd z hf
  cases eb
  refine ⟨⟨fun b u z => ?_, by rw [List.length_set]; exact S.len, fun j cj hj => ?_, fun j k cj ck b hj hk nj nk ej ek => ?_⟩, ⟨Same.refl B, fun b u z => .inl z, fun b u z n => ?_, fun b z => ?_, fun j cj hj hjf => ?_, fun j cj hj hjf => ?_⟩⟩
  · rw [upd_ne (ne_of_none z hb)]; exact S.bh _ _ z
  · rcases set_get hj with ⟨rfl, ec⟩ | ⟨ne, hj⟩
    · cases ec
      exact ⟨.ref a, ha, .inr ⟨hf, a, rfl, hb, by rw [upd_same]; exact ow⟩⟩
    · obtain ⟨v, ev, ok⟩ := S.sl j cj hj
      refine ⟨v, ev, ok.mono (Same.refl B) fun b hv hb' ho' hf' => ⟨hb', ?_⟩⟩
      have nb : b ≠ a := fun z => by
        subst z hv
        exact ne (S.dj i j c cj b hi hj hf hf' ha ev)
      rw [upd_ne nb]
  · have f1 : ∃ c1, ρ[j]? = some (some c1) ∧ c1.fl ≠ .sh := by
      rcases set_get hj with ⟨rfl, ec⟩ | ⟨_, hj⟩
      · cases ec; exact ⟨c, hi, hf⟩
      · exact ⟨cj, hj, nj⟩
    have f2 : ∃ c1, ρ[k]? = some (some c1) ∧ c1.fl ≠ .sh := by
      rcases set_get hk with ⟨rfl, ec⟩ | ⟨_, hk⟩
      · cases ec; exact ⟨c, hi, hf⟩
      · exact ⟨ck, hk, nk⟩
    obtain ⟨c1, a1, a2⟩ := f1
    obtain ⟨c2, b1, b2⟩ := f2
    exact S.dj j k c1 c2 b a1 b1 a2 b2 ej ek
  · have nb : b ≠ a := fun q => by subst q; exact n ⟨i, c, hi, hf, ha⟩
    rw [upd_ne nb]; exact z
  · obtain ⟨j, cj, hj, nj, ej⟩ := z
    rcases set_get hj with ⟨rfl, ec⟩ | ⟨_, hj⟩
    · cases ec; exact .inr ⟨i, c, hi, hf, ej⟩
    · exact .inr ⟨j, cj, hj, nj, ej⟩
  · by_cases hij : i = j
    · subst hij
      rw [hi] at hj
      cases hj
      exact ⟨rfl, _, set_at (lt_of hi), hjf⟩
    · exact ⟨rfl, cj, by rw [set_other hij]; exact hj, hjf⟩
  · rcases set_get hj with ⟨rfl, ec⟩ | ⟨_, hj⟩
    · cases ec; exact ⟨c, hi, hjf⟩
    · exact ⟨cj, hj, hjf⟩
/-- the object of an owned slot -/
theorem Sim.own (S : Sim K ρ σ B H) {i : Nat} {c : Cel} (hi : ρ[i]? = some (some c)) (hf : c.fl ≠ .sh) : ∃ a, σ[i]? = some (some (.ref a)) ∧ B a = none ∧ Ow K B a (H a) c.d := by
  obtain ⟨v, ev, ok⟩ := S.sl i c hi
  rcases ok with ⟨z, _⟩ | ⟨_, b, rfl, hb, ho⟩
  · exact absurd z hf
  · exact ⟨b, ev, hb, ho⟩
/-- a slot that may be changed -/
def mutS (ρ : Rho) (i : Nat) (k : D → Option D) : RS := match slot ρ i with
  | some ⟨d, .ow⟩ => match k d with
    | some d' => .nx (ρ.set i (some ⟨d', .ow⟩))
    | none => .stuck
  | some ⟨d, .io⟩ => match k d with
    | some d' => .nx (ρ.set i (some ⟨d', .io⟩))
    | none => .stuck
  | _ => .stuck
theorem mutS_ok {E : Ends} {i : Nat} {k : D → Option D} (g : GoodS C ρ σ B H E (mutS ρ1 i k)) : ∃ c d', ρ1[i]? = some (some c) ∧ c.fl ≠ .sh ∧ k c.d = some d' ∧ GoodS C ρ σ B H E (.nx (ρ1.set i (some ⟨d', c.fl⟩))) := by
  unfold mutS at g
  split at g
  · rename_i d es
    split at g
    · rename_i d' ek
      exact ⟨_, d', slot_some es, by simp, ek, g⟩
    · exact g.elim
  · rename_i d es
    split at g
    · rename_i d' ek
      exact ⟨_, d', slot_some es, by simp, ek, g⟩
    · exact g.elim
  · exact g.elim
def appD (y : D) : D → Option D
  | .list ds => if ds.length < sizeLine then some (.list (ds ++ [y])) else none
  | _ => none
def isL (ρ : Rho) (i : Nat) : Bool := match slot ρ i with
  | some ⟨.list _, _⟩ => true
  | _ => false
def sApp (i : Nat) (fe : EF) : SF := fun ρ => if isL ρ i then bindES (eCap fe ρ) fun h ρ1 => match h with
  | .sh y => mutS ρ1 i (appD y)
  | _ => .stuck else .stuck
theorem isL_ok (S : Sim K ρ σ B H) {i : Nat} (h : isL ρ i = true) : ∃ a vs, σ[i]? = some (some (.ref a)) ∧ SqL K H a vs := by
  unfold isL at h
  split at h
  · rename_i ds fl es
    obtain ⟨v, ev, ok⟩ := S.sl i _ (slot_some es)
    rcases ok with ⟨_, q⟩ | ⟨_, a, rfl, _, vs, q, _⟩
    · obtain ⟨a, vs, rfl, ha, _⟩ := Rp.lstE q
      exact ⟨a, vs, ev, same_l S.bh ha⟩
    · exact ⟨a, vs, ev, .inl (.inl q)⟩
  · cases h
theorem tyL {a : Addr} {vs : List V} (h : SqL K H a vs) : tyV K "list" (.ref a) H := .inl ⟨rfl, _, h⟩
theorem ss_app {i : Nat} {x : Str} {q1 q2 q3 : Pos} (l : SE X C e te fe) (hN : X.N[i]? = some x := by rfl) (hv : Vis X.env.scope x := by first | exact Or.inl rfl | exact Or.inr (Or.inl rfl) | exact Or.inr (Or.inr rfl)) (hd : (x == ("__debug__" : Str)) = false := by decide)
    (hcd : (x == ("__classdict__" : Str)) = false := by decide) (hk : X.K = C.K := by rfl) (hs : starEach [e] X.env = (false, eval e X.env) :: starEach [] X.env := by rfl)
    (hfew : ((backTo q3 (starEach [e] X.env)).all (fun x => !x.1) && (backToKw q3 (keywordEach [] X.env)).all (fun x => x.1.isSome) && decide ([e].length + ([] : List Keyword).length + (if ([] : List Keyword).isEmpty then 0 else 1) < 30)) = true := by rfl)
    (hline : (q2.endLine == q3.line) = true := by rfl) :
    SS X C (.Expr (.Call (.Attribute (.Name x q1) "append" q2) [e] [] q3) pos) (tDrop (tBM C.K "list" rAppend (tVar i) (tCons te tNil))) (sApp i fe) := by
  refine ⟨by rw [← hk]; exact ps_expr (pe_bm PySem.F.plainAttrs_list PySem.F.slot_list_append PySem.F.type_list_append mt_append (pe_var hN hv hd hcd) (pa_cons l.pe pa_nil hs) rfl hfew hline hs), fun ρ σ B H E S g => ?_⟩
  unfold sApp at g
  by_cases hl : isL ρ i = true
  case neg => rw [if_neg hl] at g; exact g.elim
  rw [if_pos hl] at g
  obtain ⟨a, vs, ea, sq⟩ := isL_ok S hl
  refine ⟨.ref a, ea, tyL sq, ?_⟩
  refine l.lk.cap.bindS S g fun hd ρ1 v B1 H1 S1 x1 y1 g1 => ?_
  cases hd with
  | sh y =>
    obtain ⟨c, d', h1, h2, h3, h4⟩ := mutS_ok g1
    obtain ⟨a', ea', hb, ow⟩ := S1.own h1 h2
    rw [ea] at ea'
    cases ea'
    obtain ⟨d, fl⟩ := c
    cases d with
    | list ds =>
      obtain ⟨hc, rfl⟩ := if_some (show (if ds.length < sizeLine then some (.list (ds ++ [y])) else none) = some d' from h3)
      obtain ⟨ws, ew, rw'⟩ := ow
      have ow' : Ow C.K B1 a (some (.lst (ws ++ [v]))) (.list (ds ++ [y])) := ⟨_, rfl, rw'.append (.cons y1 .nil)⟩
      obtain ⟨S2, x2⟩ := S1.mut h1 h2 ea ow'
      exact ⟨a, ws, v, rfl, rfl, ew, by rw [rw'.length]; exact hc, h4 _ _ _ S2 (x1.trans x2)⟩
    | _ => cases h3
  | _ => exact g1.elim
end
def ioC : Option Cel → Option Cel
  | some ⟨d, .io⟩ => some ⟨d, .io⟩
  | _ => none
def outR (ρ : Rho) (n : Nat) : Rho := (List.range n).map fun i => ioC (slot ρ i)
def fnF (m n : Nat) (g : SF) : FF := fun ρ => match g (ρ ++ List.replicate (m - n) none) with
  | .rt (.bw _) _ => .stuck
  | .rt h ρ1 => .ok h (outR ρ1 n)
  | .nx ρ1 => .ok (.sh .none) (outR ρ1 n)
  | .exc x ρ1 => .exc x (outR ρ1 n)
  | _ => .stuck
theorem ioC_some {o : Option Cel} {c : Cel} (h : ioC o = some c) : o = some c ∧ c.fl = .io := by
  unfold ioC at h
  split at h
  · cases h; exact ⟨rfl, rfl⟩
  · cases h
theorem outR_at {ρ : Rho} {n i : Nat} {c : Cel} (h : (outR ρ n)[i]? = some (some c)) : i < n ∧ ρ[i]? = some (some c) ∧ c.fl = .io := by
  unfold outR at h
  rw [List.getElem?_map] at h
  by_cases hi : i < n
  · rw [List.getElem?_range hi] at h
    obtain ⟨q1, q2⟩ := ioC_some (Option.some.inj h)
    exact ⟨hi, slot_some q1, q2⟩
  · rw [List.getElem?_eq_none (by rw [List.length_range]; omega)] at h
    cases h
theorem slot_of {ρ : Rho} {i : Nat} {c : Cel} (h : ρ[i]? = some (some c)) : slot ρ i = some c := by
  unfold slot
  rw [h]
theorem outR_has {ρ : Rho} {n i : Nat} {c : Cel} (hi : i < n) (h : ρ[i]? = some (some c)) (hf : c.fl = .io) : (outR ρ n)[i]? = some (some c) := by
  unfold outR
  rw [List.getElem?_map, List.getElem?_range hi]
  show some (ioC (slot ρ i)) = _
  rw [slot_of h]
  obtain ⟨d, fl⟩ := c
  cases hf
  rfl
section
variable {K : KW} {ρ ρ1 : Rho} {σ1 : St} {B H B1 H1 : Hp} {N : List Str} {vs : List V} {n : Nat}
theorem start_get {i : Nat} (h : i < vs.length) : (L2.start N vs)[i]? = (vs.map some)[i]? := by
  unfold L2.start
  rw [List.getElem?_append_left (by simpa using h)]
theorem ap_get {m : Nat} {i : Nat} {c : Cel} (h : (ρ ++ List.replicate m none)[i]? = some (some c)) : i < ρ.length ∧ ρ[i]? = some (some c) := by
  by_cases hi : i < ρ.length
  · rw [List.getElem?_append_left hi] at h; exact ⟨hi, h⟩
  · rw [List.getElem?_append_right (by omega), List.getElem?_replicate] at h
    split at h <;> cases h
theorem ap_of {m : Nat} {i : Nat} {c : Cel} (h : ρ[i]? = some (some c)) : (ρ ++ List.replicate m none)[i]? = some (some c) := by
  rw [List.getElem?_append_left (lt_of h)]; exact h
theorem entry_own {m : Nat} (hl : ρ.length = vs.length) {a : Addr} : OwnA (ρ ++ List.replicate m none) (L2.start N vs) a ↔ OwnA ρ (vs.map some) a := by
  constructor
  · rintro ⟨i, c, h1, h2, h3⟩
    obtain ⟨q1, q2⟩ := ap_get h1
    exact ⟨i, c, q2, h2, by rw [← start_get (by omega)]; exact h3⟩
  · rintro ⟨i, c, h1, h2, h3⟩
    exact ⟨i, c, ap_of h1, h2, by rw [start_get (by have := lt_of h1; omega)]; exact h3⟩
theorem entry_sim (S : Sim K ρ (vs.map some) B H) (hN : vs.length ≤ N.length) : Sim K (ρ ++ List.replicate (N.length - vs.length) none) (L2.start N vs) B H := by
  have hl : ρ.length = vs.length := by rw [S.len, List.length_map]
  refine ⟨S.bh, ?_, fun i c h => ?_, fun i j ci cj a hi hj ni nj ei ej => ?_⟩
  · unfold L2.start
    rw [List.length_append, List.length_append, List.length_replicate, List.length_replicate, List.length_map, hl]
  · obtain ⟨q1, q2⟩ := ap_get h
    obtain ⟨v, ev, ok⟩ := S.sl i c q2
    exact ⟨v, by rw [start_get (by omega)]; exact ev, ok⟩
  · obtain ⟨q1, q2⟩ := ap_get hi
    obtain ⟨q3, q4⟩ := ap_get hj
    rw [start_get (by omega)] at ei ej
    exact S.dj i j ci cj a q2 q4 ni nj ei ej
/-- the body's end as the caller sees it -/
theorem exit_sim {m : Nat} (S : Sim K ρ (vs.map some) B H) (hn : ρ.length = n) (S1 : Sim K ρ1 σ1 B1 H1) (x : Ext (ρ ++ List.replicate m none) (L2.start N vs) B H ρ1 σ1 B1 H1) :
    Sim K (outR ρ1 n) (vs.map some) B1 H1 ∧ Ext ρ (vs.map some) B H (outR ρ1 n) (vs.map some) B1 H1 ∧ (∀ a, OwnA (outR ρ1 n) (vs.map some) a → OwnA ρ1 σ1 a) ∧ ∀ a, New (ρ ++ List.replicate m none) (L2.start N vs) H a → New ρ (vs.map some) H a := by
  have hl : ρ.length = vs.length := by rw [S.len, List.length_map]
  have hnew : ∀ a, New (ρ ++ List.replicate m none) (L2.start N vs) H a → New ρ (vs.map some) H a := fun a h => h.imp id (entry_own hl).mp
  -- a lent slot stands as at the entry
  have same : ∀ (i : Nat) (c : Cel), (outR ρ1 n)[i]? = some (some c) → i < vs.length ∧ ρ1[i]? = some (some c) ∧ c.fl = .io ∧ σ1[i]? = (vs.map some)[i]? := fun i c h => by
    obtain ⟨q1, q2, q3⟩ := outR_at h
    obtain ⟨c', r1, r2⟩ := x.oi i c q2 q3
    obtain ⟨w1, _⟩ := ap_get r1
    have e := (x.io i c' r1 r2).1
    rw [start_get (by omega)] at e
    exact ⟨by omega, q2, q3, e⟩
  have own : ∀ a, OwnA (outR ρ1 n) (vs.map some) a → OwnA ρ1 σ1 a := fun a ⟨i, c, h1, h2, h3⟩ => by
    obtain ⟨_, q2, _, q4⟩ := same i c h1
    exact ⟨i, c, q2, h2, q4.trans h3⟩
  refine ⟨⟨S1.bh, ?_, fun i c h => ?_, fun i j ci cj a hi hj ni nj ei ej => ?_⟩, ⟨x.bb, fun a o h => (x.nw a o h).imp id (hnew a), fun a o h z => x.kp a o h fun w => z ((entry_own hl).mp w), fun a h => hnew a (x.sub a (own a h)), fun i c h1 h2 => ?_, fun i c h1 h2 => ?_⟩, own, hnew⟩
  · unfold outR
    rw [List.length_map, List.length_range, List.length_map]
    omega
  · obtain ⟨_, q2, _, q4⟩ := same i c h
    obtain ⟨v, ev, ok⟩ := S1.sl i c q2
    exact ⟨v, q4.symm.trans ev, ok⟩
  · obtain ⟨_, q2, _, q4⟩ := same i ci hi
    obtain ⟨_, r2, _, r4⟩ := same j cj hj
    exact S1.dj i j ci cj a q2 r2 ni nj (q4.trans ei) (r4.trans ej)
  · obtain ⟨_, c', q1, q2⟩ := x.io i c (ap_of h1) h2
    exact ⟨rfl, c', outR_has (by have := lt_of h1; omega) q1 q2, q2⟩
  · obtain ⟨_, q2, q3, _⟩ := same i c h1
    obtain ⟨c', r1, r2⟩ := x.oi i c q2 q3
    exact ⟨c', (ap_get r1).2, r2⟩
end
section
variable {P : Program} {w : World} {K : KW} {mg : Str → Option Value} {base : Heap} {cv : Str → Value}
abbrev cxF (P : Program) (w : World) (K : PySem.W.Frag) (mg : Str → Option Value) (base : Heap) (N : List Str) (qual : Str) (st : Stmt) (f : Addr) (cdv : Value) (A : Around) (outer : List Env) (s : Shared) (H : Hp) (E : XK) : Cx :=
  cxOf (L2.CX P w) P w K mg base N qual (defScope st) f cdv A outer s H E
abbrev ctF (K : KW) (cv : Str → Value) (E : XK) : Ct := ⟨K, cv, fun cls d _ H' => E cls d H'⟩
/-- THE RULE for a def: from its body -/
theorem fn_mk {x qual : Str} {st : Stmt} {f : Addr} {fd : FuncData} {N ps : List Str} {k : Nat} {g : SF} (F : Fun K x qual st f fd) (S : FnScope N ps (defScope st))
    (hb : ∀ (cdv : Value) (A : Around) (outer : List Env) (s : Shared) (H : Hp) (E : XK), Room k (cxF P w K mg base N qual st f cdv A outer s H E).A → Takes (cxF P w K mg base N qual st f cdv A outer s H E) (ctF K cv E).W →
      PassesOwn (model P w) (cxF P w K mg base N qual st f cdv A outer s H E).A (cxF P w K mg base N qual st f cdv A outer s H E).env (cxF P w K mg base N qual st f cdv A outer s H E).xe →
      ∃ t, SSs (cxF P w K mg base N qual st f cdv A outer s H E) (ctF K cv E) (defBody st) t g) :
    FnOk P w K mg base (L2.CX P w) (k + 1) f fd ps (spF K cv ps.length (fnF N.length ps.length g)) := by
  have hpl : ps.length ≤ N.length := by have := congrArg List.length S.pre; rw [List.length_take] at this; omega
  refine F.okX S (fun vs H Q E h => ?_) (fun cdv A outer s H vs Q E hr h => ?_)
  · obtain ⟨ρ, B, hl, Sm, _⟩ := h
    have := Sm.len
    rw [List.length_map] at this
    omega
  · obtain ⟨ρ, B, hl, Sm, gd⟩ := h
    have hv : vs.length = ps.length := by
      have := Sm.len
      rw [List.length_map] at this
      omega
    obtain ⟨t, ht⟩ := hb cdv A outer s H E hr (takes_of rfl rfl rfl rfl) (passes_of rfl)
    refine ⟨t, ht.ps, ht.lk (ρ ++ List.replicate (N.length - ps.length) none) _ B H _ (by rw [← hv]; exact entry_sim Sm (by omega)) ?_⟩
    unfold fnF at gd
    cases eg : g (ρ ++ List.replicate (N.length - ps.length) none) with
    | stuck => rw [eg] at gd; exact gd
    | bk _ => rw [eg] at gd; exact gd.elim
    | ct _ => rw [eg] at gd; exact gd.elim
    | nx ρ1 =>
      rw [eg] at gd
      intro σ1 B1 H1 S1 x1
      obtain ⟨S2, x2, _, _⟩ := exit_sim Sm hl S1 x1
      exact gd .non B1 H1 S2 x2 .non
    | exc c ρ1 =>
      rw [eg] at gd
      intro cls dct σ1 B1 H1 S1 x1 ok
      obtain ⟨S2, x2, _, _⟩ := exit_sim Sm hl S1 x1
      exact gd cls dct B1 H1 S2 x2 ok
    | rt h ρ1 =>
      rw [eg] at gd
      intro v σ1 B1 H1 S1 x1 y1
      obtain ⟨S2, x2, n1, n2⟩ := exit_sim Sm hl S1 x1
      cases h with
      | sh d => exact gd v B1 H1 S2 x2 y1
      | fr d =>
        obtain ⟨a, r1, r2, r3, r4, r5⟩ := y1
        exact gd v B1 H1 S2 x2 ⟨a, r1, r2, r3, fun z => r4 (n1 a z), n2 a r5⟩
      | bw i => exact gd.elim
theorem fn_zero {f : Addr} {fd : FuncData} {ps : List Str} {n : Nat} (hn : n = ps.length) : FnOk P w K mg base (L2.CX P w) 0 f fd ps (spF K cv n fun _ => .stuck) :=
  ⟨fun vs H Q E ⟨_, _, _, _, h⟩ => h.elim, fun A outer s H args us vs Q E _ _ _ _ ⟨_, _, _, _, h⟩ => h.elim⟩
theorem rpl_ints {B : Hp} : ∀ ns : List Int, RpL K B (ns.map V.int) (ns.map PyData.int)
  | [] => .nil
  | n :: ns => .cons (.int n) (rpl_ints ns)
/-- the law's promise from what it computes -/
theorem law_sp {F : FF} {H : Hp} {a : Addr} {ns : List Int} {outs : Rho} (h : SqL K H a (ns.map V.int)) (e : F [some ⟨.list (ns.map .int), .sh⟩] = .ok (.sh (.bool true)) outs) {E : XK} :
    spF K cv 1 F [.ref a] H (fun v _ => v = .bl true) E := by
  refine ⟨[some ⟨.list (ns.map .int), .sh⟩], H, rfl, ⟨Same.refl H, rfl, fun i c hi => ?_, fun i j ci cj b hi hj ni nj _ _ => ?_⟩, ?_⟩
  · match i, hi with
    | 0, hi =>
      cases hi
      exact ⟨.ref a, rfl, .inl ⟨rfl, .lst h (rpl_ints ns)⟩⟩
    | i + 1, hi => simp at hi
  · match i, hi with
    | 0, hi =>
      cases hi
      exact absurd rfl ni
    | i + 1, hi => simp at hi
  · rw [e]
    intro v B' H' S x y
    cases (show Rp K B' v (.bool true) from y)
    rfl
end
end GS
namespace GS
open PySem L2
section
variable {X : Cx} {C : Ct} {ρ ρ1 : Rho} {σ σ1 σ' : St} {B H B1 H1 : Hp} {e tg : Expr} {te : TE} {fe : EF} {pos p : Pos} {vs : List Nat} {K : KW}
/-- a name handed back: its own list is given away -/
def eRv (i : Nat) : EF := fun ρ => match slot ρ i with
  | some ⟨d, .sh⟩ => .ok (.sh d) ρ
  | some ⟨d, .ow⟩ => .ok (.fr d) (ρ.set i none)
  | _ => .stuck
theorem lk_rv {i : Nat} : LkE C (tVar i) (eRv i) := fun ρ σ B H Q S g => by
  unfold eRv at g
  cases h : slot ρ i with
  | none => rw [h] at g; exact g.elim
  | some c =>
    rw [h] at g
    obtain ⟨d, fl⟩ := c
    have hi := slot_some h
    cases fl with
    | sh =>
      obtain ⟨v, e, q⟩ := S.sl i _ hi
      rcases q with ⟨_, q⟩ | ⟨q, _⟩
      · exact ⟨v, e, g v B H S Ext.refl q⟩
      · exact absurd rfl q
    | ow =>
      obtain ⟨a, e, S1, x1, r⟩ := S.give hi
      exact ⟨.ref a, e, g _ B H S1 x1 r⟩
    | io => exact g.elim
theorem se_rv (i : Nat) {x : Str} (hN : X.N[i]? = some x := by rfl) (hv : Vis X.env.scope x := by first | exact Or.inl rfl | exact Or.inr (Or.inl rfl) | exact Or.inr (Or.inr rfl)) (hd : (x == ("__debug__" : Str)) = false := by decide)
    (hcd : (x == ("__classdict__" : Str)) = false := by decide) : SE X C (.Name x pos) (tVar i) (eRv i) := ⟨pe_var hN hv hd hcd, lk_rv⟩
/-- targets and tests of a comprehension -/
structure SGw (X : Cx) (C : Ct) (vs : List Nat) (tg : Expr) (t : TG) (f : D → Rho → Option Rho) : Prop where
  pg : PG X tg t
  lk : LkGw C vs t f
structure SGws (X : Cx) (C : Ct) (vs : List Nat) (tg : List Expr) (t : TGs) (f : List D → Rho → Option Rho) : Prop where
  pg : PGs X tg t
  lk : LkGws C vs t f
theorem sgw_name {i : Nat} {x : Str} (hN : X.N.Nodup) (hm : i ∈ vs := by simp) (hi : X.N[i]? = some x := by rfl) (hx : Loc X.env.scope x := by first | exact Or.inl rfl | exact Or.inr rfl)
    (hf : X.fn x = true ∨ X.env.scope.names.lookup x = some .local := by first | exact .inl rfl | exact .inr rfl | assumption) : SGw X C vs (.Name x pos) (gName i) (gN i) := ⟨pg_name hN hi hx hf, lkw_N hm⟩
theorem sgws_nil : SGws X C vs [] gNil gsN := ⟨pgs_nil, lkw_nil⟩
theorem sgws_cons {a : Expr} {as : List Expr} {tg : TG} {tgs : TGs} {f : D → Rho → Option Rho} {g : List D → Rho → Option Rho} (h : SGw X C vs a tg f) (t : SGws X C vs as tgs g) (hs : (assignEach (a :: as) X.env).map (·.2) = assign a X.env :: (assignEach as X.env).map (·.2) := by rfl) : SGws X C vs (a :: as) (gCons tg tgs) (gsC f g) := ⟨pgs_cons h.pg t.pg hs, lkw_C h.lk t.lk⟩
theorem sgw_tup {as : List Expr} {tgs : TGs} {n k : Nat} {g : List D → Rho → Option Rho} (hc : X.calm = true) (t : SGws X C vs as tgs g) (hk : X.K = C.K := by rfl) (hn : (assignEach as X.env).length = n := by rfl) (hst : (assignEach as X.env).findIdx? (·.1) = none := by rfl) : SGw X C vs (.Tuple as k pos) (gTL C.K n tgs) (gT n g) := ⟨by rw [← hk]; exact pg_tl hc t.pg hn hst, lkw_T t.lk⟩
structure SP (X : Cx) (C : Ct) (ifs : List Expr) (t : TT) (f : EF) : Prop where
  pt : PTs X ifs t
  lk : LkT C t f
def eYes : EF := fun ρ => .ok (.sh (.bool true)) ρ
theorem sp_nil : SP X C [] tYes eYes := ⟨pts_nil, fun ρ σ B H Q S g => g B H S Ext.refl⟩
theorem sp_one {t : TT} {f : EF} (h : ST X C e t f) : SP X C [e] t f := ⟨pts_one h.pt, h.lk⟩
abbrev bk (X : Cx) (scope : Scope) (s : Shared) (H : Hp) (c : Addr) (cl : List (Str × Addr)) (fp : List Addr) : Cx := X.blk s H scope (compEnvC scope cl c X.env) fp
theorem se_comp {elt it : Expr} {ifs : List Expr} {scope : Scope} {own : List (Str × Nat)} {w : TI} {tgt : TG} {tt : TT} {fi : IF} {g : D → Rho → Option Rho} {ft : EF} (hc : X.calm = true) (hN : X.N.Nodup) (ok : BlkOk X.N X.env.scope scope own) (li : SI X C tg it w fi)
    (hg : ∀ s H c cl fp, SGw (bk X scope s H c cl fp) C (own.map (·.2)) tg tgt g) (ht : ∀ s H c cl fp, SP (bk X scope s H c cl fp) C.nox ifs tt ft) (he : ∀ s H c cl fp, SE (bk X scope s H c cl fp) C.nox elt te fe)
    (hs : ∀ x, foldedSetIterable it X.env x = pure x := by intro _; rfl) : SE X C (.ListComp elt [⟨tg, it, ifs, 0⟩] scope pos) (tLc w tgt tt te (own.map (·.2))) (eLc (own.map (·.2)) fi g (eNox ft) (eNox fe)) :=
  se_lc hc hN li ok (fun s H c cl fp => (hg s H c cl fp).pg) (hg X.s_0 X.H_0 0 [] []).lk (fun s H c cl fp => (ht s H c cl fp).pt) (ht X.s_0 X.H_0 0 [] []).lk (fun s H c cl fp => (he s H c cl fp).pe) (he X.s_0 X.H_0 0 [] []).lk hs
/-- x = [..] -/
theorem ss_setLc {i : Nat} {y : Str} {py spos : Pos} {elt it : Expr} {ifs : List Expr} {scope : Scope} {own : List (Str × Nat)} {w : TI} {tgt : TG} {tt : TT} {fi : IF} {g : D → Rho → Option Rho} {ft : EF} (hc : X.calm = true) (hN : X.N.Nodup) (ok : BlkOk X.N X.env.scope scope own) (li : SI X C tg it w fi)
    (hg : ∀ s H c cl fp, SGw (bk X scope s H c cl fp) C (own.map (·.2)) tg tgt g) (ht : ∀ s H c cl fp, SP (bk X scope s H c cl fp) C.nox ifs tt ft) (he : ∀ s H c cl fp, SE (bk X scope s H c cl fp) C.nox elt te fe)
    (hsw : swapsWith (.ListComp elt [⟨tg, it, ifs, 0⟩] scope pos) (some (.Name y py)) spos.line X.env = pure true) (hy : X.N[i]? = some y := by rfl) (hyl : X.env.scope.names.lookup y = some .local := by rfl)
    (hs : ∀ x, foldedSetIterable it X.env x = pure x := by intro _; rfl) : SS X C (.Assign [.Name y py] (.ListComp elt [⟨tg, it, ifs, 0⟩] scope pos) spos) (tAsg (tLc w tgt tt te (own.map (·.2))) (gName i)) (sSet i (eLc (own.map (·.2)) fi g (eNox ft) (eNox fe))) :=
  ⟨ps_setLc hc hN hy hyl hsw li.pi ok (fun s H c cl fp => (hg s H c cl fp).pg) (fun s H c cl fp => (ht s H c cl fp).pt) (fun s H c cl fp => (he s H c cl fp).pe) hs,
    lk_set (lk_lc li.lk (hg X.s_0 X.H_0 0 [] []).lk (ht X.s_0 X.H_0 0 [] []).lk (he X.s_0 X.H_0 0 [] []).lk)⟩
theorem se_gstr {x z : Str} (h : ∃ t, X.mg x = some (Value.str z t)) (hg : Gl X x := by rfl) (hd : (x == ("__debug__" : Str)) = false := by decide) : SE X C (.Name x pos) (tC (.str z)) (eC (.str z)) := by
  obtain ⟨t, hm⟩ := h
  exact se_glob hm ⟨t, rfl⟩ (fun _ => .str z) hg hd
theorem se_gint {x : Str} {i : Int} (h : ∃ t, X.mg x = some (Value.int i t)) (hg : Gl X x := by rfl) (hd : (x == ("__debug__" : Str)) = false := by decide) : SE X C (.Name x pos) (tC (.int i)) (eC (.int i)) := by
  obtain ⟨t, hm⟩ := h
  exact se_glob hm ⟨t, rfl⟩ (fun _ => .int i) hg hd
end
theorem fn_of' {P : Program} {w : World} {K : KW} {mg : Str → Option Value} {base : Heap} {cv : Str → Value} {x qual : Str} {st : Stmt} {f : Addr} {fd : FuncData} (N : List Str) {ps : List Str} {k m n : Nat} {g : SF} (hm : N.length = m) (hn : ps.length = n) (F : Fun K x qual st f fd) (S : FnScope N ps (defScope st))
    (hb : ∀ (cdv : Value) (A : Around) (outer : List Env) (s : Shared) (H : Hp) (E : XK), Room k (cxF P w K mg base N qual st f cdv A outer s H E).A → Takes (cxF P w K mg base N qual st f cdv A outer s H E) (ctF K cv E).W →
      PassesOwn (model P w) (cxF P w K mg base N qual st f cdv A outer s H E).A (cxF P w K mg base N qual st f cdv A outer s H E).env (cxF P w K mg base N qual st f cdv A outer s H E).xe →
      ∃ t, SSs (cxF P w K mg base N qual st f cdv A outer s H E) (ctF K cv E) (defBody st) t g) :
    FnOk P w K mg base (L2.CX P w) (k + 1) f fd ps (spF K cv n (fnF m n g)) := by
  subst hm hn
  exact fn_mk F S hb
end GS
namespace GS
open PySem L2
section
variable {ρ ρ1 : Rho} {c : Prop} [Decidable c]
@[simp] theorem bindE_ok (h : Hd) (k : Hd → Rho → RE) : bindE (.ok h ρ) k = k h ρ := rfl
@[simp] theorem bindE_st (k : Hd → Rho → RE) : bindE .stuck k = .stuck := rfl
@[simp] theorem bindE_ex (x : Xc) (k : Hd → Rho → RE) : bindE (.exc x ρ) k = .exc x ρ := rfl
@[simp] theorem bindE_if (a b : RE) (k : Hd → Rho → RE) : bindE (if c then a else b) k = if c then bindE a k else bindE b k := by split <;> rfl
@[simp] theorem bindB_ok (b : Bool) (k : Bool → Rho → RE) : bindB (.ok (.sh (.bool b)) ρ) k = k b ρ := rfl
@[simp] theorem bindB_st (k : Bool → Rho → RE) : bindB .stuck k = .stuck := rfl
@[simp] theorem bindB_ex (x : Xc) (k : Bool → Rho → RE) : bindB (.exc x ρ) k = .exc x ρ := rfl
@[simp] theorem bindB_if (a b : RE) (k : Bool → Rho → RE) : bindB (if c then a else b) k = if c then bindB a k else bindB b k := by split <;> rfl
@[simp] theorem bindA_ok (h : List Hd) (k : List Hd → Rho → RE) : bindA (.ok h ρ) k = k h ρ := rfl
@[simp] theorem bindA_st (k : List Hd → Rho → RE) : bindA .stuck k = .stuck := rfl
@[simp] theorem bindA_ex (x : Xc) (k : List Hd → Rho → RE) : bindA (.exc x ρ) k = .exc x ρ := rfl
@[simp] theorem bindA_if (a b : RA) (k : List Hd → Rho → RE) : bindA (if c then a else b) k = if c then bindA a k else bindA b k := by split <;> rfl
@[simp] theorem bindES_ok (h : Hd) (k : Hd → Rho → RS) : bindES (.ok h ρ) k = k h ρ := rfl
@[simp] theorem bindES_st (k : Hd → Rho → RS) : bindES .stuck k = .stuck := rfl
@[simp] theorem bindES_ex (x : Xc) (k : Hd → Rho → RS) : bindES (.exc x ρ) k = .exc x ρ := rfl
@[simp] theorem bindES_if (a b : RE) (k : Hd → Rho → RS) : bindES (if c then a else b) k = if c then bindES a k else bindES b k := by split <;> rfl
@[simp] theorem bindBS_ok (b : Bool) (k : Bool → Rho → RS) : bindBS (.ok (.sh (.bool b)) ρ) k = k b ρ := rfl
@[simp] theorem bindBS_st (k : Bool → Rho → RS) : bindBS .stuck k = .stuck := rfl
@[simp] theorem bindBS_ex (x : Xc) (k : Bool → Rho → RS) : bindBS (.exc x ρ) k = .exc x ρ := rfl
@[simp] theorem bindBS_if (a b : RE) (k : Bool → Rho → RS) : bindBS (if c then a else b) k = if c then bindBS a k else bindBS b k := by split <;> rfl
@[simp] theorem bindEI_ok (h : Hd) (k : Hd → Rho → RI) : bindEI (.ok h ρ) k = k h ρ := rfl
@[simp] theorem bindEI_st (k : Hd → Rho → RI) : bindEI .stuck k = .stuck := rfl
@[simp] theorem bindEI_ex (x : Xc) (k : Hd → Rho → RI) : bindEI (.exc x ρ) k = .exc x ρ := rfl
@[simp] theorem bindEI_if (a b : RE) (k : Hd → Rho → RI) : bindEI (if c then a else b) k = if c then bindEI a k else bindEI b k := by split <;> rfl
@[simp] theorem bindS_nx (k : Rho → RS) : bindS (.nx ρ) k = k ρ := rfl
@[simp] theorem bindS_st (k : Rho → RS) : bindS .stuck k = .stuck := rfl
@[simp] theorem bindS_rt (h : Hd) (k : Rho → RS) : bindS (.rt h ρ) k = .rt h ρ := rfl
@[simp] theorem bindS_ex (x : Xc) (k : Rho → RS) : bindS (.exc x ρ) k = .exc x ρ := rfl
@[simp] theorem bindS_bk (k : Rho → RS) : bindS (.bk ρ) k = .bk ρ := rfl
@[simp] theorem bindS_ct (k : Rho → RS) : bindS (.ct ρ) k = .ct ρ := rfl
@[simp] theorem bindS_if (a b : RS) (k : Rho → RS) : bindS (if c then a else b) k = if c then bindS a k else bindS b k := by split <;> rfl
@[simp] theorem slot_nil (i : Nat) : slot [] i = none := rfl
@[simp] theorem slot_zero (x : Option Cel) : slot (x :: ρ) 0 = x := by cases x <;> rfl
@[simp] theorem slot_succ (x : Option Cel) (i : Nat) : slot (x :: ρ) (i + 1) = slot ρ i := rfl
@[simp] theorem getH_sh (d : D) : getH ρ (.sh d) = some d := rfl
@[simp] theorem getH_fr (d : D) : getH ρ (.fr d) = some d := rfl
@[simp] theorem getH_bw (i : Nat) : getH ρ (.bw i) = (slot ρ i).map (·.d) := rfl
@[simp] theorem setl_sh (d : D) : setl (.sh d) = .sh d := rfl
@[simp] theorem setl_fr (d : D) : setl (.fr d) = .sh d := rfl
@[simp] theorem setl_bw (i : Nat) : setl (.bw i) = .bw i := rfl
@[simp] theorem capH_sh (d : D) : capH ρ (.sh d) = some d := rfl
@[simp] theorem capH_fr (d : D) : capH ρ (.fr d) = some d := rfl
@[simp] theorem capH_bw (i : Nat) : capH ρ (.bw i) = match slot ρ i with | some ⟨d, .sh⟩ => some d | _ => none := rfl
@[simp] theorem eC_eq (d : D) : eC d ρ = .ok (.sh d) ρ := rfl
@[simp] theorem eVb_eq (i : Nat) : eVb i ρ = match slot ρ i with | some _ => .ok (.bw i) ρ | none => .stuck := rfl
@[simp] theorem eMv_eq (i : Nat) : eMv i ρ = match slot ρ i with | some ⟨d, .sh⟩ => .ok (.sh d) ρ | some ⟨d, .ow⟩ => .ok (.sh d) (ρ.set i (some ⟨d, .sh⟩)) | _ => .stuck := rfl
@[simp] theorem eRv_eq (i : Nat) : eRv i ρ = match slot ρ i with | some ⟨d, .sh⟩ => .ok (.sh d) ρ | some ⟨d, .ow⟩ => .ok (.fr d) (ρ.set i none) | _ => .stuck := rfl
@[simp] theorem eCap_eq (f : EF) : eCap f ρ = bindE (f ρ) fun h ρ' => match capH ρ' h with | some d => .ok (.sh d) ρ' | none => .stuck := rfl
@[simp] theorem eSet_eq (f : EF) : eSet f ρ = bindE (f ρ) fun h ρ' => .ok (setl h) ρ' := rfl
/-- of two data -/
def resO (o : Option Hd) (ρ : Rho) : RE := match o with | some h => .ok h ρ | none => .stuck
@[simp] theorem resO_s (h : Hd) : resO (some h) ρ = .ok h ρ := rfl
@[simp] theorem resO_n : resO none ρ = .stuck := rfl
@[simp] theorem resO_if (a b : Option Hd) : resO (if c then a else b) ρ = if c then resO a ρ else resO b ρ := by split <;> rfl
def bin2 (o : D → D → Option Hd) (a b : Option D) (ρ : Rho) : RE := match a, b with
  | some x, some y => resO (o x y) ρ
  | _, _ => .stuck
@[simp] theorem bin2_s (o : D → D → Option Hd) (x y : D) : bin2 o (some x) (some y) ρ = resO (o x y) ρ := rfl
@[simp] theorem eBin_eq (o : D → D → Option Hd) (f g : EF) : eBin o f g ρ = bindE (eSet f ρ) fun ha ρ1 => bindE (eSet g ρ1) fun hb ρ2 => bin2 o (getH ρ2 ha) (getH ρ2 hb) ρ2 := by
  unfold eBin bin2 resO
  rfl
def chn (o' : D → D → Option Hd) (hb : Hd) (fc : EF) (r : Option Hd) (ρ2 : Rho) : RE := match r with
  | some (.sh (.bool b)) => if b then bindE (eSet fc ρ2) (fun hc ρ3 => bin2 o' (getH ρ3 hb) (getH ρ3 hc) ρ3) else .ok (.sh (.bool false)) ρ2
  | _ => .stuck
@[simp] theorem chn_b (o' : D → D → Option Hd) (hb : Hd) (fc : EF) (b : Bool) : chn o' hb fc (some (.sh (.bool b))) ρ = if b then bindE (eSet fc ρ) (fun hc ρ3 => bin2 o' (getH ρ3 hb) (getH ρ3 hc) ρ3) else .ok (.sh (.bool false)) ρ := rfl
def chn0 (o o' : D → D → Option Hd) (hb : Hd) (fc : EF) (a b : Option D) (ρ2 : Rho) : RE := match a, b with
  | some x, some y => chn o' hb fc (o x y) ρ2
  | _, _ => .stuck
@[simp] theorem chn0_s (o o' : D → D → Option Hd) (hb : Hd) (fc : EF) (x y : D) : chn0 o o' hb fc (some x) (some y) ρ = chn o' hb fc (o x y) ρ := rfl
@[simp] theorem eChain_eq (o o' : D → D → Option Hd) (fa fb fc : EF) : eChain o o' fa fb fc ρ = bindE (eSet fa ρ) fun ha ρ1 => bindE (eSet fb ρ1) fun hb ρ2 => chn0 o o' hb fc (getH ρ2 ha) (getH ρ2 hb) ρ2 := by
  unfold eChain chn0 chn bin2 resO
  rfl
def tst (d : Option D) (ρ : Rho) : RE := match d with
  | some (.bool b) => .ok (.sh (.bool b)) ρ
  | _ => .stuck
@[simp] theorem tst_b (b : Bool) : tst (some (.bool b)) ρ = .ok (.sh (.bool b)) ρ := rfl
@[simp] theorem eB_eq (f : EF) : eB f ρ = bindE (eSet f ρ) fun h ρ1 => tst (getH ρ1 h) ρ1 := by unfold eB tst; rfl
@[simp] theorem eNot_eq (f : EF) : eNot f ρ = bindB (f ρ) fun b ρ1 => .ok (.sh (.bool (!b))) ρ1 := rfl
@[simp] theorem eAnd_eq (f g : EF) : eAnd f g ρ = bindB (f ρ) fun b ρ1 => if b then g ρ1 else .ok (.sh (.bool false)) ρ1 := rfl
@[simp] theorem eOr_eq (f g : EF) : eOr f g ρ = bindB (f ρ) fun b ρ1 => if b then .ok (.sh (.bool true)) ρ1 else g ρ1 := rfl
@[simp] theorem eIf_eq (f g h : EF) : eIf f g h ρ = bindB (f ρ) fun b ρ1 => if b then g ρ1 else h ρ1 := rfl
@[simp] theorem ePart_n (k : Option Int → Rho → RE) : ePart none ρ k = k none ρ := rfl
def partR (d : Option D) (ρ : Rho) (k : Option Int → Rho → RE) : RE := match d with
  | some (.int i) => k (some i) ρ
  | _ => .stuck
@[simp] theorem partR_i (i : Int) (k : Option Int → Rho → RE) : partR (some (.int i)) ρ k = k (some i) ρ := rfl
@[simp] theorem ePart_s (f : EF) (k : Option Int → Rho → RE) : ePart (some f) ρ k = bindE (eSet f ρ) fun h ρ1 => partR (getH ρ1 h) ρ1 k := by unfold ePart partR; rfl
@[simp] theorem eSl_eq (fe : EF) (fl fh : Option EF) : eSl fe fl fh ρ = bindE (eSet fe ρ) fun h ρ1 => ePart fl ρ1 fun lo ρ2 => ePart fh ρ2 fun hi ρ3 => resO ((getH ρ3 h).bind (slD lo hi)) ρ3 := by unfold eSl resO; rfl
@[simp] theorem aNil_eq : aNil ρ = .ok [] ρ := rfl
def consA (h : Hd) (r : RA) : RA := match r with
  | .stuck => .stuck
  | .exc x ρ2 => .exc x ρ2
  | .ok hs ρ2 => .ok (h :: hs) ρ2
def bindEA (r : RE) (k : Hd → Rho → RA) : RA := match r with
  | .stuck => .stuck
  | .exc x ρ1 => .exc x ρ1
  | .ok h ρ1 => k h ρ1
@[simp] theorem bindEA_ok (h : Hd) (k : Hd → Rho → RA) : bindEA (.ok h ρ) k = k h ρ := rfl
@[simp] theorem bindEA_st (k : Hd → Rho → RA) : bindEA .stuck k = .stuck := rfl
@[simp] theorem bindEA_ex (x : Xc) (k : Hd → Rho → RA) : bindEA (.exc x ρ) k = .exc x ρ := rfl
@[simp] theorem bindEA_if (a b : RE) (k : Hd → Rho → RA) : bindEA (if c then a else b) k = if c then bindEA a k else bindEA b k := by split <;> rfl
@[simp] theorem consA_ok (h : Hd) (hs : List Hd) : consA h (.ok hs ρ) = .ok (h :: hs) ρ := rfl
@[simp] theorem consA_st (h : Hd) : consA h .stuck = .stuck := rfl
@[simp] theorem consA_if (h : Hd) (a b : RA) : consA h (if c then a else b) = if c then consA h a else consA h b := by split <;> rfl
@[simp] theorem aCons_eq (f : EF) (g : AF) : aCons f g ρ = bindEA (eSet f ρ) fun h ρ1 => consA h (g ρ1) := by unfold aCons bindEA consA; rfl
@[simp] theorem shs_nil : shs [] = some [] := rfl
@[simp] theorem shs_cons (d : D) (hs : List Hd) : shs (.sh d :: hs) = (shs hs).map (d :: ·) := rfl
def tupR (d : Option (List D)) (ρ : Rho) : RE := match d with
  | some ds => if ds.length ≤ 1000 then .ok (.sh (.tuple ds)) ρ else .stuck
  | none => .stuck
def lstR (d : Option (List D)) (ρ : Rho) : RE := match d with
  | some ds => if ds.length ≤ 1000 then .ok (.fr (.list ds)) ρ else .stuck
  | none => .stuck
@[simp] theorem tupR_s (ds : List D) : tupR (some ds) ρ = if ds.length ≤ 1000 then .ok (.sh (.tuple ds)) ρ else .stuck := rfl
@[simp] theorem lstR_s (ds : List D) : lstR (some ds) ρ = if ds.length ≤ 1000 then .ok (.fr (.list ds)) ρ else .stuck := rfl
@[simp] theorem eTup_eq (f : AF) : eTup f ρ = bindA (f ρ) fun hs ρ1 => tupR (shs hs) ρ1 := by unfold eTup tupR; rfl
@[simp] theorem eLst_eq (f : AF) : eLst f ρ = bindA (f ρ) fun hs ρ1 => lstR (shs hs) ρ1 := by unfold eLst lstR; rfl
@[simp] theorem gets_nil : gets ρ [] = some [] := rfl
def cons2 (a : Option D) (b : Option (List D)) : Option (List D) := match a, b with
  | some d, some ds => some (d :: ds)
  | _, _ => none
@[simp] theorem cons2_s (d : D) (ds : List D) : cons2 (some d) (some ds) = some (d :: ds) := rfl
@[simp] theorem gets_cons (h : Hd) (hs : List Hd) : gets ρ (h :: hs) = cons2 (getH ρ h) (gets ρ hs) := by
  unfold cons2
  rw [gets]
  try rfl
@[simp] theorem eCB_eq (o : List D → Option Hd) (f : AF) : eCB o f ρ = bindA (f ρ) fun hs ρ1 => resO ((gets ρ1 hs).bind o) ρ1 := by unfold eCB resO; rfl
@[simp] theorem un1_1 (o : D → Option Hd) (d : D) : un1 o [d] = o d := rfl
@[simp] theorem un2_2 (o : D → D → Option Hd) (d e : D) : un2 o [d, e] = o d e := rfl
@[simp] theorem sNil_eq : sNil ρ = .nx ρ := rfl
@[simp] theorem sSeq_eq (f g : SF) : sSeq f g ρ = bindS (f ρ) g := rfl
def retR (h : Hd) (ρ : Rho) : RS := match h with
  | .bw i => match capH ρ (.bw i) with
    | some d => .rt (.sh d) ρ
    | none => .stuck
  | h => .rt h ρ
@[simp] theorem retR_sh (d : D) : retR (.sh d) ρ = .rt (.sh d) ρ := rfl
@[simp] theorem retR_fr (d : D) : retR (.fr d) ρ = .rt (.fr d) ρ := rfl
@[simp] theorem sRet_eq (f : EF) : sRet f ρ = bindES (f ρ) retR := by unfold sRet; rfl
@[simp] theorem sIf_eq (ft : EF) (f g : SF) : sIf ft f g ρ = bindBS (ft ρ) fun b ρ1 => if b then f ρ1 else g ρ1 := rfl
@[simp] theorem ioAt_nil (i : Nat) : ioAt [] i = false := rfl
@[simp] theorem ioAt_zn : ioAt (none :: ρ) 0 = false := rfl
@[simp] theorem ioAt_zs (d : D) : ioAt (some ⟨d, .sh⟩ :: ρ) 0 = false := rfl
@[simp] theorem ioAt_zo (d : D) : ioAt (some ⟨d, .ow⟩ :: ρ) 0 = false := rfl
@[simp] theorem ioAt_succ (x : Option Cel) (i : Nat) : ioAt (x :: ρ) (i + 1) = ioAt ρ i := rfl
@[simp] theorem sSet_eq (i : Nat) (f : EF) : sSet i f ρ = bindES (f ρ) fun h ρ1 => setHd ρ1 i h := rfl
@[simp] theorem setHd_sh (i : Nat) (d : D) : setHd ρ i (.sh d) = setR ρ i ⟨d, .sh⟩ := rfl
@[simp] theorem setHd_fr (i : Nat) (d : D) : setHd ρ i (.fr d) = setR ρ i ⟨d, .ow⟩ := rfl
def bindI (r : RI) (k : List D → Rho → RS) : RS := match r with
  | .stuck => .stuck
  | .exc x ρ1 => .exc x ρ1
  | .ok ds ρ1 => k ds ρ1
@[simp] theorem bindI_ok (ds : List D) (k : List D → Rho → RS) : bindI (.ok ds ρ) k = k ds ρ := rfl
@[simp] theorem bindI_st (k : List D → Rho → RS) : bindI .stuck k = .stuck := rfl
@[simp] theorem bindI_if (a b : RI) (k : List D → Rho → RS) : bindI (if c then a else b) k = if c then bindI a k else bindI b k := by split <;> rfl
@[simp] theorem sFor_eq (fi : IF) (g : D → Rho → Option Rho) (b : SF) : sFor fi g b ρ = bindI (fi ρ) fun ds ρ1 => forL g b ds ρ1 := by unfold sFor bindI; rfl
def seqR (h : Hd) (ρ : Rho) : RI := match h with
  | .sh d => match items d with
    | some ds => .ok ds ρ
    | none => .stuck
  | _ => .stuck
@[simp] theorem seqR_l (ds : List D) : seqR (.sh (.list ds)) ρ = .ok ds ρ := rfl
@[simp] theorem seqR_t (ds : List D) : seqR (.sh (.tuple ds)) ρ = .ok ds ρ := rfl
@[simp] theorem seqR_s (z : Str) : seqR (.sh (.str z)) ρ = .ok (z.cps.toList.map fun c => .str ⟨#[c]⟩) ρ := rfl
@[simp] theorem iSq_eq (f : EF) : iSq f ρ = bindEI (eCap f ρ) seqR := by unfold iSq; rfl
def rgR (d : Option D) (ρ : Rho) : RI := match d with
  | some (.int j) => if okR j then .ok (rgD 0 j.toNat) ρ else .stuck
  | _ => .stuck
@[simp] theorem rgR_i (j : Int) : rgR (some (.int j)) ρ = if okR j then .ok (rgD 0 j.toNat) ρ else .stuck := rfl
@[simp] theorem iR1_eq (f : EF) : iR1 f ρ = bindEI (eSet f ρ) fun h ρ1 => rgR (getH ρ1 h) ρ1 := by unfold iR1 rgR; rfl
def bindIE (r : RI) (k : List D → Rho → RE) : RE := match r with
  | .stuck => .stuck
  | .exc x ρ1 => .exc x ρ1
  | .ok ds ρ1 => k ds ρ1
@[simp] theorem bindIE_ok (ds : List D) (k : List D → Rho → RE) : bindIE (.ok ds ρ) k = k ds ρ := rfl
@[simp] theorem bindIE_st (k : List D → Rho → RE) : bindIE .stuck k = .stuck := rfl
@[simp] theorem bindIE_if (a b : RI) (k : List D → Rho → RE) : bindIE (if c then a else b) k = if c then bindIE a k else bindIE b k := by split <;> rfl
@[simp] theorem eLc_eq (vs : List Nat) (fi : IF) (g : D → Rho → Option Rho) (ft fe : EF) : eLc vs fi g ft fe ρ = bindIE (fi ρ) fun ds ρ1 => if vs.all fun i => !ioAt ρ1 i then lcL vs g ft fe ds [] (wipeR ρ1 vs) else .stuck := by unfold eLc bindIE; rfl
@[simp] theorem eNox_eq (f : EF) : eNox f ρ = match f ρ with | .exc _ _ => .stuck | r => r := rfl
@[simp] theorem wipeR_nil : wipeR ρ [] = ρ := rfl
@[simp] theorem wipeR_cons (v : Nat) (vs : List Nat) : wipeR ρ (v :: vs) = (wipeR ρ vs).set v none := rfl
@[simp] theorem addD_i (i j : Int) : addD (.int i) (.int j) = some (.sh (.int (i + j))) := rfl
@[simp] theorem addD_s (i j : Str) : addD (.str i) (.str j) = if i.length + j.length ≤ sizeLine then some (.sh (.str (i ++ j))) else none := rfl
@[simp] theorem addD_t (i j : List D) : addD (.tuple i) (.tuple j) = if i.length + j.length ≤ sizeLine then some (.sh (.tuple (i ++ j))) else none := rfl
@[simp] theorem addD_l (i j : List D) : addD (.list i) (.list j) = if i.length + j.length ≤ sizeLine then some (.fr (.list (i ++ j))) else none := rfl
@[simp] theorem subD_i (i j : Int) : subD (.int i) (.int j) = some (.sh (.int (i - j))) := rfl
theorem divD_i (i j : Int) : divD (.int i) (.int j) = if decide (0 < j) && Nat.ble j.natAbs 1073741823 then some (.sh (.int (i / j))) else none := rfl
theorem modD_i (i j : Int) : modD (.int i) (.int j) = if decide (0 < j) then some (.sh (.int (i % j))) else none := rfl
@[simp] theorem resO_div {i j : Int} (h0 : 0 < j) (h1 : j < 1073741824) : resO (divD (.int i) (.int j)) ρ = .ok (.sh (.int (i / j))) ρ := by
  rw [divD_i, decide_eq_true h0, Nat.ble_eq_true_of_le (show j.natAbs ≤ 1073741823 by omega)]; rfl
@[simp] theorem resO_mod {i j : Int} (h0 : 0 < j) : resO (modD (.int i) (.int j)) ρ = .ok (.sh (.int (i % j))) ρ := by
  rw [modD_i, decide_eq_true h0]; rfl
@[simp] theorem ltI_i (f : Int → Int → Bool) (i j : Int) : ltI f (.int i) (.int j) = some (.sh (.bool (f i j))) := rfl
@[simp] theorem lenD_l (ds : List D) : lenD (.list ds) = some (.sh (.int ds.length)) := rfl
@[simp] theorem lenD_t (ds : List D) : lenD (.tuple ds) = some (.sh (.int ds.length)) := rfl
@[simp] theorem lenD_s (z : Str) : lenD (.str z) = if z.length ≤ sizeLine then some (.sh (.int z.length)) else none := rfl
@[simp] theorem ixD_l (ds : List D) (i : Int) : ixD (.list ds) (.int i) = (atI ds i).map Hd.sh := rfl
@[simp] theorem ixD_t (ds : List D) (i : Int) : ixD (.tuple ds) (.int i) = (atI ds i).map Hd.sh := rfl
@[simp] theorem ixD_s (z : Str) (i : Int) : ixD (.str z) (.int i) = if z.length ≤ sizeLine then (atI z.cps.toList i).map fun c => Hd.sh (.str ⟨#[c]⟩) else none := rfl
@[simp] theorem slD_l (lo hi : Option Int) (ds : List D) : slD lo hi (.list ds) = some (.fr (.list (cutD ds lo hi))) := rfl
@[simp] theorem slD_t (lo hi : Option Int) (ds : List D) : slD lo hi (.tuple ds) = some (.sh (.tuple (cutD ds lo hi))) := rfl
@[simp] theorem slD_s (lo hi : Option Int) (z : Str) : slD lo hi (.str z) = if z.length ≤ sizeLine then some (.sh (.str (cutS z lo hi))) else none := rfl
@[simp] theorem listD_l (ds : List D) : listD (.list ds) = some (.fr (.list ds)) := rfl
@[simp] theorem listD_t (ds : List D) : listD (.tuple ds) = some (.fr (.list ds)) := rfl
@[simp] theorem tupleD_l (ds : List D) : tupleD (.list ds) = some (.sh (.tuple ds)) := rfl
@[simp] theorem tupleD_t (ds : List D) : tupleD (.tuple ds) = some (.sh (.tuple ds)) := rfl
@[simp] theorem inD_c (neg : Bool) (c : Nat) (z : Str) : inD neg (.str ⟨#[c]⟩) (.str z) = some (.sh (.bool (neg ^^ decide (c ∈ z.cps.toList)))) := rfl
end
end GS
namespace GS
open PySem L2
section
variable {ρ ρ1 : Rho} {c : Prop} [Decidable c]
/-- a def's end -/
def finR (n : Nat) (r : RS) : RE := match r with
  | .rt (.bw _) _ => .stuck
  | .rt h ρ1 => .ok h (outR ρ1 n)
  | .nx ρ1 => .ok (.sh .none) (outR ρ1 n)
  | .exc x ρ1 => .exc x (outR ρ1 n)
  | _ => .stuck
@[simp] theorem finR_sh (n : Nat) (d : D) : finR n (.rt (.sh d) ρ) = .ok (.sh d) (outR ρ n) := rfl
@[simp] theorem finR_fr (n : Nat) (d : D) : finR n (.rt (.fr d) ρ) = .ok (.fr d) (outR ρ n) := rfl
@[simp] theorem finR_nx (n : Nat) : finR n (.nx ρ) = .ok (.sh .none) (outR ρ n) := rfl
@[simp] theorem finR_ex (n : Nat) (x : Xc) : finR n (.exc x ρ) = .exc x (outR ρ n) := rfl
@[simp] theorem finR_if (n : Nat) (a b : RS) : finR n (if c then a else b) = if c then finR n a else finR n b := by split <;> rfl
theorem fnF_eq (m n : Nat) (g : SF) : fnF m n g ρ = finR n (g (ρ ++ List.replicate (m - n) none)) := by unfold fnF finR; rfl
theorem outR_1 (x : Option Cel) : outR (x :: ρ) 1 = [ioC x] := by simp [outR]
theorem outR_2 (x y : Option Cel) : outR (x :: y :: ρ) 2 = [ioC x, ioC y] := by simp [outR, List.range_succ]
@[simp] theorem ioC_sh (d : D) : ioC (some ⟨d, .sh⟩) = none := rfl
@[simp] theorem ioC_ow (d : D) : ioC (some ⟨d, .ow⟩) = none := rfl
@[simp] theorem ioC_io (d : D) : ioC (some ⟨d, .io⟩) = some ⟨d, .io⟩ := rfl
@[simp] theorem ioC_no : ioC none = none := rfl
/-- a call -/
def backR (ρ1 : Rho) (io : Option Nat) (hs : List Hd) (r : RE) : RE := match r with
    | .stuck => .stuck
    | .ok h outs => match h, putB ρ1 io hs outs with
      | .bw _, _ => .stuck
      | _, none => .stuck
      | _, some ρ2 => .ok h ρ2
    | .exc x outs => match putB ρ1 io hs outs with
      | none => .stuck
      | some ρ2 => .exc x ρ2
@[simp] theorem backR_sh (d : D) (hs : List Hd) (outs : Rho) : backR ρ none hs (.ok (.sh d) outs) = .ok (.sh d) ρ := rfl
@[simp] theorem backR_fr (d : D) (hs : List Hd) (outs : Rho) : backR ρ none hs (.ok (.fr d) outs) = .ok (.fr d) ρ := rfl
@[simp] theorem backR_ex (x : Xc) (hs : List Hd) (outs : Rho) : backR ρ none hs (.exc x outs) = .exc x ρ := rfl
@[simp] theorem backR_if (io : Option Nat) (hs : List Hd) (a b : RE) : backR ρ io hs (if c then a else b) = if c then backR ρ io hs a else backR ρ io hs b := by split <;> rfl
def callR (n : Nat) (io : Option Nat) (F : FF) (hs : List Hd) (ρ1 : Rho) (a : Option Rho) : RE := match a with
  | none => .stuck
  | some ρ0 => if ρ0.length ≠ n then .stuck else backR ρ1 io hs (F ρ0)
@[simp] theorem callR_s (n : Nat) (io : Option Nat) (F : FF) (hs : List Hd) (ρ0 : Rho) : callR n io F hs ρ (some ρ0) = if ρ0.length ≠ n then .stuck else backR ρ io hs (F ρ0) := rfl
@[simp] theorem eCall_eq (n : Nat) (io : Option Nat) (F : FF) (fs : AF) : eCall n io F fs ρ = bindA (fs ρ) fun hs ρ1 => callR n io F hs ρ1 (args ρ1 io 0 hs) := by
  unfold eCall callR backR
  rfl
@[simp] theorem args_nil (io : Option Nat) (k : Nat) : args ρ io k [] = some [] := rfl
def consC (a : Option Cel) (b : Option Rho) : Option Rho := match a, b with
  | some c, some r => some (some c :: r)
  | _, _ => none
@[simp] theorem consC_s (c : Cel) (r : Rho) : consC (some c) (some r) = some (some c :: r) := rfl
@[simp] theorem args_cons (io : Option Nat) (k : Nat) (h : Hd) (hs : List Hd) : args ρ io k (h :: hs) = consC (argC ρ (decide (io = some k)) h) (args ρ io (k + 1) hs) := by
  unfold consC
  rw [args]
  try rfl
@[simp] theorem argC_shf (d : D) : argC ρ false (.sh d) = some ⟨d, .sh⟩ := rfl
theorem okR_nat {m : Nat} (h : m ≤ 1000000000) : okR (m : Int) = true := by
  unfold okR
  rw [Int.natAbs_natCast]
  exact Nat.ble_eq_true_of_le h
@[simp] theorem forL_nil (g : D → Rho → Option Rho) (b : SF) : forL g b [] ρ = .nx ρ := rfl
/-- one turn's end -/
def turnR (k : Rho → RS) (r : RS) : RS := match r with
  | .nx ρ2 => k ρ2
  | .ct ρ2 => k ρ2
  | .bk ρ2 => .nx ρ2
  | r => r
@[simp] theorem turnR_nx (k : Rho → RS) : turnR k (.nx ρ) = k ρ := rfl
@[simp] theorem turnR_ct (k : Rho → RS) : turnR k (.ct ρ) = k ρ := rfl
@[simp] theorem turnR_bk (k : Rho → RS) : turnR k (.bk ρ) = .nx ρ := rfl
@[simp] theorem turnR_rt (k : Rho → RS) (h : Hd) : turnR k (.rt h ρ) = .rt h ρ := rfl
@[simp] theorem turnR_ex (k : Rho → RS) (x : Xc) : turnR k (.exc x ρ) = .exc x ρ := rfl
@[simp] theorem turnR_st (k : Rho → RS) : turnR k .stuck = .stuck := rfl
@[simp] theorem turnR_if (k : Rho → RS) (a b : RS) : turnR k (if c then a else b) = if c then turnR k a else turnR k b := by split <;> rfl
def optR (o : Option Rho) (k : Rho → RS) : RS := match o with
  | none => .stuck
  | some ρ1 => k ρ1
@[simp] theorem optR_s (k : Rho → RS) : optR (some ρ) k = k ρ := rfl
theorem forL_cons (g : D → Rho → Option Rho) (b : SF) (d : D) (ds : List D) : forL g b (d :: ds) ρ = optR (g d ρ) fun ρ1 => turnR (forL g b ds) (b ρ1) := by
  unfold optR turnR
  rw [forL]
  try rfl
def optE (o : Option Rho) (k : Rho → RE) : RE := match o with
  | none => .stuck
  | some ρ1 => k ρ1
@[simp] theorem optE_s (k : Rho → RE) : optE (some ρ) k = k ρ := rfl
theorem lcL_nil (vs : List Nat) (g : D → Rho → Option Rho) (ft fe : EF) (acc : List D) : lcL vs g ft fe [] acc ρ = .ok (.fr (.list acc)) ρ := rfl
def lcR (acc : List D) (k : List D → Rho → RE) (h : Hd) (ρ3 : Rho) : RE := match h with
  | .sh y => if acc.length < sizeLine then k (acc ++ [y]) ρ3 else .stuck
  | _ => .stuck
@[simp] theorem lcR_s (acc : List D) (k : List D → Rho → RE) (y : D) : lcR acc k (.sh y) ρ = if acc.length < sizeLine then k (acc ++ [y]) ρ else .stuck := rfl
theorem lcL_cons (vs : List Nat) (g : D → Rho → Option Rho) (ft fe : EF) (d : D) (ds acc : List D) : lcL vs g ft fe (d :: ds) acc ρ = optE (g d ρ) fun ρ1 => bindB (ft ρ1) fun c ρ2 => if c then bindE (eCap fe ρ2) (lcR acc fun acc' ρ3 => lcL vs g ft fe ds acc' (wipeR ρ3 vs)) else lcL vs g ft fe ds acc (wipeR ρ2 vs) := by
  unfold optE lcR
  rw [lcL]
  try rfl
@[simp] theorem gN_eq (i : Nat) (d : D) : gN i d ρ = if i < ρ.length && !ioAt ρ i then some (ρ.set i (some ⟨d, .sh⟩)) else none := rfl
@[simp] theorem optR_if (a b : Option Rho) (k : Rho → RS) : optR (if c then a else b) k = if c then optR a k else optR b k := by split <;> rfl
@[simp] theorem optE_if (a b : Option Rho) (k : Rho → RE) : optE (if c then a else b) k = if c then optE a k else optE b k := by split <;> rfl
@[simp] theorem setR_eq (i : Nat) (c : Cel) : setR ρ i c = if i < ρ.length && !ioAt ρ i then .nx (ρ.set i (some c)) else .stuck := rfl
theorem rgD_mid {lo : Int} {n : Nat} {pre : List D} {d : D} {post : List D} (h : rgD lo n = pre ++ d :: post) : pre.length < n ∧ d = .int (lo + (pre.length : Int)) := by
  have hl : (rgD lo n).length = n := by unfold rgD; rw [List.length_map, List.length_range]
  have h2 : (rgD lo n)[pre.length]? = some d := by rw [h, List.getElem?_append_right (Nat.le_refl _), Nat.sub_self]; rfl
  have h3 : pre.length < n := by rw [← hl]; exact (List.getElem?_eq_some_iff.mp h2).1
  refine ⟨h3, ?_⟩
  unfold rgD at h2
  rw [List.getElem?_map, List.getElem?_range h3] at h2
  exact (Option.some.inj h2).symm
theorem rgD_len (lo : Int) (n : Nat) : (rgD lo n).length = n := by unfold rgD; rw [List.length_map, List.length_range]
@[simp] theorem atI_zero {α : Type} (x : α) (xs : List α) : atI (x :: xs) 0 = some x := by
  have := atI_nat (xs := x :: xs) (j := 0) (v := x) rfl
  exact this
theorem atI_lt {α : Type} {xs : List α} {i : Int} (h0 : 0 ≤ i) (h1 : i < xs.length) : ∃ x, atI xs i = some x ∧ x ∈ xs := by
  have hk : i.toNat < xs.length := by omega
  have e : i = ((i.toNat : Nat) : Int) := by omega
  have q := atI_nat (xs := xs) (List.getElem?_eq_getElem hk)
  rw [← e] at q
  exact ⟨_, q, List.getElem_mem hk⟩
end
end GS
namespace GS
open PySem L2
def kEq : D → D → Bool
  | .int i, .int j => decide (i = j)
  | .str i, .str j => decide (i = j)
  | .tuple xs, .tuple ys => match tkD xs, tkD ys with
    | some k, some l => decide (k = l)
    | _, _ => false
  | _, _ => false
/-- ints and texts -/
def isS : D → Bool
  | .int _ => true
  | .str _ => true
  | _ => false
/-- what may be a key -/
def isK : D → Bool
  | .int _ => true
  | .str _ => true
  | .tuple ds => (tkD ds).isSome
  | _ => false
/-- a key of another sort than the dict's first -/
def mixB (ps : List (D × D)) (k : D) : Bool := match ps with
  | [] => false
  | p :: _ => tupB p.1 != tupB k
def dGet : List (D × D) → D → Option D
  | [], _ => none
  | (a, d) :: r, k => if kEq a k then some d else dGet r k
def dPut (ps : List (D × D)) (k v : D) : List (D × D) := if ps.any (fun p => kEq p.1 k) then ps.map (fun p => if kEq p.1 k then (p.1, v) else p) else ps ++ [(k, v)]
theorem isS_k {d : D} (h : isS d = true) : ∃ k, d = kD k := by
  cases d <;> first | (cases h; done) | skip
  · exact ⟨.inl _, rfl⟩
  · exact ⟨.inr _, rfl⟩
theorem tkD_tup {ds : List D} {k : NestedKey} (h : tkD ds = some k) : ∃ ks, k = .tup ks ∧ nkL ds = some ks ∧ k.depth ≤ 8 := by
  obtain ⟨ks, e1, e2⟩ := Option.bind_eq_some_iff.mp h
  obtain ⟨c, rfl⟩ := if_some e2
  exact ⟨ks, rfl, e1, c⟩
theorem isK_key {d : D} (h : isK d = true) : ∃ k, keyD d = some k := by
  cases d <;> first | (cases h; done) | skip
  · exact ⟨_, rfl⟩
  · exact ⟨_, rfl⟩
  · exact ⟨_, Option.some_get h |>.symm⟩
theorem kEq_key {a b : D} {k l : NestedKey} (ha : keyD a = some k) (hb : keyD b = some l) : kEq a b = decide (k = l) := by
  cases a <;> first | (cases ha; done) | skip
  · cases b <;> first | (cases hb; done) | skip
    · cases ha; cases hb; simp [kEq]
    · cases ha; cases hb; simp [kEq]
    · cases ha
      obtain ⟨ks, rfl, _⟩ := tkD_tup hb
      simp [kEq]
  · cases b <;> first | (cases hb; done) | skip
    · cases ha; cases hb; simp [kEq]
    · cases ha; cases hb; simp [kEq]
    · cases ha
      obtain ⟨ks, rfl, _⟩ := tkD_tup hb
      simp [kEq]
  · cases b <;> first | (cases hb; done) | skip
    · cases hb
      obtain ⟨ks, rfl, _⟩ := tkD_tup ha
      simp [kEq]
    · cases hb
      obtain ⟨ks, rfl, _⟩ := tkD_tup ha
      simp [kEq]
    · rename_i xs ys
      show (match tkD xs, tkD ys with | some k, some l => decide (k = l) | _, _ => false) = _
      rw [show tkD xs = some k from ha, show tkD ys = some l from hb]
section
variable {K : KW} {B H : Hp} {ρ : Rho} {σ : St} {x y v : V} {Q : VK} {b : Bool}
theorem Tp.key {k : Key} (h : Tp K B H v (kD k)) : v = kV k := by
  cases k
  · exact h.int
  · exact h.str
theorem rpx_get {kd : D} {k : NestedKey} (hk : keyD kd = some k) : ∀ {xs : List (NestedKey × Value × Value)} {ps : List (D × D)}, RpX K B b xs ps → (∀ d, dGet ps kd = some d → ∃ u v, look xs k = some u ∧ RelV v u ∧ Rp K B v d) ∧ (dGet ps kd = none → look xs k = none)
  | _, _, .nil => ⟨fun d h => (by cases h), fun _ => rfl⟩
  | _, _, .cons (k := k') (ku := ku) (u := u') (v := v') (xs := xs) (kd := kd') (d := d') (ps := ps) h1 h2 h3 h4 h5 h6 h7 => by
    obtain ⟨q1, q2⟩ := rpx_get hk h7
    have e1 : dGet ((kd', d') :: ps) kd = if k' = k then some d' else dGet ps kd := by
      show (if kEq kd' kd then some d' else dGet ps kd) = _
      rw [kEq_key h1 hk]
      by_cases e : k' = k <;> simp [e]
    rw [e1]
    by_cases e : k' = k
    · rw [if_pos e]
      refine ⟨fun d hd => ?_, fun hd => (by cases hd)⟩
      cases hd
      exact ⟨u', v', by simp [look, e], h5, h6⟩
    · rw [if_neg e]
      have e2 : look ((k', ku, u') :: xs) k = look xs k := by simp [look, e]
      rw [e2]
      exact ⟨q1, q2⟩
theorem rpx_is {kd : D} {k : NestedKey} (hk : keyD kd = some k) {xs : List (NestedKey × Value × Value)} {ps : List (D × D)} (h : RpX K B b xs ps) : (look xs k).isSome = (dGet ps kd).isSome := by
  obtain ⟨q1, q2⟩ := rpx_get hk h
  cases e : dGet ps kd with
  | none => rw [q2 e]; rfl
  | some d => obtain ⟨u, v, q, _⟩ := q1 d e; rw [q]; rfl
theorem rpx_len : ∀ {xs : List (NestedKey × Value × Value)} {ps : List (D × D)}, RpX K B b xs ps → xs.length = ps.length
  | _, _, .nil => rfl
  | _, _, .cons _ _ _ _ _ _ h => by rw [List.length_cons, List.length_cons, rpx_len h]
mutual
theorem nk_of {H : Hp} (s : Same B H) : ∀ {v : V} (d : D) {k : NestedKey}, Rp K B v d → nkD d = some k → NK H v k
  | _, .none, _, .non, e => by cases e; exact .non
  | _, .bool _, _, .bl b, e => by cases e; exact .bl b
  | _, .int _, _, .int i, e => by cases e; exact .int i
  | _, .str _, _, .str x, e => by cases e; exact .str x
  | _, .tuple ds, _, .tup h t, e => by
    rw [nkD] at e
    obtain ⟨ks, e1, rfl⟩ := Option.map_eq_some_iff.mp e
    exact .tup (same_x s h) (nks_of s ds t e1)
  | _, .list _, _, .lst _ _, e => by rw [nkD] at e; cases e
  | _, .dict _, _, .dct _ _, e => by rw [nkD] at e; cases e
  | _, .dict _, _, .exn _ _ _ _, e => by rw [nkD] at e; cases e
theorem nks_of {H : Hp} (s : Same B H) : ∀ {vs : List V} (ds : List D) {ks : List NestedKey}, RpL K B vs ds → nkL ds = some ks → NKs H vs ks
  | _, [], _, .nil, e => by rw [nkL] at e; cases e; exact .nil
  | _, d :: ds, _, .cons h t, e => by
    rw [nkL] at e
    obtain ⟨k, e1, e2⟩ := Option.bind_eq_some_iff.mp e
    obtain ⟨ks, e3, rfl⟩ := Option.map_eq_some_iff.mp e2
    exact .cons (nk_of s d h e1) (nks_of s ds t e3)
end
/-- a key that is a tuple -/
theorem tk_of {H : Hp} (s : Same B H) {v : V} {kd : D} {k : NestedKey} (h : Rp K B v kd) (e : keyD kd = some k) (ht : tupB kd = true) : ∃ b, KeyAt H v b k := by
  cases kd <;> first | (cases ht; done) | skip
  rename_i ds
  obtain ⟨ks, rfl, e1, c⟩ := tkD_tup (show tkD ds = some k from e)
  cases h with
  | tup q t => exact ⟨_, rfl, .tup (same_x s q) (nks_of s ds t e1), c⟩
/-- a key that is none -/
theorem sk_of {v : V} {kd : D} {k : NestedKey} (h : Rp K B v kd) (e : keyD kd = some k) (ht : tupB kd = false) : ∃ kk, v = kV kk ∧ kd = kD kk ∧ k = nkK kk := by
  cases kd <;> first | (cases e; done) | (cases ht; done) | skip
  · cases e; cases h; exact ⟨.inl _, rfl, rfl, rfl⟩
  · cases e; cases h; exact ⟨.inr _, rfl, rfl, rfl⟩
theorem rpx_T {H : Hp} (s : Same B H) : ∀ {xs : List (NestedKey × Value × Value)} {ps : List (D × D)}, RpX K B true xs ps → ∃ ys : List (NestedKey × Addr × Value), xs = ys.map refK ∧ KOk H ys ∧ ∀ y ∈ ys, ∃ kd, Rp K B (.ref y.2.1) kd ∧ keyD kd = some y.1 ∧ tupB kd = true
  | _, _, .nil => ⟨[], rfl, (fun _ m => by cases m), fun _ m => by cases m⟩
  | _, _, .cons (k := k) (u := u) (kd := kd) h1 h2 h3 h4 h5 h6 h7 => by
    obtain ⟨ys, rfl, q2, q3⟩ := rpx_T s h7
    obtain ⟨b, rfl, q4, q5⟩ := tk_of s h3 h1 h2
    cases h4
    refine ⟨(k, b, u) :: ys, rfl, fun y m => ?_, fun y m => ?_⟩
    · cases m with
      | head => exact ⟨q4, q5⟩
      | tail _ m => exact q2 y m
    · cases m with
      | head => exact ⟨kd, h3, h1, h2⟩
      | tail _ m => exact q3 y m
/-- keys that are ints and texts, by key and value -/
def RpS (K : KW) (B : Hp) : List (Key × Value) → List (D × D) → Prop := Paired fun p q => q.1 = kD p.1 ∧ ∃ v, RelV v p.2 ∧ Rp K B v q.2
theorem rpx_S : ∀ {xs : List (NestedKey × Value × Value)} {ps : List (D × D)}, RpX K B false xs ps → ∃ ys, xs = ys.map valK ∧ SOk ys ∧ RpS K B (pairK ys) ps
  | _, _, .nil => ⟨[], rfl, (fun _ m => by cases m), .nil⟩
  | _, _, .cons (ku := ku) (u := u) h1 h2 h3 h4 h5 h6 h7 => by
    obtain ⟨ys, rfl, q2, q3⟩ := rpx_S h7
    obtain ⟨kk, rfl, rfl, rfl⟩ := sk_of h3 h1 h2
    refine ⟨(kk, ku, u) :: ys, rfl, fun y m => ?_, .cons ⟨rfl, _, h5, h6⟩ q3⟩
    cases m with
    | head => exact (by
        cases kk
        · obtain ⟨t, rfl⟩ := h4; exact keyIs_int _ t
        · obtain ⟨t, rfl⟩ := h4; exact keyIs_str _ t)
    | tail _ m => exact q2 y m
theorem rp_kV (k : Key) : Rp K B (kV k) (kD k) := by
  cases k
  · exact .int _
  · exact .str _
theorem relV_key {k : Key} {u : Value} (h : keyIs k u = true) : RelV (kV k) u := by
  rcases keyIs_shape h with ⟨i, t, rfl, rfl⟩ | ⟨x, t, rfl, rfl⟩
  · exact ⟨t, rfl⟩
  · exact ⟨t, rfl⟩
theorem keyD_k (k : Key) : keyD (kD k) = some (nkK k) ∧ tupB (kD k) = false := by cases k <;> exact ⟨rfl, rfl⟩
theorem rps_X : ∀ {ys : List (Key × Value × Value)} {ps : List (D × D)}, SOk ys → RpS K B (pairK ys) ps → RpX K B false (ys.map valK) ps
  | [], _, _, r => by cases r; exact .nil
  | y :: ys, _, h, r => by
    cases r with
    | @cons p q _ qs hq t =>
      obtain ⟨kd, d⟩ := q
      obtain ⟨e1, v, e2, e3⟩ := hq
      simp only at e1
      subst e1
      obtain ⟨e4, e5⟩ := keyD_k y.1
      exact .cons e4 e5 (rp_kV y.1) (relV_key (h y (by simp))) e2 e3 (rps_X (fun z m => h z (by simp [m])) t)
theorem kEq_k (a b : Key) : kEq (kD a) (kD b) = decide (a = b) := by
  cases a <;> cases b <;> simp [kD, kEq]
theorem rps_any {k : Key} : ∀ {vs : List (Key × Value)} {ps : List (D × D)}, RpS K B vs ps → (vs.any fun kv => decide (kv.1 = k)) = ps.any fun p => kEq p.1 (kD k)
  | _, _, .nil => rfl
  | _, _, .cons h t => by rw [List.any_cons, List.any_cons, rps_any t, h.1, kEq_k]
theorem rps_map {k : Key} {d : D} {v : V} {u : Value} (r : RelV v u) (q : Rp K B v d) : ∀ {vs : List (Key × Value)} {ps : List (D × D)}, RpS K B vs ps → RpS K B (vs.map fun kv => if kv.1 = k then (kv.1, u) else kv) (ps.map fun p => if kEq p.1 (kD k) then (p.1, d) else p)
  | _, _, .nil => .nil
  | _, _, .cons (a := p) (b := z) h t => by
    rw [List.map_cons, List.map_cons, h.1, kEq_k]
    by_cases e : p.1 = k
    · simp only [e, if_true, decide_true]
      exact .cons ⟨rfl, v, r, q⟩ (rps_map r q t)
    · simp only [e, if_false, decide_false, Bool.false_eq_true]
      exact .cons h (rps_map r q t)
theorem rps_app {k : Key} {d : D} {v : V} {u : Value} (r : RelV v u) (q : Rp K B v d) : ∀ {vs : List (Key × Value)} {ps : List (D × D)}, RpS K B vs ps → RpS K B (vs ++ [(k, u)]) (ps ++ [(kD k, d)])
  | _, _, .nil => .cons ⟨rfl, v, r, q⟩ .nil
  | _, _, .cons h t => .cons h (rps_app r q t)
theorem rps_put {k : Key} {d : D} {v : V} {u : Value} (r : RelV v u) (q : Rp K B v d) {vs : List (Key × Value)} {ps : List (D × D)} (h : RpS K B vs ps) : RpS K B (stored vs k u) (dPut ps (kD k) d) := by
  unfold stored dPut
  rw [rps_any h]
  split
  · exact rps_map r q h
  · exact rps_app r q h
/-- keys that are tuples, put -/
theorem rpx_any {kd : D} {k : NestedKey} (hk : keyD kd = some k) : ∀ {ys : List (NestedKey × Addr × Value)} {ps : List (D × D)}, RpX K B true (ys.map refK) ps → (ps.any fun p => kEq p.1 kd) = (atKey ys k).isSome
  | [], _, h => by cases h; rfl
  | y :: ys, _, h => by
    cases h with
    | cons h1 h2 h3 h4 h5 h6 h7 =>
      have ih := rpx_any hk h7
      rw [List.any_cons, kEq_key h1 hk, ih]
      by_cases e : y.1 = k <;> simp [atKey, e]
theorem rpx_map {kd d : D} {k : NestedKey} {u : Value} {v : V} (hk : keyD kd = some k) (r : RelV v u) (q : Rp K B v d) : ∀ {ys : List (NestedKey × Addr × Value)} {ps : List (D × D)}, RpX K B true (ys.map refK) ps → RpX K B true ((ys.map (putAt k u)).map refK) (ps.map fun p => if kEq p.1 kd then (p.1, d) else p)
  | [], _, h => by cases h; exact .nil
  | y :: ys, _, h => by
    cases h with
    | cons h1 h2 h3 h4 h5 h6 h7 =>
      have ih := rpx_map hk r q h7
      rw [List.map_cons, List.map_cons, List.map_cons, kEq_key h1 hk]
      by_cases e : y.1 = k
      · simp only [putAt, e, if_true, decide_true]
        exact .cons (e ▸ h1) h2 h3 h4 r q ih
      · simp only [putAt, e, if_false, decide_false, Bool.false_eq_true]
        exact .cons h1 h2 h3 h4 h5 h6 ih
theorem rpx_app {kd d : D} {k : NestedKey} {a : Addr} {u : Value} {v : V} (hk : keyD kd = some k) (ht : tupB kd = true) (ha : Rp K B (.ref a) kd) (r : RelV v u) (q : Rp K B v d) : ∀ {ys : List (NestedKey × Addr × Value)} {ps : List (D × D)}, RpX K B true (ys.map refK) ps → RpX K B true ((ys ++ [(k, a, u)]).map refK) (ps ++ [(kd, d)])
  | [], _, h => by cases h; exact .cons hk ht ha rfl r q .nil
  | y :: ys, _, h => by
    cases h with
    | cons h1 h2 h3 h4 h5 h6 h7 => exact .cons h1 h2 h3 h4 h5 h6 (rpx_app hk ht ha r q h7)
theorem rpx_put {kd d : D} {k : NestedKey} {a : Addr} {u : Value} {v : V} (hk : keyD kd = some k) (ht : tupB kd = true) (ha : Rp K B (.ref a) kd) (r : RelV v u) (q : Rp K B v d) {ys : List (NestedKey × Addr × Value)} {ps : List (D × D)} (h : RpX K B true (ys.map refK) ps) : RpX K B true ((storedH ys k a u).map refK) (dPut ps kd d) := by
  unfold storedH dPut
  rw [rpx_any hk h]
  split
  · exact rpx_map hk r q h
  · exact rpx_app hk ht ha r q h
/-- of the sort of the key asked for -/
theorem rpx_sort {xs : List (NestedKey × Value × Value)} {ps : List (D × D)} {kd : D} (h : RpX K B b xs ps) (m : mixB ps kd = false) : RpX K B (tupB kd) xs ps := by
  cases h with
  | nil => exact .nil
  | cons h1 h2 h3 h4 h5 h6 h7 =>
    have m : (tupB _ != tupB kd) = false := m
    rw [h2] at m
    have e : b = tupB kd := by simpa using m
    subst e
    exact .cons h1 h2 h3 h4 h5 h6 h7
theorem rpx_got {xs : List (NestedKey × Value × Value)} {ps : List (D × D)} {kd d : D} {k : NestedKey} (hk : keyD kd = some k) (h : RpX K B b xs ps) (e : dGet ps kd = some d) : b = tupB kd := by
  induction ps generalizing xs with
  | nil => cases e
  | cons p ps ih =>
    cases h with
    | @cons _ k' _ _ _ _ _ kd' _ _ h1 h2 h3 h4 h5 h6 h7 =>
      by_cases q : k' = k
      · subst q
        rw [← h2]
        cases kd' <;> first | (cases h1; done) | skip
        · cases h1
          cases kd <;> first | (cases hk; done) | rfl | skip
          obtain ⟨ks, z, _⟩ := tkD_tup hk
          cases z
        · cases h1
          cases kd <;> first | (cases hk; done) | rfl | skip
          obtain ⟨ks, z, _⟩ := tkD_tup hk
          cases z
        · obtain ⟨ks, rfl, _⟩ := tkD_tup h1
          cases kd <;> first | (cases hk; done) | rfl
      · refine ih h7 ?_
        have e : (if kEq kd' kd then some _ else dGet ps kd) = some d := e
        rw [kEq_key h1 hk] at e
        simpa [q] using e
/-- y may be asked of it -/
theorem look_of {H : Hp} (s : Same B H) {a : Addr} {ep : Nat} {xs : List (NestedKey × Value × Value)} {ps : List (D × D)} {kd : D} {k : NestedKey} (e : H a = some (dX K.w a ep xs)) (h : RpX K B (tupB kd) xs ps) (hk : keyD kd = some k) (r : Rp K B y kd) : LookX K.w H a y (look xs k) := by
  refine ⟨ep, xs, k, e, rfl, ?_⟩
  cases ht : tupB kd with
  | true =>
    rw [ht] at h
    obtain ⟨ys, rfl, q2, _⟩ := rpx_T s h
    obtain ⟨b, q⟩ := tk_of s r hk ht
    exact .inl ⟨b, ys, rfl, q2, q⟩
  | false =>
    rw [ht] at h
    obtain ⟨ys, rfl, q2, _⟩ := rpx_S h
    obtain ⟨kk, rfl, rfl, rfl⟩ := sk_of r hk ht
    exact .inr ⟨ys, kk, rfl, q2, rfl, rfl⟩
/-- what a dict stands as -/
theorem Tp.dcs {H : Hp} {v : V} {ps : List (D × D)} (h : Tp K B H v (.dict ps)) (hx : (∃ d, ps = [(.none, d)]) → False) : ∃ a ep b xs, v = .ref a ∧ H a = some (dX K.w a ep xs) ∧ RpX K B b xs ps := by
  rcases h with h | ⟨z, h⟩
  · exact h
  · cases h with
    | dct _ r =>
      cases r with
      | nil => cases z
      | @cons _ _ _ _ _ _ _ kd _ _ h1 _ _ _ _ _ _ => cases kd <;> first | (cases z; done) | cases h1
    | exn _ _ _ _ => exact (hx ⟨_, rfl⟩).elim
theorem dGet_xn {ps : List (D × D)} (h : ∃ d, ps = [(.none, d)]) (k : D) : dGet ps k = none := by
  obtain ⟨d, rfl⟩ := h
  cases k <;> rfl
/-- a key as it stands -/
theorem Tp.rpK {H : Hp} {v : V} {kd : D} {k : NestedKey} (h : Tp K B H v kd) (hk : keyD kd = some k) : Rp K B v kd := by
  cases kd <;> first | (cases hk; done) | exact h
def dgD : D → D → Option Hd
  | .dict ps, k => if isK k then (dGet ps k).map Hd.sh else none
  | _, _ => none
theorem ol_dg : OpL K (rXG K.w) dgD := fun ρ σ B H x y dx dy h Q S tx ty e k => by
  cases dx <;> first | (cases (show none = some h from e); done) | skip
  rename_i ps
  replace e : (if isK dy then (dGet ps dy).map Hd.sh else none) = some h := e
  split at e
  · rename_i hk
    obtain ⟨d, e1, rfl⟩ := Option.map_eq_some_iff.mp e
    obtain ⟨a, ep, b, xs, rfl, ha, ra⟩ := tx.dcs fun z => by
      rw [dGet_xn z dy] at e1
      cases e1
    obtain ⟨nk, hn⟩ := isK_key hk
    have eb := rpx_got hn ra e1
    subst eb
    obtain ⟨u, v, q1, q2, q3⟩ := (rpx_get hn ra).1 d e1
    have q4 := look_of S.bh ha ra hn (ty.rpK hn)
    rw [q1] at q4
    exact ⟨a, u, v, rfl, q4, q2, now S q3 k⟩
  · cases e
def ixA : D → D → Option Hd
  | .dict ps, k => dgD (.dict ps) k
  | d, k => ixD d k
def rIxA (K : PySem.W.Frag) (w : World) : R2 := fun x y H Q => rIx K x y H Q ∨ rXG w x y H Q
theorem ol_ixA : OpL K (rIxA K K.w) ixA := fun ρ σ B H x y dx dy h Q S tx ty e k => by
  cases dx with
  | dict ps => exact .inr (ol_dg ρ σ B H x y _ dy h Q S tx ty e k)
  | _ => exact .inl (ol_ix ρ σ B H x y _ dy h Q S tx ty e k)
def dinD (neg : Bool) : D → D → Option Hd
  | k, .dict ps => if isK k && !xnB ps && !mixB ps k then some (.sh (.bool (neg ^^ (dGet ps k).isSome))) else none
  | _, _ => none
theorem ol_din {neg : Bool} : OpL K (rXin neg K.w) (dinD neg) := fun ρ σ B H x y dx dy h Q S tx ty e k => by
  cases dy <;> first | (cases dx <;> cases (show none = some h from e); done) | skip
  rename_i ps
  replace e : (if isK dx && !xnB ps && !mixB ps dx then some (Hd.sh (.bool (neg ^^ (dGet ps dx).isSome))) else none) = some h := by cases dx <;> exact e
  obtain ⟨hk, rfl⟩ := if_some e
  rw [Bool.and_eq_true, Bool.and_eq_true] at hk
  obtain ⟨⟨hk, hx⟩, hm⟩ := hk
  have hm : mixB ps dx = false := by simpa using hm
  obtain ⟨a, ep, b, xs, rfl, ha, ra⟩ := ty.dcs fun z => by
    obtain ⟨d, rfl⟩ := z
    cases hx
  obtain ⟨nk, hn⟩ := isK_key hk
  have ra := rpx_sort ra hm
  refine ⟨a, _, rfl, look_of S.bh ha ra hn (tx.rpK hn), ?_⟩
  rw [rpx_is hn ra]
  exact now S (.bl _) k
def inB (neg : Bool) : D → D → Option Hd
  | k, .dict ps => dinD neg k (.dict ps)
  | a, b => inD neg a b
theorem op_inB {X : Cx} (hu : X.A.units + 65 < cLine) : OpR X (compareOp .In) (fun x y H Q => rInA X.K x y H Q ∨ rXin false X.w x y H Q) := OpR.or (op_inA hu) (op_Xin hu)
theorem op_notInB {X : Cx} (hu : X.A.units + 65 < cLine) : OpR X (compareOp .NotIn) (fun x y H Q => rNotInA X.K x y H Q ∨ rXin true X.w x y H Q) := OpR.or (op_notInA hu) (op_Xni hu)
theorem ol_inB : OpL K (fun x y H Q => rInA K x y H Q ∨ rXin false K.w x y H Q) (inB false) := fun ρ σ B H x y dx dy h Q S tx ty e k => by
  cases dy with
  | dict ps => exact .inr (ol_din ρ σ B H x y dx _ h Q S tx ty (by cases dx <;> exact e) k)
  | _ => exact .inl (ol_in ρ σ B H x y dx _ h Q S tx ty (by cases dx <;> exact e) k)
theorem ol_notInB : OpL K (fun x y H Q => rNotInA K x y H Q ∨ rXin true K.w x y H Q) (inB true) := fun ρ σ B H x y dx dy h Q S tx ty e k => by
  cases dy with
  | dict ps => exact .inr (ol_din ρ σ B H x y dx _ h Q S tx ty (by cases dx <;> exact e) k)
  | _ => exact .inl (ol_notIn ρ σ B H x y dx _ h Q S tx ty (by cases dx <;> exact e) k)
end
section
variable {X : Cx} {C : Ct} {a b e : Expr} {ta tb te : TE} {fa fb fe : EF} {pos pos' q1 : Pos} {ρ ρ1 : Rho} {σ : St} {B H B1 H1 : Hp}
theorem se_ixA (hu : X.A.units + 65 < cLine) (la : SE X C a ta fa) (lb : SE X C b tb fb) (hk : X.K = C.K := by rfl) (hw : X.w = C.K.w := by rfl) (hs : PlainIx b := by intro _ _; rfl) : SE X C (.Subscript a b pos) (tOp (rIxA C.K C.K.w) ta tb) (eBin ixA fa fb) :=
  ⟨by rw [← hk, ← hw]; exact pe_ix (IxR.or ix_seq (ix_dX hu)) la.pe lb.pe hs, lk_op ol_ixA la.lk lb.lk⟩
def setD (k y : D) : D → Option D
  | .list ds => match k with
    | .int i => (ixN ds.length i).map fun j => .list (ds.set j y)
    | _ => none
  | .dict ps => if isK k && !mixB ps k && decide (ps.length < sizeLine) then some (.dict (dPut ps k y)) else none
  | _ => none
def rSetA (w : World) : TSet := fun o i v H Q => rSetL o i v H Q ∨ rXS w o i v H Q
theorem set_any (hu : X.A.units + 65 < cLine) : PSet X (rSetA X.w) := by
  intro pins s σ H o i v ov iv u Q I ro ri rv h
  rcases h with h | h
  · exact set_list pins s σ H o i v ov iv u Q I ro ri rv h
  · exact set_dX hu pins s σ H o i v ov iv u Q I ro ri rv h
def sPut (i : Nat) (fi fe : EF) : SF := fun ρ => bindES (eCap fe ρ) fun h ρ1 => match h with
  | .sh y => match slot ρ1 i with
    | none => .stuck
    | some _ => bindES (eCap fi ρ1) fun hi ρ2 => match hi with
      | .sh k => mutS ρ2 i (setD k y)
      | _ => .stuck
  | _ => .stuck
theorem ss_put {i : Nat} {x : Str} (hu : X.A.units + 65 < cLine) (lb : SE X C b tb fb) (l : SE X C e te fe) (hN : X.N[i]? = some x := by rfl) (hv : Vis X.env.scope x := by first | exact Or.inl rfl | exact Or.inr (Or.inl rfl) | exact Or.inr (Or.inr rfl)) (hd : (x == ("__debug__" : Str)) = false := by decide)
    (hcd : (x == ("__classdict__" : Str)) = false := by decide)
    (ha : ∀ v, assign (.Subscript (.Name x q1) b pos') X.env v = (do
      let ov ← holding [v] (eval (.Name x q1) X.env)
      let iv ← holding [v, ov] (eval b X.env)
      standAt pos'
      holding [v, ov, iv] (setItem ov iv v)
      release [v, ov, iv] []) := by intro _; rfl)
    (hs : swapsWithSole [.Subscript (.Name x q1) b pos'] e pos.line X.env = pure false := by rfl) (hw : X.w = C.K.w := by rfl) :
    SS X C (.Assign [.Subscript (.Name x q1) b pos'] e pos) (tAsg te (gSub (tVar i) tb (rSetA C.K.w))) (sPut i fb fe) := by
  refine ⟨by rw [← hw]; exact ps_asg l.pe (pg_sub (pe_var hN hv hd hcd) lb.pe (set_any hu) ha) hs, fun ρ σ B H E S g => ?_⟩
  refine l.lk.cap.bindS S g fun hd ρ1 v B1 H1 S1 x1 y1 g1 => ?_
  cases hd with
  | sh y =>
    dsimp only at g1
    split at g1
    · exact g1.elim
    rename_i c ec
    obtain ⟨v0, e0, _⟩ := S1.sl i c (slot_some ec)
    refine ⟨v0, e0, ?_⟩
    refine lb.lk.cap.bindS S1 (GoodS.ext x1 g1) fun hi ρ2 w B2 H2 S2 x2 y2 g2 => ?_
    cases hi with
    | sh k =>
      obtain ⟨c, d', h1, h2, h3, h4⟩ := mutS_ok g2
      obtain ⟨a', ea', hb, ow⟩ := S2.own h1 h2
      rw [e0] at ea'
      cases ea'
      obtain ⟨d, fl⟩ := c
      have y1' : Rp C.K B2 v y := Rp.mono x2.bb y1
      cases d with
      | list ds =>
        cases k <;> first | (cases h3; done) | skip
        rename_i ki
        obtain ⟨j, ej, rfl⟩ := Option.map_eq_some_iff.mp h3
        obtain ⟨ws, ew, rw'⟩ := ow
        have ow' : Ow C.K B2 a' (some (.lst (ws.set j v))) (.list (ds.set j y)) := ⟨_, rfl, RpL.set y1' j rw'⟩
        obtain ⟨S3, x3⟩ := S2.mut h1 h2 e0 ow'
        cases (show Rp C.K B2 w (.int ki) from y2)
        exact .inl ⟨a', ws, ki, j, rfl, rfl, ew, by rw [rw'.length]; exact ej, h4 _ _ _ S3 (x2.trans x3)⟩
      | dict ps =>
        obtain ⟨hc, rfl⟩ := if_some (show (if isK k && !mixB ps k && decide (ps.length < sizeLine) then some (PyData.dict (dPut ps k y)) else none) = some d' from h3)
        rw [Bool.and_eq_true, Bool.and_eq_true] at hc
        obtain ⟨⟨hk, hm⟩, hz⟩ := hc
        have hm : mixB ps k = false := by simpa using hm
        have hz := of_decide_eq_true hz
        obtain ⟨nk, hn⟩ := isK_key hk
        obtain ⟨ep, b, xs, ew, rk⟩ := ow
        have rk := rpx_sort rk hm
        refine .inr ⟨a', ep, xs, rfl, ew, by rw [rpx_len rk]; exact hz, ?_⟩
        cases ht : tupB k with
        | true =>
          rw [ht] at rk
          obtain ⟨ys, rfl, q2, _⟩ := rpx_T S2.bh rk
          obtain ⟨b, q⟩ := tk_of S2.bh y2 hn ht
          obtain rfl := q.1
          refine .inl ⟨b, ys, nk, rfl, q2, q, fun ep u ru => ?_⟩
          have ow' : Ow C.K B2 a' (some (dX C.K.w a' ep ((storedH ys nk b u).map refK))) (.dict (dPut ps k y)) := ⟨ep, true, _, rfl, rpx_put hn ht y2 ru y1' rk⟩
          obtain ⟨S3, x3⟩ := S2.mut h1 h2 e0 ow'
          exact h4 _ _ _ S3 (x2.trans x3)
        | false =>
          rw [ht] at rk
          obtain ⟨ys, rfl, q2, q3⟩ := rpx_S rk
          obtain ⟨kk, rfl, rfl, rfl⟩ := sk_of y2 hn ht
          refine .inr ⟨ys, kk, rfl, q2, rfl, fun ep u zs ru z1 z2 => ?_⟩
          have ow' : Ow C.K B2 a' (some (dX C.K.w a' ep (zs.map valK))) (.dict (dPut ps (kD kk) y)) := ⟨ep, false, _, rfl, rps_X z1 (by rw [z2]; exact rps_put ru y1' q3)⟩
          obtain ⟨S3, x3⟩ := S2.mut h1 h2 e0 ow'
          exact h4 _ _ _ S3 (x2.trans x3)
      | _ => cases h3
    | _ => exact g2.elim
  | _ => exact g1.elim
end
end GS
namespace GS
open PySem L2
inductive RP where | stuck | ok (ps : List (D × D)) (ρ : Rho) | exc (x : Xc) (ρ : Rho)
abbrev PF := Rho → RP
section
variable {X : Cx} {C : Ct} {a b e : Expr} {ta tb te tk tv : TE} {fa fb fe fk fv : EF} {pos pos' q1 : Pos} {ρ ρ1 : Rho} {σ : St} {B H B1 H1 : Hp} {K : KW}
def dNil : PF := fun ρ => .ok [] ρ
def dCons (fk fv : EF) (g : PF) : PF := fun ρ => match eCap fk ρ with
  | .stuck => .stuck
  | .exc x ρ1 => .exc x ρ1
  | .ok (.sh k) ρ1 => (match eCap fv ρ1 with
    | .stuck => .stuck
    | .exc x ρ2 => .exc x ρ2
    | .ok (.sh v) ρ2 => (match g ρ2 with
      | .stuck => .stuck
      | .exc x ρ3 => .exc x ρ3
      | .ok ps ρ3 => if isS k then .ok ((k, v) :: ps) ρ3 else .stuck)
    | .ok _ _ => .stuck)
  | .ok _ _ => .stuck
def GoodP (C : Ct) (ρ : Rho) (σ : St) (B H : Hp) (Q : List (V × V) → Hp → Prop) : RP → Prop
  | .stuck => False
  | .ok ps ρ' => ∀ kvs B' H', Sim C.K ρ' σ B' H' → Ext ρ σ B H ρ' σ B' H' → RpK C.K B' kvs ps → Q (kvs.map fun kv => (kV kv.1, kv.2)) H'
  | .exc x ρ' => ∀ cls dct B' H', Sim C.K ρ' σ B' H' → Ext ρ σ B H ρ' σ B' H' → XcOk C B' x cls dct → C.W cls dct σ H'
structure SD (X : Cx) (C : Ct) (pos : Pos) (keys : List (Option Expr)) (values : List Expr) (trs : List (TE × TE)) (g : PF) : Prop where
  pp : PPs X pos keys values trs
  lk : ∀ ρ σ B H Q, Sim C.K ρ σ B H → GoodP C ρ σ B H Q (g ρ) → tPairs trs σ H Q
theorem GoodP.ext {Q : List (V × V) → Hp → Prop} (x : Ext ρ σ B H ρ1 σ B1 H1) : ∀ {r : RP}, GoodP C ρ σ B H Q r → GoodP C ρ1 σ B1 H1 Q r
  | .stuck, g => g
  | .ok _ _, g => fun vs B' H' s y z => g vs B' H' s (x.trans y) z
  | .exc _ _, g => fun c d B' H' s y z => g c d B' H' s (x.trans y) z
theorem sd_nil : SD X C pos [] [] [] dNil := ⟨pps_nil, fun ρ σ B H Q S g => g [] B H S Ext.refl .nil⟩
theorem sd_cons {ks : List (Option Expr)} {vs : List Expr} {trs : List (TE × TE)} {g : PF} (lk : SE X C a tk fk) (lv : SE X C b tv fv) (r : SD X C pos ks vs trs g) : SD X C pos (some a :: ks) (b :: vs) ((tk, tv) :: trs) (dCons fk fv g) := by
  refine ⟨pps_cons lk.pe lv.pe r.pp, fun ρ σ B H Q S gd => ?_⟩
  refine lk.lk.cap ρ σ B H _ S ?_
  unfold dCons at gd
  cases e1 : eCap fk ρ with
  | stuck => rw [e1] at gd; exact gd
  | exc x ρ1 => rw [e1] at gd; exact gd
  | ok h1 ρ1 =>
    rw [e1] at gd
    cases h1 with
    | sh k =>
      intro x B1 H1 S1 x1 y1
      refine lv.lk.cap ρ1 σ B1 H1 _ S1 ?_
      dsimp only at gd
      cases e2 : eCap fv ρ1 with
      | stuck => rw [e2] at gd; exact gd
      | exc x ρ2 => rw [e2] at gd; exact fun c d B' H' s y z => gd c d B' H' s (x1.trans y) z
      | ok h2 ρ2 =>
        rw [e2] at gd
        cases h2 with
        | sh v =>
          intro y B2 H2 S2 x2 y2
          refine r.lk ρ2 σ B2 H2 _ S2 ?_
          dsimp only at gd
          cases e3 : g ρ2 with
          | stuck => rw [e3] at gd; exact gd
          | exc x ρ3 => rw [e3] at gd; exact fun c d B' H' s y z => gd c d B' H' s ((x1.trans x2).trans y) z
          | ok ps ρ3 =>
            rw [e3] at gd
            dsimp only at gd
            intro kvs B3 H3 S3 x3 y3
            split at gd
            · rename_i hk
              obtain ⟨ky, rfl⟩ := isS_k hk
              have ek : x = kV ky := (Tp.of S1.bh y1).key
              subst ek
              exact gd ((ky, y) :: kvs) B3 H3 S3 ((x1.trans x2).trans x3) (.cons (Rp.mono x3.bb y2) y3)
            · exact gd.elim
        | _ => exact gd.elim
    | _ => exact gd.elim
def dMerge (ps : List (D × D)) : List (D × D) := ps.foldl (fun acc p => dPut acc p.1 p.2) []
theorem rpk_S {kvs : List (Key × V)} {ps : List (D × D)} (h : RpK K B kvs ps) : ∀ {vs : List (Key × Value)}, KV kvs vs → RpS K B vs ps := by
  induction kvs generalizing ps with
  | nil => cases h; intro vs r; cases r; exact .nil
  | cons kv kvs ih =>
    cases h with
    | cons r t =>
      intro vs q
      cases q with
      | cons q1 q2 => exact .cons ⟨by rw [← q1.1], _, q1.2, r⟩ (ih t q2)
theorem rpk_any {k : Key} : ∀ {kvs : List (Key × V)} {ps : List (D × D)}, RpK K B kvs ps → (kvs.any fun kv => decide (kv.1 = k)) = ps.any fun p => kEq p.1 (kD k)
  | _, _, .nil => rfl
  | _, _, .cons h t => by rw [List.any_cons, List.any_cons, rpk_any t, kEq_k]
theorem rpk_map {k : Key} {v : V} {d : D} (r : Rp K B v d) : ∀ {kvs : List (Key × V)} {ps : List (D × D)}, RpK K B kvs ps → RpK K B (kvs.map fun kv => if kv.1 = k then (kv.1, v) else kv) (ps.map fun p => if kEq p.1 (kD k) then (p.1, d) else p)
  | _, _, .nil => .nil
  | _, _, .cons (k := k') h t => by
    rw [List.map_cons, List.map_cons, kEq_k]
    by_cases e : k' = k
    · simp only [e, if_true, decide_true]
      exact .cons r (rpk_map r t)
    · simp only [e, if_false, decide_false, Bool.false_eq_true]
      exact .cons h (rpk_map r t)
theorem rpk_app {k : Key} {v : V} {d : D} (r : Rp K B v d) : ∀ {kvs : List (Key × V)} {ps : List (D × D)}, RpK K B kvs ps → RpK K B (kvs ++ [(k, v)]) (ps ++ [(kD k, d)])
  | _, _, .nil => .cons r .nil
  | _, _, .cons h t => .cons h (rpk_app r t)
theorem rpk_len : ∀ {kvs : List (Key × V)} {ps : List (D × D)}, RpK K B kvs ps → kvs.length = ps.length
  | _, _, .nil => rfl
  | _, _, .cons _ t => by rw [List.length_cons, List.length_cons, rpk_len t]
theorem rpk_put {k : Key} {v : V} {d : D} {kvs : List (Key × V)} {ps : List (D × D)} (h : RpK K B kvs ps) (r : Rp K B v d) : RpK K B (putK kvs k v) (dPut ps (kD k) d) := by
  unfold putK dPut
  rw [rpk_any h]
  split
  · exact rpk_map r h
  · exact rpk_app r h
theorem rpk_merge {kvs : List (Key × V)} {ps : List (D × D)} (h : RpK K B kvs ps) : ∀ {k0 : List (Key × V)} {p0 : List (D × D)}, RpK K B k0 p0 → RpK K B (mergeK k0 kvs) (ps.foldl (fun acc p => dPut acc p.1 p.2) p0) := by
  induction kvs generalizing ps with
  | nil => cases h; exact fun h0 => h0
  | cons kv kvs ih =>
    cases h with
    | cons r t =>
      intro k0 p0 h0
      exact ih t (rpk_put h0 r)
def eDct (g : PF) : EF := fun ρ => match g ρ with
  | .stuck => .stuck
  | .exc x ρ1 => .exc x ρ1
  | .ok ps ρ1 => if ps.length ≤ 15 then .ok (.fr (.dict (dMerge ps))) ρ1 else .stuck
theorem se_dct {keys : List (Option Expr)} {values : List Expr} {trs : List (TE × TE)} {g : PF} (l : SD X C pos keys values trs g) (hall : keys.all (·.isSome) = true := by rfl) (hl : keys.length = values.length := by rfl) (h0 : keys ≠ [] := by intro h; cases h)
    (h15 : keys.length ≤ 15 := by decide) (hw : X.w = C.K.w := by rfl) : SE X C (.Dict keys values pos) (tRe C.K.w (tDisp trs)) (eDct g) := by
  refine ⟨by rw [← hw]; exact pe_re (pe_disp l.pp hall hl h0 h15), fun ρ σ B H Q S gd p hp => ?_⟩
  obtain ⟨S1, x1⟩ := S.newH hp (.dK [])
  obtain ⟨bp, np⟩ := S.free hp
  refine l.lk ρ σ B _ _ S1 ?_
  unfold eDct at gd
  cases e : g ρ with
  | stuck => rw [e] at gd; exact gd
  | exc x ρ1 => rw [e] at gd; exact fun c d B' H' s y z => gd c d B' H' s (x1.trans y) z
  | ok ps ρ1 =>
    rw [e] at gd
    dsimp only at gd
    split at gd
    · rename_i hlen
      intro kvs B2 H2 S2 x2 r2
      have hp1 : (upd H p (.dK [])) p = some (.dK []) := upd_same
      have nown : ¬ OwnA ρ σ p := np
      have h2p : H2 p = some (.dK []) := x2.kp p _ hp1 nown
      have notnew : ¬ New ρ σ (upd H p (.dK [])) p := fun z => by
        rcases z with z | z
        · rw [hp1] at z; cases z
        · exact nown z
      have b2p : B2 p = none := by
        cases eb : B2 p with
        | none => rfl
        | some o =>
          rcases x2.nw p o eb with z | z
          · rw [bp] at z; cases z
          · exact absurd z notnew
      have n2 : ¬ OwnA ρ1 σ p := fun z => notnew (x2.sub p z)
      refine ⟨h2p, kvs, rfl, by rw [rpk_len r2]; exact hlen, ?_⟩
      refine ⟨p, _, rfl, upd_same, fun ep ys y1 y2 => ?_⟩
      rw [upd_upd]
      have S3 := S2.tweak (o := dX C.K.w p ep (ys.map valK)) b2p n2
      have x3 : Ext ρ σ B H ρ1 σ B2 (upd H2 p (dX C.K.w p ep (ys.map valK))) := (x1.trans x2).tweak (.inl hp)
      exact gd _ _ _ S3 x3 ⟨p, rfl, b2p, ⟨ep, false, _, upd_same, rps_X y1 (rpk_S (rpk_merge r2 .nil) y2)⟩, n2, .inl hp⟩
    · exact gd.elim
end
end GS
namespace GS
open PySem L2
section
variable {X : Cx} {C : Ct} {e0 : Expr} {es : List Expr} {pos p : Pos} {x : Str} {k n : Nat} {f : Addr} {fd : FuncData} {ps : List Str} {F : FF} {t : TA} {g : AF} {t0 : TE} {f0 : EF}
end
end GS
namespace GS
open PySem L2
section
variable {K : KW} {ρ : Rho} {σ : St} {B H : Hp} {v x y : V} {Q : VK}
def intsL : List D → Option (List Int)
  | [] => some []
  | .int b :: ds => (intsL ds).map (b :: ·)
  | _ :: _ => none
theorem intsL_ok : ∀ {vs : List V} {ds : List D} {bs : List Int}, RpL K B vs ds → intsL ds = some bs → vs = bs.map V.int
  | _, _, _, .nil, e => by cases e; rfl
  | _, d :: ds, _, .cons h t, e => by
    cases d <;> first | (cases e; done) | skip
    obtain ⟨r, er, rfl⟩ := Option.map_eq_some_iff.mp e
    cases h
    rw [intsL_ok t er]; rfl
end
section
variable {X : Cx} {C : Ct} {a b e : Expr} {ta tb te : TE} {fa fb fe : EF} {pos p p1 p2 p3 : Pos}
end
end GS
namespace GS
open PySem L2
def mapR (k : Rho → Rho) : RS → RS
  | .stuck => .stuck
  | .nx ρ => .nx (k ρ)
  | .bk ρ => .bk (k ρ)
  | .ct ρ => .ct (k ρ)
  | .rt h ρ => .rt h (k ρ)
  | .exc x ρ => .exc x (k ρ)
/-- less is known -/
structure Weak (ρ ρ' : Rho) : Prop where
  len : ρ'.length = ρ.length
  sub : ∀ (i : Nat) (c : Cel), ρ'[i]? = some (some c) → ρ[i]? = some (some c)
  io : ∀ (i : Nat) (c : Cel), ρ[i]? = some (some c) → c.fl = .io → ρ'[i]? = some (some c)
section
variable {K : KW} {X : Cx} {C : Ct} {ρ ρ1 ρ2 : Rho} {σ σ1 : St} {B H B1 H1 : Hp} {Ed : Ends} {t u : TS} {f g : SF} {st : Stmt} {rest : List Stmt} {pos : Pos}
theorem OwnA.weak (w : Weak ρ ρ1) {a : Addr} (h : OwnA ρ1 σ a) : OwnA ρ σ a := by
  obtain ⟨i, c, h1, h2, h3⟩ := h
  exact ⟨i, c, w.sub i c h1, h2, h3⟩
theorem Sim.weak (S : Sim K ρ σ B H) (w : Weak ρ ρ1) : Sim K ρ1 σ B H :=
  ⟨S.bh, w.len.trans S.len, fun i c h => S.sl i c (w.sub i c h), fun i j ci cj a hi hj => S.dj i j ci cj a (w.sub i ci hi) (w.sub j cj hj)⟩
theorem Ext.weak (x : Ext ρ σ B H ρ1 σ1 B1 H1) (w : Weak ρ1 ρ2) : Ext ρ σ B H ρ2 σ1 B1 H1 :=
  ⟨x.bb, x.nw, x.kp, fun a h => x.sub a (OwnA.weak w h), fun i c h1 h2 => by
    obtain ⟨e1, c1, q1, q2⟩ := x.io i c h1 h2
    exact ⟨e1, c1, w.io i c1 q1 q2, q2⟩, fun i c h1 h2 => x.oi i c (w.sub i c h1) h2⟩
theorem HdOk.weak {N : Addr → Prop} {v : V} (w : Weak ρ ρ1) : ∀ {h : Hd}, HdOk K N ρ σ B H v h → HdOk K N ρ1 σ B H v h
  | .sh _, q => q
  | .fr _, ⟨a, h1, h2, h3, h4, h5⟩ => ⟨a, h1, h2, h3, fun z => h4 (OwnA.weak w z), h5⟩
  | .bw _, q => q
theorem lk_weak {k : Rho → Rho} {f : SF} (hk : ∀ ρ' σ' B' H', Ext ρ σ B H ρ' σ' B' H' → Weak ρ' (k ρ')) (g : GoodS C ρ σ B H Ed (mapR k (f ρ))) : GoodS C ρ σ B H Ed (f ρ) := by
  cases e : f ρ with
  | stuck => rw [e] at g; exact g
  | nx ρ' => rw [e] at g; exact fun σ' B' H' s x => g σ' B' H' (s.weak (hk _ _ _ _ x)) (x.weak (hk _ _ _ _ x))
  | bk ρ' => rw [e] at g; exact fun σ' B' H' s x => g σ' B' H' (s.weak (hk _ _ _ _ x)) (x.weak (hk _ _ _ _ x))
  | ct ρ' => rw [e] at g; exact fun σ' B' H' s x => g σ' B' H' (s.weak (hk _ _ _ _ x)) (x.weak (hk _ _ _ _ x))
  | rt h ρ' => rw [e] at g; exact fun v σ' B' H' s x y => g v σ' B' H' (s.weak (hk _ _ _ _ x)) (x.weak (hk _ _ _ _ x)) (y.weak (hk _ _ _ _ x))
  | exc y ρ' => rw [e] at g; exact fun c d σ' B' H' s x z => g c d σ' B' H' (s.weak (hk _ _ _ _ x)) (x.weak (hk _ _ _ _ x)) z
def sKill (vs : List Nat) (f : SF) : SF := fun ρ => if vs.all fun i => !ioAt ρ i then mapR (fun ρ => wipeR ρ vs) (f ρ) else .stuck
theorem weak_wipe {vs : List Nat} (h : ∀ i ∈ vs, ∀ c, ρ[i]? = some (some c) → c.fl ≠ .io) : Weak ρ (wipeR ρ vs) :=
  ⟨wipeR_len _ _, fun i c e => (wipeR_some e).1, fun i c e z => by
    have ni : i ∉ vs := fun q => h i q c e z
    rw [wipeR_keep ni]; exact e⟩
theorem lk_kill {vs : List Nat} (l : LkS C t f) : LkS C t (sKill vs f) := fun ρ σ B H D S g => by
  unfold sKill at g
  split at g
  · rename_i hv
    refine l ρ σ B H D S (lk_weak (fun ρ' σ' B' H' x => weak_wipe fun i hi c hc hf => ?_) g)
    have := List.all_eq_true.mp hv i hi
    obtain ⟨c', q1, q2⟩ := x.oi i c hc hf
    exact not_io (by simpa using this) q1 q2
  · exact g.elim
theorem ss_kill {vs : List Nat} (l : SS X C st t f) : SS X C st t (sKill vs f) := ⟨l.ps, lk_kill l.lk⟩
theorem sss_kill {vs : List Nat} {sts : List Stmt} (l : SSs X C sts t f) : SSs X C sts t (sKill vs f) := ⟨l.ps, lk_kill l.lk⟩
theorem weak_io : Weak ρ (ρ.map ioC) := by
  refine ⟨List.length_map _, fun i c e => ?_, fun i c e z => ?_⟩
  · rw [List.getElem?_map] at e
    obtain ⟨o, h1, h2⟩ := Option.map_eq_some_iff.mp e
    rw [h1, (ioC_some h2).1]
  · rw [List.getElem?_map, e]
    obtain ⟨d, fl⟩ := c
    cases z
    rfl
/-- only what is lent stays -/
def sEnd (f : SF) : SF := fun ρ => mapR (fun ρ => ρ.map ioC) (f ρ)
theorem lk_end (l : LkS C t f) : LkS C t (sEnd f) := fun ρ σ B H D S g => l ρ σ B H D S (lk_weak (fun _ _ _ _ _ => weak_io) g)
theorem ss_end (l : SS X C st t f) : SS X C st t (sEnd f) := ⟨l.ps, lk_end l.lk⟩
end
end GS
namespace GS
open PySem L2
def flatEq : D → D → Option Bool
  | .str i, .str j => some (decide (i = j))
  | .int i, .int j => some (decide (i = j))
  | .bool i, .bool j => some (decide (i = j))
  | .none, .none => some true
  | .none, .str _ => some false
  | .str _, .none => some false
  | .none, .int _ => some false
  | .int _, .none => some false
  | _, _ => none
/-- no dicts, at most 190 deep -/
def okW (d : D) : Bool := GS.plain d && PyData.canLay0 d && Nat.ble d.depth 190
def eqB (neg : Bool) : D → D → Option Hd := fun x y => match flatEq x y with
  | some b => some (.sh (.bool (neg ^^ b)))
  | none => if okW x && okW y then some (.sh (.bool (neg ^^ PyData.eqv x y))) else none
def rEqW (K : PySem.W.Frag) : R2 := fun x y H Q => ∃ d e, Dp K H x d ∧ Dp K H y e ∧ PyData.canLay0 d = true ∧ PyData.canLay0 e = true ∧ d.depth ≤ 190 ∧ Q (.bl (PyData.eqv d e)) H
def rNeW (K : PySem.W.Frag) : R2 := fun x y H Q => ∃ d e, Dp K H x d ∧ Dp K H y e ∧ PyData.canLay0 d = true ∧ PyData.canLay0 e = true ∧ d.depth ≤ 190 ∧ Q (.bl (!PyData.eqv d e)) H
theorem op_eqW {X : Cx} (hu : X.A.units + 199 < cLine) : OpR X (compareOp .Eq) (rEqW X.K) := by
  intro pins s σ H x y v u Q I rx ry h
  obtain ⟨d, e, hd, he, sd, se, dp, q⟩ := h
  obtain ⟨as, r1⟩ := Dp.reads I d x v hd rx
  obtain ⟨bs, r2⟩ := Dp.reads I e y u he ry
  exact SeqAt.compareEq_reads r1 r2 sd se (by omega) ⟨.bl _, H, I, rfl, q⟩
theorem op_neW {X : Cx} (hu : X.A.units + 199 < cLine) : OpR X (compareOp .NotEq) (rNeW X.K) := by
  intro pins s σ H x y v u Q I rx ry h
  obtain ⟨d, e, hd, he, sd, se, dp, q⟩ := h
  obtain ⟨as, r1⟩ := Dp.reads I d x v hd rx
  obtain ⟨bs, r2⟩ := Dp.reads I e y u he ry
  exact SeqAt.compareNe_reads r1 r2 sd se (by omega) ⟨.bl _, H, I, rfl, q⟩
section
variable {K : KW}
theorem flatEq_V {B H : Hp} {x y : V} {dx dy : D} {b : Bool} (tx : Tp K B H x dx) (ty : Tp K B H y dy) (e : flatEq dx dy = some b) : scal x y = true ∧ decide (x = y) = b := by
  cases dx <;> cases dy <;> first | (cases (show none = some b from e); done) | skip
  · cases e; rw [tx.non, ty.non]; exact ⟨rfl, rfl⟩
  · cases e; rw [tx.non, ty.int]; exact ⟨rfl, by simp⟩
  · cases e; rw [tx.non, ty.str]; exact ⟨rfl, by simp⟩
  · cases e; rw [tx.bl, ty.bl]; exact ⟨rfl, by simp⟩
  · cases e; rw [tx.int, ty.non]; exact ⟨rfl, by simp⟩
  · cases e; rw [tx.int, ty.int]; exact ⟨rfl, by simp⟩
  · cases e; rw [tx.str, ty.non]; exact ⟨rfl, by simp⟩
  · cases e; rw [tx.str, ty.str]; exact ⟨rfl, by simp⟩
theorem op_eqB {X : Cx} (hu : X.A.units + 199 < cLine) : OpR X (compareOp .Eq) (fun x y H Q => rEq x y H Q ∨ rEqW X.K x y H Q) := OpR.or op_eq (op_eqW hu)
theorem op_neB {X : Cx} (hu : X.A.units + 199 < cLine) : OpR X (compareOp .NotEq) (fun x y H Q => rNe x y H Q ∨ rNeW X.K x y H Q) := OpR.or op_ne (op_neW hu)
theorem okW_ok {d : D} (h : okW d = true) : GS.plain d = true ∧ PyData.canLay0 d = true ∧ d.depth ≤ 190 := by
  unfold okW at h
  rw [Bool.and_eq_true, Bool.and_eq_true] at h
  exact ⟨h.1.1, h.1.2, Nat.le_of_ble_eq_true h.2⟩
theorem ol_eqB : OpL K (fun x y H Q => rEq x y H Q ∨ rEqW K x y H Q) (eqB false) := fun ρ σ B H x y dx dy h Q S tx ty e k => by
  unfold eqB at e
  split at e
  · rename_i b eb
    cases e
    obtain ⟨q1, q2⟩ := flatEq_V tx ty eb
    refine .inl ⟨q1, ?_⟩
    rw [q2]
    have := now (v := .bl (false ^^ b)) S (.bl _) k
    rwa [Bool.false_xor] at this
  · obtain ⟨c, rfl⟩ := if_some e
    rw [Bool.and_eq_true] at c
    obtain ⟨p1, c1, d1⟩ := okW_ok c.1
    obtain ⟨p2, c2, d2⟩ := okW_ok c.2
    refine .inr ⟨dx, dy, (tx.rp S.bh).dp _ p1, (ty.rp S.bh).dp _ p2, c1, c2, d1, ?_⟩
    have := now (v := .bl (false ^^ PyData.eqv dx dy)) S (.bl _) k
    rwa [Bool.false_xor] at this
theorem ol_neB : OpL K (fun x y H Q => rNe x y H Q ∨ rNeW K x y H Q) (eqB true) := fun ρ σ B H x y dx dy h Q S tx ty e k => by
  unfold eqB at e
  split at e
  · rename_i b eb
    cases e
    obtain ⟨q1, q2⟩ := flatEq_V tx ty eb
    refine .inl ⟨q1, ?_⟩
    rw [q2]
    have := now (v := .bl (true ^^ b)) S (.bl _) k
    rwa [Bool.true_xor] at this
  · obtain ⟨c, rfl⟩ := if_some e
    rw [Bool.and_eq_true] at c
    obtain ⟨p1, c1, d1⟩ := okW_ok c.1
    obtain ⟨p2, c2, d2⟩ := okW_ok c.2
    refine .inr ⟨dx, dy, (tx.rp S.bh).dp _ p1, (ty.rp S.bh).dp _ p2, c1, c2, d1, ?_⟩
    have := now (v := .bl (true ^^ PyData.eqv dx dy)) S (.bl _) k
    rwa [Bool.true_xor] at this
end
end GS
namespace GS
open PySem L2
def stuckF : FF := fun _ => .stuck
section
variable {ρ ρ1 : Rho} {c : Prop} [Decidable c]
@[simp] theorem mapR_st (k : Rho → Rho) : mapR k .stuck = .stuck := rfl
@[simp] theorem mapR_nx (k : Rho → Rho) : mapR k (.nx ρ) = .nx (k ρ) := rfl
@[simp] theorem mapR_bk (k : Rho → Rho) : mapR k (.bk ρ) = .bk (k ρ) := rfl
@[simp] theorem mapR_ct (k : Rho → Rho) : mapR k (.ct ρ) = .ct (k ρ) := rfl
@[simp] theorem mapR_rt (k : Rho → Rho) (h : Hd) : mapR k (.rt h ρ) = .rt h (k ρ) := rfl
@[simp] theorem mapR_ex (k : Rho → Rho) (x : Xc) : mapR k (.exc x ρ) = .exc x (k ρ) := rfl
@[simp] theorem mapR_if (k : Rho → Rho) (a b : RS) : mapR k (if c then a else b) = if c then mapR k a else mapR k b := by split <;> rfl
@[simp] theorem sKill_eq (vs : List Nat) (f : SF) : sKill vs f ρ = if vs.all fun i => !ioAt ρ i then mapR (fun ρ => wipeR ρ vs) (f ρ) else .stuck := rfl
@[simp] theorem sEnd_eq (f : SF) : sEnd f ρ = mapR (fun ρ => ρ.map ioC) (f ρ) := rfl
@[simp] theorem ioAt_zi (d : D) : ioAt (some ⟨d, .io⟩ :: ρ) 0 = true := rfl
@[simp] theorem outR_zero : outR ρ 0 = [] := rfl
@[simp] theorem outR_succ (x : Option Cel) (n : Nat) : outR (x :: ρ) (n + 1) = ioC x :: outR ρ n := by
  unfold outR
  rw [List.range_succ_eq_map, List.map_cons, List.map_map, slot_zero]
  rfl
@[simp] theorem ixA_l (ds : List D) (i : Int) : ixA (.list ds) (.int i) = (atI ds i).map Hd.sh := rfl
@[simp] theorem ixA_t (ds : List D) (i : Int) : ixA (.tuple ds) (.int i) = (atI ds i).map Hd.sh := rfl
@[simp] theorem ixA_s (z : Str) (i : Int) : ixA (.str z) (.int i) = if z.length ≤ sizeLine then (atI z.cps.toList i).map fun c => Hd.sh (.str ⟨#[c]⟩) else none := rfl
@[simp] theorem ixA_d (ps : List (D × D)) (k : D) : ixA (.dict ps) k = if isK k then (dGet ps k).map Hd.sh else none := rfl
@[simp] theorem isS_s (z : Str) : isS (.str z) = true := rfl
@[simp] theorem isS_i (z : Int) : isS (.int z) = true := rfl
@[simp] theorem mixB_nil (k : D) : mixB [] k = false := rfl
@[simp] theorem mixB_ss (z w : Str) (d : D) (ps : List (D × D)) : mixB ((.str z, d) :: ps) (.str w) = false := rfl
@[simp] theorem mixB_ii (z w : Int) (d : D) (ps : List (D × D)) : mixB ((.int z, d) :: ps) (.int w) = false := rfl
@[simp] theorem mixB_tt (z w : List D) (d : D) (ps : List (D × D)) : mixB ((.tuple z, d) :: ps) (.tuple w) = false := rfl
@[simp] theorem xnB_tup (z : List D) (d : D) (ps : List (D × D)) : xnB ((.tuple z, d) :: ps) = false := rfl
@[simp] theorem isK_s (z : Str) : isK (.str z) = true := rfl
@[simp] theorem isK_i (z : Int) : isK (.int z) = true := rfl
@[simp] theorem kEq_s (z w : Str) : kEq (.str z) (.str w) = decide (z = w) := rfl
@[simp] theorem kEq_i (z w : Int) : kEq (.int z) (.int w) = decide (z = w) := rfl
@[simp] theorem dGet_nil (k : D) : dGet [] k = none := rfl
@[simp] theorem dGet_cons (a d : D) (r : List (D × D)) (k : D) : dGet ((a, d) :: r) k = if kEq a k then some d else dGet r k := rfl
@[simp] theorem ofS_inj (a b : String) : (Str.ofString a = Str.ofString b) ↔ a = b := by
  constructor
  · intro h
    rw [Str.ofString_eq_toList, Str.ofString_eq_toList, Str.mk.injEq] at h
    have h2 : a.toList.map Char.toNat = b.toList.map Char.toNat := by
      have := congrArg Array.toList h
      simpa using this
    have h3 : a.toList = b.toList := (List.map_inj_right (fun x y e => Char.toNat_inj.mp e)).mp h2
    exact String.toList_inj.mp h3
  · intro h; rw [h]
theorem ofS_len (a : String) : (Str.ofString a).length = a.toList.length := by
  rw [Str.ofString_eq_toList]
  show (List.toArray _).size = _
  simp
theorem ofS_cps (a : String) : (Str.ofString a).cps.toList = a.toList.map Char.toNat := by
  rw [Str.ofString_eq_toList]
@[simp] theorem xnB_nil : xnB [] = false := rfl
@[simp] theorem xnB_str (x : Str) (d : D) (ps : List (D × D)) : xnB ((.str x, d) :: ps) = false := rfl
@[simp] theorem xnB_int (x : Int) (d : D) (ps : List (D × D)) : xnB ((.int x, d) :: ps) = false := rfl
@[simp] theorem inB_d (neg : Bool) (k : D) (ps : List (D × D)) : inB neg k (.dict ps) = if isK k && !xnB ps && !mixB ps k then some (.sh (.bool (neg ^^ (dGet ps k).isSome))) else none := by cases k <;> rfl
@[simp] theorem inB_c (neg : Bool) (c : Nat) (z : Str) : inB neg (.str ⟨#[c]⟩) (.str z) = some (.sh (.bool (neg ^^ decide (c ∈ z.cps.toList)))) := rfl
@[simp] theorem inB_t (neg : Bool) (d : D) (ds : List D) : inB neg d (.tuple ds) = if flatD d && ds.all flatD then some (.sh (.bool (neg ^^ ds.any fun z => PyData.eqv z d))) else none := by cases d <;> rfl
@[simp] theorem inB_l (neg : Bool) (d : D) (ds : List D) : inB neg d (.list ds) = if okEq d && okEq (.list ds) then some (.sh (.bool (neg ^^ ds.any fun z => PyData.eqv z d))) else none := by cases d <;> rfl
@[simp] theorem eqB_i (neg : Bool) (i j : Int) : eqB neg (.int i) (.int j) = some (.sh (.bool (neg ^^ decide (i = j)))) := rfl
@[simp] theorem eqB_s (neg : Bool) (i j : Str) : eqB neg (.str i) (.str j) = some (.sh (.bool (neg ^^ decide (i = j)))) := rfl
@[simp] theorem eqB_b (neg : Bool) (i j : Bool) : eqB neg (.bool i) (.bool j) = some (.sh (.bool (neg ^^ decide (i = j)))) := rfl
@[simp] theorem eqB_nn (neg : Bool) : eqB neg .none .none = some (.sh (.bool (neg ^^ true))) := rfl
@[simp] theorem eqB_ns (neg : Bool) (j : Str) : eqB neg .none (.str j) = some (.sh (.bool (neg ^^ false))) := rfl
@[simp] theorem eqB_sn (neg : Bool) (j : Str) : eqB neg (.str j) .none = some (.sh (.bool (neg ^^ false))) := rfl
@[simp] theorem eqB_ni (neg : Bool) (j : Int) : eqB neg .none (.int j) = some (.sh (.bool (neg ^^ false))) := rfl
@[simp] theorem eqB_in (neg : Bool) (j : Int) : eqB neg (.int j) .none = some (.sh (.bool (neg ^^ false))) := rfl
/-- any two data that can be compared -/
theorem eqB_of {x y : D} (neg : Bool) (hx : okW x = true) (hy : okW y = true) : eqB neg x y = some (.sh (.bool (neg ^^ PyData.eqv x y))) := by
  unfold eqB
  split
  · rename_i b e
    congr 4
    cases x <;> cases y <;> first | (cases (show none = some b from e); done) | (cases e; simp [PyData.eqv]; done) | skip
    · cases e; simp [PyData.eqv]; rw [Bool.eq_iff_iff]; simp
    · cases e; simp [PyData.eqv]; rw [Bool.eq_iff_iff]; simp
    · cases e; simp [PyData.eqv]; rw [Bool.eq_iff_iff]; simp
  · rw [hx, hy]
    rfl
@[simp] theorem isD_nn (neg : Bool) : isD neg .none .none = some (.sh (.bool (!neg))) := rfl
@[simp] theorem isD_bn (neg b : Bool) : isD neg (.bool b) .none = some (.sh (.bool neg)) := rfl
@[simp] theorem isD_in (neg : Bool) (b : Int) : isD neg (.int b) .none = some (.sh (.bool neg)) := rfl
@[simp] theorem isD_sn (neg : Bool) (b : Str) : isD neg (.str b) .none = some (.sh (.bool neg)) := rfl
@[simp] theorem isD_tn (neg : Bool) (b : List D) : isD neg (.tuple b) .none = some (.sh (.bool neg)) := rfl
@[simp] theorem isD_ln (neg : Bool) (b : List D) : isD neg (.list b) .none = some (.sh (.bool neg)) := rfl
@[simp] theorem isD_dn (neg : Bool) (b : List (D × D)) : isD neg (.dict b) .none = some (.sh (.bool neg)) := rfl
@[simp] theorem isD_bb (neg a b : Bool) : isD neg (.bool a) (.bool b) = some (.sh (.bool (neg ^^ decide (a = b)))) := rfl
def mutO (fl : Fl) (o : Option D) (ρ : Rho) (i : Nat) : RS := match o with
  | some d' => .nx (ρ.set i (some ⟨d', fl⟩))
  | none => .stuck
def mutC (s : Option Cel) (ρ : Rho) (i : Nat) (k : D → Option D) : RS := match s with
  | some ⟨d, .ow⟩ => mutO .ow (k d) ρ i
  | some ⟨d, .io⟩ => mutO .io (k d) ρ i
  | _ => .stuck
@[simp] theorem mutO_s (fl : Fl) (d : D) (i : Nat) : mutO fl (some d) ρ i = .nx (ρ.set i (some ⟨d, fl⟩)) := rfl
@[simp] theorem mutO_if (fl : Fl) (a b : Option D) (i : Nat) : mutO fl (if c then a else b) ρ i = if c then mutO fl a ρ i else mutO fl b ρ i := by split <;> rfl
@[simp] theorem mutO_n (fl : Fl) (i : Nat) : mutO fl none ρ i = .stuck := rfl
@[simp] theorem mutC_ow (d : D) (i : Nat) (k : D → Option D) : mutC (some ⟨d, .ow⟩) ρ i k = mutO .ow (k d) ρ i := rfl
@[simp] theorem mutC_io (d : D) (i : Nat) (k : D → Option D) : mutC (some ⟨d, .io⟩) ρ i k = mutO .io (k d) ρ i := rfl
@[simp] theorem mutS_eq (i : Nat) (k : D → Option D) : mutS ρ i k = mutC (slot ρ i) ρ i k := by
  unfold mutS mutC mutO
  rfl
@[simp] theorem appD_l (y : D) (ds : List D) : appD y (.list ds) = if ds.length < sizeLine then some (.list (ds ++ [y])) else none := rfl
def isLC : Option Cel → Bool
  | some ⟨.list _, _⟩ => true
  | _ => false
@[simp] theorem isLC_l (ds : List D) (fl : Fl) : isLC (some ⟨.list ds, fl⟩) = true := rfl
@[simp] theorem isL_eq (i : Nat) : isL ρ i = isLC (slot ρ i) := rfl
def appR (i : Nat) (h : Hd) (ρ : Rho) : RS := match h with
  | .sh y => mutS ρ i (appD y)
  | _ => .stuck
@[simp] theorem appR_sh (i : Nat) (y : D) : appR i (.sh y) ρ = mutS ρ i (appD y) := rfl
@[simp] theorem sApp_eq (i : Nat) (f : EF) : sApp i f ρ = if isL ρ i then bindES (eCap f ρ) (appR i) else .stuck := by unfold sApp; rfl
def putK (i : Nat) (y : D) (h : Hd) (ρ : Rho) : RS := match h with
  | .sh k => mutS ρ i (setD k y)
  | _ => .stuck
def putC (s : Option Cel) (i : Nat) (fi : EF) (y : D) (ρ : Rho) : RS := match s with
  | none => .stuck
  | some _ => bindES (eCap fi ρ) (putK i y)
def putR (i : Nat) (fi : EF) (h : Hd) (ρ : Rho) : RS := match h with
  | .sh y => putC (slot ρ i) i fi y ρ
  | _ => .stuck
@[simp] theorem putK_sh (i : Nat) (k y : D) : putK i y (.sh k) ρ = mutS ρ i (setD k y) := rfl
@[simp] theorem putC_s (x : Cel) (i : Nat) (fi : EF) (y : D) : putC (some x) i fi y ρ = bindES (eCap fi ρ) (putK i y) := rfl
@[simp] theorem putR_sh (i : Nat) (fi : EF) (y : D) : putR i fi (.sh y) ρ = putC (slot ρ i) i fi y ρ := rfl
@[simp] theorem sPut_eq (i : Nat) (fi fe : EF) : sPut i fi fe ρ = bindES (eCap fe ρ) (putR i fi) := by
  unfold sPut putR putC putK
  rfl
@[simp] theorem setD_d (k y : D) (ps : List (D × D)) : setD k y (.dict ps) = if isK k && !mixB ps k && decide (ps.length < sizeLine) then some (.dict (dPut ps k y)) else none := rfl
@[simp] theorem setD_l (i : Int) (y : D) (ds : List D) : setD (.int i) y (.list ds) = (ixN ds.length i).map fun j => .list (ds.set j y) := rfl
@[simp] theorem gT_t (n : Nat) (f : List D → Rho → Option Rho) (ds : List D) : gT n f (.tuple ds) ρ = if ds.length = n then f ds ρ else none := rfl
@[simp] theorem gT_l (n : Nat) (f : List D → Rho → Option Rho) (ds : List D) : gT n f (.list ds) ρ = if ds.length = n then f ds ρ else none := rfl
@[simp] theorem gsN_n : gsN [] ρ = some ρ := rfl
@[simp] theorem gsC_c (f : D → Rho → Option Rho) (g : List D → Rho → Option Rho) (d : D) (ds : List D) : gsC f g (d :: ds) ρ = (f d ρ).bind (g ds) := rfl
def unpO (o : Option Rho) : RS := match o with
  | some ρ => .nx ρ
  | none => .stuck
def unpR (g : D → Rho → Option Rho) (h : Hd) (ρ : Rho) : RS := match h with
  | .sh d => unpO (g d ρ)
  | _ => .stuck
@[simp] theorem unpO_s : unpO (some ρ) = .nx ρ := rfl
@[simp] theorem unpO_if (a b : Option Rho) : unpO (if c then a else b) = if c then unpO a else unpO b := by split <;> rfl
@[simp] theorem unpR_sh (g : D → Rho → Option Rho) (d : D) : unpR g (.sh d) ρ = unpO (g d ρ) := rfl
@[simp] theorem sUnp_eq (g : D → Rho → Option Rho) (f : EF) : sUnp g f ρ = bindES (eCap f ρ) (unpR g) := by
  unfold sUnp unpR unpO
  rfl
def bindP (r : RP) (k : List (D × D) → Rho → RE) : RE := match r with
  | .stuck => .stuck
  | .exc x ρ1 => .exc x ρ1
  | .ok ps ρ1 => k ps ρ1
@[simp] theorem bindP_ok (ps : List (D × D)) (k : List (D × D) → Rho → RE) : bindP (.ok ps ρ) k = k ps ρ := rfl
@[simp] theorem eDct_eq (g : PF) : eDct g ρ = bindP (g ρ) fun ps ρ1 => if ps.length ≤ 15 then .ok (.fr (.dict (dMerge ps))) ρ1 else .stuck := by unfold eDct bindP; rfl
@[simp] theorem dNil_eq : dNil ρ = .ok [] ρ := rfl
def consP (k v : D) (r : RP) : RP := match r with
  | .stuck => .stuck
  | .exc x ρ3 => .exc x ρ3
  | .ok ps ρ3 => if isS k then .ok ((k, v) :: ps) ρ3 else .stuck
@[simp] theorem consP_ok (k v : D) (ps : List (D × D)) : consP k v (.ok ps ρ) = if isS k then .ok ((k, v) :: ps) ρ else .stuck := rfl
def valP (k : D) (g : PF) (r : RE) : RP := match r with
  | .stuck => .stuck
  | .exc x ρ2 => .exc x ρ2
  | .ok (.sh v) ρ2 => consP k v (g ρ2)
  | .ok _ _ => .stuck
@[simp] theorem valP_ok (k v : D) (g : PF) : valP k g (.ok (.sh v) ρ) = consP k v (g ρ) := rfl
def keyP (fv : EF) (g : PF) (r : RE) : RP := match r with
  | .stuck => .stuck
  | .exc x ρ1 => .exc x ρ1
  | .ok (.sh k) ρ1 => valP k g (eCap fv ρ1)
  | .ok _ _ => .stuck
@[simp] theorem keyP_ok (k : D) (fv : EF) (g : PF) : keyP fv g (.ok (.sh k) ρ) = valP k g (eCap fv ρ) := rfl
@[simp] theorem dCons_eq (fk fv : EF) (g : PF) : dCons fk fv g ρ = keyP fv g (eCap fk ρ) := by
  unfold dCons keyP valP consP
  rfl
@[simp] theorem argC_bwo (i : Nat) : argC ρ true (.bw i) = match slot ρ i with
    | some ⟨d, .ow⟩ => some ⟨d, .io⟩
    | some ⟨d, .io⟩ => some ⟨d, .io⟩
    | _ => none := rfl
def putBC (ρ : Rho) (i : Nat) (a b : Option Cel) : Option Rho := match a, b with
  | some c, some c' => some (ρ.set i (some ⟨c'.d, c.fl⟩))
  | _, _ => none
@[simp] theorem putBC_s (i : Nat) (a b : Cel) : putBC ρ i (some a) (some b) = some (ρ.set i (some ⟨b.d, a.fl⟩)) := rfl
theorem putB_bw (i j : Nat) (hs : List Hd) (outs : Rho) (h : hs[j]? = some (.bw i)) : putB ρ (some j) hs outs = putBC ρ i (slot ρ i) (slot outs j) := by
  unfold putB putBC
  dsimp only
  rw [h]
  try rfl
/-- one argument lent, the first one -/
@[simp] theorem backR_io0 (i : Nat) (hs : List Hd) (d : D) (d' : D) (fl : Fl) (outs : Rho) : backR ρ (some 0) (.bw i :: hs) (.ok (.sh d) (some ⟨d', fl⟩ :: outs)) = match slot ρ i with
    | some c => .ok (.sh d) (ρ.set i (some ⟨d', c.fl⟩))
    | none => .stuck := by
  unfold backR
  dsimp only
  rw [putB_bw i 0 _ _ rfl, slot_zero]
  cases slot ρ i <;> rfl
@[simp] theorem backR_io0f (i : Nat) (hs : List Hd) (d : D) (d' : D) (fl : Fl) (outs : Rho) : backR ρ (some 0) (.bw i :: hs) (.ok (.fr d) (some ⟨d', fl⟩ :: outs)) = match slot ρ i with
    | some c => .ok (.fr d) (ρ.set i (some ⟨d', c.fl⟩))
    | none => .stuck := by
  unfold backR
  dsimp only
  rw [putB_bw i 0 _ _ rfl, slot_zero]
  cases slot ρ i <;> rfl
theorem whileL_succ (ft : EF) (b : SF) (n : Nat) : whileL ft b (n + 1) ρ = bindBS (ft ρ) fun c ρ1 => if c then turnR (whileL ft b n) (b ρ1) else .nx ρ1 := by
  rw [whileL]
  unfold turnR
  try rfl
/-- a loop that only looks: it leaves with r at the first item that p does not hold of -/
theorem forL_look {α : Type} {g : D → Rho → Option Rho} {b : SF} (ρ ρ' : Rho) (it : α → D) (p : α → Bool) (r : Hd) : ∀ (as : List α),
    (∀ a, a ∈ as → optR (g (it a) ρ) b = if p a then .nx ρ else .rt r ρ') → forL g b (as.map it) ρ = if as.all p then .nx ρ else .rt r ρ'
  | [], _ => rfl
  | a :: as, k => by
    have h1 := k a (List.mem_cons_self ..)
    have q := forL_look ρ ρ' it p r as fun a m => k a (List.mem_cons_of_mem _ m)
    rw [List.map_cons, forL_cons]
    unfold optR at h1 ⊢
    split at h1
    · split at h1 <;> cases h1
    · dsimp only
      rw [h1]
      cases hp : p a <;> simp [hp, q]
/-- a loop by an invariant of its own state -/
theorem forL_by' {S : Type} {g : D → Rho → Option Rho} {b : SF} (emb : S → Rho) {all : List D} (P : List D → S → Prop) : ∀ (ds pre : List D) (s : S), pre ++ ds = all → P pre s →
    (∀ pre d post s, all = pre ++ d :: post → P pre s → ∃ s', optR (g d (emb s)) b = .nx (emb s') ∧ P (pre ++ [d]) s') → ∃ s', forL g b ds (emb s) = .nx (emb s') ∧ P all s'
  | [], pre, s, e, h, _ => ⟨s, rfl, by rw [← e, List.append_nil]; exact h⟩
  | a :: as, pre, s, e, h, k => by
    obtain ⟨s1, h1, h2⟩ := k pre a as s e.symm h
    obtain ⟨s2, q1, q2⟩ := forL_by' emb P as (pre ++ [a]) s1 (by rw [List.append_assoc]; exact e) h2 k
    refine ⟨s2, ?_, q2⟩
    rw [forL_cons]
    unfold optR at h1 ⊢
    split at h1
    · cases h1
    · dsimp only
      rw [h1, turnR_nx, q1]
theorem forL_by {S : Type} {g : D → Rho → Option Rho} {b : SF} (emb : S → Rho) (P : List D → S → Prop) (ds : List D) (s : S) (h : P [] s)
    (k : ∀ pre d post s, ds = pre ++ d :: post → P pre s → ∃ s', optR (g d (emb s)) b = .nx (emb s') ∧ P (pre ++ [d]) s') : ∃ s', forL g b ds (emb s) = .nx (emb s') ∧ P ds s' :=
  forL_by' emb P ds [] s rfl h k
/-- a comprehension over things, by a test and an element -/
theorem lcL_fm {α : Type} {vs : List Nat} {g : D → Rho → Option Rho} {ft fe : EF} (ρ : Rho) (it : α → D) (p : α → Bool) (el : α → D) : ∀ (as : List α) (acc : List D), acc.length + as.length ≤ sizeLine →
    (∀ a, a ∈ as → ∃ ρ1, g (it a) ρ = some ρ1 ∧ (∃ ρ2, ft ρ1 = .ok (.sh (.bool (p a))) ρ2 ∧ wipeR ρ2 vs = ρ ∧ (p a = true → ∃ ρ3, eCap fe ρ2 = .ok (.sh (el a)) ρ3 ∧ wipeR ρ3 vs = ρ))) →
    lcL vs g ft fe (as.map it) acc ρ = .ok (.fr (.list (acc ++ (as.filter p).map el))) ρ
  | [], acc, _, _ => by simp [lcL_nil]
  | a :: as, acc, hl, k => by
    rw [List.length_cons] at hl
    obtain ⟨ρ1, h1, ρ2, h2, h3, h4⟩ := k a (List.mem_cons_self ..)
    rw [List.map_cons, lcL_cons, h1, optE_s, h2, bindB_ok]
    cases hp : p a with
    | true =>
      obtain ⟨ρ3, h5, h6⟩ := h4 hp
      rw [if_pos rfl, h5, bindE_ok, lcR_s, if_pos (by omega), h6, lcL_fm ρ it p el as _ (by rw [List.length_append, List.length_singleton]; omega) fun a m => k a (List.mem_cons_of_mem _ m), List.filter_cons_of_pos hp]
      simp
    | false =>
      rw [if_neg Bool.false_ne_true, h3, lcL_fm ρ it p el as _ (by omega) fun a m => k a (List.mem_cons_of_mem _ m), List.filter_cons_of_neg (by rw [hp]; exact Bool.false_ne_true)]
/-- .. where nothing else changes; up: what a turn sees -/
theorem lcL_up {α : Type} {vs : List Nat} {g : D → Rho → Option Rho} {ft fe : EF} (ρ : Rho) (it : α → D) (up : α → Rho) (p : α → Bool) (el : α → D) (as : List α) (acc : List D) (hl : acc.length + as.length ≤ sizeLine)
    (k : ∀ a, a ∈ as → g (it a) ρ = some (up a) ∧ ft (up a) = .ok (.sh (.bool (p a))) (up a) ∧ wipeR (up a) vs = ρ ∧ (p a = true → eCap fe (up a) = .ok (.sh (el a)) (up a))) :
    lcL vs g ft fe (as.map it) acc ρ = .ok (.fr (.list (acc ++ (as.filter p).map el))) ρ :=
  lcL_fm ρ it p el as acc hl fun a m => by
    obtain ⟨h1, h2, h3, h4⟩ := k a m
    exact ⟨_, h1, _, h2, h3, fun h => ⟨_, h4 h, h3⟩⟩
/-- .. without a test -/
theorem lcL_all {α : Type} {vs : List Nat} {g : D → Rho → Option Rho} {fe : EF} (ρ : Rho) (it : α → D) (up : α → Rho) (el : α → D) (as : List α) (acc : List D) (hl : acc.length + as.length ≤ sizeLine)
    (k : ∀ a, a ∈ as → g (it a) ρ = some (up a) ∧ wipeR (up a) vs = ρ ∧ eCap fe (up a) = .ok (.sh (el a)) (up a)) :
    lcL vs g (eNox eYes) fe (as.map it) acc ρ = .ok (.fr (.list (acc ++ as.map el))) ρ := by
  have := lcL_up (ft := eNox eYes) (fe := fe) ρ it up (fun _ => true) el as acc hl fun a m => by
    obtain ⟨h1, h2, h3⟩ := k a m
    exact ⟨h1, rfl, h2, fun _ => h3⟩
  rw [this, List.filter_eq_self.mpr fun _ _ => rfl]
end
theorem fits {n : Nat} (h : n ≤ 1000000) : n ≤ sizeLine := Nat.le_trans h (by decide)
theorem fitsl {n : Nat} (h : n < 1000000) : n < sizeLine := Nat.lt_of_lt_of_le h (by decide)
theorem len_eq (s : Str) : s.length = s.cps.toList.length := by rw [Array.length_toList]; rfl
theorem app_len (a b : Str) : (a ++ b).length = a.length + b.length := by
  show (a.cps ++ b.cps).size = a.cps.size + b.cps.size
  exact Array.size_append
theorem app_cps (a b : Str) : (a ++ b).cps.toList = a.cps.toList ++ b.cps.toList := by
  show (a.cps ++ b.cps).toList = _
  simp
theorem one_len (c : Nat) : (⟨#[c]⟩ : Str).length = 1 := rfl
/-- a list of things of one form -/
theorem all_map {α : Type} {f : α → D} {ds : List D} (h : ∀ d ∈ ds, ∃ a, d = f a) : ∃ as : List α, ds = as.map f := by
  induction ds with
  | nil => exact ⟨[], rfl⟩
  | cons d ds ih =>
    obtain ⟨a, rfl⟩ := h d (by simp)
    obtain ⟨as, rfl⟩ := ih fun d m => h d (by simp [m])
    exact ⟨a :: as, rfl⟩
end GS
namespace GM
open PySem L2 GS
/-- is_name(text); slots 0:text 1:letter -/
def m_is_name_b1 : SF := (sKill [1] (sIf (eAnd (eB (eBin (inB true) (eVb 1) (eC (.str (Str.ofString "ABCDEFGHIJKLMNOPQRSTUVWXYZ"))))) (eB (eBin (inB true) (eVb 1) (eC (.str (Str.ofString "0123456789")))))) (sEnd (sRet (eC (.bool false)))) sNil))
def m_is_name : SF := (sSeq (sIf (eOr (eNot (eB (eChain (ltI fun i j => decide (i ≤ j)) (ltI fun i j => decide (i ≤ j)) (eC (.int 1)) (eCB (un1 lenD) (aCons (eVb 0) aNil)) (eC (.int 24))))) (eB (eBin (inB true) (eBin ixA (eVb 0) (eC (.int 0))) (eC (.str (Str.ofString "ABCDEFGHIJKLMNOPQRSTUVWXYZ")))))) (sEnd (sRet (eC (.bool false)))) sNil) (sSeq (sFor (iSq (eMv 0)) (gN 1) (m_is_name_b1)) (sEnd (sRet (eC (.bool true))))))
theorem m_is_name_eq (ρ : Rho) : fnF 2 1 (m_is_name) ρ = finR 1 (m_is_name (ρ ++ [none])) := fnF_eq 2 1 _
/-- is_sign(text); slots 0:text 1:letter -/
def m_is_sign_b1 : SF := (sKill [1] (sIf (eB (eBin (inB true) (eVb 1) (eC (.str (Str.ofString "abcdefghijklmnopqrstuvwxyz"))))) (sEnd (sRet (eC (.bool false)))) sNil))
def m_is_sign : SF := (sSeq (sIf (eNot (eB (eChain (ltI fun i j => decide (i ≤ j)) (ltI fun i j => decide (i ≤ j)) (eC (.int 1)) (eCB (un1 lenD) (aCons (eVb 0) aNil)) (eC (.int 6))))) (sEnd (sRet (eC (.bool false)))) sNil) (sSeq (sFor (iSq (eMv 0)) (gN 1) (m_is_sign_b1)) (sEnd (sRet (eC (.bool true))))))
theorem m_is_sign_eq (ρ : Rho) : fnF 2 1 (m_is_sign) ρ = finR 1 (m_is_sign (ρ ++ [none])) := fnF_eq 2 1 _
end GM
namespace GM
open PySem L2 GS
abbrev GRT : Str := Str.ofString "ABCDEFGHIJKLMNOPQRSTUVWXYZ"
abbrev SML : Str := Str.ofString "abcdefghijklmnopqrstuvwxyz"
abbrev FIG : Str := Str.ofString "0123456789"
def okN (F : Str) (c : Nat) : Bool := decide (c ∈ F.cps) || decide (c ∈ FIG.cps)
def nameL (F : Str) : List Nat → Bool
  | [] => false
  | c :: cs => decide ((c :: cs).length ≤ 24) && decide (c ∈ F.cps) && (c :: cs).all (okN F)
def nameB (s : Str) : Bool := nameL GRT s.cps.toList
def keyB (s : Str) : Bool := nameL SML s.cps.toList
def signB (s : Str) : Bool := decide (1 ≤ s.cps.toList.length) && decide (s.cps.toList.length ≤ 6) && s.cps.toList.all fun c => decide (c ∈ SML.cps)
theorem is_name_ok (s : Str) (hs : s.length ≤ sizeLine) : fnF 2 1 m_is_name [some ⟨.str s, .sh⟩] = .ok (.sh (.bool (nameB s))) [none] := by
  rw [m_is_name_eq]
  have hl := len_eq s
  have h2 := forL_look (g := gN 1) (b := m_is_name_b1) [some ⟨.str s, .sh⟩, none] [none, none] (fun c => .str ⟨#[c]⟩) (okN GRT) (.sh (.bool false)) s.cps.toList
    (fun c _ => by by_cases h1 : c ∈ GRT.cps <;> by_cases h2 : c ∈ FIG.cps <;> simp [m_is_name_b1, okN, h1, h2])
  unfold nameB
  cases hc : s.cps.toList with
  | nil =>
    rw [hc] at hl
    simp [m_is_name, hs, hl, nameL]
  | cons c cs =>
    rw [hc] at hl h2
    rw [List.map_cons] at h2
    rw [List.length_cons] at hl
    rw [hl] at hs
    by_cases q1 : cs.length + 1 ≤ 24
    · have q2 : ¬ (24 : Int) < cs.length + 1 := by omega
      have q3 : (1 : Int) ≤ cs.length + 1 := by omega
      by_cases q4 : c ∈ GRT.cps
      · by_cases q5 : (c :: cs).all (okN GRT) = true
        · rw [if_pos q5] at h2
          simp [m_is_name, hs, hl, nameL, hc, q2, q3, q4, h2, q5, q1]
        · rw [if_neg q5] at h2
          simp [m_is_name, hs, hl, nameL, hc, q2, q3, q4, h2, q5, q1]
      · simp [m_is_name, hs, hl, nameL, hc, q2, q3, q4]
    · have q2 : (24 : Int) < cs.length + 1 := by omega
      have q3 : (1 : Int) ≤ cs.length + 1 := by omega
      have q4 : ¬ cs.length ≤ 23 := by omega
      simp [m_is_name, hs, hl, nameL, hc, q2, q3, q4]
theorem is_sign_ok (s : Str) (hs : s.length ≤ sizeLine) : fnF 2 1 m_is_sign [some ⟨.str s, .sh⟩] = .ok (.sh (.bool (signB s))) [none] := by
  rw [m_is_sign_eq]
  have hl := len_eq s
  have h2 := forL_look (g := gN 1) (b := m_is_sign_b1) [some ⟨.str s, .sh⟩, none] [none, none] (fun c => .str ⟨#[c]⟩) (fun c => decide (c ∈ SML.cps)) (.sh (.bool false)) s.cps.toList
    (fun c _ => by by_cases h1 : c ∈ SML.cps <;> simp [m_is_sign_b1, h1])
  unfold signB
  obtain ⟨cs, hc⟩ : ∃ cs, s.cps.toList = cs := ⟨_, rfl⟩
  rw [hc] at hl h2
  rw [hl] at hs
  rw [hc]
  by_cases q1 : 1 ≤ cs.length
  · have q3 : (1 : Int) ≤ cs.length := by omega
    by_cases q2 : cs.length ≤ 6
    · have q4 : ¬ (6 : Int) < cs.length := by omega
      by_cases q5 : (cs.all fun c => decide (c ∈ SML.cps)) = true
      · rw [if_pos q5] at h2
        simp only [q5]
        simp [m_is_sign, hs, hl, hc, q3, q4, h2, q1, q2]
      · rw [if_neg q5] at h2
        simp only [q5]
        simp [m_is_sign, hs, hl, hc, q3, q4, h2, q1, q2]
    · have q4 : (6 : Int) < cs.length := by omega
      simp [m_is_sign, hs, hl, q3, q4, q1, q2]
  · have q3 : ¬ (1 : Int) ≤ cs.length := by omega
    simp [m_is_sign, hs, hl, q3, q1]
/-- what a callee is held to -/
def NameSp (F : FF) : Prop := ∀ s : Str, s.length ≤ sizeLine → F [some ⟨.str s, .sh⟩] = .ok (.sh (.bool (nameB s))) [none]
def SignSp (F : FF) : Prop := ∀ s : Str, s.length ≤ sizeLine → F [some ⟨.str s, .sh⟩] = .ok (.sh (.bool (signB s))) [none]
theorem nameB_len {s : Str} (h : nameB s = true) : 1 ≤ s.length ∧ s.length ≤ 24 := by
  have hl := len_eq s
  unfold nameB at h
  cases hc : s.cps.toList with
  | nil => rw [hc] at h; cases h
  | cons c cs =>
    rw [hc] at h hl
    unfold nameL at h
    simp only [Bool.and_eq_true, decide_eq_true_eq] at h
    rw [hl]
    exact ⟨by simp, h.1.1⟩
theorem signB_len {s : Str} (h : signB s = true) : 1 ≤ s.length ∧ s.length ≤ 6 := by
  have hl := len_eq s
  unfold signB at h
  simp only [Bool.and_eq_true, decide_eq_true_eq] at h
  rw [hl]
  exact ⟨h.1.1, h.1.2⟩
end GM
namespace GM
open PySem L2 GS
end GM
namespace GM
open PySem L2 GS
end GM
namespace GM
open PySem L2 GS
inductive Tr where
  | sign (s : Str)
  | void
  | hole (n : Str)
  | foot (n : Str)
  | knot (n : Str) (tk : Option (Str × Bool)) (ks : List Tr)
  deriving Inhabited
def encTk : Option (Str × Bool) → D
  | none => .none
  | some (m, b) => .tuple [.str m, .bool b]
def okTk : Option (Str × Bool) → Bool
  | none => true
  | some (m, _) => nameB m
mutual
def Tr.enc : Tr → D
  | .sign s => .tuple [.str (Str.ofString "sign"), .str s]
  | .void => .tuple [.str (Str.ofString "void")]
  | .hole n => .tuple [.str (Str.ofString "hole"), .str n]
  | .foot n => .tuple [.str (Str.ofString "foot"), .str n]
  | .knot n tk ks => .tuple [.str (Str.ofString "knot"), .str n, encTk tk, .tuple (Tr.encL ks)]
def Tr.encL : List Tr → List D
  | [] => []
  | t :: ts => t.enc :: Tr.encL ts
end
mutual
def Tr.ok : Tr → Bool
  | .sign s => signB s
  | .void => true
  | .hole n => nameB n
  | .foot n => nameB n
  | .knot n tk ks => nameB n && (okTk tk && (decide (1 ≤ ks.length) && (decide (ks.length ≤ 8) && Tr.okL ks)))
def Tr.okL : List Tr → Bool
  | [] => true
  | t :: ts => t.ok && Tr.okL ts
end
mutual
def Tr.ht : Tr → Nat
  | .knot _ _ ks => Tr.htL ks + 1
  | _ => 0
def Tr.htL : List Tr → Nat
  | [] => 0
  | t :: ts => max t.ht (Tr.htL ts)
end
theorem encL_map (ts : List Tr) : Tr.encL ts = ts.map Tr.enc := by
  induction ts with
  | nil => rfl
  | cons t ts ih => rw [Tr.encL, ih, List.map_cons]
theorem okL_mem {ts : List Tr} (h : Tr.okL ts = true) : ∀ t ∈ ts, t.ok = true := by
  induction ts with
  | nil => intro t m; cases m
  | cons e ts ih =>
    rw [Tr.okL, Bool.and_eq_true] at h
    intro t m
    cases m with
    | head => exact h.1
    | tail _ m => exact ih h.2 t m
theorem okL_of {ts : List Tr} (h : ∀ t ∈ ts, t.ok = true) : Tr.okL ts = true := by
  induction ts with
  | nil => rfl
  | cons e ts ih => rw [Tr.okL, h e (by simp), ih fun t m => h t (by simp [m])]; rfl
theorem ht_mem {ts : List Tr} {t : Tr} (m : t ∈ ts) : t.ht ≤ Tr.htL ts := by
  induction ts with
  | nil => cases m
  | cons e ts ih =>
    rw [Tr.htL]
    cases m with
    | head => omega
    | tail _ m => have := ih m; omega
theorem htL_of {ts : List Tr} {n : Nat} (h : ∀ t ∈ ts, t.ht ≤ n) : Tr.htL ts ≤ n := by
  induction ts with
  | nil => rw [Tr.htL]; omega
  | cons e ts ih =>
    rw [Tr.htL]
    have := h e (by simp)
    have := ih fun t m => h t (by simp [m])
    omega
theorem depth_tk (tk : Option (Str × Bool)) : (encTk tk).depth ≤ 1 := by
  cases tk with
  | none => simp [encTk, PyData.depth]
  | some p => simp [encTk, PyData.depth, PyData.depthAll]
mutual
theorem depth_enc : ∀ t : Tr, t.enc.depth ≤ 2 * t.ht + 1
  | .sign s => by simp [Tr.enc, PyData.depth, PyData.depthAll]
  | .void => by simp [Tr.enc, PyData.depth, PyData.depthAll]
  | .hole n => by simp [Tr.enc, PyData.depth, PyData.depthAll]
  | .foot n => by simp [Tr.enc, PyData.depth, PyData.depthAll]
  | .knot n tk ks => by
    have h1 := depth_tk tk
    have h2 := depthL_enc ks
    simp only [Tr.enc, PyData.depth, PyData.depthAll, Tr.ht]
    omega
theorem depthL_enc : ∀ ts : List Tr, PyData.depthAll (Tr.encL ts) ≤ 2 * Tr.htL ts + 1
  | [] => by simp [Tr.encL, PyData.depthAll]
  | t :: ts => by
    have h1 := depth_enc t
    have h2 := depthL_enc ts
    simp only [Tr.encL, PyData.depthAll, Tr.htL]
    omega
end
mutual
/-- no dicts, texts of code points -/
def cleanB : D → Bool
  | .str x => PyData.strOk x
  | .list ds => cleanL ds
  | .tuple ds => cleanL ds
  | .dict _ => false
  | _ => true
def cleanL : List D → Bool
  | [] => true
  | d :: ds => cleanB d && cleanL ds
end
mutual
theorem clean_ok : ∀ d : D, cleanB d = true → plain d = true ∧ PyData.canLay0 d = true
  | .none, _ => ⟨rfl, rfl⟩
  | .bool _, _ => ⟨rfl, rfl⟩
  | .int _, _ => ⟨rfl, rfl⟩
  | .str x, h => ⟨rfl, h⟩
  | .list ds, h => by
    rw [cleanB] at h
    obtain ⟨h1, h2⟩ := cleanL_ok ds h
    exact ⟨by rw [GS.plain]; exact h1, by rw [PyData.canLay0]; exact h2⟩
  | .tuple ds, h => by
    rw [cleanB] at h
    obtain ⟨h1, h2⟩ := cleanL_ok ds h
    exact ⟨by rw [GS.plain]; exact h1, by rw [PyData.canLay0]; exact h2⟩
  | .dict _, h => by cases h
theorem cleanL_ok : ∀ ds : List D, cleanL ds = true → plainL ds = true ∧ PyData.canLayAll0 ds = true
  | [], _ => ⟨rfl, rfl⟩
  | d :: ds, h => by
    rw [cleanL, Bool.and_eq_true] at h
    obtain ⟨h1, h2⟩ := clean_ok d h.1
    obtain ⟨h3, h4⟩ := cleanL_ok ds h.2
    exact ⟨by rw [plainL, h1, h3]; rfl, by rw [PyData.canLayAll0, h2, h4]; rfl⟩
end
theorem okEq_of {d : D} (h : cleanB d = true) (hd : d.depth ≤ 64) : okEq d = true := by
  obtain ⟨h1, h2⟩ := clean_ok d h
  unfold okEq SeqAt.shaped
  rw [h1, h2, decide_eq_true hd]; rfl
theorem okW_of {d : D} (h : cleanB d = true) (hd : d.depth ≤ 190) : okW d = true := by
  obtain ⟨h1, h2⟩ := clean_ok d h
  unfold okW
  rw [h1, h2, Nat.ble_eq_true_of_le hd]; rfl
theorem cleanL_of {ds : List D} (h : ∀ d ∈ ds, cleanB d = true) : cleanL ds = true := by
  induction ds with
  | nil => rfl
  | cons e ds ih => rw [cleanL, h e (by simp), ih fun t m => h t (by simp [m])]; rfl
theorem depthAll_of {ds : List D} {n : Nat} (h : ∀ d ∈ ds, d.depth ≤ n) : PyData.depthAll ds ≤ n := by
  induction ds with
  | nil => rw [PyData.depthAll]; omega
  | cons e ds ih =>
    rw [PyData.depthAll]
    have := h e (by simp)
    have := ih fun t m => h t (by simp [m])
    omega
theorem lowG : ∀ c ∈ GRT.cps.toList, c < 0x110000 := by decide +kernel
theorem lowS : ∀ c ∈ SML.cps.toList, c < 0x110000 := by decide +kernel
theorem lowF : ∀ c ∈ FIG.cps.toList, c < 0x110000 := by decide +kernel
theorem strOk_of {s : Str} (h : ∀ c ∈ s.cps.toList, c < 0x110000) : PyData.strOk s = true := by
  unfold PyData.strOk
  rw [← Array.all_toList, List.all_eq_true]
  intro c m
  exact decide_eq_true (h c m)
theorem nameL_mem {F s : Str} (h : nameL F s.cps.toList = true) : ∀ c ∈ s.cps.toList, c ∈ F.cps.toList ∨ c ∈ FIG.cps.toList := by
  intro c m
  cases hc : s.cps.toList with
  | nil => rw [hc] at m; cases m
  | cons a as =>
    rw [hc] at h m
    simp only [nameL, Bool.and_eq_true] at h
    have := List.all_eq_true.mp h.2 c m
    simpa [okN] using this
theorem nameB_strOk {s : Str} (h : nameB s = true) : PyData.strOk s = true := strOk_of fun c m => (nameL_mem h c m).elim (lowG c) (lowF c)
theorem keyB_strOk {s : Str} (h : keyB s = true) : PyData.strOk s = true := strOk_of fun c m => (nameL_mem h c m).elim (lowS c) (lowF c)
theorem signB_mem {s : Str} (h : signB s = true) : ∀ c ∈ s.cps.toList, c ∈ SML.cps.toList := by
  intro c m
  unfold signB at h
  simp only [Bool.and_eq_true] at h
  have := List.all_eq_true.mp h.2 c m
  simpa using this
theorem signB_strOk {s : Str} (h : signB s = true) : PyData.strOk s = true := strOk_of fun c m => lowS c (signB_mem h c m)
mutual
theorem clean_enc : ∀ t : Tr, t.ok = true → cleanB t.enc = true
  | .sign s, h => by rw [Tr.enc, cleanB, cleanL, cleanL, cleanL, show cleanB (.str s) = true from signB_strOk h]; decide +kernel
  | .void, _ => by decide +kernel
  | .hole n, h => by rw [Tr.enc, cleanB, cleanL, cleanL, cleanL, show cleanB (.str n) = true from nameB_strOk h]; decide +kernel
  | .foot n, h => by rw [Tr.enc, cleanB, cleanL, cleanL, cleanL, show cleanB (.str n) = true from nameB_strOk h]; decide +kernel
  | .knot n tk ks, h => by
    rw [Tr.ok] at h
    simp only [Bool.and_eq_true, decide_eq_true_eq] at h
    have h2 : cleanB (encTk tk) = true := by
      cases tk with
      | none => rfl
      | some p => rw [encTk, cleanB, cleanL, cleanL, cleanL, show cleanB (.str p.1) = true from nameB_strOk h.2.1]; rfl
    rw [Tr.enc, cleanB, cleanL, cleanL, cleanL, cleanL, cleanL, show cleanB (.str n) = true from nameB_strOk h.1, h2, show cleanB (.tuple (Tr.encL ks)) = true from cleanL_enc ks h.2.2.2.2]; decide +kernel
theorem cleanL_enc : ∀ ts : List Tr, Tr.okL ts = true → cleanL (Tr.encL ts) = true
  | [], _ => rfl
  | t :: ts, h => by
    rw [Tr.okL, Bool.and_eq_true] at h
    rw [Tr.encL, cleanL, clean_enc t h.1, cleanL_enc ts h.2]; rfl
end
end GM
namespace GM
open PySem L2 GS
/-- _law_cell(state); slots 0:state -/
def m_law_cell : SF := (sSeq (sPut 0 (eC (.str (Str.ofString "at"))) (eBin addD (eBin ixA (eVb 0) (eC (.str (Str.ofString "at")))) (eC (.int 1)))) (sSeq (sIf (eB (eBin (ltI fun i j => decide (j < i)) (eBin ixA (eVb 0) (eC (.str (Str.ofString "at")))) (eCB (un1 lenD) (aCons (eBin ixA (eVb 0) (eC (.str (Str.ofString "script")))) aNil)))) (sRet (eC (.int 0))) sNil) (sEnd (sRet (eBin ixA (eBin ixA (eVb 0) (eC (.str (Str.ofString "script")))) (eBin subD (eBin ixA (eVb 0) (eC (.str (Str.ofString "at")))) (eC (.int 1))))))))
theorem m_law_cell_eq (ρ : Rho) : fnF 1 1 (m_law_cell) ρ = finR 1 (m_law_cell (ρ ++ [])) := fnF_eq 1 1 _
end GM
namespace GS
open PySem L2
/-- one of a list -/
def pick {α : Type} [Inhabited α] (xs : List α) (i : Int) : α := (atI xs i).getD default
theorem atI_pick {α : Type} [Inhabited α] {xs : List α} {i : Int} (h0 : 0 ≤ i) (h1 : i < xs.length) : atI xs i = some (pick xs i) ∧ pick xs i ∈ xs := by
  obtain ⟨x, h2, h3⟩ := atI_lt h0 h1
  unfold pick
  rw [h2]
  exact ⟨rfl, h3⟩
@[simp] theorem atI_mod {α : Type} [Inhabited α] {xs : List α} {c n : Int} (h0 : 0 < n) (h : n = xs.length) : atI xs (c % n) = some (pick xs (c % n)) :=
  (atI_pick (Int.emod_nonneg _ (by omega)) (by rw [← h]; exact Int.emod_lt_of_pos _ h0)).1
theorem pick_mem {α : Type} [Inhabited α] {xs : List α} {c n : Int} (h0 : 0 < n) (h : n = xs.length) : pick xs (c % n) ∈ xs :=
  (atI_pick (Int.emod_nonneg _ (by omega)) (by rw [← h]; exact Int.emod_lt_of_pos _ h0)).2
@[simp] theorem atI_1 {α : Type} (a b : α) (r : List α) : atI (a :: b :: r) 1 = some b := by
  have := atI_nat (xs := a :: b :: r) (j := 1) (v := b) rfl
  exact this
@[simp] theorem atI_2 {α : Type} (a b c : α) (r : List α) : atI (a :: b :: c :: r) 2 = some c := by
  have := atI_nat (xs := a :: b :: c :: r) (j := 2) (v := c) rfl
  exact this
@[simp] theorem atI_3 {α : Type} (a b c d : α) (r : List α) : atI (a :: b :: c :: d :: r) 3 = some d := by
  have := atI_nat (xs := a :: b :: c :: d :: r) (j := 3) (v := d) rfl
  exact this
instance : Inhabited D := ⟨.none⟩
@[simp] theorem strOk_ofS (a : String) : PyData.strOk (Str.ofString a) = true := by
  unfold PyData.strOk
  rw [← Array.all_toList, ofS_cps, List.all_eq_true]
  intro c m
  obtain ⟨ch, _, rfl⟩ := List.mem_map.mp m
  have := ch.valid
  refine decide_eq_true ?_
  unfold Char.toNat
  rcases this with h | h
  · have : ch.val.toNat < 0xd800 := h
    omega
  · exact h.2
end GS
namespace GM
open PySem L2 GS
/-- the state that cells are drawn from -/
def stD (ns : List Int) (a : Int) : Option Int → D
  | none => .dict [(.str (Str.ofString "script"), .list (ns.map .int)), (.str (Str.ofString "at"), .int a)]
  | some k => .dict [(.str (Str.ofString "script"), .list (ns.map .int)), (.str (Str.ofString "at"), .int a), (.str (Str.ofString "keys"), .int k)]
def CellSp (F : FF) : Prop := ∀ (ns : List Int) (a : Nat) (ex : Option Int), ∃ (c : Int) (a' : Nat), F [some ⟨stD ns a ex, .io⟩] = .ok (.sh (.int c)) [some ⟨stD ns a' ex, .io⟩]
theorem law_cell_ok : CellSp (fnF 1 1 m_law_cell) := fun ns a ex => by
  have l2 : 2 < sizeLine := by decide
  have l3 : 3 < sizeLine := by decide
  by_cases h : a < ns.length
  · have h' : ¬ ((ns.length : Int) < a + 1) := by omega
    have e : L2.atI (ns.map PyData.int) (a : Int) = some (.int (ns[a])) := by
      rw [atI_nat (xs := ns.map PyData.int) (j := a) (v := .int (ns[a])) (by simp [h])]
    refine ⟨ns[a], a + 1, ?_⟩
    rw [m_law_cell_eq]
    cases ex <;> simp [m_law_cell, stD, dPut, h', e, l2, l3]
  · have h' : (ns.length : Int) < a + 1 := by omega
    refine ⟨0, a + 1, ?_⟩
    rw [m_law_cell_eq]
    cases ex <;> simp [m_law_cell, stD, dPut, h', l2, l3]
end GM
namespace GS
open PySem L2
theorem cutD_to (ds : List D) (i : Nat) : cutD ds none (some (i : Int)) = ds.take i := by
  unfold cutD
  rw [HT.sIx_none, HT.sIx_nat]
  simp only [List.drop_zero, Nat.sub_zero]
  by_cases h : i ≤ ds.length
  · rw [Nat.min_eq_left h]
  · rw [Nat.min_eq_right (by omega), List.take_of_length_le (Nat.le_refl _), List.take_of_length_le (by omega)]
theorem cutD_from (ds : List D) (i : Nat) : cutD ds (some (i : Int)) none = ds.drop i := by
  unfold cutD
  rw [HT.sIx_none, HT.sIx_nat]
  by_cases h : i ≤ ds.length
  · rw [Nat.min_eq_left h, List.take_of_length_le (by rw [List.length_drop]; omega)]
  · rw [Nat.min_eq_right (by omega), List.drop_of_length_le (Nat.le_refl _), List.drop_of_length_le (by omega), List.take_nil]
theorem cutS_to (z : Str) (i : Nat) : (cutS z none (some (i : Int))).cps.toList = z.cps.toList.take i := by
  have hl : z.cps.toList.length = z.length := (len_eq z).symm
  unfold cutS
  rw [HT.sIx_none, HT.sIx_nat]
  simp only [List.drop_zero, Nat.sub_zero]
  by_cases h : i ≤ z.length
  · rw [Nat.min_eq_left h]
  · rw [Nat.min_eq_right (by omega), ← hl, List.take_of_length_le (Nat.le_refl _), List.take_of_length_le (by omega)]
theorem cutS_from (z : Str) (i : Nat) : (cutS z (some (i : Int)) none).cps.toList = z.cps.toList.drop i := by
  have hl : z.cps.toList.length = z.length := (len_eq z).symm
  unfold cutS
  rw [HT.sIx_none, HT.sIx_nat]
  by_cases h : i ≤ z.length
  · rw [Nat.min_eq_left h, List.take_of_length_le (by rw [List.length_drop]; omega)]
  · rw [Nat.min_eq_right (by omega), List.drop_of_length_le (by omega), List.drop_of_length_le (by omega), List.take_nil]
theorem str_ext {a b : Str} (h : a.cps.toList = b.cps.toList) : a = b := by
  obtain ⟨a⟩ := a
  obtain ⟨b⟩ := b
  congr
  exact Array.ext' (by simpa using h)
end GS
namespace PySem
open Sem (wp)
open AutoSeq1 (wpAny_loadPart')
theorem meets_enumerate_newT (l : Addr) (items : Array Value) (n : Nat) (dct : Option Addr) (sl : Array (Option Value)) :
    Meets (Builtin.«enumerate.__new__» ⟨[.type "enumerate", .ref l], []⟩) (fun _ R s => s.heap.get? l = some { cls := .type "tuple", dict := dct, data := .seq items n, slots := sl } ∧
      R (.ok (.ret (.ref (s.heap.push { cls := .type "tuple_iterator", data := .fields #[.ref l, .int 0 0] }).objs.size)))
        { s with heap := (s.heap.push { cls := .type "tuple_iterator", data := .fields #[.ref l, .int 0 0] }).push { cls := .type "enumerate", data := .fields #[.none, .bool false, .ref s.heap.objs.size, rawInt 0, .none, .none] } }) :=
  .of_wp fun prog w A R s h => by
    obtain ⟨hp, g, d, tk, os⟩ := s; obtain ⟨hl, h⟩ := h
    have hsub := sub_enumerate
    have hL : Heap.IsTuple (Shared.heap ⟨hp, g, d, tk, os⟩) l items := ⟨_, hl, rfl, n, rfl⟩
    wp_walk using wpAny_loadPart' hl
    refine wpAny_stack_any fun st => wpAny_pure ?_
    split
    · rename_i c _ _ _ _ _
      cases (c == Value.type "enumerate")
      · wp_walk using wpAny_loadPart' hl, wpAny_pyIter_tuple hL
        exact ⟨_, rfl, h⟩
      · wp_walk using wpAny_loadPart' hl, wpAny_pyIter_tuple hL
        exact ⟨_, rfl, h⟩
    · wp_walk using wpAny_loadPart' hl, wpAny_pyIter_tuple hL
      exact ⟨_, rfl, h⟩
section
variable {prog : Program} {w : World} {A : Around} {E : Value → Shared → Prop} {s : Shared}
theorem call_enumerate_tuple {l : Addr} {items : Array Value} {Q : Value → Shared → Prop} (hL : s.heap.IsTuple l items)
    (h : ∀ h', IsEnum h' (s.heap.objs.size + 1) s.heap.objs.size 0 .none → h'.IsTupleIter s.heap.objs.size l 0 → h'.objs.size = s.heap.objs.size + 2 →
      (∀ b o, s.heap.get? b = some o → h'.get? b = some o) → Q (.ref (s.heap.objs.size + 1)) { s with heap := h' }) :
    wpAny (model prog w) A (call (.type "enumerate") [.ref l]) Q E s := by
  obtain ⟨⟨c, dct, dt, sl⟩, hl, hc, n, hd⟩ := hL
  replace hc : c = .type "tuple" := hc
  replace hd : dt = .seq items n := hd
  subst hc hd
  refine callType_new F.called_enumerate (by decide) (F.typeCall_enumerate_1 _) (F.newCall_enumerate_1 _) (fun obj => F.args_object_init_2 obj _) F.entry_enumerate_new
    (meets_enumerate_newT l items n dct sl) ⟨hl, ?_⟩
  have hz : (s.heap.push { cls := .type "tuple_iterator", data := .fields #[.ref l, .int 0 0] }).objs.size = s.heap.objs.size + 1 := Heap.size_push ..
  show _ ∧ _
  rw [hz]
  have he : IsEnum ((s.heap.push { cls := .type "tuple_iterator", data := .fields #[.ref l, .int 0 0] }).push
      { cls := .type "enumerate", data := .fields #[.none, .bool false, .ref s.heap.objs.size, rawInt 0, .none, .none] }) (s.heap.objs.size + 1) s.heap.objs.size 0 .none := by
    have := Heap.get?_push_size (s.heap.push { cls := .type "tuple_iterator", data := .fields #[.ref l, .int 0 0] })
      (o := { cls := .type "enumerate", data := .fields #[.none, .bool false, .ref s.heap.objs.size, rawInt 0, .none, .none] }) rfl
    rw [hz] at this; exact this
  refine ⟨⟨_, he, rfl⟩, h _ he ⟨_, Heap.get?_push_of_some _ (Heap.get?_push_size _ rfl), rfl, rfl⟩ (by rw [Heap.size_push, hz]) fun b o x => Heap.get?_push_of_some _ (Heap.get?_push_of_some _ x)⟩
theorem wpAny_pyNext_enumT_end {e it l : Addr} {i : Nat} {items : Array Value} {old : Value} {Q : Option Value → Shared → Prop} (hh : A.handled = none)
    (he : IsEnum s.heap e it i old) (hit : s.heap.IsTupleIter it l i) (hl : s.heap.IsTuple l items) (hx : items[i]? = none)
    (hQ : ∀ h', Heap.ExtBut it s.heap h' → Q none { s with heap := h' }) : wpAny (model prog w) A (pyNext (.ref e)) Q E s := by
  have hT : s.TypeIs (.ref e) "enumerate" := ⟨_, he, rfl⟩
  unfold pyNext
  refine wpAny_bind (wpAny_attempt (wpAny_callSpecial?_slot (name := Str.ofString "__next__") hT F.slot_enumerate_next
    (wpAny_call_entry F.slot_enumerate_next hT F.entry_enumerate_next ?_ (F.args_enumerate_next_1 _))))
  show wpAny _ _ (field (.ref e) 2 >>= _) _ _ _
  refine wpAny_bind (wpAny_field he rfl (x := .ref it) rfl ?_)
  refine wpAny_bind (wpAny_nextOf_tuple_end hh hit hl hx fun h' x he' hx' => ?_)
  obtain ⟨o, ho, hc⟩ := hx'
  refine wpAny_bind (wpAny_isInstance (T := "StopIteration") (b := true) ⟨o, ho, hc⟩ isSubtype_stop ?_)
  exact wpAny_pure (hQ _ he')
end
end PySem
namespace L2
open PySem PySem.Spec PyProof.Rows
def Iet (K : PySem.W.Frag) (a : Addr) : It :=
  ⟨fun i H => ∃ (xs : List V) (x : V), SqT K H a xs ∧ xs[i]? = some x, fun i H v H' => ∃ T o x, v = .ref T ∧ H T = none ∧ o.dict = none ∧ H' = upd H T (.frz o (.tup [.int (i : Nat), x])) ∧ ∀ xs, SqT K H a xs → xs[i]? = some x, fun i H => ∃ xs : List V, SqT K H a xs ∧ xs.length ≤ i⟩
theorem turn_enumT {P : Program} {w : World} {K : PySem.W.Frag} {elts : List Expr} {kk : Nat} {tpos : Pos} (a e it : Addr) :
    Turn P w K (.Tuple elts kk tpos) (Iet K a) [e, it] e (fun i h => (∃ old, IsEnum h e it ((i : Nat) : Int) old) ∧ h.IsTupleIter it a i ∧ e ≠ it) where
  mem := by simp
  obj := fun i h st b hb => by
    obtain ⟨⟨old, he⟩, ⟨o, ho, hc, hd⟩, _⟩ := st
    have e' : b = e ∨ b = it := by simpa using hb
    rcases e' with z | z
    · rw [z]; exact ⟨_, he, fun v q => nomatch q⟩
    · rw [z]; exact ⟨o, ho, fun v q => by rw [hd] at q; cases q⟩
  keep := fun i h h' st k => let ⟨⟨old, he⟩, hi, hne⟩ := st; ⟨⟨old, k e (by simp) _ he⟩, hi.at fun o q => k it (by simp) o q, hne⟩
  item := by
    intro X hP hw hK hc i pins s σ H E I hf st hg
    subst hP hw hK
    obtain ⟨⟨old, he⟩, hit, hne⟩ := st
    obtain ⟨xs, x, hq, hx⟩ := hg
    obtain ⟨its, rv, p, hz⟩ := I.tuple hq
    obtain ⟨u, hu, ru⟩ := rv.get hx
    have hel : e < s.heap.objs.size := Heap.lt_size he
    have hil : it < s.heap.objs.size := by obtain ⟨_, q, _⟩ := hit; exact Heap.lt_size q
    have pt : s.heap.IsTuple a its.toArray := p
    have hea : e ≠ a := fun z => by
      obtain ⟨o, ho, hc', _⟩ := pt
      rw [← z] at ho
      have he' : s.heap.get? e = _ := he
      rw [he'] at ho
      cases ho
      simp at hc'
    have hai : a ≠ it := fun z => by
      obtain ⟨o, ho, hc', _⟩ := pt
      obtain ⟨o2, ho2, hc2, _⟩ := hit
      rw [z, ho2] at ho
      cases ho
      rw [hc2] at hc'
      simp at hc'
    have hlen : i < its.toArray.size := by
      have := (List.getElem?_eq_some_iff.mp hu).1
      simpa using this
    refine wpAny_pyNext_enum_itemD (Draws.tuple (show X.A.in1.handled = none from I.ok.hd hc) it a hai its.toArray) he ⟨hit, pt⟩ hlen hne (by simp; exact ⟨hne, hea⟩) fun u' h' tk hu' ho hst hT hsz hk => ?_
    have eu : u' = u := by
      have h1 : its.toArray[i]? = some u' := hu'
      have h2 : its[i]? = some u' := by simpa using h1
      rw [hu] at h2
      cases h2; rfl
    subst eu
    obtain ⟨hit', _⟩ := hst
    refine ⟨_, rfl, wpAny_letOwnedTupleGo_enum (s := { s with heap := h', toks := tk + 1 }) ho fun h'' he' sb => ?_⟩
    have hT2 : h''.get? s.heap.objs.size = some { cls := .type "tuple", data := .seq #[.int i tk, u'] } := (sb.2 _ (Nat.ne_of_gt hel)).trans hT
    have new : ObjOk X.prog X.w (upd H s.heap.objs.size (.frz { cls := .type "tuple", data := .seq #[.int i tk, u'] } (.tup [.int (i : Nat), x]))) h'' s.heap.objs.size (.frz { cls := .type "tuple", data := .seq #[.int i tk, u'] } (.tup [.int (i : Nat), x])) :=
      ⟨hT2, by show 2 ≤ sizeLine; decide, [.int i tk, u'], .cons ⟨_, rfl⟩ (.cons ru .nil), ⟨_, hT2, rfl, _, rfl⟩⟩
    have I1 : Inv X pins σ (upd H s.heap.objs.size (.frz { cls := .type "tuple", data := .seq #[.int i tk, u'] } (.tup [.int (i : Nat), x]))) { s with heap := h'', toks := tk + 1 } :=
      I.turnedNew (ch := [e, it]) (fun b ob nb q => (sb.2 b (fun z => nb (by simp [z]))).trans (hk b ob (fun z => nb (by simp [z])) (fun z => nb (by simp [z])) q)) hf (Nat.le_refl _) new
    refine ⟨.ref s.heap.objs.size, _, I1, rfl, ⟨_, _, x, rfl, I.hok.fresh (Nat.le_refl _), rfl, rfl, fun ys hy => by rw [I.tuple_inj hy hq]; exact hx⟩, ⟨⟨u', ?_⟩, hit'.at fun o q => (sb.2 it (Ne.symm hne)).trans q, hne⟩, fun b hb => ?_⟩
    · have e1 : ((i + 1 : Nat) : Int) = (i : Int) + 1 := by omega
      rw [e1]; exact he'
    · have hb' : b < s.heap.objs.size := by
        have e' : b = e ∨ b = it := by simpa using hb
        rcases e' with z | z
        · rw [z]; exact hel
        · rw [z]; exact hil
      rw [upd_ne (Nat.ne_of_lt hb')]
      exact (hf b hb).1
  done := by
    intro X hP hw hK hc i pins s σ H E I hf st hg
    subst hP hw hK
    obtain ⟨⟨old, he⟩, hit, hne⟩ := st
    obtain ⟨xs, hq, hx⟩ := hg
    obtain ⟨its, rv, p, hz⟩ := I.tuple hq
    obtain ⟨f0, f1, f2, f3, f4, f5⟩ := hf it (by simp)
    have hl := rv.length
    exact wpAny_pyNext_enumT_end (I.ok.hd hc) he hit (show s.heap.IsTuple a its.toArray from p) (by simp; omega) fun h' eb => ⟨rfl, I.turned (t' := s.toks) (fun b o hb q => eb b o hb q) f0 f1 f3 f4 f5⟩
  self := fun A i s Q E st h => let ⟨⟨_, he⟩, _⟩ := st; wpAny_pyIter_enum he h
def IetL (K : PySem.W.Frag) (a : Addr) : It :=
  ⟨fun i H => ∃ (xs : List V) (x : V), SqL K H a xs ∧ xs[i]? = some x, fun i H v H' => ∃ T o x, v = .ref T ∧ H T = none ∧ o.dict = none ∧ H' = upd H T (.frz o (.tup [.int (i : Nat), x])) ∧ ∀ xs, SqL K H a xs → xs[i]? = some x, fun i H => ∃ xs : List V, SqL K H a xs ∧ xs.length ≤ i⟩
theorem turn_enumL {P : Program} {w : World} {K : PySem.W.Frag} {elts : List Expr} {kk : Nat} {tpos : Pos} (a e it : Addr) :
    Turn P w K (.Tuple elts kk tpos) (IetL K a) [e, it] e (fun i h => (∃ old, IsEnum h e it ((i : Nat) : Int) old) ∧ h.IsListIter it a i ∧ e ≠ it) where
  mem := by simp
  obj := fun i h st b hb => by
    obtain ⟨⟨old, he⟩, ⟨o, ho, hc, hd⟩, _⟩ := st
    have e' : b = e ∨ b = it := by simpa using hb
    rcases e' with z | z
    · rw [z]; exact ⟨_, he, fun v q => nomatch q⟩
    · rw [z]; exact ⟨o, ho, fun v q => by rw [hd] at q; cases q⟩
  keep := fun i h h' st k => let ⟨⟨old, he⟩, hi, hne⟩ := st; ⟨⟨old, k e (by simp) _ he⟩, hi.at fun o q => k it (by simp) o q, hne⟩
  item := by
    intro X hP hw hK hc i pins s σ H E I hf st hg
    subst hP hw hK
    obtain ⟨⟨old, he⟩, hit, hne⟩ := st
    obtain ⟨xs, x, hq, hx⟩ := hg
    obtain ⟨its, rv, p, hz⟩ := I.list hq
    obtain ⟨u, hu, ru⟩ := rv.get hx
    have hel : e < s.heap.objs.size := Heap.lt_size he
    have hil : it < s.heap.objs.size := by obtain ⟨_, q, _⟩ := hit; exact Heap.lt_size q
    have pt : s.heap.IsList a its.toArray := p.isList
    have hea : e ≠ a := fun z => by
      obtain ⟨o, ho, hc', _⟩ := pt
      rw [← z] at ho
      have he' : s.heap.get? e = _ := he
      rw [he'] at ho
      cases ho
      simp at hc'
    have hai : a ≠ it := fun z => by
      obtain ⟨o, ho, hc', _⟩ := pt
      obtain ⟨o2, ho2, hc2, _⟩ := hit
      rw [z, ho2] at ho
      cases ho
      rw [hc2] at hc'
      simp at hc'
    have hlen : i < its.toArray.size := by
      have := (List.getElem?_eq_some_iff.mp hu).1
      simpa using this
    refine wpAny_pyNext_enum_itemD (Draws.list (show X.A.in1.handled = none from I.ok.hd hc) it a hai its.toArray) he ⟨hit, pt⟩ hlen hne (by simp; exact ⟨hne, hea⟩) fun u' h' tk hu' ho hst hT hsz hk => ?_
    have eu : u' = u := by
      have h1 : its.toArray[i]? = some u' := hu'
      have h2 : its[i]? = some u' := by simpa using h1
      rw [hu] at h2
      cases h2; rfl
    subst eu
    obtain ⟨hit', _⟩ := hst
    refine ⟨_, rfl, wpAny_letOwnedTupleGo_enum (s := { s with heap := h', toks := tk + 1 }) ho fun h'' he' sb => ?_⟩
    have hT2 : h''.get? s.heap.objs.size = some { cls := .type "tuple", data := .seq #[.int i tk, u'] } := (sb.2 _ (Nat.ne_of_gt hel)).trans hT
    have new : ObjOk X.prog X.w (upd H s.heap.objs.size (.frz { cls := .type "tuple", data := .seq #[.int i tk, u'] } (.tup [.int (i : Nat), x]))) h'' s.heap.objs.size (.frz { cls := .type "tuple", data := .seq #[.int i tk, u'] } (.tup [.int (i : Nat), x])) :=
      ⟨hT2, by show 2 ≤ sizeLine; decide, [.int i tk, u'], .cons ⟨_, rfl⟩ (.cons ru .nil), ⟨_, hT2, rfl, _, rfl⟩⟩
    have I1 : Inv X pins σ (upd H s.heap.objs.size (.frz { cls := .type "tuple", data := .seq #[.int i tk, u'] } (.tup [.int (i : Nat), x]))) { s with heap := h'', toks := tk + 1 } :=
      I.turnedNew (ch := [e, it]) (fun b ob nb q => (sb.2 b (fun z => nb (by simp [z]))).trans (hk b ob (fun z => nb (by simp [z])) (fun z => nb (by simp [z])) q)) hf (Nat.le_refl _) new
    refine ⟨.ref s.heap.objs.size, _, I1, rfl, ⟨_, _, x, rfl, I.hok.fresh (Nat.le_refl _), rfl, rfl, fun ys hy => by rw [I.list_inj hy hq]; exact hx⟩, ⟨⟨u', ?_⟩, hit'.at fun o q => (sb.2 it (Ne.symm hne)).trans q, hne⟩, fun b hb => ?_⟩
    · have e1 : ((i + 1 : Nat) : Int) = (i : Int) + 1 := by omega
      rw [e1]; exact he'
    · have hb' : b < s.heap.objs.size := by
        have e' : b = e ∨ b = it := by simpa using hb
        rcases e' with z | z
        · rw [z]; exact hel
        · rw [z]; exact hil
      rw [upd_ne (Nat.ne_of_lt hb')]
      exact (hf b hb).1
  done := by
    intro X hP hw hK hc i pins s σ H E I hf st hg
    subst hP hw hK
    obtain ⟨⟨old, he⟩, hit, hne⟩ := st
    obtain ⟨xs, hq, hx⟩ := hg
    obtain ⟨its, rv, p, hz⟩ := I.list hq
    obtain ⟨f0, f1, f2, f3, f4, f5⟩ := hf it (by simp)
    have hl := rv.length
    exact wpAny_pyNext_enum_end (I.ok.hd hc) he hit p.isList (by simp; omega) fun h' eb => ⟨rfl, I.turned (t' := s.toks) (fun b o hb q => eb b o hb q) f0 f1 f3 f4 f5⟩
  self := fun A i s Q E st h => let ⟨⟨_, he⟩, _⟩ := st; wpAny_pyIter_enum he h
/-- enumerate of a list or a tuple -/
def iEnumA (K : PySem.W.Frag) (ta : TA) : TI := fun σ H R => ta σ H fun vs H1 => (∃ a, vs = [.ref a] ∧ (∃ xs, SqL K H1 a xs) ∧ R (IetL K a) H1) ∨ (∃ a, vs = [.ref a] ∧ (∃ xs, SqT K H1 a xs) ∧ R (Iet K a) H1)
theorem pi_enumA {X : Cx} {e : Expr} {ta : TA} {p pos tpos : Pos} {elts : List Expr} {kk : Nat} (hg : Gl X "enumerate") (hm : X.mg "enumerate" = none) (ha : PA X [e] ta) (hs : starEach [e] X.env = [(false, eval e X.env)] := by rfl) :
    PI X (.Tuple elts kk tpos) (.Call (.Name "enumerate" p) [e] [] pos) (iEnumA X.K ta) := by
  refine ⟨fun pins s σ H R I h => ?_⟩
  refine Call_ (ld_blt I hg hm boot_enumerate (PyProof.Rows.callWith_type1 (thn (ha.run pos pins s σ H _ I h) fun us s1 ⟨vs, H1, I1, r1, q1⟩ => ?_) hs rfl))
  rcases q1 with ⟨a, ex, ⟨xs, hq⟩, q⟩ | ⟨a, ex, ⟨xs, hq⟩, q⟩
  all_goals
    subst ex
    cases r1 with
    | cons r rr =>
      cases rr
      cases r
      first
        | (obtain ⟨its, rv, p', hz⟩ := I1.list hq
           refine call_enumerate_list p'.isList fun h' he hit hsz hk => wpAny_pyIter_enum he ?_
           have I2 : Inv X pins σ H1 { s1 with heap := h' } := I1.kept (t' := s1.toks) hk
           refine ⟨s1.heap.objs.size + 1, [s1.heap.objs.size + 1, s1.heap.objs.size], _, _, H1, rfl, I2, turn_enumL a (s1.heap.objs.size + 1) s1.heap.objs.size, ⟨⟨.none, he⟩, hit, Nat.succ_ne_self _⟩, fun b hb => ?_, q⟩)
        | (obtain ⟨its, rv, p', hz⟩ := I1.tuple hq
           refine call_enumerate_tuple (show s1.heap.IsTuple a its.toArray from p') fun h' he hit hsz hk => wpAny_pyIter_enum he ?_
           have I2 : Inv X pins σ H1 { s1 with heap := h' } := I1.kept (t' := s1.toks) hk
           refine ⟨s1.heap.objs.size + 1, [s1.heap.objs.size + 1, s1.heap.objs.size], _, _, H1, rfl, I2, turn_enumT a (s1.heap.objs.size + 1) s1.heap.objs.size, ⟨⟨.none, he⟩, hit, Nat.succ_ne_self _⟩, fun b hb => ?_, q⟩)
      have e' : b = s1.heap.objs.size + 1 ∨ b = s1.heap.objs.size := by simpa using hb
      have hle : s1.heap.objs.size ≤ b := by
        rcases e' with z | z
        · rw [z]; exact Nat.le_add_right _ _
        · rw [z]; exact Nat.le_refl _
      exact I1.fpOk hle (I1.hok.fresh hle)
/-- pairs in new tuples -/
def YPairX (f g : Nat → Option V) : Nat → Hp → V → Hp → Prop := fun i H v H' => ∃ T o x y, v = .ref T ∧ H T = none ∧ o.dict = none ∧ H' = upd H T (.frz o (.tup [x, y])) ∧ f i = some x ∧ g i = some y
theorem walk_enumT {K : PySem.W.Frag} {a : Addr} {xs : List V} : Walk (Iet K a) xs.length (fun H => SqT K H a xs) (YPairX (fun i => some (.int (i : Nat))) (fun i => xs[i]?)) := by
  refine ⟨fun i _ hi q => ⟨xs, xs[i], q, by simp [hi]⟩, fun _ q => ⟨xs, q, Nat.le_refl _⟩, fun i H v H' _ q y => ?_⟩
  obtain ⟨T, o, x, h1, h2, h0, h3, h4⟩ := y
  exact ⟨T, o, .int (i : Nat), x, h1, h2, h0, h3, rfl, h4 xs q⟩
theorem walk_enumL {K : PySem.W.Frag} {a : Addr} {xs : List V} : Walk (IetL K a) xs.length (fun H => SqL K H a xs) (YPairX (fun i => some (.int (i : Nat))) (fun i => xs[i]?)) := by
  refine ⟨fun i _ hi q => ⟨xs, xs[i], q, by simp [hi]⟩, fun _ q => ⟨xs, q, Nat.le_refl _⟩, fun i H v H' _ q y => ?_⟩
  obtain ⟨T, o, x, h1, h2, h0, h3, h4⟩ := y
  exact ⟨T, o, .int (i : Nat), x, h1, h2, h0, h3, rfl, h4 xs q⟩
end L2
namespace GS
open PySem L2
/-- numbered -/
def enD (ds : List D) : List D := ds.mapIdx fun i d => .tuple [.int (i : Int), d]
def seqs : D → Option (List D)
  | .list ds => some ds
  | .tuple ds => some ds
  | _ => none
def iEn (fe : EF) : IF := fun ρ => bindEI (eCap fe ρ) fun h ρ1 => match h with
  | .sh d => match seqs d with
    | some ds => .ok (enD ds) ρ1
    | none => .stuck
  | _ => .stuck
section
variable {X : Cx} {C : Ct} {ρ ρ1 : Rho} {σ σ1 : St} {B H B1 H1 : Hp} {e tg : Expr} {te : TE} {fe : EF} {pos p tpos : Pos}
theorem enD_get (ds : List D) (i : Nat) (d : D) (h : ds[i]? = some d) : (enD ds)[i]? = some (.tuple [.int (i : Int), d]) := by
  unfold enD
  rw [List.getElem?_mapIdx, h]
  rfl
theorem it_en {K : KW} {J : It} {xs : List V} {ds : List D} {G : Hp → Prop} (w : Walk J xs.length G (YPairX (fun i => some (.int (i : Nat))) (fun i => xs[i]?))) (hG : ∀ H, Same B H → G H) (r : RpL K B xs ds) : ItOk K B (enD ds) J := by
  unfold ItOk
  rw [show (enD ds).length = xs.length by unfold enD; rw [List.length_mapIdx, r.length]]
  refine w.mono hG fun i H x H' hi s y => ?_
  obtain ⟨T, o, a, b, h1, h2, h0, h3, h4, h5⟩ := y
  cases h4
  obtain ⟨d, q1, q2⟩ := r.getV h5
  exact ⟨_, enD_get ds i d q1, .inr ⟨T, o, _, _, h1, h2, h0, h3, rfl, .cons (.int _) (.cons q2 .nil)⟩⟩
theorem lk_en (l : LkE C te fe) : LkI C (iEnumA C.K (tCons te tNil)) (iEn fe) := fun ρ σ B H R S g => by
  refine l.cap.bindI S g fun hd ρ1 v B1 H1 S1 x1 y1 g1 => ?_
  cases hd with
  | sh d =>
    cases d with
    | list ds =>
      obtain ⟨a, vs, rfl, ha, ra⟩ := Rp.lstE y1
      exact .inl ⟨a, rfl, ⟨vs, same_l S1.bh ha⟩, g1 _ B1 H1 S1 x1 (it_en walk_enumL (fun H s => same_l s ha) ra)⟩
    | tuple ds =>
      obtain ⟨a, vs, rfl, ha, ra⟩ := Rp.tupE y1
      exact .inr ⟨a, rfl, ⟨vs, same_t S1.bh ha⟩, g1 _ B1 H1 S1 x1 (it_en walk_enumT (fun H s => same_t s ha) ra)⟩
    | _ => exact g1.elim
  | _ => exact g1.elim
theorem si_en {elts : List Expr} {kk : Nat} (l : SE X C e te fe) (hm : X.mg "enumerate" = none) (hg : Gl X "enumerate" := by rfl) (hk : X.K = C.K := by rfl) (hs : starEach [e] X.env = [(false, eval e X.env)] := by rfl) :
    SI X C (.Tuple elts kk tpos) (.Call (.Name "enumerate" p) [e] [] pos) (iEnumA C.K (tCons te tNil)) (iEn fe) := ⟨by rw [← hk]; exact pi_enumA hg hm (pa_cons l.pe pa_nil hs) hs, lk_en l.lk⟩
end
end GS
namespace GS
open PySem L2
section
variable {K : KW} {X : Cx} {C : Ct} {ρ ρ1 : Rho} {σ σ1 : St} {B H B1 H1 : Hp} {e e2 : Expr} {te ti : TE} {fe fi : EF} {pos : Pos} {st : Stmt}
def extD (zs : List D) : D → Option D
  | .list ds => if ds.length + zs.length ≤ sizeLine then some (.list (ds ++ zs)) else none
  | _ => none
def sExt (i : Nat) (fe : EF) : SF := fun ρ => if isL ρ i then bindES (fe ρ) fun h ρ1 => match h with
  | .fr (.list zs) => mutS ρ1 i (extD zs)
  | _ => .stuck else .stuck
theorem ss_ext {i : Nat} {x : Str} {q1 q2 q3 : Pos} (l : SE X C e te fe) (hN : X.N[i]? = some x := by rfl) (hv : Vis X.env.scope x := by first | exact Or.inl rfl | exact Or.inr (Or.inl rfl) | exact Or.inr (Or.inr rfl)) (hd : (x == ("__debug__" : Str)) = false := by decide)
    (hcd : (x == ("__classdict__" : Str)) = false := by decide) (hk : X.K = C.K := by rfl) (hs : starEach [e] X.env = (false, eval e X.env) :: starEach [] X.env := by rfl)
    (hfew : ((backTo q3 (starEach [e] X.env)).all (fun x => !x.1) && (backToKw q3 (keywordEach [] X.env)).all (fun x => x.1.isSome) && decide ([e].length + ([] : List Keyword).length + (if ([] : List Keyword).isEmpty then 0 else 1) < 30)) = true := by rfl)
    (hline : (q2.endLine == q3.line) = true := by rfl) :
    SS X C (.Expr (.Call (.Attribute (.Name x q1) "extend" q2) [e] [] q3) pos) (tDrop (tBM C.K "list" rExtend (tVar i) (tCons te tNil))) (sExt i fe) := by
  refine ⟨by rw [← hk]; exact ps_expr (pe_bm PySem.F.plainAttrs_list PySem.F.slot_list_extend PySem.F.type_list_extend mt_extend (pe_var hN hv hd hcd) (pa_cons l.pe pa_nil hs) rfl hfew hline hs), fun ρ σ B H E S g => ?_⟩
  unfold sExt at g
  by_cases hl : isL ρ i = true
  case neg => rw [if_neg hl] at g; exact g.elim
  rw [if_pos hl] at g
  obtain ⟨a, vs, ea, sq⟩ := isL_ok S hl
  refine ⟨.ref a, ea, tyL sq, ?_⟩
  refine l.lk.bindS S g fun hd ρ1 v B1 H1 S1 x1 y1 g1 => ?_
  cases hd with
  | fr y =>
    cases y with
    | list zs =>
      obtain ⟨c, d', h1, h2, h3, h4⟩ := mutS_ok g1
      obtain ⟨a', ea', hb, ow⟩ := S1.own h1 h2
      rw [ea] at ea'
      cases ea'
      obtain ⟨b, rfl, bb, owb, nb, _⟩ := y1
      obtain ⟨us, eu, ru⟩ := owb
      obtain ⟨d, fl⟩ := c
      cases d with
      | list ds =>
        obtain ⟨hc, rfl⟩ := if_some (show (if ds.length + zs.length ≤ sizeLine then some (.list (ds ++ zs)) else none) = some d' from h3)
        obtain ⟨ws, ew, rw'⟩ := ow
        have ow' : Ow C.K B1 a (some (.lst (ws ++ us))) (.list (ds ++ zs)) := ⟨_, rfl, rw'.append ru⟩
        obtain ⟨S2, x2⟩ := S1.mut h1 h2 ea ow'
        exact ⟨a, b, ws, us, rfl, rfl, ew, eu, by rw [rw'.length, ru.length]; exact hc, h4 _ _ _ S2 (x1.trans x2)⟩
      | _ => cases h3
    | _ => exact g1.elim
  | _ => exact g1.elim
def okI (i : Int) : Bool := decide (0 ≤ i) && Nat.ble i.natAbs 1000000000
def insD (k : Int) (y : D) : D → Option D
  | .list ds => if decide (ds.length < sizeLine) && okI k then some (.list (ds.take k.toNat ++ [y] ++ ds.drop k.toNat)) else none
  | _ => none
def insR (i : Nat) (k : Int) (h : Hd) (ρ : Rho) : RS := match h with
  | .sh y => mutS ρ i (insD k y)
  | _ => .stuck
def insI (i : Nat) (fe : EF) (o : Option D) (ρ : Rho) : RS := match o with
  | some (.int k) => bindES (eCap fe ρ) (insR i k)
  | _ => .stuck
def sIns (i : Nat) (fi fe : EF) : SF := fun ρ => if isL ρ i then bindES (eSet fi ρ) fun h ρ1 => insI i fe (getH ρ1 h) ρ1 else .stuck
theorem ss_ins {i : Nat} {x : Str} {q1 q2 q3 : Pos} (li : SE X C e ti fi) (l : SE X C e2 te fe) (hN : X.N[i]? = some x := by rfl) (hv : Vis X.env.scope x := by first | exact Or.inl rfl | exact Or.inr (Or.inl rfl) | exact Or.inr (Or.inr rfl)) (hd : (x == ("__debug__" : Str)) = false := by decide)
    (hcd : (x == ("__classdict__" : Str)) = false := by decide) (hk : X.K = C.K := by rfl) (hs : starEach [e, e2] X.env = (false, eval e X.env) :: starEach [e2] X.env := by rfl) (hs2 : starEach [e2] X.env = (false, eval e2 X.env) :: starEach [] X.env := by rfl)
    (hfew : ((backTo q3 (starEach [e, e2] X.env)).all (fun x => !x.1) && (backToKw q3 (keywordEach [] X.env)).all (fun x => x.1.isSome) && decide ([e, e2].length + ([] : List Keyword).length + (if ([] : List Keyword).isEmpty then 0 else 1) < 30)) = true := by rfl)
    (hline : (q2.endLine == q3.line) = true := by rfl) (hplain : (backTo q3 (starEach [e2] X.env)).any (·.1) = false := by rfl) :
    SS X C (.Expr (.Call (.Attribute (.Name x q1) "insert" q2) [e, e2] [] q3) pos) (tDrop (tBM C.K "list" (fun x vs H Q => ∃ (l : Addr) (xs : List V) (i : Int) (y : V), x = .ref l ∧ vs = [.int i, y] ∧ H l = some (.lst xs) ∧ xs.length < sizeLine ∧ 0 ≤ i ∧ i < 2 ^ 63 ∧
    Q .non (upd H l (.lst (xs.take i.toNat ++ [y] ++ xs.drop i.toNat)))) (tVar i) (tCons ti (tCons te tNil)))) (sIns i fi fe) := by
  refine ⟨by rw [← hk]; exact ps_expr (pe_bm PySem.F.plainAttrs_list PySem.F.slot_list_insert PySem.F.type_list_insert mt_insert (pe_var hN hv hd hcd) (pa_cons li.pe (pa_cons l.pe pa_nil hs2) hs) rfl hfew hline hs hplain), fun ρ σ B H E S g => ?_⟩
  unfold sIns at g
  by_cases hl : isL ρ i = true
  case neg => rw [if_neg hl] at g; exact g.elim
  rw [if_pos hl] at g
  obtain ⟨a, vs, ea, sq⟩ := isL_ok S hl
  refine ⟨.ref a, ea, tyL sq, ?_⟩
  refine (LkE.set li.lk).bindS S g fun hd ρ1 v B1 H1 S1 x1 y1 g1 => ?_
  unfold insI at g1
  split at g1
  · rename_i k ek
    have tk := S1.tp y1 ek
    rw [tk.int]
    refine l.lk.cap.bindS S1 (GoodS.ext x1 g1) fun hd2 ρ2 v2 B2 H2 S2 x2 y2 g2 => ?_
    cases hd2 with
    | sh y =>
      obtain ⟨c, d', h1, h2, h3, h4⟩ := mutS_ok g2
      obtain ⟨a', ea', hb, ow⟩ := S2.own h1 h2
      rw [ea] at ea'
      cases ea'
      obtain ⟨d, fl⟩ := c
      cases d with
      | list ds =>
        obtain ⟨hc, rfl⟩ := if_some (show (if decide (ds.length < sizeLine) && okI k then some (.list (ds.take k.toNat ++ [y] ++ ds.drop k.toNat)) else none) = some d' from h3)
        rw [Bool.and_eq_true] at hc
        have hk2 := hc.2
        unfold okI at hk2
        rw [Bool.and_eq_true] at hk2
        have k0 := of_decide_eq_true hk2.1
        have k1 := Nat.le_of_ble_eq_true hk2.2
        obtain ⟨ws, ew, rw'⟩ := ow
        have ow' : Ow C.K B2 a (some (.lst (ws.take k.toNat ++ [v2] ++ ws.drop k.toNat))) (.list (ds.take k.toNat ++ [y] ++ ds.drop k.toNat)) := ⟨_, rfl, ((rw'.take _).append (.cons y2 .nil)).append (rw'.drop _)⟩
        obtain ⟨S3, x3⟩ := S2.mut h1 h2 ea ow'
        exact ⟨a, ws, k, v2, rfl, rfl, ew, by rw [rw'.length]; exact of_decide_eq_true hc.1, k0, by omega, h4 _ _ _ S3 (x2.trans x3)⟩
      | _ => cases h3
    | _ => exact g2.elim
  · exact g1.elim
end
end GS
namespace GS
open PySem L2
section
variable {ρ ρ1 : Rho} {c : Prop} [Decidable c]
def enR (h : Hd) (ρ : Rho) : RI := match h with
  | .sh d => match seqs d with
    | some ds => .ok (enD ds) ρ
    | none => .stuck
  | _ => .stuck
@[simp] theorem enR_l (ds : List D) : enR (.sh (.list ds)) ρ = .ok (enD ds) ρ := rfl
@[simp] theorem enR_t (ds : List D) : enR (.sh (.tuple ds)) ρ = .ok (enD ds) ρ := rfl
@[simp] theorem iEn_eq (f : EF) : iEn f ρ = bindEI (eCap f ρ) enR := by unfold iEn enR; rfl
theorem enD_len (ds : List D) : (enD ds).length = ds.length := by unfold enD; rw [List.length_mapIdx]
theorem enD_mid {ds pre post : List D} {d : D} (h : enD ds = pre ++ d :: post) : ∃ x, ds[pre.length]? = some x ∧ d = .tuple [.int (pre.length : Int), x] := by
  have h2 : (enD ds)[pre.length]? = some d := by rw [h, List.getElem?_append_right (Nat.le_refl _), Nat.sub_self]; rfl
  have h3 : pre.length < ds.length := by rw [← enD_len ds]; exact (List.getElem?_eq_some_iff.mp h2).1
  have h4 : ds[pre.length]? = some ds[pre.length] := List.getElem?_eq_getElem h3
  rw [enD_get ds _ _ h4] at h2
  exact ⟨_, h4, (Option.some.inj h2).symm⟩
def extR (i : Nat) (h : Hd) (ρ : Rho) : RS := match h with
  | .fr (.list zs) => mutS ρ i (extD zs)
  | _ => .stuck
@[simp] theorem extR_l (i : Nat) (zs : List D) : extR i (.fr (.list zs)) ρ = mutS ρ i (extD zs) := rfl
@[simp] theorem sExt_eq (i : Nat) (f : EF) : sExt i f ρ = if isL ρ i then bindES (f ρ) (extR i) else .stuck := by unfold sExt; rfl
@[simp] theorem extD_l (zs ds : List D) : extD zs (.list ds) = if ds.length + zs.length ≤ sizeLine then some (.list (ds ++ zs)) else none := rfl
@[simp] theorem insR_sh (i : Nat) (k : Int) (y : D) : insR i k (.sh y) ρ = mutS ρ i (insD k y) := rfl
@[simp] theorem insI_i (i : Nat) (f : EF) (k : Int) : insI i f (some (.int k)) ρ = bindES (eCap f ρ) (insR i k) := rfl
@[simp] theorem sIns_eq (i : Nat) (fi fe : EF) : sIns i fi fe ρ = if isL ρ i then bindES (eSet fi ρ) (fun h ρ1 => insI i fe (getH ρ1 h) ρ1) else .stuck := rfl
@[simp] theorem insD_l (k : Int) (y : D) (ds : List D) : insD k y (.list ds) = if decide (ds.length < sizeLine) && okI k then some (.list (ds.take k.toNat ++ [y] ++ ds.drop k.toNat)) else none := rfl
theorem okI_nat {m : Nat} (h : m ≤ 1000000000) : okI (m : Int) = true := by
  unfold okI
  rw [Int.natAbs_natCast, Nat.ble_eq_true_of_le h, decide_eq_true (by omega)]; rfl
/-- a loop that appends -/
theorem forL_app {α : Type} {g : D → Rho → Option Rho} {b : SF} (emb : List D → Rho) (it : α → D) (f : α → D) : ∀ (as : List α) (acc : List D), acc.length + as.length ≤ sizeLine →
    (∀ a acc, a ∈ as → acc.length < sizeLine → optR (g (it a) (emb acc)) b = .nx (emb (acc ++ [f a]))) → forL g b (as.map it) (emb acc) = .nx (emb (acc ++ as.map f))
  | [], acc, _, _ => by simp
  | a :: as, acc, hl, k => by
    rw [List.length_cons] at hl
    have h1 := k a acc (List.mem_cons_self ..) (by omega)
    have q := forL_app emb it f as (acc ++ [f a]) (by rw [List.length_append, List.length_singleton]; omega) fun a acc m => k a acc (List.mem_cons_of_mem _ m)
    rw [List.map_cons, forL_cons]
    unfold optR at h1 ⊢
    split at h1
    · cases h1
    · dsimp only
      rw [h1, turnR_nx, q]
      simp
end
end GS
namespace GS
open PySem L2
def wFuel : Nat := 1000000
def mRes (o : D → D → Option Hd) (a b : Option D) (ρ : Rho) : RE := match a, b with
  | some x, some y => (match o x y with
    | some h => .ok h ρ
    | none => .stuck)
  | _, _ => .stuck
def mGo (o : D → D → Option Hd) (fa : EF) (ha : Hd) (d : Option D) (ρ1 : Rho) : RE := match d with
  | some (.str _) => bindE (eSet fa ρ1) fun hb ρ2 => mRes o (getH ρ2 ha) (getH ρ2 hb) ρ2
  | _ => .stuck
/-- x.m(y), x a text -/
def eM1 (o : D → D → Option Hd) (fr fa : EF) : EF := fun ρ => bindE (eSet fr ρ) fun ha ρ1 => mGo o fa ha (getH ρ1 ha) ρ1
section
variable {K : KW} {X : Cx} {C : Ct} {a b : Expr} {ta tb : TE} {fa fb : EF} {apos pos : Pos}
theorem lk_m1 {r : V → List V → Hp → VK → Prop} {o : D → D → Option Hd} (hr : OpL C.K (fun x y H Q => r x [y] H Q) o) (la : LkE C ta fa) (lb : LkE C tb fb) : LkE C (tM1 r ta tb) (eM1 o fa fb) := fun ρ σ B H Q S g => by
  refine la.setBind S g fun ha ρ1 x B1 H1 S1 e1 y1 g1 => ?_
  unfold mGo at g1
  split at g1
  · rename_i z ez
    have tz := S1.tp y1 ez
    refine ⟨⟨z, tz.str⟩, ?_⟩
    refine lb.setBind S1 g1 fun hb ρ2 y B2 H2 S2 e2 y2 g2 => ?_
    unfold mRes at g2
    split at g2
    · rename_i da db ea eb
      split at g2
      · rename_i h eh
        exact hr ρ2 σ B2 H2 x y da db h Q S2 (S2.tp (N := fun _ => True) (HdOk.ext e2 y1) ea) (S2.tp y2 eb) eh g2
      · exact g2.elim
    · exact g2.elim
  · exact g1.elim
def strsD : List D → Option (List Str)
  | [] => some []
  | .str z :: ds => (strsD ds).map (z :: ·)
  | _ :: _ => none
theorem strsD_ok {B : Hp} : ∀ {vs : List V} {ds : List D} {zs : List Str}, RpL K B vs ds → strsD ds = some zs → vs = zs.map V.str
  | _, _, _, .nil, e => by cases e; rfl
  | _, _, _, .cons (d := d) h t, e => by
    cases d with
    | str z =>
      rename_i ds
      obtain ⟨r, h1, rfl⟩ := Option.map_eq_some_iff.mp (show (strsD ds).map (z :: ·) = some _ from e)
      cases h
      rw [strsD_ok t h1]; rfl
    | _ => cases e
def joinOk (a : Str) (ys : List Str) : Bool := Nat.ble ((ys.map (·.length)).sum + ys.length * a.length) 16777216
def joinD : D → D → Option Hd
  | .str a, .list ds => (strsD ds).bind fun ys => if joinOk a ys then some (.sh (.str (Txt.join a ys))) else none
  | .str a, .tuple ds => (strsD ds).bind fun ys => if joinOk a ys then some (.sh (.str (Txt.join a ys))) else none
  | _, _ => none
theorem ol_join : OpL K (fun x y H Q => ∃ a p, ∃ ys : List Str, x = .str a ∧ [y] = [.ref p] ∧ (SqL K H p (ys.map V.str) ∨ SqT K H p (ys.map V.str)) ∧ (ys.map (·.length)).sum + ys.length * a.length ≤ 16777216 ∧ Q (.str (Txt.join a ys)) H) joinD := fun ρ σ B H x y dx dy h Q S tx ty e k => by
  cases dx with
  | str a =>
    rw [tx.str]
    cases dy with
    | list ds =>
      obtain ⟨ys, e1, e2⟩ := Option.bind_eq_some_iff.mp (show (strsD ds).bind _ = some h from e)
      obtain ⟨c, rfl⟩ := if_some e2
      obtain ⟨p, vs, rfl, ha, ra⟩ := ty
      rw [strsD_ok ra e1] at ha
      exact ⟨a, p, ys, rfl, rfl, .inl ha, Nat.le_of_ble_eq_true c, now S (.str _) k⟩
    | tuple ds =>
      obtain ⟨ys, e1, e2⟩ := Option.bind_eq_some_iff.mp (show (strsD ds).bind _ = some h from e)
      obtain ⟨c, rfl⟩ := if_some e2
      obtain ⟨p, vs, rfl, ha, ra⟩ := ty.tup
      rw [strsD_ok ra e1] at ha
      exact ⟨a, p, ys, rfl, rfl, .inr (same_t S.bh ha), Nat.le_of_ble_eq_true c, now S (.str _) k⟩
    | _ => cases (show none = some h from e)
  | _ => cases dy <;> cases (show none = some h from e)
theorem se_join (la : SE X C a ta fa) (lb : SE X C b tb fb) (hk : X.K = C.K := by rfl) (hs : starEach [b] X.env = [(false, eval b X.env)] := by rfl) (hbase : attributeBase a "join" X.env (eval a X.env) = eval a X.env := by rfl) (hline : (apos.endLine == pos.line) = true := by rfl) :
    SE X C (.Call (.Attribute a "join" apos) [b] [] pos) (tM1 (fun x xs H Q => ∃ a p, ∃ ys : List Str, x = .str a ∧ xs = [.ref p] ∧ (SqL C.K H p (ys.map V.str) ∨ SqT C.K H p (ys.map V.str)) ∧ (ys.map (·.length)).sum + ys.length * a.length ≤ 16777216 ∧ Q (.str (Txt.join a ys)) H) ta tb) (eM1 joinD fa fb) :=
  ⟨by rw [← hk]; exact pe_join la.pe lb.pe hs hbase hline, lk_m1 ol_join la.lk lb.lk⟩
def splitD : D → D → Option Hd
  | .str a, .str b => if Nat.ble 1 b.length && Nat.ble (a.length + 2) 16777216 then some (.fr (.list ((Txt.split a b).map .str))) else none
  | _, _ => none
theorem rp_strs {B : Hp} : ∀ zs : List Str, RpL K B (zs.map V.str) (zs.map PyData.str)
  | [] => .nil
  | z :: zs => .cons (.str z) (rp_strs zs)
theorem szl' : sizeLine = 16777216 := by decide +kernel
theorem ol_split : OpL K (fun x y H Q => ∃ a b, x = .str a ∧ [y] = [.str b] ∧ (b.length == 0) = false ∧ a.length + 2 ≤ sizeLine ∧ rNewStrs (Txt.split a b) H Q) splitD := fun ρ σ B H x y dx dy h Q S tx ty e k => by
  cases dx with
  | str a =>
    cases dy with
    | str b =>
      obtain ⟨c, rfl⟩ := if_some (show (if Nat.ble 1 b.length && Nat.ble (a.length + 2) 16777216 then some (.fr (.list ((Txt.split a b).map .str))) else none) = some h from e)
      rw [Bool.and_eq_true] at c
      have c1 := Nat.le_of_ble_eq_true c.1
      have c2 := Nat.le_of_ble_eq_true c.2
      rw [tx.str, ty.str]
      exact ⟨a, b, rfl, rfl, beq_eq_false_iff_ne.mpr (by omega), by rw [szl']; exact c2, newL S (rp_strs _) k⟩
    | _ => cases (show none = some h from e)
  | _ => cases dy <;> cases (show none = some h from e)
theorem se_split (la : SE X C a ta fa) (lb : SE X C b tb fb) (hs : starEach [b] X.env = [(false, eval b X.env)] := by rfl) (hbase : attributeBase a "split" X.env (eval a X.env) = eval a X.env := by rfl) (hline : (apos.endLine == pos.line) = true := by rfl) :
    SE X C (.Call (.Attribute a "split" apos) [b] [] pos) (tM1 (fun x xs H Q => ∃ a b, x = .str a ∧ xs = [.str b] ∧ (b.length == 0) = false ∧ a.length + 2 ≤ sizeLine ∧ rNewStrs (Txt.split a b) H Q) ta tb) (eM1 splitD fa fb) :=
  ⟨pe_split la.pe lb.pe hs hbase hline, lk_m1 ol_split la.lk lb.lk⟩
def intC : D → Option Hd
  | .int i => some (.sh (.int i))
  | .bool k => some (.sh (.int (if k then 1 else 0)))
  | .str a => (PySem.intText? a).bind fun n => if Nat.ble a.length 640 then some (.sh (.int n)) else none
  | _ => none
theorem cr_int : CallR X (.type "int") (fun xs H Q => ((∃ i, xs = [.int i] ∧ Q (.int i) H) ∨ ∃ k, xs = [.bl k] ∧ Q (.int (if k then 1 else 0)) H) ∨ (∃ a n, xs = [.str a] ∧ PySem.intText? a = some n ∧ a.length ≤ 640 ∧ Q (.int n) H)) := CallR.or call_int1 call_int_str
theorem cl_int : CalL K (fun xs H Q => ((∃ i, xs = [.int i] ∧ Q (.int i) H) ∨ ∃ k, xs = [.bl k] ∧ Q (.int (if k then 1 else 0)) H) ∨ (∃ a n, xs = [.str a] ∧ PySem.intText? a = some n ∧ a.length ≤ 640 ∧ Q (.int n) H)) (un1 intC) := CalL.one fun ρ σ B H x d h Q S t e k => by
  cases d with
  | int i => cases e; rw [t.int]; exact .inl (.inl ⟨i, rfl, now S (.int _) k⟩)
  | bool b => cases e; rw [t.bl]; exact .inl (.inr ⟨b, rfl, now S (.int _) k⟩)
  | str a =>
    obtain ⟨n, e1, e2⟩ := Option.bind_eq_some_iff.mp (show (PySem.intText? a).bind _ = some h from e)
    obtain ⟨c, rfl⟩ := if_some e2
    rw [t.str]
    exact .inr ⟨a, n, rfl, e1, Nat.le_of_ble_eq_true c, now S (.int _) k⟩
  | _ => cases (show none = some h from e)
end
end GS
namespace GS
open PySem L2
section
variable {ρ ρ1 : Rho} {c : Prop} [Decidable c]
@[simp] theorem mRes_s (o : D → D → Option Hd) (x y : D) : mRes o (some x) (some y) ρ = resO (o x y) ρ := rfl
@[simp] theorem mGo_s (o : D → D → Option Hd) (fa : EF) (ha : Hd) (z : Str) : mGo o fa ha (some (.str z)) ρ = bindE (eSet fa ρ) fun hb ρ2 => mRes o (getH ρ2 ha) (getH ρ2 hb) ρ2 := rfl
@[simp] theorem eM1_eq (o : D → D → Option Hd) (fr fa : EF) : eM1 o fr fa ρ = bindE (eSet fr ρ) fun ha ρ1 => mGo o fa ha (getH ρ1 ha) ρ1 := rfl
theorem strsD_map (zs : List Str) : strsD (zs.map .str) = some zs := by
  induction zs with
  | nil => rfl
  | cons z zs ih => rw [List.map_cons, strsD, ih]; rfl
theorem joinD_l (a : Str) (ys : List Str) (h : joinOk a ys = true) : joinD (.str a) (.list (ys.map .str)) = some (.sh (.str (Txt.join a ys))) := by
  show (strsD (ys.map .str)).bind _ = _
  rw [strsD_map, Option.bind_some, if_pos h]
theorem splitD_s (a b : Str) (h1 : 1 ≤ b.length) (h2 : a.length + 2 ≤ 16777216) : splitD (.str a) (.str b) = some (.fr (.list ((Txt.split a b).map .str))) := by
  show (if _ then _ else _) = _
  rw [if_pos (by rw [Nat.ble_eq_true_of_le h1, Nat.ble_eq_true_of_le h2]; rfl)]
@[simp] theorem intC_i (i : Int) : intC (.int i) = some (.sh (.int i)) := rfl
@[simp] theorem intC_b (b : Bool) : intC (.bool b) = some (.sh (.int (if b then 1 else 0))) := rfl
end
end GS
namespace GS
open PySem L2 PySem.Spec PyProof.Rows
section
variable {X : Cx} {pins : List (Addr × Obj)} {σ : L2.St} {H : Hp} {s : Shared}
end
section
variable {X : Cx} {x n : Str} {c : Value} {i : Nat} {body suite : List Stmt} {b₀ : Stmt} {np pos pos' : Pos} {R : TS} {ts : TS} {Wout : WX}
end
end GS
namespace GS
open PySem L2
section
variable {K : KW} {ρ ρ1 : Rho} {σ σ1 : St} {B H B1 H1 : Hp}
end
/-- what the written part says of the exception classes ns: they are own ones, and the clause's class c takes those of cs -/
def tryB (K : PySem.W.Frag) (c : Value) (ns cs : List Str) : Bool := ns.all fun n => xcB K (cvK K n) && decide (PySem.W.exmOne K (cvK K n) c = some (cs.contains n))
section
variable {X : Cx} {C : Ct} {x n : Str} {c : Value} {i : Nat} {body suite : List Stmt} {b₀ : Stmt} {np pos pos' : Pos} {ts : TS} {fb fh : SF} {ns cs : List Str}
def tTry (C : Ct) (f : SF) : TS := fun D σ H => ∃ ρ B, Sim C.K ρ σ B H ∧ GoodS C ρ σ B H D (f ρ)
end
end GS
namespace GS
open PySem L2
section
variable {X : Cx} {C : Ct} {e : Expr} {te : TE} {fe : EF} {pos : Pos} {ns cs : List Str}
end
end GS
namespace GS
open PySem L2
/-- what the written part says of G, whose __init__ is ValueError's -/
def giB (K : PySem.W.Frag) (G : Addr) : Bool := decide (PySem.W.specialIn K (.ref G) "__getattribute__" = some (some (.builtin "type.__getattribute__"))) && (PySem.W.readsIn K G (.type "type") && match PySem.W.findCls K (.ref G) (.type "type") "__init__" with
  | some (.val v) => decide (v = .builtin "ValueError.__init__")
  | _ => false)
theorem giB_ok {K : PySem.W.Frag} {G : Addr} (h : giB K G = true) : PySem.W.specialIn K (.ref G) "__getattribute__" = some (some (.builtin "type.__getattribute__")) ∧ PySem.W.readsIn K G (.type "type") = true ∧ PySem.W.findCls K (.ref G) (.type "type") "__init__" = some (.val (.builtin "ValueError.__init__")) := by
  unfold giB at h
  rw [Bool.and_eq_true, Bool.and_eq_true, decide_eq_true_eq] at h
  obtain ⟨h1, h2, h3⟩ := h
  refine ⟨h1, h2, ?_⟩
  split at h3
  · rename_i v e
    rw [e, of_decide_eq_true h3]
  · cases h3
section
variable {X : Cx} {e : Expr} {es : List Expr} {ta : TA} {p1 p2 pos : Pos} {x : Str} {G : Addr}
open PySem.Spec PyProof.Rows in
theorem pe_ginit {pl : Sem Bool} (hgi : giB X.K G = true) (hm : X.mg x = some (.ref G)) (ha : PA X (e :: es) ta) (hg : Gl X x := by rfl) (hdb : (x == ("__debug__" : Str)) = false := by decide)
    (hc : eval (.Call (.Attribute (.Name x p1) "__init__" p2) (e :: es) [] pos) X.env = (do
      let ov ← eval (.Name x p1) X.env
      standAt p2.atName
      let (f, first) ← holding [ov] (getMethod ov "__init__" pl)
      callWith pos f first (backTo pos (starEach (e :: es) X.env)) (backToKw pos (keywordEach [] X.env))) := by rfl)
    (he : starEach (e :: es) X.env = (false, eval e X.env) :: starEach es X.env := by rfl) (hpl : (backTo pos (starEach es X.env)).any (·.1) = false := by rfl) :
    PE X (.Call (.Attribute (.Name x p1) "__init__" p2) (e :: es) [] pos) (tVeI X.K ta) := by
  obtain ⟨h1, h2, h3⟩ := giB_ok hgi
  refine ⟨fun pins s σ H Q I h => ?_⟩
  refine PySem.W.methodCall_KW (ld_glob I hg hm ?_ hdb) hc
  refine PySem.W.method_cls I.kIn h1 (PySem.W.cls_value I.kIn h2 h3 (by decide +kernel) ?_)
  show wpAny _ _ (callWith pos (Value.builtin "ValueError.__init__") [] (backTo pos (starEach (e :: es) X.env)) []) _ _ _
  refine PyProof.Rows.callWith_method1 (thn (ha.run pos pins _ σ H _ (I.tok _) h) fun us s1 ⟨vs, H1, I1, r1, a, C, ws, ev, hl, T, ea, q⟩ => ?_) he hpl
  subst ev
  cases r1 with
  | @cons _ u0 _ ur ra rw' =>
    obtain rfl : u0 = Value.ref a := ra
    have hlen : ur.length ≤ sizeLine := by
      rw [← Paired.length rw', sizeLine_eq]
      omega
    exact oinit_ok T I1 ea hlen fun s' J => ⟨.non, H1, J, rfl, q⟩
end
/-- what an own __init__ that sets the fields fns keeps -/
def spI (K : PySem.W.Frag) (fns : List Str) : Sp := fun vs H Q _ => ∃ (a C : Addr) (ys : List V), vs = .ref a :: ys ∧ ys.length = fns.length ∧ H a = some (exo a C none) ∧ OexC K C ∧ (∀ f ∈ fns, PySem.W.findIn K (.ref C) f = some none) ∧
  ∀ (dx : Addr) (H' : Hp), H dx = none → dx ≠ a → H' a = some (exo a C (some dx)) → H' dx = some (exd dx (fns.zip ys).reverse) → (∀ b, b ≠ a → b ≠ dx → H' b = H b) → Q .non H'
section
variable {P : Program} {w : World} {K : PySem.W.Frag} {mg : Str → Option Value} {base : Heap}
theorem fn_init1 {f qual msg : Str} {st : Stmt} {fI : Addr} {fd : FuncData} {k : Nat} (F : Fun K "__init__" qual st fI fd) (S : FnScope ["self", f] ["self", f] (defScope st))
    (hok : ∀ cdv A outer s H E, PSs (cxOf (L2.CX P w) P w K mg base ["self", f] qual (defScope st) fI cdv A outer s H E) (defBody st) (tSeq (tDrop (tVeI K (tCons (tVar 0) (tCons (tC (.str msg)) tNil)))) (tOst K f (tVar 0) (tVar 1)))) :
    FnOk P w K mg base (L2.CX P w) (k + 1) fI fd ["self", f] (spI K [f]) := by
  refine F.okX S (fun vs H Q E h => ?_) (fun cdv A outer s H vs Q E hr h => ⟨_, hok cdv A outer s H E, ?_⟩)
  · obtain ⟨a, C, ys, rfl, hl, _⟩ := h
    rw [List.length_cons, hl]; rfl
  · obtain ⟨a, C, ys, rfl, hl, ea, T, hno, q⟩ := h
    match ys, hl with
    | [y], _ =>
      refine ⟨.ref a, rfl, a, C, [.str msg], rfl, by rw [List.length_singleton]; omega, T, ea, ?_⟩
      refine ⟨y, rfl, .ref a, rfl, a, C, rfl, T, hno f (List.mem_singleton.mpr rfl), .inl ⟨ea, fun dx n ne => q dx _ n ne upd_same ?_ fun b h1 h2 => ?_⟩⟩
      · rw [upd_ne ne, upd_same]; rfl
      · rw [upd_ne h1, upd_ne h2]
theorem fn_init2 {f1 f2 qual msg : Str} {st : Stmt} {fI : Addr} {fd : FuncData} {k : Nat} (F : Fun K "__init__" qual st fI fd) (S : FnScope ["self", f1, f2] ["self", f1, f2] (defScope st))
    (hok : ∀ cdv A outer s H E, PSs (cxOf (L2.CX P w) P w K mg base ["self", f1, f2] qual (defScope st) fI cdv A outer s H E) (defBody st) (tSeq (tDrop (tVeI K (tCons (tVar 0) (tCons (tC (.str msg)) tNil)))) (tSeq (tOst K f1 (tVar 0) (tVar 1)) (tOst K f2 (tVar 0) (tVar 2))))) :
    FnOk P w K mg base (L2.CX P w) (k + 1) fI fd ["self", f1, f2] (spI K [f1, f2]) := by
  refine F.okX S (fun vs H Q E h => ?_) (fun cdv A outer s H vs Q E hr h => ⟨_, hok cdv A outer s H E, ?_⟩)
  · obtain ⟨a, C, ys, rfl, hl, _⟩ := h
    rw [List.length_cons, hl]; rfl
  · obtain ⟨a, C, ys, rfl, hl, ea, T, hno, q⟩ := h
    match ys, hl with
    | [y, z], _ =>
      refine ⟨.ref a, rfl, a, C, [.str msg], rfl, by rw [List.length_singleton]; omega, T, ea, ?_⟩
      refine ⟨y, rfl, .ref a, rfl, a, C, rfl, T, hno f1 (by simp), .inl ⟨ea, fun dx n ne => ?_⟩⟩
      refine ⟨z, rfl, .ref a, rfl, a, C, rfl, T, hno f2 (by simp), .inr ⟨dx, [(f1, y)], upd_same, by rw [upd_ne ne, upd_same], by rw [List.length_singleton]; omega, q dx _ n ne ?_ ?_ fun b h1 h2 => ?_⟩⟩
      · rw [upd_ne (Ne.symm ne), upd_same]
      · rw [upd_same]; rfl
      · rw [upd_ne h2, upd_ne h1, upd_ne h2]
end
end GS
namespace GS
open PySem L2
abbrev spFv (K : KW) (n : Nat) (F : FF) : Sp := spF K (cvK K) n F
/-- the __init__ as a row of the table: it says only that there is room for it -/
def iniF (k : Nat) : FF := fun _ => if k < 2 then .stuck else .ok (.sh .none) []
/-- .. and what stands behind the row -/
def IniOk (P : Program) (w : World) (K : PySem.W.Frag) (mg : Str → Option Value) (base : Heap) (k : Nat) (fI : Addr) (fd : FuncData) (fns : List Str) (F : FF) : Prop := F [] = .stuck ∨ ∃ k', k = k' + 1 ∧ FnOk P w K mg base (L2.CX P w) k' fI fd ("self" :: fns) (spI K fns)
/-- what the written part says of a class C with its own __init__ at fI -/
def oeB (K : PySem.W.Frag) (C fI : Addr) (fns : List Str) : Bool := decide (PySem.W.findIn K (.ref C) "__setattr__" = some (some (.builtin "object.__setattr__"))) && (decide (PySem.W.subIn K (.ref C) (.type "BaseException") = some true) && (decide (PySem.W.typeIn K (.ref C) = some (.type "type")) &&
  (PySem.W.keepIn K (.ref C) && (decide (PySem.W.findIn K (.ref C) "__init__" = some (some (.ref fI))) && (decide (PySem.W.typeIn K (.ref fI) = some (.type "function")) && fns.all fun f => decide (PySem.W.findIn K (.ref C) f = some none))))))
theorem oeB_ok {K : PySem.W.Frag} {C fI : Addr} {fns : List Str} (h : oeB K C fI fns = true) : PySem.W.findIn K (.ref C) "__setattr__" = some (some (.builtin "object.__setattr__")) ∧ PySem.W.subIn K (.ref C) (.type "BaseException") = some true ∧ PySem.W.typeIn K (.ref C) = some (.type "type") ∧
    PySem.W.keepIn K (.ref C) = true ∧ PySem.W.findIn K (.ref C) "__init__" = some (some (.ref fI)) ∧ PySem.W.typeIn K (.ref fI) = some (.type "function") ∧ ∀ f ∈ fns, PySem.W.findIn K (.ref C) f = some none := by
  unfold oeB at h
  simp only [Bool.and_eq_true, decide_eq_true_eq] at h
  obtain ⟨h1, h2, h3, h4, h5, h6, h7⟩ := h
  exact ⟨h1, h2, h3, h4, h5, h6, fun f hf => of_decide_eq_true (List.all_eq_true.mp h7 f hf)⟩
def sRaise (F : FF) (c : Str) (fns : List Str) (fa : AF) : SF := fun ρ => match F [] with
  | .stuck => .stuck
  | _ => match fa ρ with
    | .stuck => .stuck
    | .exc x ρ1 => .exc x ρ1
    | .ok hs ρ1 => match shs hs with
      | some ds => if ds.length = fns.length ∧ ds.length ≤ 1000 then .exc ⟨c, (fns.zip ds).reverse⟩ ρ1 else .stuck
      | none => .stuck
theorem zip_fst {α β : Type} : ∀ (l : List α) (m : List β), l.length = m.length → (l.zip m).map (·.1) = l
  | [], [], _ => rfl
  | [], _ :: _, h => by cases h
  | _ :: _, [], h => by cases h
  | a :: l, b :: m, h => by
    rw [List.zip_cons_cons, List.map_cons, zip_fst l m (by simpa using h)]
theorem zip_snd {α β : Type} : ∀ (l : List α) (m : List β), l.length = m.length → (l.zip m).map (·.2) = m
  | [], [], _ => rfl
  | [], _ :: _, h => by cases h
  | _ :: _, [], h => by cases h
  | a :: l, b :: m, h => by
    rw [List.zip_cons_cons, List.map_cons, zip_snd l m (by simpa using h)]
section
variable {X : Cx} {C : Ct} {e : Expr} {es : List Expr} {ta : TA} {fa : AF} {p pos pos' : Pos} {x : Str} {fns : List Str}
def tRse (W : WX) (A : Addr) (K : PySem.W.Frag) (fns : List Str) (ta : TA) : TS := fun _ σ H => tMkO A (spI K fns) [] ta σ H fun cls d H' => W cls d σ H'
theorem lk_raise {F : FF} {A fI : Addr} (T : OexC C.K A) (hob : oeB C.K A fI fns = true) (hcx : C.cv x = .ref A) (hF : F [] ≠ .stuck) (l : LkA C ta fa) : LkS C (tRse C.W A C.K fns ta) (sRaise F x fns fa) := fun ρ σ B H D S g => by
  obtain ⟨_, _, _, _, _, _, hno⟩ := oeB_ok hob
  unfold sRaise at g
  have g : GoodS C ρ σ B H D (match fa ρ with
    | .stuck => .stuck
    | .exc x ρ1 => .exc x ρ1
    | .ok hs ρ1 => match shs hs with
      | some ds => if ds.length = fns.length ∧ ds.length ≤ 1000 then .exc ⟨x, (fns.zip ds).reverse⟩ ρ1 else .stuck
      | none => .stuck) := by
    cases eF : F [] with
    | stuck => exact absurd eF hF
    | ok h r => rw [eF] at g; exact g
    | exc y r => rw [eF] at g; exact g
  refine l ρ σ B H _ S ?_
  cases ea : fa ρ with
  | stuck => rw [ea] at g; exact g
  | exc y ρ1 => rw [ea] at g; exact fun cls d B' H' s z => g cls d σ B' H' s z
  | ok hs ρ1 =>
    rw [ea] at g
    dsimp only at g
    intro vs B1 H1 S1 x1 y1
    split at g
    · rename_i ds eds
      split at g
      · rename_i hl
        have r := shs_ok y1 eds
        have hvl : vs.length = fns.length := by rw [r.length]; exact hl.1
        refine ⟨by rw [r.length]; exact hl.2, fun a na => ⟨a, A, vs, by rw [List.append_nil], hvl, upd_same, T, hno, fun dx H' ndx ne e1 e2 e3 => ⟨rfl, dx, _, e1, e2, ?_, ?_⟩⟩⟩
        · rw [upd_ne ne] at ndx; exact ndx
        · rw [upd_ne ne] at ndx
          have eH : upd (del H' a) dx (.xd (fns.zip vs).reverse) = upd H1 dx (.xd (fns.zip vs).reverse) := by
            funext b
            by_cases hb : b = dx
            · rw [hb, upd_same, upd_same]
            · rw [upd_ne hb, upd_ne hb]
              by_cases hb2 : b = a
              · rw [hb2, del_same, na]
              · rw [del_ne hb2, e3 b hb2 hb, upd_ne hb2]
          rw [eH]
          obtain ⟨S2, x2⟩ := S1.newB ndx (.xd (fns.zip vs).reverse)
          refine g (.ref A) (some dx) σ _ _ S2 (x1.trans x2) ⟨hcx.symm, .inr ⟨dx, _, rfl, upd_same, ?_, ?_⟩⟩
          · show ((fns.zip vs).reverse).map (·.1) = ((fns.zip ds).reverse).map (·.1)
            rw [List.map_reverse, List.map_reverse, zip_fst _ _ hvl.symm, zip_fst _ _ hl.1.symm]
          · show RpL C.K _ (((fns.zip vs).reverse).map (·.2)) (((fns.zip ds).reverse).map (·.2))
            rw [List.map_reverse, List.map_reverse, zip_snd _ _ hvl.symm, zip_snd _ _ hl.1.symm]
            exact (r.mono x2.bb).reverse
      · exact g.elim
    · exact g.elim
theorem ss_sem {st : Stmt} {f : SF} (h : ∃ t, SS X C st t f) : SS X C st (tTry C f) f := by
  obtain ⟨t, ht⟩ := h
  refine ⟨⟨fun pins s σ H D I q => ?_⟩, fun ρ σ B H D S g => ⟨ρ, B, S, g⟩⟩
  obtain ⟨ρ, B, S, g⟩ := q
  exact ht.ps.run pins s σ H D I (ht.lk ρ σ B H D S g)
theorem ss_raise0 {F : FF} {A fI : Addr} {fd : FuncData} {k : Nat} (hi : IniOk X.prog X.w X.K X.mg X.base k fI fd fns F) (T : OexC C.K A) (hob : oeB C.K A fI fns = true) (hcx : C.cv x = .ref A) (hm : X.mg x = some (.ref A)) (hb : Binds X.K fd ("self" :: fns) []) (hr : Room k X.A) (tk : Takes X C.W) (hc : X.calm = true) (l : SA X C (e :: es) ta fa)
    (hk : X.K = C.K := by rfl) (hg : Gl X x := by rfl) (hdb : (x == ("__debug__" : Str)) = false := by decide) (he : starEach (e :: es) X.env = (false, eval e X.env) :: starEach es X.env := by rfl) (hpl : (backTo pos (starEach es X.env)).any (·.1) = false := by rfl) :
    ∃ t, SS X C (.Raise (some (.Call (.Name x p) (e :: es) [] pos)) none pos') t (sRaise F x fns fa) := by
  rcases hi with hi | ⟨k', rfl, FO⟩
  · refine ⟨fun _ _ _ => False, ⟨fun pins s σ H D I h => h.elim⟩, fun ρ σ B H D S g => ?_⟩
    unfold sRaise at g
    rw [hi] at g
    exact g
  · by_cases hF : F [] = .stuck
    · refine ⟨fun _ _ _ => False, ⟨fun pins s σ H D I h => h.elim⟩, fun ρ σ B H D S g => ?_⟩
      unfold sRaise at g
      rw [hF] at g
      exact g
    · obtain ⟨h1, h2, h3, h4, h5, h6, h7⟩ := oeB_ok hob
      refine ⟨_, ps_raise hc tk (pmk_oex (sp := spI C.K fns) (dvs := []) (ds := []) (by rw [hk]; exact T) (by rw [hk]; exact h5) (by rw [hk]; exact h6) (by rw [← hk]; exact FO) hr hb .nil (passes_call tk fun _ _ _ _ z => z.elim) hg hm l.pa hdb he hpl), lk_raise T hob hcx hF l.lk⟩
theorem ss_raise {F : FF} {A fI : Addr} {fd : FuncData} {k : Nat} (hi : IniOk X.prog X.w X.K X.mg X.base k fI fd fns F) (T : OexC C.K A) (hob : oeB C.K A fI fns = true) (hcx : C.cv x = .ref A) (hm : X.mg x = some (.ref A)) (hb : Binds X.K fd ("self" :: fns) []) (hr : Room k X.A) (tk : Takes X C.W) (hc : X.calm = true) (l : SA X C (e :: es) ta fa)
    (hk : X.K = C.K := by rfl) (hg : Gl X x := by rfl) (hdb : (x == ("__debug__" : Str)) = false := by decide) (he : starEach (e :: es) X.env = (false, eval e X.env) :: starEach es X.env := by rfl) (hpl : (backTo pos (starEach es X.env)).any (·.1) = false := by rfl) :
    SS X C (.Raise (some (.Call (.Name x p) (e :: es) [] pos)) none pos') (tTry C (sRaise F x fns fa)) (sRaise F x fns fa) := ss_sem (ss_raise0 hi T hob hcx hm hb hr tk hc l hk hg hdb he hpl)
end
end GS
namespace GS
open PySem L2 PySem.Spec PyProof.Rows
end GS
namespace GS
open PySem L2
section
variable {ρ ρ1 : Rho} {c : Prop} [Decidable c]
@[simp] theorem bindBS_ok' (d : D) (b : Bool) (k : Bool → Rho → RS) (h : d = .bool b) : bindBS (.ok (.sh d) ρ) k = k b ρ := by subst h; rfl
@[simp] theorem bindI_ex (x : Xc) (k : List D → Rho → RS) : bindI (.exc x ρ) k = .exc x ρ := rfl
@[simp] theorem bindIE_ex (x : Xc) (k : List D → Rho → RE) : bindIE (.exc x ρ) k = .exc x ρ := rfl
@[simp] theorem consA_ex (h : Hd) (x : Xc) : consA h (.exc x ρ) = .exc x ρ := rfl
/-- a class of exceptions that is raised -/
def Raises (F : FF) : Prop := F [] ≠ .stuck
theorem raises_ini {k : Nat} (h : 2 ≤ k) : Raises (iniF k) := by
  unfold Raises iniF
  rw [if_neg (by omega)]
  exact RE.noConfusion
def raD (x : Str) (fns : List Str) (d : Option (List D)) (ρ : Rho) : RS := match d with
  | some ds => if ds.length = fns.length ∧ ds.length ≤ 1000 then .exc ⟨x, (fns.zip ds).reverse⟩ ρ else .stuck
  | none => .stuck
def raA (x : Str) (fns : List Str) (r : RA) : RS := match r with
  | .stuck => .stuck
  | .exc y ρ1 => .exc y ρ1
  | .ok hs ρ1 => raD x fns (shs hs) ρ1
@[simp] theorem raA_ok (x : Str) (fns : List Str) (hs : List Hd) : raA x fns (.ok hs ρ) = raD x fns (shs hs) ρ := rfl
@[simp] theorem raA_ex (x : Str) (fns : List Str) (y : Xc) : raA x fns (.exc y ρ) = .exc y ρ := rfl
@[simp] theorem raD_s (x : Str) (fns : List Str) (ds : List D) : raD x fns (some ds) ρ = if ds.length = fns.length ∧ ds.length ≤ 1000 then .exc ⟨x, (fns.zip ds).reverse⟩ ρ else .stuck := rfl
theorem sRaise_eq {F : FF} (h : Raises F) (x : Str) (fns : List Str) (fa : AF) : sRaise F x fns fa ρ = raA x fns (fa ρ) := by
  unfold sRaise
  cases e : F [] with
  | stuck => exact absurd e h
  | ok _ _ => dsimp only; unfold raA raD; rfl
  | exc _ _ => dsimp only; unfold raA raD; rfl
end
end GS
namespace GM
open PySem L2 GS
end GM
namespace GM
open PySem L2 GS
end GM
namespace GM
open PySem L2 GS
/-- kids_of(tree); slots 0:tree -/
def m_kids_of : SF := (sEnd (sRet (eIf (eB (eBin (eqB false) (eBin ixA (eVb 0) (eC (.int 0))) (eC (.str (Str.ofString "knot"))))) (eBin ixA (eVb 0) (eC (.int 3))) (eTup aNil))))
theorem m_kids_of_eq (ρ : Rho) : fnF 1 1 (m_kids_of) ρ = finR 1 (m_kids_of (ρ ++ [])) := fnF_eq 1 1 _
/-- places(tree); slots 0:tree 1:found 2:k 3:kid 4:place -/
def m_places_b1 (F_kids_of F_places : FF) : SF := (sKill [4] (sApp 1 (eBin addD (eTup (aCons (eMv 2) aNil)) (eVb 4))))
def m_places_b2 (F_kids_of F_places : FF) : SF := (sKill [2, 3, 4] (sFor (iSq (eCall 1 none F_places (aCons (eMv 3) aNil))) (gN 4) (m_places_b1 F_kids_of F_places)))
def m_places (F_kids_of F_places : FF) : SF := (sSeq (sSet 1 (eLst (aCons (eTup aNil) aNil))) (sSeq (sFor (iEn (eCall 1 none F_kids_of (aCons (eMv 0) aNil))) (gT 2 (gsC (gN 2) (gsC (gN 3) gsN))) (m_places_b2 F_kids_of F_places)) (sEnd (sRet (eRv 1)))))
theorem m_places_eq (F_kids_of F_places : FF) (ρ : Rho) : fnF 5 1 (m_places F_kids_of F_places) ρ = finR 1 (m_places F_kids_of F_places (ρ ++ [none, none, none, none])) := fnF_eq 5 1 _
/-- feet_of(tree); slots 0:tree 1:pieces 2:place 3:piece -/
def m_feet_of_ct1 (F_places F_piece_at : FF) : EF := (eB (eBin (eqB false) (eBin ixA (eVb 3) (eC (.int 0))) (eC (.str (Str.ofString "foot")))))
def m_feet_of_ce2 (F_places F_piece_at : FF) : EF := (eBin ixA (eVb 3) (eC (.int 1)))
def m_feet_of_ce3 (F_places F_piece_at : FF) : EF := (eCall 2 none F_piece_at (aCons (eMv 0) (aCons (eMv 2) aNil)))
def m_feet_of (F_places F_piece_at : FF) : SF := (sSeq (sSet 1 (eLc [2] (iSq (eCall 1 none F_places (aCons (eMv 0) aNil))) (gN 2) (eNox eYes) (eNox (m_feet_of_ce3 F_places F_piece_at)))) (sEnd (sRet (eLc [3] (iSq (eMv 1)) (gN 3) (eNox (m_feet_of_ct1 F_places F_piece_at)) (eNox (m_feet_of_ce2 F_places F_piece_at))))))
theorem m_feet_of_eq (F_places F_piece_at : FF) (ρ : Rho) : fnF 4 1 (m_feet_of F_places F_piece_at) ρ = finR 1 (m_feet_of F_places F_piece_at (ρ ++ [none, none, none])) := fnF_eq 4 1 _
/-- is_graft(tree); slots 0:tree -/
def m_is_graft (F_feet_of : FF) : SF := (sEnd (sRet (eBin (eqB false) (eCB (un1 lenD) (aCons (eCall 1 none F_feet_of (aCons (eMv 0) aNil)) aNil)) (eC (.int 1)))))
theorem m_is_graft_eq (F_feet_of : FF) (ρ : Rho) : fnF 1 1 (m_is_graft F_feet_of) ρ = finR 1 (m_is_graft F_feet_of (ρ ++ [])) := fnF_eq 1 1 _
/-- name_of(tree); slots 0:tree 1:feet -/
def m_name_of (F_feet_of : FF) : SF := (sSeq (sSet 1 (eCall 1 none F_feet_of (aCons (eMv 0) aNil))) (sEnd (sRet (eIf (eB (eBin (eqB false) (eCB (un1 lenD) (aCons (eVb 1) aNil)) (eC (.int 1)))) (eBin ixA (eVb 1) (eC (.int 0))) (eBin ixA (eVb 0) (eC (.int 1)))))))
theorem m_name_of_eq (F_feet_of : FF) (ρ : Rho) : fnF 2 1 (m_name_of F_feet_of) ρ = finR 1 (m_name_of F_feet_of (ρ ++ [none])) := fnF_eq 2 1 _
end GM
namespace GM
open PySem L2 GS
def Tr.kids : Tr → List Tr
  | .knot _ _ ks => ks
  | _ => []
def Tr.isKnot : Tr → Bool
  | .knot _ _ _ => true
  | _ => false
mutual
def Tr.pieces : Tr → List Tr
  | .knot n tk ks => .knot n tk ks :: Tr.piecesL ks
  | t => [t]
def Tr.piecesL : List Tr → List Tr
  | [] => []
  | t :: ts => t.pieces ++ Tr.piecesL ts
end
mutual
def Tr.places : Tr → List (List Nat)
  | .knot _ _ ks => [] :: Tr.placesL 0 ks
  | _ => [[]]
def Tr.placesL : Nat → List Tr → List (List Nat)
  | _, [] => []
  | k, t :: ts => t.places.map (k :: ·) ++ Tr.placesL (k + 1) ts
end
def Tr.at : Tr → List Nat → Option Tr
  | t, [] => some t
  | t, k :: p => (t.kids[k]?).bind fun u => u.at p
def encP (p : List Nat) : D := .tuple (p.map fun n : Nat => PyData.int (n : Int))
theorem piecesL_flat (ts : List Tr) : Tr.piecesL ts = ts.flatMap Tr.pieces := by
  induction ts with
  | nil => rfl
  | cons t ts ih => rw [Tr.piecesL, ih, List.flatMap_cons]
theorem pieces_kids (t : Tr) : t.pieces = t :: t.kids.flatMap Tr.pieces := by
  cases t <;> simp [Tr.pieces, Tr.kids, piecesL_flat]
theorem places_kids (t : Tr) : t.places = [] :: Tr.placesL 0 t.kids := by
  cases t <;> simp [Tr.places, Tr.kids, Tr.placesL]
theorem ht_kids {t k : Tr} (h : k ∈ t.kids) : k.ht + 1 ≤ t.ht := by
  cases t with
  | knot n tk ks => have := ht_mem (show k ∈ ks from h); rw [Tr.ht]; omega
  | _ => cases h
theorem placesL_snoc (t : Tr) : ∀ (k : Nat) (ts : List Tr), Tr.placesL k (ts ++ [t]) = Tr.placesL k ts ++ t.places.map ((k + ts.length) :: ·)
  | k, [] => by simp [Tr.placesL]
  | k, u :: ts => by
    rw [List.cons_append, Tr.placesL, Tr.placesL, placesL_snoc t (k + 1) ts, List.append_assoc, List.length_cons]
    rw [show k + 1 + ts.length = k + (ts.length + 1) by omega]
mutual
theorem places_len : ∀ t : Tr, t.places.length = t.pieces.length
  | .sign _ => rfl
  | .void => rfl
  | .hole _ => rfl
  | .foot _ => rfl
  | .knot _ _ ks => by rw [Tr.places, Tr.pieces, List.length_cons, List.length_cons, placesL_len ks 0]
theorem placesL_len : ∀ (ts : List Tr) (k : Nat), (Tr.placesL k ts).length = (Tr.piecesL ts).length
  | [], _ => rfl
  | t :: ts, k => by rw [Tr.placesL, Tr.piecesL, List.length_append, List.length_append, List.length_map, places_len t, placesL_len ts (k + 1)]
end
theorem pieces_kid_le {t k : Tr} (h : k ∈ t.kids) : k.pieces.length ≤ t.pieces.length := by
  rw [pieces_kids t, List.length_cons]
  have : ∀ ts : List Tr, k ∈ ts → k.pieces.length ≤ (ts.flatMap Tr.pieces).length := by
    intro ts
    induction ts with
    | nil => intro m; cases m
    | cons u ts ih =>
      intro m
      rw [List.flatMap_cons, List.length_append]
      cases m with
      | head => omega
      | tail _ m => have := ih m; omega
  have := this _ h
  omega
mutual
theorem place_len : ∀ (t : Tr) (p : List Nat), p ∈ t.places → p.length ≤ t.ht
  | .sign _, p, m => by simp [Tr.places] at m; subst m; simp
  | .void, p, m => by simp [Tr.places] at m; subst m; simp
  | .hole _, p, m => by simp [Tr.places] at m; subst m; simp
  | .foot _, p, m => by simp [Tr.places] at m; subst m; simp
  | .knot n tk ks, p, m => by
    rw [Tr.places] at m
    rw [Tr.ht]
    rcases List.mem_cons.mp m with rfl | m
    · simp
    · exact placeL_len ks 0 p m
theorem placeL_len : ∀ (ts : List Tr) (k : Nat) (p : List Nat), p ∈ Tr.placesL k ts → p.length ≤ Tr.htL ts + 1
  | [], _, p, m => by cases m
  | t :: ts, k, p, m => by
    rw [Tr.placesL] at m
    rw [Tr.htL]
    rcases List.mem_append.mp m with m | m
    · obtain ⟨q, hq, rfl⟩ := List.mem_map.mp m
      have := place_len t q hq
      rw [List.length_cons]; omega
    · have := placeL_len ts (k + 1) p m
      omega
end
mutual
theorem at_places : ∀ t : Tr, t.places.map t.at = t.pieces.map some
  | .sign _ => rfl
  | .void => rfl
  | .hole _ => rfl
  | .foot _ => rfl
  | .knot n tk ks => by
    rw [Tr.places, Tr.pieces, List.map_cons, List.map_cons]
    congr 1
    exact at_placesL ks [] n tk ks rfl
theorem at_placesL : ∀ (ts pre : List Tr) (n : Str) (tk : Option (Str × Bool)) (ks : List Tr), pre ++ ts = ks → (Tr.placesL pre.length ts).map (Tr.knot n tk ks).at = (Tr.piecesL ts).map some
  | [], _, _, _, _, _ => rfl
  | t :: ts, pre, n, tk, ks, e => by
    rw [Tr.placesL, Tr.piecesL, List.map_append, List.map_append]
    have h1 := at_placesL ts (pre ++ [t]) n tk ks (by rw [List.append_assoc]; exact e)
    rw [List.length_append, List.length_singleton] at h1
    rw [h1, List.map_map]
    congr 1
    rw [← at_places t]
    apply List.map_congr_left
    intro p _
    show (Tr.at (.knot n tk ks) (pre.length :: p)) = t.at p
    rw [Tr.at, Tr.kids, ← e, List.getElem?_append_right (Nat.le_refl _), Nat.sub_self]
    rfl
end
theorem enc_word (t : Tr) : ∃ w r, t.enc = .tuple (.str w :: r) := by cases t <;> exact ⟨_, _, rfl⟩
def KidsSp (F : FF) : Prop := ∀ t : Tr, F [some ⟨t.enc, .sh⟩] = .ok (.sh (.tuple (t.kids.map Tr.enc))) [none]
theorem kids_of_ok : KidsSp (fnF 1 1 m_kids_of) := fun t => by
  rw [m_kids_of_eq]
  cases t <;> simp [m_kids_of, Tr.enc, Tr.kids, encL_map]
def PlacesSp (n : Nat) (F : FF) : Prop := ∀ t : Tr, t.ht ≤ n → t.pieces.length ≤ 100000 → F [some ⟨t.enc, .sh⟩] = .ok (.fr (.list (t.places.map encP))) [none]
theorem places_ok {n : Nat} {Fk Fp : FF} (hk : KidsSp Fk) (hn : n ≤ 1000) (hp : ∀ m, m + 1 = n → PlacesSp m Fp) : PlacesSp n (fnF 5 1 (m_places Fk Fp)) := fun t ht hz => by
  rw [m_places_eq]
  have ek := hk t
  have hpl := places_kids t
  have lpl := places_len t
  -- one kid's places
  have inner : ∀ (kid : Tr) (i : Nat) (acc : List D), kid.ht ≤ 1000 → acc.length + kid.places.length ≤ sizeLine → forL (gN 4) (m_places_b1 Fk Fp) (kid.places.map encP) [some ⟨t.enc, .sh⟩, some ⟨.list acc, .ow⟩, some ⟨.int i, .sh⟩, some ⟨kid.enc, .sh⟩, none] = .nx [some ⟨t.enc, .sh⟩, some ⟨.list (acc ++ kid.places.map fun p => encP (i :: p)), .ow⟩, some ⟨.int i, .sh⟩, some ⟨kid.enc, .sh⟩, none] := fun kid i acc hh ha => by
    refine forL_app (fun acc => [some ⟨t.enc, .sh⟩, some ⟨.list acc, .ow⟩, some ⟨.int i, .sh⟩, some ⟨kid.enc, .sh⟩, none]) encP (fun p => encP (i :: p)) kid.places acc ha fun p acc m hacc => ?_
    have hpz : 1 + p.length ≤ sizeLine := fits (by have := place_len kid p m; omega)
    simp [m_places_b1, encP, hacc, hpz]
  obtain ⟨ps, hf, hps⟩ := forL_by (S := List (List Nat)) (g := gT 2 (gsC (gN 2) (gsC (gN 3) gsN))) (b := m_places_b2 Fk Fp) (fun ps => [some ⟨t.enc, .sh⟩, some ⟨.list (ps.map encP), .ow⟩, none, none, none])
    (fun pre ps => ps = [] :: Tr.placesL 0 (t.kids.take pre.length)) (enD (t.kids.map Tr.enc)) [[]] (by simp [Tr.placesL]) (fun pre d post ps hd hps => by
      obtain ⟨x, hx, rfl⟩ := enD_mid hd
      rw [List.getElem?_map] at hx
      obtain ⟨kid, hkid, rfl⟩ := Option.map_eq_some_iff.mp hx
      have mk : kid ∈ t.kids := List.mem_of_getElem? hkid
      have h1 := ht_kids mk
      have h2 := hp (n - 1) (by omega) kid (by omega) (by have := pieces_kid_le mk; omega)
      have htk : t.kids.take (pre.length + 1) = t.kids.take pre.length ++ [kid] := by
        rw [List.take_succ, hkid]; rfl
      refine ⟨ps ++ kid.places.map (pre.length :: ·), ?_, ?_⟩
      · have hl : (ps.map encP).length + kid.places.length ≤ sizeLine := by
          rw [List.length_map, hps]
          have e := placesL_snoc kid 0 (t.kids.take pre.length)
          rw [← htk] at e
          have e2 := congrArg List.length e
          rw [List.length_append, List.length_map] at e2
          have e3 : (Tr.placesL 0 (t.kids.take (pre.length + 1))).length ≤ (Tr.placesL 0 t.kids).length := by
            rw [placesL_len, placesL_len, piecesL_flat, piecesL_flat]
            conv => rhs; rw [← List.take_append_drop (pre.length + 1) t.kids, List.flatMap_append, List.length_append]
            omega
          rw [hpl, List.length_cons] at lpl
          rw [List.length_cons]
          exact fits (by omega)
        have hi := inner kid pre.length (ps.map encP) (by omega) hl
        simp [m_places_b2, h2, hi]
      · rw [hps, List.length_append, List.length_singleton, htk, placesL_snoc, List.length_take]
        have : pre.length < t.kids.length := (List.getElem?_eq_some_iff.mp hkid).1
        simp
        intro p _
        omega)
  rw [enD_len, List.length_map, List.take_length] at hps
  rw [← hpl] at hps
  subst hps
  have hf' : forL (gT 2 (gsC (gN 2) (gsC (gN 3) gsN))) (m_places_b2 Fk Fp) (enD (t.kids.map Tr.enc)) [some ⟨t.enc, .sh⟩, some ⟨.list [.tuple []], .ow⟩, none, none, none] = _ := hf
  simp [m_places, ek, hf']
theorem at_snoc (t : Tr) : ∀ (p : List Nat) (k : Nat), t.at (p ++ [k]) = (t.at p).bind fun u => u.kids[k]?
  | [], k => by simp [Tr.at]
  | j :: p, k => by
    rw [List.cons_append, Tr.at, Tr.at]
    cases h : t.kids[j]? with
    | none => rfl
    | some u => simp [at_snoc u p k]
theorem at_pre {t : Tr} {p q : List Nat} {u : Tr} (h : t.at (p ++ q) = some u) : ∃ v, t.at p = some v := by
  induction p generalizing t with
  | nil => exact ⟨t, rfl⟩
  | cons j p ih =>
    rw [List.cons_append, Tr.at] at h
    rw [Tr.at]
    cases hk : t.kids[j]? with
    | none => rw [hk] at h; cases h
    | some v => rw [hk] at h; exact ih h
def PieceSp (F : FF) : Prop := ∀ (t : Tr) (p : List Nat) (u : Tr), t.at p = some u → F [some ⟨t.enc, .sh⟩, some ⟨encP p, .sh⟩] = .ok (.sh u.enc) [none, none]
def Tr.footN : Tr → Option Str
  | .foot n => some n
  | _ => none
def Tr.feet (t : Tr) : List Str := t.pieces.filterMap Tr.footN
def FeetSp (n : Nat) (F : FF) : Prop := ∀ t : Tr, t.ht ≤ n → t.pieces.length ≤ 100000 → F [some ⟨t.enc, .sh⟩] = .ok (.fr (.list (t.feet.map .str))) [none]
/-- the pieces by the places -/
theorem place_piece (t : Tr) : ∃ f : List Nat → Tr, (∀ p ∈ t.places, t.at p = some (f p)) ∧ t.places.map f = t.pieces := by
  have h := at_places t
  refine ⟨fun p => (t.at p).getD default, ?_, ?_⟩
  · intro p m
    have : t.at p ∈ t.pieces.map some := by rw [← h]; exact List.mem_map_of_mem m
    obtain ⟨u, _, e⟩ := List.mem_map.mp this
    show t.at p = some ((t.at p).getD default)
    rw [← e]; rfl
  · have h2 : (t.places.map t.at).map (fun o => o.getD default) = t.pieces := by
      rw [h, List.map_map]
      have : ((fun o : Option Tr => o.getD default) ∘ some) = id := rfl
      rw [this, List.map_id]
    rw [List.map_map] at h2
    exact h2
theorem feet_of_ok {n : Nat} {Fp Fa : FF} (hp : PlacesSp n Fp) (ha : PieceSp Fa) : FeetSp n (fnF 4 1 (m_feet_of Fp Fa)) := fun t ht hz => by
  rw [m_feet_of_eq]
  have ep := hp t ht hz
  obtain ⟨f, hf1, hf2⟩ := place_piece t
  have lp := places_len t
  have h1 := lcL_all (vs := [2]) (g := gN 2) (fe := eNox (m_feet_of_ce3 Fp Fa)) [some ⟨t.enc, .sh⟩, none, none, none] encP (fun p => [some ⟨t.enc, .sh⟩, none, some ⟨encP p, .sh⟩, none]) (fun p => (f p).enc) t.places [] (fits (by simp; omega)) (fun p m => by
    have e := ha t p (f p) (hf1 p m)
    simp [m_feet_of_ce3, e])
  rw [List.nil_append, show (t.places.map fun p => (f p).enc) = t.pieces.map Tr.enc by rw [← hf2, List.map_map]; rfl] at h1
  have h2 := lcL_up (vs := [3]) (g := gN 3) (ft := eNox (m_feet_of_ct1 Fp Fa)) (fe := eNox (m_feet_of_ce2 Fp Fa)) [some ⟨t.enc, .sh⟩, some ⟨.list (t.pieces.map Tr.enc), .sh⟩, none, none] Tr.enc (fun u => [some ⟨t.enc, .sh⟩, some ⟨.list (t.pieces.map Tr.enc), .sh⟩, none, some ⟨u.enc, .sh⟩]) (fun u => u.footN.isSome) (fun u => .str (u.footN.getD default)) t.pieces [] (fits (by simp; omega)) (fun u _ => by
    cases u <;> simp [m_feet_of_ct1, m_feet_of_ce2, Tr.enc, Tr.footN])
  have h3 : (t.pieces.filter fun u => u.footN.isSome).map (fun u => PyData.str (u.footN.getD default)) = t.feet.map .str := by
    unfold Tr.feet
    generalize t.pieces = us
    induction us with
    | nil => rfl
    | cons u us ih =>
      rw [List.filter_cons, List.filterMap_cons]
      cases hu : u.footN with
      | none => simpa using ih
      | some z => simp only [Option.isSome_some, if_true, List.map_cons, hu, Option.getD_some, ih]
  rw [List.nil_append, h3] at h2
  simp [m_feet_of, ep, h1, h2]
def GraftSp (n : Nat) (F : FF) : Prop := ∀ t : Tr, t.ht ≤ n → t.pieces.length ≤ 100000 → F [some ⟨t.enc, .sh⟩] = .ok (.sh (.bool (decide (t.feet.length = 1)))) [none]
theorem is_graft_ok {n : Nat} {Ff : FF} (hf : FeetSp n Ff) : GraftSp n (fnF 1 1 (m_is_graft Ff)) := fun t ht hz => by
  rw [m_is_graft_eq]
  have e := hf t ht hz
  simp [m_is_graft, e]
  omega
def Tr.word : Tr → Str
  | .knot n _ _ => n
  | .foot n => n
  | .hole n => n
  | .sign s => s
  | .void => default
/-- the name of a start or a graft -/
def Tr.name (t : Tr) : Str := match t.feet with
  | [n] => n
  | _ => t.word
def NameOfSp (n : Nat) (F : FF) : Prop := ∀ t : Tr, t.ht ≤ n → t.pieces.length ≤ 100000 → t ≠ .void → F [some ⟨t.enc, .sh⟩] = .ok (.sh (.str t.name)) [none]
theorem name_of_ok {n : Nat} {Ff : FF} (hf : FeetSp n Ff) : NameOfSp n (fnF 2 1 (m_name_of Ff)) := fun t ht hz hv => by
  rw [m_name_of_eq]
  have e := hf t ht hz
  have ew : ixA t.enc (.int 1) = some (.sh (.str t.word)) := by
    cases t <;> first | exact absurd rfl hv | simp [Tr.enc, Tr.word]
  unfold Tr.name
  cases hq : t.feet with
  | nil => rw [hq] at e; simp [m_name_of, e, ew]
  | cons a r =>
    rw [hq] at e
    cases r with
    | nil => simp [m_name_of, e]
    | cons b r =>
      have z : ¬ ((r.length : Int) + 1 + 1 = 1) := by omega
      simp [m_name_of, e, ew, z]
theorem pick2 {P : D → Prop} {a b : D} (c : Int) (h1 : P a) (h2 : P b) : P (pick [a, b] (c % 2)) := by
  have := pick_mem (xs := [a, b]) (c := c) (n := 2) (by decide) rfl
  simp only [List.mem_cons, List.not_mem_nil, or_false] at this
  rcases this with e | e <;> rw [e] <;> assumption
theorem pick3 {P : D → Prop} {a b d : D} (c : Int) (h1 : P a) (h2 : P b) (h3 : P d) : P (pick [a, b, d] (c % 3)) := by
  have := pick_mem (xs := [a, b, d]) (c := c) (n := 3) (by decide) rfl
  simp only [List.mem_cons, List.not_mem_nil, or_false] at this
  rcases this with e | e | e <;> rw [e] <;> assumption
theorem pick4 {P : D → Prop} {a b d f : D} (c : Int) (h1 : P a) (h2 : P b) (h3 : P d) (h4 : P f) : P (pick [a, b, d, f] (c % 4)) := by
  have := pick_mem (xs := [a, b, d, f]) (c := c) (n := 4) (by decide) rfl
  simp only [List.mem_cons, List.not_mem_nil, or_false] at this
  rcases this with e | e | e | e <;> rw [e] <;> assumption
def Tr.signN : Tr → Option Str
  | .sign n => some n
  | _ => none
def Tr.signs (t : Tr) : List Str := t.pieces.filterMap Tr.signN
theorem feet_knot (n : Str) (tk : Option (Str × Bool)) (ks : List Tr) : (Tr.knot n tk ks).feet = ks.flatMap Tr.feet := by
  unfold Tr.feet
  rw [Tr.pieces, piecesL_flat, List.filterMap_cons]
  show List.filterMap _ _ = _
  induction ks with
  | nil => rfl
  | cons k ks ih => rw [List.flatMap_cons, List.flatMap_cons, List.filterMap_append, ih]
theorem signs_knot (n : Str) (tk : Option (Str × Bool)) (ks : List Tr) : (Tr.knot n tk ks).signs = ks.flatMap Tr.signs := by
  unfold Tr.signs
  rw [Tr.pieces, piecesL_flat, List.filterMap_cons]
  show List.filterMap _ _ = _
  induction ks with
  | nil => rfl
  | cons k ks ih => rw [List.flatMap_cons, List.flatMap_cons, List.filterMap_append, ih]
theorem pieces_knot (n : Str) (tk : Option (Str × Bool)) (ks : List Tr) : (Tr.knot n tk ks).pieces.length = (ks.flatMap Tr.pieces).length + 1 := by
  rw [Tr.pieces, piecesL_flat, List.length_cons]
theorem flat_le {f : Tr → List Tr} {n : Nat} : ∀ ks : List Tr, (∀ k ∈ ks, (f k).length ≤ n) → (ks.flatMap f).length ≤ ks.length * n
  | [], _ => by simp
  | k :: ks, h => by
    have h1 := h k (by simp)
    have h2 := flat_le ks fun k m => h k (by simp [m])
    rw [List.flatMap_cons, List.length_append, List.length_cons, Nat.succ_mul]
    omega
end GM
namespace GM
open PySem L2 GS
/-- wanted(piece); slots 0:piece -/
def m_wanted : SF := (sSeq (sIf (eB (eBin (eqB false) (eBin ixA (eVb 0) (eC (.int 0))) (eC (.str (Str.ofString "hole"))))) (sEnd (sRet (eTup (aCons (eC (.bool false)) (aCons (eBin ixA (eVb 0) (eC (.int 1))) (aCons (eC (.bool true)) aNil)))))) sNil) (sSeq (sIf (eAnd (eB (eBin (eqB false) (eBin ixA (eVb 0) (eC (.int 0))) (eC (.str (Str.ofString "knot"))))) (eB (eBin (isD true) (eBin ixA (eVb 0) (eC (.int 2))) (eC .none)))) (sEnd (sRet (eTup (aCons (eC (.bool true)) (aCons (eBin ixA (eBin ixA (eVb 0) (eC (.int 2))) (eC (.int 0))) (aCons (eBin ixA (eBin ixA (eVb 0) (eC (.int 2))) (eC (.int 1))) aNil)))))) sNil) (sRet (eC .none))))
theorem m_wanted_eq (ρ : Rho) : fnF 1 1 (m_wanted) ρ = finR 1 (m_wanted (ρ ++ [])) := fnF_eq 1 1 _
/-- takers(book, piece); slots 0:book 1:piece 2:want 3:key 4:tree -/
def m_takers_ct1 (F_name_of F_is_graft F_wanted : FF) : EF := (eAnd (eB (eBin (eqB false) (eCall 1 none F_is_graft (aCons (eMv 4) aNil)) (eBin ixA (eVb 2) (eC (.int 0))))) (eB (eBin (eqB false) (eCall 1 none F_name_of (aCons (eMv 4) aNil)) (eBin ixA (eVb 2) (eC (.int 1))))))
def m_takers_ce2 (F_name_of F_is_graft F_wanted : FF) : EF := (eMv 3)
def m_takers (F_name_of F_is_graft F_wanted : FF) : SF := (sSeq (sSet 2 (eCall 1 none F_wanted (aCons (eMv 1) aNil))) (sSeq (sIf (eB (eBin (isD false) (eVb 2) (eC .none))) (sEnd (sRet (eLst aNil))) sNil) (sEnd (sRet (eLc [3, 4] (iSq (eBin ixA (eVb 0) (eC (.int 1)))) (gT 2 (gsC (gN 3) (gsC (gN 4) gsN))) (eNox (m_takers_ct1 F_name_of F_is_graft F_wanted)) (eNox (m_takers_ce2 F_name_of F_is_graft F_wanted)))))))
theorem m_takers_eq (F_name_of F_is_graft F_wanted : FF) (ρ : Rho) : fnF 5 2 (m_takers F_name_of F_is_graft F_wanted) ρ = finR 2 (m_takers F_name_of F_is_graft F_wanted (ρ ++ [none, none, none])) := fnF_eq 5 2 _
end GM
namespace GM
open PySem L2 GS
structure Bk where
  top : Str
  trees : List (Str × Tr)
def encKT (p : Str × Tr) : D := .tuple [.str p.1, p.2.enc]
def Bk.enc (b : Bk) : D := .tuple [.str b.top, .tuple (b.trees.map encKT)]
theorem ix_top (b : Bk) : ixA b.enc (.int 0) = some (.sh (.str b.top)) := by simp [Bk.enc]
theorem ix_trees (b : Bk) : ixA b.enc (.int 1) = some (.sh (.tuple (b.trees.map encKT))) := by simp [Bk.enc]
def Bk.treeOf (b : Bk) (key : Str) : Option Tr := b.trees.foldl (fun acc p => if p.1 = key then some p.2 else acc) none
theorem treeOf_mem {b : Bk} (hn : (b.trees.map (·.1)).Nodup) {p : Str × Tr} (m : p ∈ b.trees) : b.treeOf p.1 = some p.2 := by
  unfold Bk.treeOf
  obtain ⟨l, r, e⟩ := List.append_of_mem m
  rw [e] at hn ⊢
  rw [List.foldl_append, List.foldl_cons, if_pos rfl]
  have hr : ∀ q ∈ r, q.1 ≠ p.1 := by
    rw [List.map_append, List.map_cons, List.nodup_append] at hn
    have := (List.nodup_cons.mp hn.2.1).1
    intro q mq eq
    exact this (by rw [← eq]; exact List.mem_map_of_mem mq)
  have : ∀ (qs : List (Str × Tr)) (acc : Option Tr), (∀ q ∈ qs, q.1 ≠ p.1) → qs.foldl (fun acc q => if q.1 = p.1 then some q.2 else acc) acc = acc := by
    intro qs
    induction qs with
    | nil => intros; rfl
    | cons q qs ih => intro acc h; rw [List.foldl_cons, if_neg (h q (by simp)), ih acc fun q m => h q (by simp [m])]
  exact this r _ hr
def Tr.want : Tr → Option (Bool × Str × Bool)
  | .hole n => some (false, n, true)
  | .knot _ (some (m, b)) _ => some (true, m, b)
  | _ => none
def encW : Option (Bool × Str × Bool) → D
  | none => .none
  | some (g, n, b) => .tuple [.bool g, .str n, .bool b]
def WantSp (F : FF) : Prop := ∀ t : Tr, F [some ⟨t.enc, .sh⟩] = .ok (.sh (encW t.want)) [none]
theorem wanted_ok : WantSp (fnF 1 1 m_wanted) := fun t => by
  rw [m_wanted_eq]
  cases t with
  | knot n tk ks =>
    cases tk with
    | none => simp [m_wanted, Tr.enc, Tr.want, encTk, encW]
    | some p => simp [m_wanted, Tr.enc, Tr.want, encTk, encW]
  | _ => simp [m_wanted, Tr.enc, Tr.want, encW]
def Tr.isGraft (t : Tr) : Bool := decide (t.feet.length = 1)
def Bk.takers (b : Bk) (u : Tr) : List Str := match u.want with
  | none => []
  | some (g, n, _) => (b.trees.filter fun p => decide (p.2.isGraft = g) && decide (p.2.name = n)).map (·.1)
structure BkOk (n : Nat) (b : Bk) : Prop where
  len : b.trees.length ≤ 1000
  ht : ∀ p ∈ b.trees, p.2.ht ≤ n
  sz : ∀ p ∈ b.trees, p.2.pieces.length ≤ 100000
  nv : ∀ p ∈ b.trees, p.2 ≠ .void
def TakersSp (n : Nat) (F : FF) : Prop := ∀ (b : Bk) (u : Tr), BkOk n b → F [some ⟨b.enc, .sh⟩, some ⟨u.enc, .sh⟩] = .ok (.fr (.list ((b.takers u).map .str))) [none, none]
theorem takers_ok {n : Nat} {Fn Fg Fw : FF} (hn : NameOfSp n Fn) (hg : GraftSp n Fg) (hw : WantSp Fw) : TakersSp n (fnF 5 2 (m_takers Fn Fg Fw)) := fun b u hb => by
  rw [m_takers_eq]
  have ew := hw u
  unfold Bk.takers
  cases hq : u.want with
  | none => rw [hq] at ew; simp [m_takers, ew, encW]
  | some w =>
    obtain ⟨g, nm, mu⟩ := w
    rw [hq] at ew
    have h := lcL_up (vs := [3, 4]) (g := gT 2 (gsC (gN 3) (gsC (gN 4) gsN))) (ft := eNox (m_takers_ct1 Fn Fg Fw)) (fe := eNox (m_takers_ce2 Fn Fg Fw)) [some ⟨b.enc, .sh⟩, some ⟨u.enc, .sh⟩, some ⟨.tuple [.bool g, .str nm, .bool mu], .sh⟩, none, none] encKT
      (fun p => [some ⟨b.enc, .sh⟩, some ⟨u.enc, .sh⟩, some ⟨.tuple [.bool g, .str nm, .bool mu], .sh⟩, some ⟨.str p.1, .sh⟩, some ⟨p.2.enc, .sh⟩]) (fun p => decide (p.2.isGraft = g) && decide (p.2.name = nm)) (fun p => .str p.1) b.trees [] (fits (by have := hb.len; simp; omega)) (fun p m => by
        have e1 := hn p.2 (hb.ht p m) (hb.sz p m) (hb.nv p m)
        have e2 := hg p.2 (hb.ht p m) (hb.sz p m)
        change _ = RE.ok (Hd.sh (.bool p.2.isGraft)) _ at e2
        cases q1 : p.2.isGraft <;> cases g <;> by_cases q2 : p.2.name = nm <;> rw [q1] at e2 <;> simp [m_takers_ct1, m_takers_ce2, encKT, e1, e2, q1, q2])
    rw [List.nil_append] at h
    simp [m_takers, ew, encW, ix_trees, h]
mutual
theorem eqv_refl : ∀ d : D, cleanB d = true → PyData.eqv d d = true
  | .none, _ => rfl
  | .bool b, _ => by simp [PyData.eqv]
  | .int i, _ => by simp [PyData.eqv]
  | .str x, _ => by simp [PyData.eqv]
  | .list ds, h => by rw [PyData.eqv]; exact eqvAll_refl ds (by rw [cleanB] at h; exact h)
  | .tuple ds, h => by rw [PyData.eqv]; exact eqvAll_refl ds (by rw [cleanB] at h; exact h)
  | .dict _, h => by cases h
theorem eqvAll_refl : ∀ ds : List D, cleanL ds = true → PyData.eqvAll ds ds = true
  | [], _ => rfl
  | d :: ds, h => by
    rw [cleanL, Bool.and_eq_true] at h
    rw [PyData.eqvAll, eqv_refl d h.1, eqvAll_refl ds h.2]; rfl
end
theorem eqB_same {d : D} (neg : Bool) (h : cleanB d = true) (hd : d.depth ≤ 190) : eqB neg d d = some (.sh (.bool (!neg))) := by
  rw [eqB_of neg (okW_of h hd) (okW_of h hd), eqv_refl d h]
  cases neg <;> rfl
theorem strs_clean {ks : List Str} (h : ∀ k ∈ ks, PyData.strOk k = true) : cleanB (.list (ks.map .str)) = true ∧ (PyData.list (ks.map .str)).depth ≤ 190 := by
  refine ⟨?_, ?_⟩
  · rw [cleanB]
    refine cleanL_of fun d m => ?_
    obtain ⟨k, mk, rfl⟩ := List.mem_map.mp m
    exact h k mk
  · rw [PyData.depth]
    have := depthAll_of (ds := ks.map PyData.str) (n := 0) fun d m => by
      obtain ⟨k, mk, rfl⟩ := List.mem_map.mp m
      rw [PyData.depth]; omega
    omega
end GM
namespace GM
open PySem L2 GS
/-- takes_words(takes); slots 0:takes -/
def m_takes_words : SF := (sSeq (sIf (eB (eBin (isD false) (eVb 0) (eC .none))) (sEnd (sRet (eLst aNil))) sNil) (sEnd (sRet (eIf (eB (eBin ixA (eVb 0) (eC (.int 1)))) (eLst (aCons (eBin addD (eC (.str (Str.ofString "!"))) (eBin ixA (eVb 0) (eC (.int 0)))) aNil)) (eLst (aCons (eBin addD (eC (.str (Str.ofString "?"))) (eBin ixA (eVb 0) (eC (.int 0)))) aNil))))))
theorem m_takes_words_eq (ρ : Rho) : fnF 1 1 (m_takes_words) ρ = finR 1 (m_takes_words (ρ ++ [])) := fnF_eq 1 1 _
/-- tree_words(tree); slots 0:tree 1:words 2:kid -/
def m_tree_words_b1 (F_tree_words F_takes_words : FF) : SF := (sKill [2] (sSet 1 (eBin addD (eVb 1) (eCall 1 none F_tree_words (aCons (eMv 2) aNil)))))
def m_tree_words (F_tree_words F_takes_words : FF) : SF := (sSeq (sIf (eB (eBin (eqB false) (eBin ixA (eVb 0) (eC (.int 0))) (eC (.str (Str.ofString "sign"))))) (sEnd (sRet (eLst (aCons (eBin ixA (eVb 0) (eC (.int 1))) aNil)))) sNil) (sSeq (sIf (eB (eBin (eqB false) (eBin ixA (eVb 0) (eC (.int 0))) (eC (.str (Str.ofString "void"))))) (sEnd (sRet (eLst (aCons (eC (.str (Str.ofString "-"))) aNil)))) sNil) (sSeq (sIf (eB (eBin (eqB false) (eBin ixA (eVb 0) (eC (.int 0))) (eC (.str (Str.ofString "hole"))))) (sEnd (sRet (eLst (aCons (eBin addD (eC (.str (Str.ofString "+"))) (eBin ixA (eVb 0) (eC (.int 1)))) aNil)))) sNil) (sSeq (sIf (eB (eBin (eqB false) (eBin ixA (eVb 0) (eC (.int 0))) (eC (.str (Str.ofString "foot"))))) (sEnd (sRet (eLst (aCons (eBin addD (eC (.str (Str.ofString "*"))) (eBin ixA (eVb 0) (eC (.int 1)))) aNil)))) sNil) (sSeq (sSet 1 (eBin addD (eLst (aCons (eC (.str (Str.ofString "["))) (aCons (eBin ixA (eVb 0) (eC (.int 1))) aNil))) (eCall 1 none F_takes_words (aCons (eBin ixA (eVb 0) (eC (.int 2))) aNil)))) (sSeq (sFor (iSq (eBin ixA (eVb 0) (eC (.int 3)))) (gN 2) (m_tree_words_b1 F_tree_words F_takes_words)) (sEnd (sRet (eBin addD (eVb 1) (eLst (aCons (eC (.str (Str.ofString "]"))) aNil)))))))))))
theorem m_tree_words_eq (F_tree_words F_takes_words : FF) (ρ : Rho) : fnF 3 1 (m_tree_words F_tree_words F_takes_words) ρ = finR 1 (m_tree_words F_tree_words F_takes_words (ρ ++ [none, none])) := fnF_eq 3 1 _
/-- tree_text(tree); slots 0:tree -/
def m_tree_text (F_tree_words : FF) : SF := (sEnd (sRet (eM1 joinD (eC (.str (Str.ofString " "))) (eCall 1 none F_tree_words (aCons (eMv 0) aNil)))))
theorem m_tree_text_eq (F_tree_words : FF) (ρ : Rho) : fnF 1 1 (m_tree_text F_tree_words) ρ = finR 1 (m_tree_text F_tree_words (ρ ++ [])) := fnF_eq 1 1 _
end GM
namespace GM
open PySem L2 GS
def tkW : Option (Str × Bool) → List Str
  | none => []
  | some (m, b) => [Str.ofString (if b then "!" else "?") ++ m]
mutual
def Tr.words : Tr → List Str
  | .sign s => [s]
  | .void => [Str.ofString "-"]
  | .hole n => [Str.ofString "+" ++ n]
  | .foot n => [Str.ofString "*" ++ n]
  | .knot n tk ks => Str.ofString "[" :: n :: (tkW tk ++ (Tr.wordsL ks ++ [Str.ofString "]"]))
def Tr.wordsL : List Tr → List Str
  | [] => []
  | t :: ts => t.words ++ Tr.wordsL ts
end
theorem wordsL_flat (ts : List Tr) : Tr.wordsL ts = ts.flatMap Tr.words := by
  induction ts with
  | nil => rfl
  | cons t ts ih => rw [Tr.wordsL, ih, List.flatMap_cons]
mutual
theorem words_len : ∀ t : Tr, t.words.length ≤ 4 * t.pieces.length
  | .sign _ => by simp [Tr.words, Tr.pieces]
  | .void => by simp [Tr.words, Tr.pieces]
  | .hole _ => by simp [Tr.words, Tr.pieces]
  | .foot _ => by simp [Tr.words, Tr.pieces]
  | .knot n tk ks => by
    have h := wordsL_len ks
    have h2 : (tkW tk).length ≤ 1 := by cases tk <;> simp [tkW]
    simp only [Tr.words, Tr.pieces, List.length_cons, List.length_append, List.length_nil]
    omega
theorem wordsL_len : ∀ ts : List Tr, (Tr.wordsL ts).length ≤ 4 * (Tr.piecesL ts).length
  | [] => by simp [Tr.wordsL]
  | t :: ts => by
    have h1 := words_len t
    have h2 := wordsL_len ts
    simp only [Tr.wordsL, Tr.piecesL, List.length_append]
    omega
end
def WordsTk (F : FF) : Prop := ∀ tk : Option (Str × Bool), okTk tk = true → F [some ⟨encTk tk, .sh⟩] = .ok (.fr (.list ((tkW tk).map .str))) [none]
theorem l1 (w : String) (h : w.toList.length = 1) (n : Str) (hn : n.length ≤ 100000) : (Str.ofString w).length + n.length ≤ sizeLine := fits (by rw [ofS_len, h]; omega)
theorem takes_words_ok : WordsTk (fnF 1 1 m_takes_words) := fun tk ok => by
  rw [m_takes_words_eq]
  cases tk with
  | none => simp [m_takes_words, encTk, tkW]
  | some p =>
    obtain ⟨m, b⟩ := p
    have hm := nameB_len (show nameB m = true from ok)
    have z1 := l1 "!" rfl m (by omega)
    have z2 := l1 "?" rfl m (by omega)
    cases b <;> simp [m_takes_words, encTk, tkW, z1, z2]
def WordsTr (n : Nat) (F : FF) : Prop := ∀ t : Tr, t.ok = true → t.ht ≤ n → t.pieces.length ≤ 100000 → F [some ⟨t.enc, .sh⟩] = .ok (.fr (.list (t.words.map .str))) [none]
theorem flat_take_words (ks : List Tr) (i : Nat) : ((ks.take i).flatMap Tr.words).length ≤ (ks.flatMap Tr.words).length := by
  conv => rhs; rw [← List.take_append_drop i ks, List.flatMap_append, List.length_append]
  omega
theorem knot_parts {n : Str} {tk : Option (Str × Bool)} {ks : List Tr} (h : (Tr.knot n tk ks).ok = true) : nameB n = true ∧ okTk tk = true ∧ 1 ≤ ks.length ∧ ks.length ≤ 8 ∧ ∀ k ∈ ks, k.ok = true := by
  rw [Tr.ok] at h
  simp only [Bool.and_eq_true, decide_eq_true_eq] at h
  exact ⟨h.1, h.2.1, h.2.2.1, h.2.2.2.1, okL_mem h.2.2.2.2⟩
theorem enc_knot (n : Str) (tk : Option (Str × Bool)) (ks : List Tr) : Tr.enc (.knot n tk ks) = .tuple [.str (Str.ofString "knot"), .str n, encTk tk, .tuple (ks.map Tr.enc)] := by rw [Tr.enc, encL_map]
theorem map_mid {α : Type} {f : α → D} {xs : List α} {pre post : List D} {d : D} (h : xs.map f = pre ++ d :: post) : ∃ x, xs[pre.length]? = some x ∧ d = f x := by
  have h2 : (xs.map f)[pre.length]? = some d := by rw [h, List.getElem?_append_right (Nat.le_refl _), Nat.sub_self]; rfl
  rw [List.getElem?_map] at h2
  obtain ⟨k, h3, h4⟩ := Option.map_eq_some_iff.mp h2
  exact ⟨k, h3, h4.symm⟩
theorem tree_words_ok {n : Nat} {Fw Ft : FF} (ht : WordsTk Ft) (hw : ∀ m, m + 1 = n → WordsTr m Fw) : WordsTr n (fnF 3 1 (m_tree_words Fw Ft)) := fun t ok hh hz => by
  rw [m_tree_words_eq]
  cases t with
  | knot nm tk ks =>
    obtain ⟨o1, o2, o3, o4, o5⟩ := knot_parts ok
    have e1 := ht tk o2
    rw [Tr.ht] at hh
    have hwl := words_len (.knot nm tk ks)
    rw [Tr.words, wordsL_flat] at hwl
    simp only [List.length_cons, List.length_append, List.length_nil] at hwl
    have hpk := pieces_kids (.knot nm tk ks)
    obtain ⟨ws, hf, hws⟩ := forL_by (S := List Str) (g := gN 2) (b := m_tree_words_b1 Fw Ft) (fun ws => [some ⟨Tr.enc (.knot nm tk ks), .sh⟩, some ⟨.list (ws.map .str), .ow⟩, none])
      (fun pre ws => ws = Str.ofString "[" :: nm :: (tkW tk ++ (ks.take pre.length).flatMap Tr.words)) (ks.map Tr.enc) (Str.ofString "[" :: nm :: tkW tk) (by simp) (fun pre d post ws hd hws => by
        obtain ⟨k, hk, rfl⟩ := map_mid hd
        have mk : k ∈ ks := List.mem_of_getElem? hk
        have h1 := ht_mem mk
        have h2 := pieces_kid_le (t := .knot nm tk ks) mk
        have e := hw (n - 1) (by omega) k (o5 k mk) (by omega) (by omega)
        have htk : ks.take (pre.length + 1) = ks.take pre.length ++ [k] := by rw [List.take_succ, hk]; rfl
        have hle := flat_take_words ks (pre.length + 1)
        rw [htk, List.flatMap_append, List.length_append] at hle
        simp only [List.flatMap_cons, List.flatMap_nil, List.append_nil] at hle
        have z : ws.length + k.words.length ≤ sizeLine := by
          rw [hws]
          simp only [List.length_cons, List.length_append]
          exact fits (by omega)
        refine ⟨ws ++ k.words, ?_, ?_⟩
        · simp [m_tree_words_b1, e, z]
        · rw [hws, List.length_append, List.length_singleton, htk, List.flatMap_append]
          simp)
    rw [List.length_map, List.take_length] at hws
    subst hws
    rw [Tr.words, wordsL_flat]
    rw [enc_knot] at hf ⊢
    have z1 : 2 + (tkW tk).length ≤ sizeLine := fits (by omega)
    have z2 : (tkW tk).length + (ks.flatMap Tr.words).length + 1 + 1 + 1 ≤ sizeLine := fits (by omega)
    simp only [List.map_cons, List.map_append] at hf
    simp [m_tree_words, e1, z1, hf]
    intro h
    simp at z2
    omega
  | hole nm =>
    have := nameB_len (show nameB nm = true from ok)
    have z := l1 "+" rfl nm (by omega)
    simp [m_tree_words, Tr.enc, Tr.words, z]
  | foot nm =>
    have := nameB_len (show nameB nm = true from ok)
    have z := l1 "*" rfl nm (by omega)
    simp [m_tree_words, Tr.enc, Tr.words, z]
  | _ => simp [m_tree_words, Tr.enc, Tr.words]
end GM
namespace GM
open PySem L2 GS
/-- leaf_of(word); slots 0:word -/
def m_leaf_of (F_is_name F_is_sign : FF) : SF := (sSeq (sIf (eB (eBin (eqB false) (eVb 0) (eC (.str (Str.ofString "-"))))) (sEnd (sRet (eTup (aCons (eC (.str (Str.ofString "void"))) aNil)))) sNil) (sSeq (sIf (eB (eCall 1 none F_is_sign (aCons (eMv 0) aNil))) (sEnd (sRet (eTup (aCons (eC (.str (Str.ofString "sign"))) (aCons (eMv 0) aNil))))) sNil) (sSeq (sIf (eAnd (eB (eBin (eqB false) (eSl (eVb 0) none (some (eC (.int 1)))) (eC (.str (Str.ofString "+"))))) (eB (eCall 1 none F_is_name (aCons (eSl (eVb 0) (some (eC (.int 1))) none) aNil)))) (sEnd (sRet (eTup (aCons (eC (.str (Str.ofString "hole"))) (aCons (eSl (eVb 0) (some (eC (.int 1))) none) aNil))))) sNil) (sSeq (sIf (eAnd (eB (eBin (eqB false) (eSl (eVb 0) none (some (eC (.int 1)))) (eC (.str (Str.ofString "*"))))) (eB (eCall 1 none F_is_name (aCons (eSl (eVb 0) (some (eC (.int 1))) none) aNil)))) (sEnd (sRet (eTup (aCons (eC (.str (Str.ofString "foot"))) (aCons (eSl (eVb 0) (some (eC (.int 1))) none) aNil))))) sNil) (sRet (eC .none))))))
theorem m_leaf_of_eq (F_is_name F_is_sign : FF) (ρ : Rho) : fnF 1 1 (m_leaf_of F_is_name F_is_sign) ρ = finR 1 (m_leaf_of F_is_name F_is_sign (ρ ++ [])) := fnF_eq 1 1 _
/-- take_takes(words, at); slots 0:words 1:at 2:word -/
def m_take_takes (F_is_name F_word_at : FF) : SF := (sSeq (sSet 2 (eCall 2 none F_word_at (aCons (eMv 0) (aCons (eMv 1) aNil)))) (sSeq (sIf (eAnd (eB (eBin (inB false) (eSl (eVb 2) none (some (eC (.int 1)))) (eTup (aCons (eC (.str (Str.ofString "!"))) (aCons (eC (.str (Str.ofString "?"))) aNil))))) (eB (eCall 1 none F_is_name (aCons (eSl (eVb 2) (some (eC (.int 1))) none) aNil)))) (sEnd (sRet (eTup (aCons (eTup (aCons (eSl (eVb 2) (some (eC (.int 1))) none) (aCons (eBin (eqB false) (eBin ixA (eVb 2) (eC (.int 0))) (eC (.str (Str.ofString "!")))) aNil))) (aCons (eBin addD (eVb 1) (eC (.int 1))) aNil))))) sNil) (sEnd (sRet (eTup (aCons (eC .none) (aCons (eMv 1) aNil)))))))
theorem m_take_takes_eq (F_is_name F_word_at : FF) (ρ : Rho) : fnF 3 2 (m_take_takes F_is_name F_word_at) ρ = finR 2 (m_take_takes F_is_name F_word_at (ρ ++ [none])) := fnF_eq 3 2 _
end GM
namespace GM
open PySem L2 GS
/-- the first sign of a word -/
def hdC (w : Str) : Option Nat := w.cps.toList.head?
theorem hd_app (x : String) (c : Nat) (hx : (Str.ofString x).cps.toList = [c]) (n : Str) : hdC (Str.ofString x ++ n) = some c := by
  unfold hdC; rw [app_cps, hx]; rfl
theorem sign_hd {s : Str} (h : signB s = true) : ∃ c, hdC s = some c ∧ c ∈ SML.cps.toList := by
  have hl := signB_len h
  have hm := signB_mem h
  unfold hdC
  cases hc : s.cps.toList with
  | nil => rw [len_eq, hc] at hl; simp at hl
  | cons a as => exact ⟨a, rfl, hm a (by rw [hc]; simp)⟩
theorem name_hd {s : Str} (h : nameB s = true) : ∃ c, hdC s = some c ∧ c ∈ GRT.cps.toList := by
  unfold nameB at h
  unfold hdC
  cases hc : s.cps.toList with
  | nil => rw [hc] at h; cases h
  | cons a as =>
    rw [hc] at h
    simp only [nameL, Bool.and_eq_true, decide_eq_true_eq] at h
    exact ⟨a, rfl, by simpa using h.1.2⟩
theorem not_sign {w : Str} {c : Nat} (h : hdC w = some c) (hc : c ∉ SML.cps.toList) : signB w = false := by
  cases hq : signB w with
  | false => rfl
  | true =>
    obtain ⟨c', h1, h2⟩ := sign_hd hq
    rw [h] at h1
    cases h1
    exact absurd h2 hc
theorem one_ne {c : Nat} (x : String) (d : Nat) (hx : (Str.ofString x).cps.toList = [d]) (h : c ≠ d) : ¬ ((⟨#[c]⟩ : Str) = Str.ofString x) := fun e => by
  have := congrArg (fun z : Str => z.cps.toList) e
  rw [hx] at this
  simp at this
  exact h this
theorem cpP : (Str.ofString "+").cps.toList = [43] := by decide +kernel
theorem cpA : (Str.ofString "*").cps.toList = [42] := by decide +kernel
theorem cpM : (Str.ofString "-").cps.toList = [45] := by decide +kernel
theorem cpO : (Str.ofString "[").cps.toList = [91] := by decide +kernel
theorem cpC : (Str.ofString "]").cps.toList = [93] := by decide +kernel
theorem cpB : (Str.ofString "!").cps.toList = [33] := by decide +kernel
theorem cpQ : (Str.ofString "?").cps.toList = [63] := by decide +kernel
theorem smlR : ∀ c ∈ SML.cps.toList, 97 ≤ c ∧ c ≤ 122 := by decide +kernel
theorem grtR : ∀ c ∈ GRT.cps.toList, 65 ≤ c ∧ c ≤ 90 := by decide +kernel
theorem figR : ∀ c ∈ FIG.cps.toList, 48 ≤ c ∧ c ≤ 57 := by decide +kernel
theorem hd_ne {w : Str} {c d : Nat} {x : String} (h : hdC w = some c) (hx : (Str.ofString x).cps.toList = [d]) (hn : c ≠ d) : ¬ w = Str.ofString x := fun e => by
  unfold hdC at h
  rw [e, hx] at h
  cases h
  exact hn rfl
theorem drop_get {W : List Str} {i : Nat} {w : Str} {r : List Str} (h : W.drop i = w :: r) : W[i]? = some w := by
  have : (W.drop i)[0]? = some w := by rw [h]; rfl
  rw [List.getElem?_drop] at this
  simpa using this
theorem drop_next {W : List Str} {i : Nat} {a r : List Str} (h : W.drop i = a ++ r) : W.drop (i + a.length) = r := by
  rw [← List.drop_drop, h, List.drop_left]
/-- how a tree's words begin -/
theorem words_hd {t : Tr} (ok : t.ok = true) : ∃ w r c, t.words = w :: r ∧ hdC w = some c ∧ c ≠ 33 ∧ c ≠ 63 ∧ c ≠ 93 ∧ w.length ≤ 1000 := by
  cases t with
  | sign s =>
    obtain ⟨c, h1, h2⟩ := sign_hd (show signB s = true from ok)
    have r := smlR c h2
    have l := signB_len (show signB s = true from ok)
    exact ⟨s, [], c, rfl, h1, by omega, by omega, by omega, by omega⟩
  | void => exact ⟨_, [], 45, rfl, by unfold hdC; rw [cpM]; rfl, by decide, by decide, by decide, by rw [ofS_len]; decide⟩
  | hole n =>
    have l := nameB_len (show nameB n = true from ok)
    exact ⟨_, [], 43, rfl, hd_app "+" 43 cpP n, by decide, by decide, by decide, by rw [app_len, ofS_len]; simp; omega⟩
  | foot n =>
    have l := nameB_len (show nameB n = true from ok)
    exact ⟨_, [], 42, rfl, hd_app "*" 42 cpA n, by decide, by decide, by decide, by rw [app_len, ofS_len]; simp; omega⟩
  | knot n tk ks => exact ⟨_, _, 91, rfl, by unfold hdC; rw [cpO]; rfl, by decide, by decide, by decide, by rw [ofS_len]; decide⟩
theorem leaf_ne {t : Tr} {w : Str} (ok : t.ok = true) (hk : t.isKnot = false) (hw : t.words = [w]) : ¬ w = Str.ofString "[" := by
  cases t with
  | sign s =>
    simp [Tr.words] at hw
    subst hw
    obtain ⟨c, q1, q2⟩ := sign_hd (show signB s = true from ok)
    have := smlR _ q2
    exact hd_ne q1 cpO (by omega)
  | void => simp [Tr.words] at hw; subst hw; simp
  | hole n => simp [Tr.words] at hw; subst hw; exact hd_ne (hd_app "+" 43 cpP n) cpO (by decide)
  | foot n => simp [Tr.words] at hw; subst hw; exact hd_ne (hd_app "*" 42 cpA n) cpO (by decide)
  | knot n tk ks => cases hk
theorem mem_app (x : String) (n : Str) (P : Nat → Prop) (hx : ∀ c ∈ (Str.ofString x).cps.toList, P c) (hn : ∀ c ∈ n.cps.toList, P c) : ∀ c ∈ (Str.ofString x ++ n).cps.toList, P c := fun c m => by
  rw [app_cps] at m
  exact (List.mem_append.mp m).elim (hx c) (hn c)
theorem name_chars {n : Str} (h : nameB n = true) : ∀ c ∈ n.cps.toList, 48 ≤ c ∧ c ≤ 122 := fun c m => by
  rcases nameL_mem h c m with m | m
  · have := grtR c m; omega
  · have := figR c m; omega
theorem sign_chars {n : Str} (h : signB n = true) : ∀ c ∈ n.cps.toList, 33 ≤ c ∧ c ≤ 122 := fun c m => by have := smlR c (signB_mem h c m); omega
mutual
theorem word_chars : ∀ t : Tr, t.ok = true → ∀ w ∈ t.words, w.length ≤ 30 ∧ ∀ c ∈ w.cps.toList, 33 ≤ c ∧ c ≤ 122
  | .sign s, h, w, m => by
    simp [Tr.words] at m; subst m
    exact ⟨by have := signB_len (show signB w = true from h); omega, sign_chars h⟩
  | .void, _, w, m => by
    simp [Tr.words] at m; subst m
    exact ⟨by rw [ofS_len]; decide, by rw [cpM]; simp⟩
  | .hole n, h, w, m => by
    simp [Tr.words] at m; subst m
    have := nameB_len (show nameB n = true from h)
    exact ⟨by rw [app_len, ofS_len]; simp; omega, mem_app _ _ _ (by rw [cpP]; simp) fun c m => by have := name_chars h c m; omega⟩
  | .foot n, h, w, m => by
    simp [Tr.words] at m; subst m
    have := nameB_len (show nameB n = true from h)
    exact ⟨by rw [app_len, ofS_len]; simp; omega, mem_app _ _ _ (by rw [cpA]; simp) fun c m => by have := name_chars h c m; omega⟩
  | .knot n tk ks, h, w, m => by
    rw [Tr.ok] at h
    simp only [Bool.and_eq_true, decide_eq_true_eq] at h
    rw [Tr.words] at m
    simp only [List.mem_cons, List.mem_append, List.not_mem_nil, or_false] at m
    rcases m with rfl | rfl | m | m | rfl
    · exact ⟨by rw [ofS_len]; decide, by rw [cpO]; simp⟩
    · have := nameB_len h.1
      exact ⟨by omega, fun c m => by have := name_chars h.1 c m; omega⟩
    · cases tk with
      | none => cases m
      | some p =>
        obtain ⟨q, b⟩ := p
        simp [tkW] at m
        subst m
        have hq : nameB q = true := h.2.1
        have := nameB_len hq
        cases b
        · exact ⟨by rw [app_len, ofS_len]; simp; omega, mem_app _ _ _ (by rw [show (if false = true then "!" else "?") = "?" from rfl, cpQ]; simp) fun c m => by have := name_chars hq c m; omega⟩
        · exact ⟨by rw [app_len, ofS_len]; simp; omega, mem_app _ _ _ (by rw [show (if true = true then "!" else "?") = "!" from rfl, cpB]; simp) fun c m => by have := name_chars hq c m; omega⟩
    · exact wordL_chars ks h.2.2.2.2 w m
    · exact ⟨by rw [ofS_len]; decide, by rw [cpC]; simp⟩
theorem wordL_chars : ∀ ts : List Tr, Tr.okL ts = true → ∀ w ∈ Tr.wordsL ts, w.length ≤ 30 ∧ ∀ c ∈ w.cps.toList, 33 ≤ c ∧ c ≤ 122
  | [], _, w, m => by cases m
  | t :: ts, h, w, m => by
    rw [Tr.okL, Bool.and_eq_true] at h
    rw [Tr.wordsL] at m
    rcases List.mem_append.mp m with m | m
    · exact word_chars t h.1 w m
    · exact wordL_chars ts h.2 w m
end
abbrev BL : Str := Str.ofString " "
theorem cpBL : BL.cps.toList = [32] := by decide +kernel
/-- words parted by blanks -/
def lineT (ws : List Str) : Str := Txt.join BL ws
theorem sum_le {ws : List Str} {b : Nat} (h : ∀ w ∈ ws, w.length ≤ b) : (ws.map (·.length)).sum ≤ b * ws.length := by
  induction ws with
  | nil => simp
  | cons w ws ih =>
    have h1 := h w (by simp)
    have h2 := ih fun w m => h w (by simp [m])
    rw [List.map_cons, List.sum_cons, List.length_cons, Nat.mul_succ]
    omega
theorem joinL_len (S : List Nat) : ∀ ps : List (List Nat), (TL.joinL S ps).length ≤ (ps.map List.length).sum + ps.length * S.length
  | [] => by simp [TL.joinL]
  | [p] => by simp [TL.joinL]
  | p :: q :: r => by
    have ih := joinL_len S (q :: r)
    rw [TL.joinL, List.length_append, List.length_append, List.map_cons, List.sum_cons, List.length_cons, Nat.succ_mul]
    omega
theorem line_len {ws : List Str} {b : Nat} (h : ∀ w ∈ ws, w.length ≤ b) : (lineT ws).length ≤ (b + 1) * ws.length := by
  unfold lineT
  rw [len_eq, TL.join_eq]
  have e := TL.tl_join BL ws
  show (TL.tl (Str.join BL ws)).length ≤ _
  rw [e]
  have h1 := joinL_len (TL.tl BL) (ws.map TL.tl)
  rw [List.map_map, List.length_map, show (TL.tl BL).length = 1 by show BL.cps.toList.length = 1; rw [cpBL]; rfl] at h1
  have h2 := sum_le h
  have h3 : (ws.map (List.length ∘ TL.tl)).sum = (ws.map (·.length)).sum := by
    have : (List.length ∘ TL.tl) = fun w : Str => w.length := funext fun w => (len_eq w).symm
    rw [this]
  rw [h3] at h1
  rw [Nat.succ_mul]
  omega
theorem line_ok {ws : List Str} (h : ∀ w ∈ ws, w.length ≤ 30) (hl : ws.length ≤ 500000) : joinOk BL ws = true := by
  unfold joinOk
  have h1 := sum_le h
  have h2 : BL.length = 1 := by rw [len_eq, cpBL]; rfl
  rw [h2]
  exact Nat.ble_eq_true_of_le (by omega)
def TextSp (n : Nat) (F : FF) : Prop := ∀ t : Tr, t.ok = true → t.ht ≤ n → t.pieces.length ≤ 100000 → F [some ⟨t.enc, .sh⟩] = .ok (.sh (.str (lineT t.words))) [none]
theorem tree_text_ok {n : Nat} {Fw : FF} (hw : WordsTr n Fw) : TextSp n (fnF 1 1 (m_tree_text Fw)) := fun t ok hh hz => by
  rw [m_tree_text_eq]
  have e := hw t ok hh hz
  have hl := words_len t
  have j := joinD_l BL t.words (line_ok (fun w m => (word_chars t ok w m).1) (by omega))
  simp [m_tree_text, e, j, lineT]
end GM
namespace GS
open PySem L2 GM
theorem forL_cons2 {ρ : Rho} (g : D → Rho → Option Rho) (b : SF) (d : D) (ds : List D) : forL g b (d :: ds) ρ = turnR (forL g b ds) (optR (g d ρ) b) := by
  rw [forL_cons]
  cases g d ρ <;> rfl
theorem line1 : 1 ≤ sizeLine := by decide
theorem seq_of {f g : SF} {ρ : Rho} {q : RS} (ρ' : Rho) (h : f ρ = .nx ρ') (h2 : g ρ' = q) : sSeq f g ρ = q := by rw [sSeq_eq, h]; exact h2
theorem kill_of {vs : List Nat} {f : SF} {ρ ρ' : Rho} (ρ1 : Rho) (hio : vs.all (fun i => !ioAt ρ i) = true) (h : f ρ = .nx ρ1) (hw : wipeR ρ1 vs = ρ') : sKill vs f ρ = .nx ρ' := by
  rw [sKill_eq, if_pos hio, h]
  show RS.nx (wipeR ρ1 vs) = _
  rw [hw]
theorem fin_seq {n : Nat} {f g : SF} {ρ : Rho} {q : RE} (ρ' : Rho) (h : f ρ = .nx ρ') (h2 : finR n (g ρ') = q) : finR n (sSeq f g ρ) = q := by rw [sSeq_eq, h]; exact h2
theorem pre1 (s c : Nat) (r : List Nat) : TL.pre [s] (c :: r) = decide (s = c) := by
  by_cases h : s = c
  · simp [TL.pre, h]
  · have h' : ¬ c = s := fun e => h e.symm
    simp [TL.pre, h, h']
/-- what the parts are made of -/
structure Parts (s : Nat) (acc cs : List Nat) (ps : List (List Nat)) : Prop where
  ne : ps ≠ []
  num : ps.length ≤ cs.length + 1
  mem : ∀ p ∈ ps, ∀ c ∈ p, c ∈ acc ∨ c ∈ cs
  sep : s ∉ acc → ∀ p ∈ ps, s ∉ p
  len : ∀ p ∈ ps, p.length ≤ acc.length + cs.length
  cnt : ∀ x, (ps.map (List.count x)).sum ≤ acc.count x + cs.count x
  tot : (ps.map List.length).sum ≤ acc.length + cs.length
  jn : TL.joinL [s] ps = acc ++ cs
theorem parts_spl (s : Nat) : ∀ (cs acc : List Nat), Parts s acc cs (TL.spl [s] 0 acc cs)
  | [], acc => by
    rw [TL.spl_nil]
    exact ⟨by simp, by simp, fun p h c m => .inl (by simp at h; subst h; exact m), fun h p m => by simp at m; subst m; exact h, fun p m => by simp at m; subst m; simp, fun x => by simp, by simp, by simp [TL.joinL]⟩
  | c :: r, acc => by
    by_cases h : s = c
    · rw [TL.spl_hit (by rw [pre1, decide_eq_true h])]
      have ih := parts_spl s r []
      refine ⟨by simp, ?_, fun p m d md => ?_, fun hs p m => ?_, fun p m => ?_, fun x => ?_, ?_, ?_⟩
      · have := ih.num; simp only [List.length_cons, List.length_nil, Nat.sub_self, Nat.zero_add] at this ⊢; omega
      · rcases List.mem_cons.mp m with rfl | m
        · exact .inl md
        · rcases ih.mem p m d md with q | q
          · simp at q
          · exact .inr (by simp [q])
      · rcases List.mem_cons.mp m with rfl | m
        · exact hs
        · exact ih.sep (by simp) p m
      · rcases List.mem_cons.mp m with rfl | m
        · simp
        · have := ih.len p m
          simp only [List.length_cons, List.length_nil] at this ⊢; omega
      · have := ih.cnt x
        simp only [List.map_cons, List.sum_cons, List.count_nil, Nat.zero_add, List.length_cons, List.length_nil, Nat.sub_self] at this ⊢
        have h2 : r.count x ≤ (c :: r).count x := List.count_le_count_cons
        omega
      · have := ih.tot
        simp only [List.map_cons, List.sum_cons, List.length_cons, List.length_nil, Nat.sub_self] at this ⊢
        omega
      · have h1 := ih.jn
        have h2 := ih.ne
        simp only [List.length_cons, List.length_nil, Nat.zero_add, Nat.sub_self]
        cases e : TL.spl [s] 0 [] r with
        | nil => exact absurd e h2
        | cons q qs =>
          rw [e] at h1
          show acc ++ ([s] ++ TL.joinL [s] (q :: qs)) = _
          rw [h1, h]; simp
    · rw [TL.spl_miss (by rw [pre1, decide_eq_false h])]
      have ih := parts_spl s r (acc ++ [c])
      refine ⟨ih.ne, ?_, fun p m d md => ?_, fun hs p m => ?_, fun p m => ?_, fun x => ?_, ?_, ?_⟩
      · have := ih.num; simp only [List.length_cons] at this ⊢; omega
      · rcases ih.mem p m d md with q | q
        · rcases List.mem_append.mp q with q | q
          · exact .inl q
          · exact .inr (by simp at q; simp [q])
        · exact .inr (by simp [q])
      · exact ih.sep (by simp [hs, h]) p m
      · have := ih.len p m
        simp only [List.length_cons, List.length_append, List.length_nil] at this ⊢; omega
      · have := ih.cnt x
        rw [List.count_append] at this
        have h2 : (c :: r).count x = [c].count x + r.count x := by rw [← List.count_append]; rfl
        omega
      · have := ih.tot
        simp only [List.length_cons, List.length_append, List.length_nil] at this ⊢; omega
      · rw [ih.jn]; simp
/-- a text parted at a sign below 256 -/
theorem split_parts {x y : Str} {s : Nat} (hy : y.cps.toList = [s]) (hk : y.cps.all (· < 256) = true) : Parts s [] x.cps.toList ((Txt.split x y).map fun w => w.cps.toList) := by
  have e : (Txt.split x y).map (fun w => w.cps.toList) = TL.spl [s] 0 [] x.cps.toList := by
    have := TL.split_spl x y (by show y.cps.toList ≠ []; rw [hy]; simp) (TL.kind_ok hk)
    rw [show TL.tl y = [s] from hy] at this
    exact this
  rw [e]
  exact parts_spl s _ []
structure SplitOk (s : Nat) (x : Str) (ws : List Str) : Prop where
  ne : ws ≠ []
  num : ws.length ≤ x.length + 1
  mem : ∀ w ∈ ws, ∀ c ∈ w.cps.toList, c ∈ x.cps.toList
  sep : ∀ w ∈ ws, s ∉ w.cps.toList
  len : ∀ w ∈ ws, w.length ≤ x.length
  cnt : ∀ z, (ws.map fun w => w.cps.toList.count z).sum ≤ x.cps.toList.count z
  tot : (ws.map (·.length)).sum ≤ x.length
theorem split_ok {x y : Str} {s : Nat} (hy : y.cps.toList = [s]) (hk : y.cps.all (· < 256) = true) : SplitOk s x (Txt.split x y) := by
  have h := split_parts (x := x) hy hk
  refine ⟨fun e => h.ne (by rw [e]; rfl), by have := h.num; rw [List.length_map] at this; rw [len_eq]; exact this, fun w m c mc => ?_, fun w m => h.sep (by simp) _ (List.mem_map.mpr ⟨w, m, rfl⟩), fun w m => ?_, fun z => ?_, ?_⟩
  · rcases h.mem _ (List.mem_map.mpr ⟨w, m, rfl⟩) c mc with q | q
    · simp at q
    · exact q
  · have := h.len _ (List.mem_map.mpr ⟨w, m, rfl⟩)
    rw [len_eq, len_eq]
    simpa using this
  · have := h.cnt z
    rw [List.map_map] at this
    simpa [Function.comp_def] using this
  · have := h.tot
    rw [List.map_map, show (List.length ∘ fun w : Str => w.cps.toList) = fun w : Str => w.length from funext fun w => (len_eq w).symm, ← len_eq] at this
    simpa using this
abbrev DT : Str := Str.ofString "."
theorem cpDT : DT.cps.toList = [46] := by decide +kernel
theorem split_bl (x : Str) : SplitOk 32 x (Txt.split x BL) := split_ok cpBL (by decide +kernel)
theorem split_dt (x : Str) : SplitOk 46 x (Txt.split x DT) := split_ok cpDT (by decide +kernel)
/-- words without blanks, joined and parted -/
theorem line_split2 {ws : List Str} (h0 : ws ≠ []) (h : ∀ w ∈ ws, 32 ∉ w.cps.toList) : Txt.split (lineT ws) BL = ws := TL.split_join (s := 32) (S := []) cpBL (by decide +kernel) h0 h
theorem joinL_mem (S : List Nat) (x : Nat) : ∀ ps : List (List Nat), x ∈ TL.joinL S ps → x ∈ S ∨ ∃ p ∈ ps, x ∈ p
  | [], h => by simp [TL.joinL] at h
  | [p], h => .inr ⟨p, by simp, by simpa [TL.joinL] using h⟩
  | p :: q :: r, h => by
    rw [TL.joinL, List.mem_append, List.mem_append] at h
    rcases h with h | h | h
    · exact .inr ⟨p, by simp, h⟩
    · exact .inl h
    · rcases joinL_mem S x (q :: r) h with h | ⟨z, m, h⟩
      · exact .inl h
      · exact .inr ⟨z, by simp at m ⊢; exact .inr m, h⟩
theorem join_cps (y : Str) (ws : List Str) : (Txt.join y ws).cps.toList = TL.joinL y.cps.toList (ws.map fun w => w.cps.toList) := by
  rw [TL.join_eq]; exact TL.tl_join y ws
theorem join_mem {y : Str} {ws : List Str} {c : Nat} (h : c ∈ (Txt.join y ws).cps.toList) : c ∈ y.cps.toList ∨ ∃ w ∈ ws, c ∈ w.cps.toList := by
  rw [join_cps] at h
  rcases joinL_mem _ _ _ h with h | ⟨p, m, h⟩
  · exact .inl h
  · obtain ⟨w, mw, rfl⟩ := List.mem_map.mp m
    exact .inr ⟨w, mw, h⟩
theorem join_len (y : Str) (ws : List Str) : (Txt.join y ws).length ≤ (ws.map (·.length)).sum + ws.length * y.length := by
  rw [len_eq, join_cps]
  have h1 := joinL_len y.cps.toList (ws.map fun w => w.cps.toList)
  rw [List.map_map, List.length_map] at h1
  have h3 : (ws.map (List.length ∘ fun w : Str => w.cps.toList)).sum = (ws.map (·.length)).sum := by
    rw [show (List.length ∘ fun w : Str => w.cps.toList) = fun w : Str => w.length from funext fun w => (len_eq w).symm]
  rw [h3, ← len_eq] at h1
  exact h1
theorem joinOk_of {y : Str} {ws : List Str} {b n : Nat} (h : ∀ w ∈ ws, w.length ≤ b) (hn : ws.length ≤ n) (hz : b * n + n * y.length ≤ 16000000) : joinOk y ws = true := by
  unfold joinOk
  have h1 := sum_le h
  have h2 : b * ws.length ≤ b * n := Nat.mul_le_mul_left _ hn
  have h3 : ws.length * y.length ≤ n * y.length := Nat.mul_le_mul_right _ hn
  exact Nat.ble_eq_true_of_le (by omega)
end GS
namespace GS
open PySem L2 PySem.Spec PyProof.Rows
section
variable {κ : Type} [DecidableEq κ]
end
local instance (priority := high) keyBEq : BEq Key := instBEqOfDecidableEq
local instance keyLaw : LawfulBEq Key := inferInstanceAs (@LawfulBEq Key instBEqOfDecidableEq)
section
variable {prog : Program} {w : World} {A : Around} {R : Result → Shared → Prop} {I : Addr} {fp wr : List Addr} {G : Array GenState → Array GenState → Prop} {n : Nat} {P : Nat → Value → Prop} {St : Nat → Shared → Prop}
end
section
variable {prog : Program} {w : World} {A : Around} {E : Value → Shared → Prop} {s : Shared}
end
end GS
namespace GS
open PySem L2 PySem.Spec PyProof.Rows
section
variable {X : Cx} {C : Ct} {a b : Expr} {ta tb : TE} {fa fb : EF} {p p2 q pos apos : Pos}
def maxI : List Int → Int
  | [] => 0
  | [a] => a
  | a :: b :: r => max a (maxI (b :: r))
theorem maxI_le : ∀ {ns : List Int} {y : Int}, y ∈ ns → y ≤ maxI ns
  | [a], y, h => by simp at h; subst h; exact Int.le_refl _
  | a :: b :: r, y, h => by
    rw [maxI]
    rcases List.mem_cons.mp h with rfl | h
    · exact Int.le_max_left _ _
    · exact Int.le_trans (maxI_le h) (Int.le_max_right _ _)
theorem maxI_mem : ∀ {ns : List Int}, ns ≠ [] → maxI ns ∈ ns
  | [a], _ => by simp [maxI]
  | a :: b :: r, _ => by
    rw [maxI]
    rcases Int.le_total a (maxI (b :: r)) with q | q
    · rw [Int.max_eq_right q]; exact List.mem_cons_of_mem _ (maxI_mem (by simp))
    · rw [Int.max_eq_left q]; simp
def maxLD : D → Option Hd
  | .list ds => (intsL ds).bind fun ns => if ns = [] then none else some (.sh (.int (maxI ns)))
  | _ => none
theorem cl_maxL {K : KW} : CalL K (rMax K) (un1 maxLD) := CalL.one fun ρ σ B H x d h Q S t e k => by
  cases d <;> first | (cases (show none = some h from e); done) | skip
  obtain ⟨ns, e1, e2⟩ := Option.bind_eq_some_iff.mp (show (intsL _).bind _ = some h from e)
  split at e2
  · cases e2
  · rename_i hne
    cases e2
    obtain ⟨a, vs, rfl, ha, ra⟩ := t
    have := intsL_ok ra e1
    subst this
    refine ⟨a, ns, rfl, ha, List.length_pos_iff.mpr hne, fun m m1 m2 => ?_⟩
    have : m = maxI ns := Int.le_antisymm (maxI_le m1) (m2 _ (maxI_mem hne))
    rw [this]
    exact now S (.int _) k
end
def noX : RS → RS
  | .exc _ _ => .stuck
  | r => r
def sTry0 (ns cs : List Str) (fb fh : SF) : SF := fun ρ => match fb ρ with
  | .exc x ρ1 => if ns.contains x.cls then (if cs.contains x.cls then noX (fh ρ1) else .exc x ρ1) else .stuck
  | r => r
section
variable {X : Cx} {C : Ct} {x : Str} {c : Value} {body suite : List Stmt} {b₀ : Stmt} {np pos pos' : Pos} {ts : TS} {fb fh : SF} {ns cs : List Str}
theorem sss_sem {st : List Stmt} {f : SF} (h : ∃ t, SSs X C st t f) : SSs X C st (tTry C f) f := by
  obtain ⟨t, ht⟩ := h
  refine ⟨⟨fun pins s σ H D I q => ?_⟩, fun ρ σ B H D S g => ⟨ρ, B, S, g⟩⟩
  obtain ⟨ρ, B, S, g⟩ := q
  exact ht.ps.run pins s σ H D I (ht.lk ρ σ B H D S g)
theorem ss_try0 (ht : tryB C.K c ns cs = true) (hm : X.mg x = some c) (tk : Takes X C.W)
    (hb : ∀ (W : WX) (pn : List (Addr × Obj)) (xe : Value → Shared → Prop), Takes (X.tr pn xe) W → PassesOwn (model X.prog X.w) X.A X.env xe → ∃ t, SSs (X.tr pn xe) ⟨C.K, C.cv, W⟩ body t fb)
    (hsu : ∀ (a : Addr) (pn : List (Addr × Obj)), SSs (X.suite a pn) ⟨C.K, C.cv, fun _ _ _ _ => False⟩ (b₀ :: suite) ts fh)
    (hcv : C.cv = cvK C.K := by rfl) (hk : X.K = C.K := by rfl) (hs : X.stack = X.env :: X.outer := by rfl) (hf : X.env.frame = some X.env.locals := by rfl) (hg : Gl X x := by rfl) (hdb : (x == ("__debug__" : Str)) = false := by decide) :
    SS X C (.Try body [.ExceptHandler (some (.Name x np)) none (b₀ :: suite) pos'] [] [] pos) (fun D σ H => tTry ⟨C.K, C.cv, wOnly X.K c (fun _ _ _ => ts) C.W D⟩ fb D σ H) (sTry0 ns cs fb fh) := by
  refine ⟨ps_try_only (tb := fun W => tTry ⟨C.K, C.cv, W⟩ fb) (ts := fun _ _ _ => ts) hs hf ⟨hg, hdb, .inl hm⟩ tk (fun W pn xe tk' po => (sss_sem (hb W pn xe tk' po)).ps) (fun a oe cls d pn _ _ => (hsu a ((a, oe) :: pn)).ps), fun ρ σ B H D S g => ⟨ρ, B, S, ?_⟩⟩
  unfold sTry0 at g
  cases e : fb ρ with
  | stuck => rw [e] at g; exact g
  | nx ρ1 => rw [e] at g; exact g
  | bk ρ1 => rw [e] at g; exact g
  | ct ρ1 => rw [e] at g; exact g
  | rt h ρ1 => rw [e] at g; exact g
  | exc y ρ1 =>
    rw [e] at g
    dsimp only at g
    intro cls dct σ1 B1 H1 S1 x1 ok
    have ok' : XcOk C B1 y cls dct := ok
    split at g
    · rename_i hn
      have hf := List.all_eq_true.mp ht y.cls (by simpa using hn)
      rw [Bool.and_eq_true, decide_eq_true_eq] at hf
      refine ⟨cs.contains y.cls, by rw [hk, ok'.1, hcv]; exact hf.2, fun hc a na => ?_, fun hc => ?_⟩
      · rw [if_pos hc] at g
        refine (hsu a []).lk _ _ _ _ _ S1 ?_
        cases e2 : fh ρ1 with
        | stuck => rw [e2] at g; exact g
        | exc z ρ2 => rw [e2] at g; exact g.elim
        | rt h ρ2 => rw [e2] at g; exact GoodS.ext (C := ⟨C.K, C.cv, fun _ _ _ _ => False⟩) (Ed := D) (r := .rt h ρ2) x1 g
        | nx ρ2 => rw [e2] at g; exact GoodS.ext (C := ⟨C.K, C.cv, fun _ _ _ _ => False⟩) (Ed := D) (r := .nx ρ2) x1 g
        | bk ρ2 => rw [e2] at g; exact GoodS.ext (C := ⟨C.K, C.cv, fun _ _ _ _ => False⟩) (Ed := D) (r := .bk ρ2) x1 g
        | ct ρ2 => rw [e2] at g; exact GoodS.ext (C := ⟨C.K, C.cv, fun _ _ _ _ => False⟩) (Ed := D) (r := .ct ρ2) x1 g
      · rw [if_neg (by rw [hc]; exact Bool.false_ne_true)] at g
        exact g cls dct σ1 B1 H1 S1 x1 ok'
    · exact g.elim
end
end GS
namespace GS
open PySem L2
section
variable {X : Cx} {C : Ct} {o e f : Expr} {td tk tx : TE} {fd fk fx : EF} {apos pos : Pos}
end
end GS
namespace GS
open PySem L2
section
variable {ρ ρ1 : Rho} {c : Prop} [Decidable c]
theorem intsL_map (ns : List Int) : intsL (ns.map .int) = some ns := by
  induction ns with
  | nil => rfl
  | cons b bs ih => rw [List.map_cons]; unfold intsL; rw [ih]; rfl
theorem maxLD_l {ns : List Int} (h : ns ≠ []) : maxLD (.list (ns.map .int)) = some (.sh (.int (maxI ns))) := by
  show (intsL _).bind _ = _
  rw [intsL_map, Option.bind_some, if_neg h]
@[simp] theorem noX_nx : noX (.nx ρ) = .nx ρ := rfl
@[simp] theorem noX_rt (h : Hd) : noX (.rt h ρ) = .rt h ρ := rfl
def tryN (ns cs : List Str) (fh : SF) (r : RS) : RS := match r with
  | .exc x ρ1 => if ns.contains x.cls then (if cs.contains x.cls then noX (fh ρ1) else .exc x ρ1) else .stuck
  | r => r
@[simp] theorem sTry0_eq (ns cs : List Str) (fb fh : SF) : sTry0 ns cs fb fh ρ = tryN ns cs fh (fb ρ) := by unfold sTry0 tryN; rfl
@[simp] theorem tryN_nx (ns cs : List Str) (fh : SF) : tryN ns cs fh (.nx ρ) = .nx ρ := rfl
@[simp] theorem tryN_rt (ns cs : List Str) (fh : SF) (h : Hd) : tryN ns cs fh (.rt h ρ) = .rt h ρ := rfl
@[simp] theorem tryN_ex (ns cs : List Str) (fh : SF) (x : Xc) : tryN ns cs fh (.exc x ρ) = if ns.contains x.cls then (if cs.contains x.cls then noX (fh ρ) else .exc x ρ) else .stuck := rfl
def r2R (a b : Option D) (ρ : Rho) : RI := match a, b with
  | some (.int i), some (.int j) => if okR i && okR j then .ok (rgD i (j - i).toNat) ρ else .stuck
  | _, _ => .stuck
@[simp] theorem iR2_eq (fa fb : EF) : iR2 fa fb ρ = bindEI (eSet fa ρ) fun ha ρ1 => bindEI (eSet fb ρ1) fun hb ρ2 => r2R (getH ρ2 ha) (getH ρ2 hb) ρ2 := by unfold iR2 r2R; rfl
@[simp] theorem r2R_i (i j : Int) : r2R (some (.int i)) (some (.int j)) ρ = if okR i && okR j then .ok (rgD i (j - i).toNat) ρ else .stuck := rfl
end
end GS
namespace GM
open PySem L2 GS
/-- is_key(text); slots 0:text 1:letter -/
def m_is_key_b1 : SF := (sKill [1] (sIf (eAnd (eB (eBin (inB true) (eVb 1) (eC (.str (Str.ofString "abcdefghijklmnopqrstuvwxyz"))))) (eB (eBin (inB true) (eVb 1) (eC (.str (Str.ofString "0123456789")))))) (sEnd (sRet (eC (.bool false)))) sNil))
def m_is_key : SF := (sSeq (sIf (eOr (eNot (eB (eChain (ltI fun i j => decide (i ≤ j)) (ltI fun i j => decide (i ≤ j)) (eC (.int 1)) (eCB (un1 lenD) (aCons (eVb 0) aNil)) (eC (.int 24))))) (eB (eBin (inB true) (eBin ixA (eVb 0) (eC (.int 0))) (eC (.str (Str.ofString "abcdefghijklmnopqrstuvwxyz")))))) (sEnd (sRet (eC (.bool false)))) sNil) (sSeq (sFor (iSq (eMv 0)) (gN 1) (m_is_key_b1)) (sEnd (sRet (eC (.bool true))))))
theorem m_is_key_eq (ρ : Rho) : fnF 2 1 (m_is_key) ρ = finR 1 (m_is_key (ρ ++ [none])) := fnF_eq 2 1 _
/-- place_of(word); slots 0:word 1:place 2:figure -/
def m_place_of_b1 : SF := (sKill [2] (sSeq (sIf (eOr (eB (eBin (eqB true) (eCB (un1 lenD) (aCons (eVb 2) aNil)) (eC (.int 1)))) (eB (eBin (inB true) (eVb 2) (eC (.str (Str.ofString "01234567")))))) (sEnd (sRet (eC .none))) sNil) (sApp 1 (eCB (un1 intC) (aCons (eVb 2) aNil)))))
def m_place_of : SF := (sSeq (sIf (eB (eBin (eqB false) (eVb 0) (eC (.str (Str.ofString "."))))) (sEnd (sRet (eTup aNil))) sNil) (sSeq (sSet 1 (eLst aNil)) (sSeq (sFor (iSq (eM1 splitD (eVb 0) (eC (.str (Str.ofString "."))))) (gN 2) (m_place_of_b1)) (sEnd (sRet (eCB (un1 tupleD) (aCons (eVb 1) aNil)))))))
theorem m_place_of_eq (ρ : Rho) : fnF 3 1 (m_place_of) ρ = finR 1 (m_place_of (ρ ++ [none, none])) := fnF_eq 3 1 _
/-- word_at(words, at); slots 0:words 1:at -/
def m_word_at_2 (F_NoText : FF) : SF := (sSeq (sIf (eB (eBin (eqB false) (eVb 1) (eCB (un1 lenD) (aCons (eVb 0) aNil)))) (sRaise F_NoText "NoText" ["at"] (aCons (eMv 1) aNil)) sNil) (sEnd (sRet (eBin ixA (eVb 0) (eVb 1)))))
theorem m_word_at_2_eq (F_NoText : FF) (ρ : Rho) : fnF 2 2 (m_word_at_2 F_NoText) ρ = finR 2 (m_word_at_2 F_NoText (ρ ++ [])) := fnF_eq 2 2 _
end GM
namespace GM
open PySem L2 GS
def KeySp (F : FF) : Prop := ∀ s : Str, s.length ≤ sizeLine → F [some ⟨.str s, .sh⟩] = .ok (.sh (.bool (keyB s))) [none]
theorem is_key_ok : KeySp (fnF 2 1 m_is_key) := fun s hs => by
  rw [m_is_key_eq]
  have hl := len_eq s
  have h2 := forL_look (g := gN 1) (b := m_is_key_b1) [some ⟨.str s, .sh⟩, none] [none, none] (fun c => .str ⟨#[c]⟩) (okN SML) (.sh (.bool false)) s.cps.toList
    (fun c _ => by by_cases h1 : c ∈ SML.cps <;> by_cases h2 : c ∈ FIG.cps <;> simp [m_is_key_b1, okN, h1, h2])
  unfold keyB
  cases hc : s.cps.toList with
  | nil =>
    rw [hc] at hl
    simp [m_is_key, hs, hl, nameL]
  | cons c cs =>
    rw [hc] at hl h2
    rw [List.map_cons] at h2
    rw [List.length_cons] at hl
    rw [hl] at hs
    by_cases q1 : cs.length + 1 ≤ 24
    · have q2 : ¬ (24 : Int) < cs.length + 1 := by omega
      have q3 : (1 : Int) ≤ cs.length + 1 := by omega
      by_cases q4 : c ∈ SML.cps
      · by_cases q5 : (c :: cs).all (okN SML) = true
        · rw [if_pos q5] at h2
          simp [m_is_key, hs, hl, nameL, hc, q2, q3, q4, h2, q5, q1]
        · rw [if_neg q5] at h2
          simp [m_is_key, hs, hl, nameL, hc, q2, q3, q4, h2, q5, q1]
      · simp [m_is_key, hs, hl, nameL, hc, q2, q3, q4]
    · have q2 : (24 : Int) < cs.length + 1 := by omega
      have q3 : (1 : Int) ≤ cs.length + 1 := by omega
      have q4 : ¬ cs.length ≤ 23 := by omega
      simp [m_is_key, hs, hl, nameL, hc, q2, q3, q4]
theorem keyB_len {s : Str} (h : keyB s = true) : 1 ≤ s.length ∧ s.length ≤ 24 := by
  rw [len_eq]
  unfold keyB at h
  cases hc : s.cps.toList with
  | nil => rw [hc] at h; cases h
  | cons c cs =>
    rw [hc] at h
    simp only [nameL, Bool.and_eq_true, decide_eq_true_eq] at h
    exact ⟨by simp, h.1.1⟩
def figs : List Str := [Str.ofString "0", Str.ofString "1", Str.ofString "2", Str.ofString "3", Str.ofString "4", Str.ofString "5", Str.ofString "6", Str.ofString "7"]
def isFg (f : Str) : Bool := figs.any fun z => decide (z = f)
def fgN (f : Str) : Int := (PySem.intText? f).getD 0
abbrev KID : Str := Str.ofString "01234567"
theorem fg_all : ∀ f ∈ figs, PySem.intText? f = some (fgN f) ∧ f.length = 1 ∧ f.cps.toList.head? ∈ KID.cps.toList.map some := by decide +kernel
theorem fg_back : ∀ c ∈ KID.cps.toList, isFg ⟨#[c]⟩ = true := by decide +kernel
theorem fg_mem {f : Str} (h : isFg f = true) : f ∈ figs := by
  unfold isFg at h
  obtain ⟨z, m, e⟩ := List.any_eq_true.mp h
  rw [← of_decide_eq_true e]; exact m
theorem one_of {f : Str} (h : f.length = 1) : ∃ c, f = ⟨#[c]⟩ := by
  rw [len_eq] at h
  match e : f.cps.toList, h with
  | [c], _ => exact ⟨c, str_ext (by rw [e])⟩
theorem fg_yes {f : Str} (h : isFg f = true) : ∃ c, f = ⟨#[c]⟩ ∧ c ∈ KID.cps.toList ∧ PySem.intText? f = some (fgN f) := by
  obtain ⟨h1, h2, h3⟩ := fg_all f (fg_mem h)
  obtain ⟨c, rfl⟩ := one_of h2
  exact ⟨c, rfl, by simpa using h3, h1⟩
theorem fg_no {f : Str} (h : isFg f = false) : f.length ≠ 1 ∨ ∃ c, f = ⟨#[c]⟩ ∧ c ∉ KID.cps.toList := by
  by_cases q : f.length = 1
  · obtain ⟨c, rfl⟩ := one_of q
    exact .inr ⟨c, rfl, fun m => by rw [fg_back c m] at h; cases h⟩
  · exact .inl q
/-- the place that a word writes -/
def plD (w : Str) : Option D := if w = DT then some (.tuple []) else if (Txt.split w DT).all isFg then some (.tuple ((Txt.split w DT).map fun f => .int (fgN f))) else none
def PlaceSp (F : FF) : Prop := ∀ w : Str, w.length ≤ 10000 → PyData.strOk w = true → F [some ⟨.str w, .sh⟩] = .ok (.sh ((plD w).getD .none)) [none]
theorem place_loop (w : Str) : ∀ (fs : List Str) (acc : List D), acc.length + fs.length ≤ 20000 → (∀ f ∈ fs, f.length ≤ 10000) →
    forL (gN 2) m_place_of_b1 (fs.map .str) [some ⟨.str w, .sh⟩, some ⟨.list acc, .ow⟩, none] = if fs.all isFg then .nx [some ⟨.str w, .sh⟩, some ⟨.list (acc ++ fs.map fun f => .int (fgN f)), .ow⟩, none] else .rt (.sh .none) [none, none, none]
  | [], acc, _, _ => by simp
  | f :: fs, acc, hl, hf => by
    rw [List.length_cons] at hl
    have hf1 := hf f (by simp)
    have hz : f.length ≤ sizeLine := fits (by omega)
    have ha : acc.length < sizeLine := by have := fits (n := acc.length + 1) (by omega); omega
    rw [List.map_cons, forL_cons2, List.all_cons]
    cases h : isFg f with
    | true =>
      obtain ⟨c, rfl, hc, hi⟩ := fg_yes h
      have ih := place_loop w fs (acc ++ [.int (fgN ⟨#[c]⟩)]) (by simp; omega) fun g m => hf g (by simp [m])
      have hii : intC (.str ⟨#[c]⟩) = some (.sh (.int (fgN ⟨#[c]⟩))) := by
        show (PySem.intText? _).bind _ = _
        rw [hi]; rfl
      have hc' : c ∈ KID.cps := by simpa using hc
      have st : optR (gN 2 (.str ⟨#[c]⟩) [some ⟨.str w, .sh⟩, some ⟨.list acc, .ow⟩, none]) m_place_of_b1 = .nx [some ⟨.str w, .sh⟩, some ⟨.list (acc ++ [.int (fgN ⟨#[c]⟩)]), .ow⟩, none] := by
        simp [m_place_of_b1, line1, one_len, hc', hii, ha]
      rw [st, turnR_nx, ih]
      simp
    | false =>
      rcases fg_no h with q | ⟨c, rfl, hc⟩
      · have q' : ¬ (f.length : Int) = 1 := by omega
        simp [m_place_of_b1, hz, q, q']
      · have hc' : ¬ c ∈ KID.cps := by simpa using hc
        simp [m_place_of_b1, line1, one_len, hc']
theorem dotLen : 1 ≤ DT.length := by decide +kernel
theorem place_of_ok : PlaceSp (fnF 3 1 m_place_of) := fun w hw _ => by
  rw [m_place_of_eq]
  have hs := splitD_s w DT dotLen (by omega)
  have sp := split_dt w
  have hl := place_loop w (Txt.split w DT) [] (by have := sp.num; simp; omega) fun f m => by have := sp.len f m; omega
  unfold plD
  by_cases h : w = DT
  · simp [m_place_of, h]
  · by_cases q : (Txt.split w DT).all isFg = true
    · rw [if_pos q] at hl
      simp only [List.nil_append] at hl
      rw [if_neg h, if_pos q]
      simp [m_place_of, h, hs, hl]
    · rw [if_neg q] at hl
      rw [if_neg h, if_neg q]
      simp [m_place_of, h, hs, hl]
theorem okEq_str {s : Str} (h : PyData.strOk s = true) : okEq (.str s) = true := okEq_of (by rw [cleanB]; exact h) (by rw [PyData.depth]; omega)
def noT (i : Nat) : Xc := ⟨"NoText", [("at", .int i)]⟩
def WordSp (F : FF) : Prop := ∀ (W : List Str) (i : Nat), i ≤ W.length → F [some ⟨.list (W.map .str), .sh⟩, some ⟨.int i, .sh⟩] = match W[i]? with
  | some w => .ok (.sh (.str w)) [none, none]
  | none => .exc (noT i) [none, none]
theorem word_at_2_ok {Fx : FF} (hx : Raises Fx) : WordSp (fnF 2 2 (m_word_at_2 Fx)) := fun W i hi => by
  rw [m_word_at_2_eq]
  cases h : W[i]? with
  | some w =>
    have hi := (List.getElem?_eq_some_iff.mp h).1
    have e : L2.atI (W.map PyData.str) (i : Int) = some (.str w) := by
      rw [atI_nat (xs := W.map PyData.str) (j := i) (v := .str w) (by rw [List.getElem?_map, h]; rfl)]
    have n : ¬ i = W.length := by omega
    have n' : ¬ (i : Int) = (W.length : Int) := by omega
    simp [m_word_at_2, n, n', e]
  | none =>
    have hi2 : i = W.length := by have := List.getElem?_eq_none_iff.mp h; omega
    simp [m_word_at_2, sRaise_eq hx, hi2, noT]
end GM
namespace GM
open PySem L2 GS
/-- take_knot(words, at); slots 0:words 1:at 2:name 3:kids 4:takes 5:after 6:kid -/
def m_take_knot_2_t1 (F_word_at F_take_tree F_NoText F_take_takes F_is_name : FF) : EF := (eOr (eB (eBin (eqB false) (eCB (un1 lenD) (aCons (eVb 3) aNil)) (eC (.int 0)))) (eB (eBin (eqB true) (eCall 2 none F_word_at (aCons (eMv 0) (aCons (eMv 5) aNil))) (eC (.str (Str.ofString "]"))))))
def m_take_knot_2_b2 (F_word_at F_take_tree F_NoText F_take_takes F_is_name : FF) : SF := (sKill [6] (sSeq (sIf (eB (eBin (eqB false) (eCB (un1 lenD) (aCons (eVb 3) aNil)) (eC (.int 8)))) (sRaise F_NoText "NoText" ["at"] (aCons (eMv 5) aNil)) sNil) (sSeq (sUnp (gT 2 (gsC (gN 6) (gsC (gN 5) gsN))) (eCall 2 none F_take_tree (aCons (eMv 0) (aCons (eMv 5) aNil)))) (sApp 3 (eMv 6)))))
def m_take_knot_2 (F_word_at F_take_tree F_NoText F_take_takes F_is_name : FF) : SF := (sSeq (sSet 2 (eCall 2 none F_word_at (aCons (eMv 0) (aCons (eBin addD (eVb 1) (eC (.int 1))) aNil)))) (sSeq (sIf (eNot (eB (eCall 1 none F_is_name (aCons (eMv 2) aNil)))) (sRaise F_NoText "NoText" ["at"] (aCons (eBin addD (eVb 1) (eC (.int 1))) aNil)) sNil) (sSeq (sUnp (gT 2 (gsC (gN 4) (gsC (gN 5) gsN))) (eCall 2 none F_take_takes (aCons (eMv 0) (aCons (eBin addD (eVb 1) (eC (.int 2))) aNil)))) (sSeq (sSet 3 (eLst aNil)) (sSeq (whileL (m_take_knot_2_t1 F_word_at F_take_tree F_NoText F_take_takes F_is_name) (m_take_knot_2_b2 F_word_at F_take_tree F_NoText F_take_takes F_is_name) wFuel) (sEnd (sRet (eTup (aCons (eTup (aCons (eC (.str (Str.ofString "knot"))) (aCons (eMv 2) (aCons (eMv 4) (aCons (eCB (un1 tupleD) (aCons (eVb 3) aNil)) aNil))))) (aCons (eBin addD (eVb 5) (eC (.int 1))) aNil))))))))))
theorem m_take_knot_2_eq (F_word_at F_take_tree F_NoText F_take_takes F_is_name : FF) (ρ : Rho) : fnF 7 2 (m_take_knot_2 F_word_at F_take_tree F_NoText F_take_takes F_is_name) ρ = finR 2 (m_take_knot_2 F_word_at F_take_tree F_NoText F_take_takes F_is_name (ρ ++ [none, none, none, none, none])) := fnF_eq 7 2 _
/-- take_tree(words, at); slots 0:words 1:at 2:word 3:leaf -/
def m_take_tree_2 (F_NoText F_leaf_of F_take_knot F_word_at : FF) : SF := (sSeq (sSet 2 (eCall 2 none F_word_at (aCons (eMv 0) (aCons (eMv 1) aNil)))) (sSeq (sIf (eB (eBin (eqB false) (eVb 2) (eC (.str (Str.ofString "["))))) (sEnd (sRet (eCall 2 none F_take_knot (aCons (eMv 0) (aCons (eMv 1) aNil))))) sNil) (sSeq (sSet 3 (eCall 1 none F_leaf_of (aCons (eMv 2) aNil))) (sSeq (sIf (eB (eBin (isD false) (eVb 3) (eC .none))) (sRaise F_NoText "NoText" ["at"] (aCons (eMv 1) aNil)) sNil) (sEnd (sRet (eTup (aCons (eMv 3) (aCons (eBin addD (eVb 1) (eC (.int 1))) aNil)))))))))
theorem m_take_tree_2_eq (F_NoText F_leaf_of F_take_knot F_word_at : FF) (ρ : Rho) : fnF 4 2 (m_take_tree_2 F_NoText F_leaf_of F_take_knot F_word_at) ρ = finR 2 (m_take_tree_2 F_NoText F_leaf_of F_take_knot F_word_at (ρ ++ [none, none])) := fnF_eq 4 2 _
/-- read_tree(text); slots 0:text 1:words 2:tree 3:after -/
def m_read_tree_2 (F_NoText F_take_tree : FF) : SF := (sSeq (sSet 1 (eM1 splitD (eVb 0) (eC (.str (Str.ofString " "))))) (sSeq (sUnp (gT 2 (gsC (gN 2) (gsC (gN 3) gsN))) (eCall 2 none F_take_tree (aCons (eMv 1) (aCons (eC (.int 0)) aNil)))) (sSeq (sIf (eB (eBin (ltI fun i j => decide (i < j)) (eVb 3) (eCB (un1 lenD) (aCons (eVb 1) aNil)))) (sRaise F_NoText "NoText" ["at"] (aCons (eMv 3) aNil)) sNil) (sEnd (sRet (eRv 2))))))
theorem m_read_tree_2_eq (F_NoText F_take_tree : FF) (ρ : Rho) : fnF 4 1 (m_read_tree_2 F_NoText F_take_tree) ρ = finR 1 (m_read_tree_2 F_NoText F_take_tree (ρ ++ [none, none, none])) := fnF_eq 4 1 _
end GM
namespace GM
open PySem L2 GS
abbrev OB : Str := Str.ofString "["
abbrev CB : Str := Str.ofString "]"
def hd1 (w : Str) : Str := cutS w none (some 1)
def tl1 (w : Str) : Str := cutS w (some 1) none
theorem hd1_cps (w : Str) : (hd1 w).cps.toList = w.cps.toList.take 1 := cutS_to w 1
theorem tl1_cps (w : Str) : (tl1 w).cps.toList = w.cps.toList.drop 1 := cutS_from w 1
theorem tl1_len (w : Str) : (tl1 w).length ≤ w.length := by rw [len_eq, len_eq, tl1_cps, List.length_drop]; omega
/-- the first sign, where the head is one sign -/
theorem hd1_at {w : Str} {x : String} {c : Nat} (hx : (Str.ofString x).cps.toList = [c]) (h : hd1 w = Str.ofString x) : ∃ cs, w.cps.toList = c :: cs := by
  have := hd1_cps w
  rw [h, hx] at this
  cases e : w.cps.toList with
  | nil => rw [e] at this; cases this
  | cons d cs => rw [e] at this; simp at this; subst this; exact ⟨cs, rfl⟩
def leafT (w : Str) : Option Tr := if w = Str.ofString "-" then some .void else if signB w = true then some (.sign w) else if hd1 w = Str.ofString "+" ∧ nameB (tl1 w) = true then some (.hole (tl1 w))
  else if hd1 w = Str.ofString "*" ∧ nameB (tl1 w) = true then some (.foot (tl1 w)) else none
def encO : Option Tr → D
  | some t => t.enc
  | none => .none
def LeafG (F : FF) : Prop := ∀ w : Str, w.length ≤ 1000000 → F [some ⟨.str w, .sh⟩] = .ok (.sh (encO (leafT w))) [none]
theorem leaf_of_ok2 {Fn Fs : FF} (hn : NameSp Fn) (hs : SignSp Fs) : LeafG (fnF 1 1 (m_leaf_of Fn Fs)) := fun w hw => by
  rw [m_leaf_of_eq]
  have lw : w.length ≤ sizeLine := fits hw
  have e1 := hs w lw
  have e2 := hn (tl1 w) (Nat.le_trans (tl1_len w) lw)
  unfold tl1 at e2
  unfold leafT
  by_cases q1 : w = Str.ofString "-"
  · rw [if_pos q1]; simp [m_leaf_of, q1, encO, Tr.enc]
  rw [if_neg q1]
  by_cases q2 : signB w = true
  · rw [if_pos q2]; rw [q2] at e1; simp [m_leaf_of, q1, e1, encO, Tr.enc]
  rw [if_neg q2]
  simp only [Bool.not_eq_true] at q2
  rw [q2] at e1
  unfold hd1 tl1
  have ne : Str.ofString "+" ≠ Str.ofString "*" := by decide +kernel
  by_cases q3 : cutS w none (some 1) = Str.ofString "+"
  · cases q4 : nameB (cutS w (some 1) none) with
    | true => rw [q4] at e2; simp [m_leaf_of, q1, e1, lw, q3, q4, e2, encO, Tr.enc]
    | false => rw [q4] at e2; simp [m_leaf_of, q1, e1, lw, q3, q4, e2, encO, ne]
  · by_cases q5 : cutS w none (some 1) = Str.ofString "*"
    · cases q4 : nameB (cutS w (some 1) none) with
      | true => rw [q4] at e2; simp [m_leaf_of, q1, e1, lw, q5, q4, e2, encO, Tr.enc, ne.symm]
      | false => rw [q4] at e2; simp [m_leaf_of, q1, e1, lw, q5, q4, e2, encO, ne.symm]
    · simp [m_leaf_of, q1, e1, lw, q3, q5, encO]
def tkT (W : List Str) (a : Nat) : Option (Str × Bool) × Nat := match W[a]? with
  | none => (none, a)
  | some w => if (hd1 w = Str.ofString "!" ∨ hd1 w = Str.ofString "?") ∧ nameB (tl1 w) = true then (some (tl1 w, decide (hd1 w = Str.ofString "!")), a + 1) else (none, a)
theorem tkT_ok (W : List Str) (a : Nat) : okTk (tkT W a).1 = true ∧ a ≤ (tkT W a).2 ∧ (a ≤ W.length → (tkT W a).2 ≤ W.length) := by
  unfold tkT
  cases h : W[a]? with
  | none => exact ⟨rfl, Nat.le_refl _, id⟩
  | some w =>
    have hi := (List.getElem?_eq_some_iff.mp h).1
    dsimp only
    split
    · rename_i q; exact ⟨q.2, by simp, fun _ => hi⟩
    · exact ⟨rfl, Nat.le_refl _, id⟩
def TkG (F : FF) : Prop := ∀ (W : List Str) (a : Nat), (∀ w ∈ W, w.length ≤ 1000000) → a ≤ W.length → F [some ⟨.list (W.map .str), .sh⟩, some ⟨.int a, .sh⟩] = match W[a]? with
  | none => .exc (noT a) [none, none]
  | some _ => .ok (.sh (.tuple [encTk (tkT W a).1, .int ((tkT W a).2 : Int)])) [none, none]
theorem bang_ne : Str.ofString "!" ≠ Str.ofString "?" := by decide +kernel
theorem take_takes_ok2 {Fn Fw : FF} (hn : NameSp Fn) (hw : WordSp Fw) : TkG (fnF 3 2 (m_take_takes Fn Fw)) := fun W a hl ha => by
  rw [m_take_takes_eq]
  have e0 := hw W a ha
  unfold tkT
  cases h : W[a]? with
  | none => rw [h] at e0; dsimp only at e0 ⊢; simp [m_take_takes, e0, outR_2]
  | some w =>
    rw [h] at e0
    have lw : w.length ≤ sizeLine := fits (hl w (List.mem_of_getElem? h))
    have e2 := hn (tl1 w) (Nat.le_trans (tl1_len w) lw)
    dsimp only at e0 ⊢
    by_cases q3 : hd1 w = Str.ofString "!"
    · obtain ⟨cs, hc⟩ := hd1_at cpB q3
      have o1 : (⟨#[33]⟩ : Str) = Str.ofString "!" := by decide +kernel
      unfold tl1 at e2
      unfold hd1 at q3
      cases q4 : nameB (cutS w (some 1) none) with
      | true => rw [q4] at e2; simp [m_take_takes, e0, lw, q3, q4, e2, hc, PyData.eqv, flatD, o1, hd1, tl1, encTk, outR_2]
      | false => rw [q4] at e2; simp [m_take_takes, e0, lw, q3, q4, e2, PyData.eqv, flatD, hd1, tl1, encTk, outR_2]
    · by_cases q5 : hd1 w = Str.ofString "?"
      · obtain ⟨cs, hc⟩ := hd1_at cpQ q5
        have o1 : ¬ (⟨#[63]⟩ : Str) = Str.ofString "!" := by decide +kernel
        unfold tl1 at e2
        unfold hd1 at q5
        cases q4 : nameB (cutS w (some 1) none) with
        | true => rw [q4] at e2; simp [m_take_takes, e0, lw, q5, q4, e2, hc, PyData.eqv, flatD, o1, hd1, tl1, encTk, outR_2, bang_ne, bang_ne.symm]
        | false => rw [q4] at e2; simp [m_take_takes, e0, lw, q5, q4, e2, PyData.eqv, flatD, hd1, tl1, encTk, outR_2, bang_ne, bang_ne.symm]
      · unfold hd1 at q3 q5
        have q3' : ¬ Str.ofString "!" = cutS w none (some 1) := fun e => q3 e.symm
        have q5' : ¬ Str.ofString "?" = cutS w none (some 1) := fun e => q5 e.symm
        simp [m_take_takes, e0, lw, q3, q5, q3', q5', PyData.eqv, flatD, hd1, encTk, outR_2]
end GM
namespace GM
open PySem L2 GS
abbrev RdT := Except Nat (Tr × Nat)
abbrev RdL := Except Nat (List Tr × Nat)
def stepT (rec : Nat → RdT) (k : Nat → List Tr → RdL) (a : Nat) (ks : List Tr) : RdL := if ks.length = 8 then .error a else match rec a with
  | .error e => .error e
  | .ok (t, b) => k b (ks ++ [t])
def lpT (rec : Nat → RdT) (W : List Str) : Nat → Nat → List Tr → RdL
  | 0, a, _ => .error a
  | m + 1, a, ks => if ks = [] then stepT rec (lpT rec W m) a ks else match W[a]? with
    | none => .error a
    | some w => if w = CB then .ok (ks, a) else stepT rec (lpT rec W m) a ks
def rdT (W : List Str) : Nat → Nat → RdT
  | 0, a => .error a
  | n + 1, a => match W[a]? with
    | none => .error a
    | some w => if w = OB then (match W[a + 1]? with
      | none => .error (a + 1)
      | some nm => if nameB nm = true then (match lpT (rdT W n) W wFuel (tkT W (a + 2)).2 [] with
        | .error e => .error e
        | .ok (ks, b) => .ok (.knot nm (tkT W (a + 2)).1 ks, b + 1)) else .error (a + 1)) else match leafT w with
      | none => .error a
      | some t => .ok (t, a + 1)
def opensT (W : List Str) (a : Nat) : Nat := (W.drop a).count OB
theorem opensT_le (W : List Str) {a b : Nat} (h : a ≤ b) : opensT W b ≤ opensT W a := by
  unfold opensT
  have : W.drop b = (W.drop a).drop (b - a) := by rw [List.drop_drop]; congr 1; omega
  rw [this]
  exact (List.drop_sublist _ _).count_le _
theorem opensT_at {W : List Str} {a : Nat} (h : W[a]? = some OB) : opensT W (a + 1) + 1 = opensT W a := by
  unfold opensT
  obtain ⟨h1, h2⟩ := List.getElem?_eq_some_iff.mp h
  rw [List.drop_eq_getElem_cons h1, h2, List.count_cons]
  simp
structure EndsT (W : List Str) (n a : Nat) (r : RdT) : Prop where
  er : ∀ e, r = .error e → a ≤ e ∧ e ≤ W.length
  ok : ∀ t b, r = .ok (t, b) → a < b ∧ b ≤ W.length ∧ t.ok = true ∧ t.ht ≤ n
theorem leafT_ok {w : Str} {t : Tr} (h : leafT w = some t) : t.ok = true ∧ t.ht = 0 := by
  unfold leafT at h
  split at h
  · cases h; exact ⟨rfl, rfl⟩
  split at h
  · rename_i q; cases h; exact ⟨q, rfl⟩
  split at h
  · rename_i q; cases h; exact ⟨q.2, rfl⟩
  split at h
  · rename_i q; cases h; exact ⟨q.2, rfl⟩
  · cases h
structure KidsT (n : Nat) (ks : List Tr) : Prop where
  all : ∀ t ∈ ks, t.ok = true ∧ t.ht ≤ n
  num : ks.length ≤ 8
theorem KidsT.snoc {n : Nat} {ks : List Tr} {t : Tr} (h : KidsT n ks) (ht : t.ok = true ∧ t.ht ≤ n) (hl : ¬ ks.length = 8) : KidsT n (ks ++ [t]) :=
  ⟨fun u m => (List.mem_append.mp m).elim (h.all u) fun q => by simp at q; subst q; exact ht, by have := h.num; simp; omega⟩
theorem lpT_ends {rec : Nat → RdT} {W : List Str} {n : Nat} (h : ∀ a, a ≤ W.length → EndsT W n a (rec a)) : ∀ (m a : Nat) (ks : List Tr), a ≤ W.length → KidsT n ks →
    (∀ e, lpT rec W m a ks = .error e → a ≤ e ∧ e ≤ W.length) ∧ (∀ us b, lpT rec W m a ks = .ok (us, b) → a ≤ b ∧ b < W.length ∧ KidsT n us ∧ 1 ≤ us.length)
  | 0, a, ks, ha, _ => ⟨fun e q => by cases q; exact ⟨Nat.le_refl _, ha⟩, fun us b q => by cases q⟩
  | m + 1, a, ks, ha, hk => by
    have S : (∀ e, stepT rec (lpT rec W m) a ks = .error e → a ≤ e ∧ e ≤ W.length) ∧ (∀ us b, stepT rec (lpT rec W m) a ks = .ok (us, b) → a ≤ b ∧ b < W.length ∧ KidsT n us ∧ 1 ≤ us.length) := by
      unfold stepT
      by_cases q8 : ks.length = 8
      · rw [if_pos q8]; exact ⟨fun e q => by cases q; exact ⟨Nat.le_refl _, ha⟩, fun us b q => by cases q⟩
      · rw [if_neg q8]
        have h1 := h a ha
        cases hr : rec a with
        | error e => exact ⟨fun e' q => by cases q; exact h1.er e hr, fun us b q => by cases q⟩
        | ok x =>
          obtain ⟨t, b⟩ := x
          obtain ⟨q1, q2, q3, q4⟩ := h1.ok t b hr
          obtain ⟨r1, r2⟩ := lpT_ends h m b (ks ++ [t]) q2 (hk.snoc ⟨q3, q4⟩ q8)
          exact ⟨fun e q => by have := r1 e q; omega, fun us b' q => by obtain ⟨z1, z2, z3, z4⟩ := r2 us b' q; exact ⟨by omega, z2, z3, z4⟩⟩
    rw [lpT]
    by_cases hn : ks = []
    · rw [if_pos hn]; exact S
    · rw [if_neg hn]
      cases hw : W[a]? with
      | none => exact ⟨fun e q => by cases q; exact ⟨Nat.le_refl _, ha⟩, fun us b q => by cases q⟩
      | some w =>
        have hi := (List.getElem?_eq_some_iff.mp hw).1
        dsimp only
        by_cases hc : w = CB
        · rw [if_pos hc]
          exact ⟨(fun e q => by cases q), fun us b q => by cases q; exact ⟨Nat.le_refl _, hi, hk, List.length_pos_iff.mpr hn⟩⟩
        · rw [if_neg hc]; exact S
theorem rdT_ends (W : List Str) : ∀ (n a : Nat), a ≤ W.length → EndsT W n a (rdT W n a)
  | 0, a, ha => ⟨fun e q => by cases q; exact ⟨Nat.le_refl _, ha⟩, fun t b q => by cases q⟩
  | n + 1, a, ha => by
    rw [rdT]
    cases hw : W[a]? with
    | none => exact ⟨fun e q => by cases q; exact ⟨Nat.le_refl _, ha⟩, fun t b q => by cases q⟩
    | some w =>
      have hi := (List.getElem?_eq_some_iff.mp hw).1
      dsimp only
      by_cases hc : w = OB
      · rw [if_pos hc]
        cases hk : W[a + 1]? with
        | none => exact ⟨fun e q => by cases q; exact ⟨by omega, hi⟩, fun t b q => by cases q⟩
        | some nm =>
          have hi2 := (List.getElem?_eq_some_iff.mp hk).1
          dsimp only
          by_cases hkb : nameB nm = true
          · rw [if_pos hkb]
            obtain ⟨t1, t2, t3⟩ := tkT_ok W (a + 2)
            have t3 := t3 (by omega)
            obtain ⟨r1, r2⟩ := lpT_ends (rdT_ends W n) wFuel (tkT W (a + 2)).2 [] t3 ⟨by simp, by simp⟩
            cases hl : lpT (rdT W n) W wFuel (tkT W (a + 2)).2 [] with
            | error e => exact ⟨fun e' q => by cases q; have := r1 e hl; omega, fun t b q => by cases q⟩
            | ok x =>
              obtain ⟨ks, b⟩ := x
              obtain ⟨z1, z2, z3, z4⟩ := r2 ks b hl
              refine ⟨(fun e' q => by cases q), fun t b q => ?_⟩
              cases q
              refine ⟨by omega, by omega, ?_, ?_⟩
              · simp only [Tr.ok, Bool.and_eq_true]
                have := okL_of fun t m => (z3.all t m).1
                have := z3.num
                simp_all
              · have := htL_of fun t m => (z3.all t m).2
                simp only [Tr.ht]; omega
          · rw [if_neg hkb]
            exact ⟨fun e q => by cases q; exact ⟨by omega, hi⟩, fun t b q => by cases q⟩
      · rw [if_neg hc]
        cases hl : leafT w with
        | none => exact ⟨fun e q => by cases q; exact ⟨Nat.le_refl _, ha⟩, fun t b q => by cases q⟩
        | some t =>
          obtain ⟨l1, l2⟩ := leafT_ok hl
          exact ⟨(fun e q => by cases q), fun t b q => by cases q; exact ⟨by omega, hi, l1, by omega⟩⟩
structure WOkT (W : List Str) : Prop where
  num : W.length ≤ 200000
  len : ∀ w ∈ W, w.length ≤ 1000000
  ok : ∀ w ∈ W, PyData.strOk w = true
@[simp] theorem isD_enc (neg : Bool) (t : Tr) : isD neg t.enc .none = some (.sh (.bool neg)) := by
  obtain ⟨w, r, h⟩ := enc_word t
  rw [h]; rfl
def resX (r : RdT) : RE := match r with
  | .error e => .exc (noT e) [none, none]
  | .ok (t, b) => .ok (.sh (.tuple [t.enc, .int b])) [none, none]
def TakeT (n : Nat) (F : FF) : Prop := ∀ (W : List Str) (a : Nat), WOkT W → a ≤ W.length → opensT W a < n → F [some ⟨.list (W.map .str), .sh⟩, some ⟨.int a, .sh⟩] = resX (rdT W n a)
def KnotT (n : Nat) (F : FF) : Prop := ∀ (W : List Str) (a : Nat), WOkT W → W[a]? = some OB → opensT W a < n + 1 → F [some ⟨.list (W.map .str), .sh⟩, some ⟨.int a, .sh⟩] = resX (rdT W (n + 1) a)
theorem at_str' {W : List Str} {a : Nat} {w : Str} (h : W[a]? = some w) : L2.atI (W.map PyData.str) (a : Int) = some (.str w) := by
  rw [atI_nat (xs := W.map PyData.str) (j := a) (v := .str w) (by rw [List.getElem?_map, h]; rfl)]
section
variable {n : Nat} {Fw Ft Fx Fk Fn : FF}
theorem knot_loop (hw : WordSp Fw) (ht : TakeT n Ft) (hx : Raises Fx) {W : List Str} (ok : WOkT W) (at0 : Nat) (nm : Str) (tk : D) : ∀ (m f a : Nat) (ks : List Tr), W.length - a < m → m ≤ f → a ≤ W.length → opensT W a < n → ks.length ≤ 8 →
    match lpT (rdT W n) W m a ks with
    | .error e => ∃ a' ks', whileL (m_take_knot_2_t1 Fw Ft Fx Fk Fn) (m_take_knot_2_b2 Fw Ft Fx Fk Fn) f [some ⟨.list (W.map .str), .sh⟩, some ⟨.int at0, .sh⟩, some ⟨.str nm, .sh⟩, some ⟨.list (ks.map Tr.enc), .ow⟩, some ⟨tk, .sh⟩, some ⟨.int a, .sh⟩, none] = .exc (noT e) [some ⟨.list (W.map .str), .sh⟩, some ⟨.int at0, .sh⟩, some ⟨.str nm, .sh⟩, some ⟨.list ks', .ow⟩, some ⟨tk, .sh⟩, some ⟨.int a', .sh⟩, none]
    | .ok (us, b) => whileL (m_take_knot_2_t1 Fw Ft Fx Fk Fn) (m_take_knot_2_b2 Fw Ft Fx Fk Fn) f [some ⟨.list (W.map .str), .sh⟩, some ⟨.int at0, .sh⟩, some ⟨.str nm, .sh⟩, some ⟨.list (ks.map Tr.enc), .ow⟩, some ⟨tk, .sh⟩, some ⟨.int a, .sh⟩, none] = .nx [some ⟨.list (W.map .str), .sh⟩, some ⟨.int at0, .sh⟩, some ⟨.str nm, .sh⟩, some ⟨.list (us.map Tr.enc), .ow⟩, some ⟨tk, .sh⟩, some ⟨.int b, .sh⟩, none]
  | 0, f, a, ks, hm, _, _, _, _ => by omega
  | m + 1, 0, a, ks, _, hf, _, _, _ => by omega
  | m + 1, f + 1, a, ks, hm, hf, ha, ho, h8 => by
    have e1 := hw W a ha
    -- a turn of the body
    have B : m_take_knot_2_t1 Fw Ft Fx Fk Fn [some ⟨.list (W.map .str), .sh⟩, some ⟨.int at0, .sh⟩, some ⟨.str nm, .sh⟩, some ⟨.list (ks.map Tr.enc), .ow⟩, some ⟨tk, .sh⟩, some ⟨.int a, .sh⟩, none] = .ok (.sh (.bool true)) [some ⟨.list (W.map .str), .sh⟩, some ⟨.int at0, .sh⟩, some ⟨.str nm, .sh⟩, some ⟨.list (ks.map Tr.enc), .ow⟩, some ⟨tk, .sh⟩, some ⟨.int a, .sh⟩, none] →
      match stepT (rdT W n) (lpT (rdT W n) W m) a ks with
      | .error e => ∃ a' ks', whileL (m_take_knot_2_t1 Fw Ft Fx Fk Fn) (m_take_knot_2_b2 Fw Ft Fx Fk Fn) (f + 1) [some ⟨.list (W.map .str), .sh⟩, some ⟨.int at0, .sh⟩, some ⟨.str nm, .sh⟩, some ⟨.list (ks.map Tr.enc), .ow⟩, some ⟨tk, .sh⟩, some ⟨.int a, .sh⟩, none] = .exc (noT e) [some ⟨.list (W.map .str), .sh⟩, some ⟨.int at0, .sh⟩, some ⟨.str nm, .sh⟩, some ⟨.list ks', .ow⟩, some ⟨tk, .sh⟩, some ⟨.int a', .sh⟩, none]
      | .ok (us, b) => whileL (m_take_knot_2_t1 Fw Ft Fx Fk Fn) (m_take_knot_2_b2 Fw Ft Fx Fk Fn) (f + 1) [some ⟨.list (W.map .str), .sh⟩, some ⟨.int at0, .sh⟩, some ⟨.str nm, .sh⟩, some ⟨.list (ks.map Tr.enc), .ow⟩, some ⟨tk, .sh⟩, some ⟨.int a, .sh⟩, none] = .nx [some ⟨.list (W.map .str), .sh⟩, some ⟨.int at0, .sh⟩, some ⟨.str nm, .sh⟩, some ⟨.list (us.map Tr.enc), .ow⟩, some ⟨tk, .sh⟩, some ⟨.int b, .sh⟩, none] := fun t1 => by
      rw [whileL_succ, t1, bindBS_ok, if_pos rfl]
      unfold stepT
      by_cases q8 : ks.length = 8
      · rw [if_pos q8]
        exact ⟨a, ks.map Tr.enc, by simp [m_take_knot_2_b2, q8, sRaise_eq hx, noT]⟩
      · rw [if_neg q8]
        have q8' : ¬ (ks.length : Int) = 8 := by omega
        have e4 := ht W a ok ha ho
        have hE := rdT_ends W n a ha
        cases hr : rdT W n a with
        | error e =>
          rw [hr] at e4
          dsimp only [resX] at e4 ⊢
          exact ⟨a, ks.map Tr.enc, by simp [m_take_knot_2_b2, q8, q8', e4]⟩
        | ok x =>
          obtain ⟨t, b⟩ := x
          rw [hr] at e4
          dsimp only [resX] at e4 ⊢
          obtain ⟨q1, q2, _⟩ := hE.ok t b hr
          have hal : ks.length < sizeLine := fitsl (by omega)
          have b1 : m_take_knot_2_b2 Fw Ft Fx Fk Fn [some ⟨.list (W.map .str), .sh⟩, some ⟨.int at0, .sh⟩, some ⟨.str nm, .sh⟩, some ⟨.list (ks.map Tr.enc), .ow⟩, some ⟨tk, .sh⟩, some ⟨.int a, .sh⟩, none] = .nx [some ⟨.list (W.map .str), .sh⟩, some ⟨.int at0, .sh⟩, some ⟨.str nm, .sh⟩, some ⟨.list ((ks ++ [t]).map Tr.enc), .ow⟩, some ⟨tk, .sh⟩, some ⟨.int b, .sh⟩, none] := by
            simp [m_take_knot_2_b2, q8, q8', e4, hal]
          rw [b1, turnR_nx]
          exact knot_loop hw ht hx ok at0 nm tk m f b (ks ++ [t]) (by omega) (by omega) q2 (Nat.lt_of_le_of_lt (opensT_le W (by omega)) ho) (by simp; omega)
    rw [lpT]
    by_cases hn : ks = []
    · rw [if_pos hn]
      exact B (by subst hn; simp [m_take_knot_2_t1])
    · rw [if_neg hn]
      have hn' : ¬ (ks.length : Int) = 0 := by have := List.length_pos_iff.mpr hn; omega
      cases hwa : W[a]? with
      | none =>
        rw [hwa] at e1
        dsimp only at e1 ⊢
        exact ⟨a, ks.map Tr.enc, by rw [whileL_succ]; simp [m_take_knot_2_t1, hn, hn', e1]⟩
      | some w =>
        rw [hwa] at e1
        dsimp only at e1 ⊢
        by_cases hc : w = CB
        · rw [if_pos hc]
          dsimp only
          rw [whileL_succ]; simp [m_take_knot_2_t1, e1, hc, hn, hn']
        · rw [if_neg hc]
          exact B (by simp [m_take_knot_2_t1, e1, hc, hn, hn'])
theorem take_knot_ok2 (hw : WordSp Fw) (ht : TakeT n Ft) (hx : Raises Fx) (hk : TkG Fk) (hn : NameSp Fn) : KnotT n (fnF 7 2 (m_take_knot_2 Fw Ft Fx Fk Fn)) := fun W a ok hwa ho => by
  rw [m_take_knot_2_eq, rdT, hwa]
  have hi := (List.getElem?_eq_some_iff.mp hwa).1
  have ho2 := opensT_at hwa
  dsimp only
  rw [if_pos rfl]
  have e2 := hw W (a + 1) hi
  simp only [Int.natCast_add, Int.cast_ofNat_Int] at e2
  cases hk1 : W[a + 1]? with
  | none =>
    rw [hk1] at e2
    dsimp only [resX] at e2 ⊢
    simp [m_take_knot_2, e2, outR_2]
  | some nm =>
    rw [hk1] at e2
    have hi2 := (List.getElem?_eq_some_iff.mp hk1).1
    have hmem : nm ∈ W := List.mem_of_getElem? hk1
    dsimp only at e2 ⊢
    have e3 := hn nm (fits (by have := ok.len nm hmem; omega))
    by_cases hkb : nameB nm = true
    · rw [if_pos hkb]
      rw [hkb] at e3
      have e4 := hk W (a + 2) ok.len (by omega)
      simp only [Int.natCast_add, Int.cast_ofNat_Int] at e4
      obtain ⟨t1, t2, t3⟩ := tkT_ok W (a + 2)
      have t3 := t3 (by omega)
      cases hk2 : W[a + 2]? with
      | none =>
        rw [hk2] at e4
        have tz : tkT W (a + 2) = (none, a + 2) := by unfold tkT; rw [hk2]
        have hz : rdT W n (a + 2) = .error (a + 2) := by
          cases n with
          | zero => rfl
          | succ n => rw [rdT, hk2]
        have hl : lpT (rdT W n) W wFuel (a + 2) [] = .error (a + 2) := by
          show lpT (rdT W n) W (999999 + 1) (a + 2) [] = _
          rw [lpT, if_pos rfl, stepT, if_neg (by simp), hz]
        rw [tz]
        dsimp only at e4 ⊢
        rw [hl]
        dsimp only [resX]
        simp [m_take_knot_2, e2, e3, e4, outR_2]
      | some w2 =>
        rw [hk2] at e4
        dsimp only at e4
        have L := knot_loop (Fk := Fk) (Fn := Fn) hw ht hx ok a nm (encTk (tkT W (a + 2)).1) wFuel wFuel (tkT W (a + 2)).2 [] (by have := ok.num; unfold wFuel; omega) (Nat.le_refl _) t3 (by have := opensT_le W (show a + 1 ≤ (tkT W (a + 2)).2 by omega); omega) (by simp)
        generalize tkT W (a + 2) = T at L e4 ⊢
        cases hl : lpT (rdT W n) W wFuel T.2 [] with
        | error e =>
          rw [hl] at L
          dsimp only [resX] at L ⊢
          obtain ⟨a', ks', L⟩ := L
          simp only [List.map_nil] at L
          simp [m_take_knot_2, e2, e3, e4, L, outR_2]
        | ok x =>
          obtain ⟨us, b⟩ := x
          rw [hl] at L
          dsimp only [resX] at L ⊢
          simp only [List.map_nil] at L
          simp [m_take_knot_2, e2, e3, e4, L, outR_2, Tr.enc, encL_map]
    · rw [if_neg hkb]
      simp only [Bool.not_eq_true] at hkb
      rw [hkb] at e3
      dsimp only [resX]
      simp [m_take_knot_2, e2, e3, outR_2, sRaise_eq hx, noT]
theorem take_tree_ok2 {Fl : FF} (hx : Raises Fx) (hl : LeafG Fl) (hk : ∀ m, m + 1 = n → KnotT m Fk) (hw : WordSp Fw) : TakeT n (fnF 4 2 (m_take_tree_2 Fx Fl Fk Fw)) := fun W a ok ha ho => by
  rw [m_take_tree_2_eq]
  obtain ⟨n', rfl⟩ : ∃ n', n = n' + 1 := ⟨n - 1, by omega⟩
  have e1 := hw W a ha
  cases hwa : W[a]? with
  | none =>
    rw [hwa] at e1
    rw [rdT, hwa]
    dsimp only [resX] at e1 ⊢
    simp [m_take_tree_2, e1, outR_2]
  | some w =>
    rw [hwa] at e1
    dsimp only at e1
    by_cases hc : w = OB
    · subst hc
      have e2 := hk n' rfl W a ok hwa ho

      cases hr : rdT W (n' + 1) a with
      | error e =>
        rw [hr] at e2
        dsimp only [resX] at e2 ⊢
        simp [m_take_tree_2, e1, e2, outR_2]
      | ok x =>
        obtain ⟨t, b⟩ := x
        rw [hr] at e2
        dsimp only [resX] at e2 ⊢
        simp [m_take_tree_2, e1, e2, outR_2]
    · rw [rdT, hwa]
      dsimp only
      rw [if_neg hc]
      have e3 := hl w (ok.len w (List.mem_of_getElem? hwa))
      cases hlf : leafT w with
      | none =>
        rw [hlf] at e3
        dsimp only [resX, encO] at e3 ⊢
        simp [m_take_tree_2, e1, hc, e3, outR_2, sRaise_eq hx, noT]
      | some t =>
        rw [hlf] at e3
        dsimp only [resX, encO] at e3 ⊢
        simp [m_take_tree_2, e1, hc, e3, outR_2]
end
end GM
namespace GM
open PySem L2 GS
def ReadT (n : Nat) (F : FF) : Prop := ∀ (W : List Str), WOkT W → W ≠ [] → (∀ w ∈ W, 32 ∉ w.cps.toList) → (lineT W).length ≤ 1000000 → opensT W 0 < n → F [some ⟨.str (lineT W), .sh⟩] = match rdT W n 0 with
  | .error e => .exc (noT e) [none]
  | .ok (t, b) => if b < W.length then .exc (noT b) [none] else .ok (.sh t.enc) [none]
theorem read_tree_ok2 {n : Nat} {Fx Ft : FF} (hx : Raises Fx) (ht : TakeT n Ft) : ReadT n (fnF 4 1 (m_read_tree_2 Fx Ft)) := fun W ok h0 hb hl ho => by
  rw [m_read_tree_2_eq]
  have hs := splitD_s (lineT W) BL (by rw [len_eq, cpBL]; decide) (by omega)
  rw [line_split2 h0 hb] at hs
  have e := ht W 0 ok (by omega) ho
  cases hr : rdT W n 0 with
  | error e' =>
    rw [hr] at e
    dsimp only [resX] at e ⊢
    rw [show ((0 : Nat) : Int) = 0 from rfl] at e
    simp [m_read_tree_2, hs, e, outR_1]
  | ok x =>
    obtain ⟨t, b⟩ := x
    rw [hr] at e
    dsimp only [resX] at e ⊢
    rw [show ((0 : Nat) : Int) = 0 from rfl] at e
    by_cases q : b < W.length
    · have q' : (b : Int) < W.length := by omega
      simp [m_read_tree_2, hs, e, q, q', outR_1, sRaise_eq hx, noT]
    · have q' : ¬ (b : Int) < W.length := by omega
      simp [m_read_tree_2, hs, e, q, q', outR_1]
section
variable {n : Nat} {Fd Fn Fl : FF}
end
end GM
namespace GM
open PySem L2 GS
/-- _law_kid(state, left); slots 0:state 1:left 2:cell 3:sign 4:name 5:takes 6:kids 7:k -/
def m_law_kid_b1 (F__law_kid F__law_cell : FF) : SF := (sKill [7] (sApp 6 (eCall 2 (some 0) F__law_kid (aCons (eVb 0) (aCons (eBin subD (eVb 1) (eC (.int 1))) aNil)))))
def m_law_kid (F__law_kid F__law_cell : FF) : SF := (sSeq (sSet 2 (eCall 1 (some 0) F__law_cell (aCons (eVb 0) aNil))) (sSeq (sSet 3 (eTup (aCons (eC (.str (Str.ofString "sign"))) (aCons (eBin ixA (eLst (aCons (eC (.str (Str.ofString "a"))) (aCons (eC (.str (Str.ofString "b"))) (aCons (eC (.str (Str.ofString "ab"))) aNil)))) (eBin modD (eBin divD (eVb 2) (eC (.int 5))) (eC (.int 3)))) aNil)))) (sSeq (sSet 4 (eBin ixA (eLst (aCons (eC (.str (Str.ofString "S"))) (aCons (eC (.str (Str.ofString "S1"))) (aCons (eC (.str (Str.ofString "S2"))) aNil)))) (eBin modD (eBin divD (eVb 2) (eC (.int 15))) (eC (.int 3))))) (sSeq (sIf (eOr (eB (eBin (eqB false) (eVb 1) (eC (.int 0)))) (eB (eBin (ltI fun i j => decide (i < j)) (eBin modD (eVb 2) (eC (.int 5))) (eC (.int 3))))) (sEnd (sRet (eBin ixA (eLst (aCons (eMv 3) (aCons (eMv 3) (aCons (eTup (aCons (eC (.str (Str.ofString "void"))) aNil)) (aCons (eTup (aCons (eC (.str (Str.ofString "hole"))) (aCons (eMv 4) aNil))) aNil))))) (eBin modD (eBin divD (eVb 2) (eC (.int 45))) (eC (.int 4)))))) sNil) (sSeq (sSet 5 (eBin ixA (eLst (aCons (eC .none) (aCons (eTup (aCons (eMv 4) (aCons (eC (.bool false)) aNil))) (aCons (eTup (aCons (eC (.str (Str.ofString "Z"))) (aCons (eC (.bool false)) aNil))) (aCons (eTup (aCons (eMv 4) (aCons (eC (.bool true)) aNil))) aNil))))) (eBin modD (eBin divD (eVb 2) (eC (.int 45))) (eC (.int 4))))) (sSeq (sSet 6 (eLst aNil)) (sSeq (sFor (iR1 (eBin addD (eC (.int 1)) (eBin modD (eBin divD (eVb 2) (eC (.int 180))) (eC (.int 3))))) (gN 7) (m_law_kid_b1 F__law_kid F__law_cell)) (sEnd (sRet (eTup (aCons (eC (.str (Str.ofString "knot"))) (aCons (eBin ixA (eLst (aCons (eC (.str (Str.ofString "S"))) (aCons (eC (.str (Str.ofString "S1"))) (aCons (eC (.str (Str.ofString "S2"))) aNil)))) (eBin modD (eBin divD (eVb 2) (eC (.int 540))) (eC (.int 3)))) (aCons (eMv 5) (aCons (eCB (un1 tupleD) (aCons (eVb 6) aNil)) aNil))))))))))))))
theorem m_law_kid_eq (F__law_kid F__law_cell : FF) (ρ : Rho) : fnF 8 2 (m_law_kid F__law_kid F__law_cell) ρ = finR 2 (m_law_kid F__law_kid F__law_cell (ρ ++ [none, none, none, none, none, none])) := fnF_eq 8 2 _
/-- _law_footed(tree, foot, cell); slots 0:tree 1:foot 2:cell 3:knots 4:at 5:inner 6:k -/
def m_law_footed_ct1 (F__law_footed : FF) : EF := (eB (eBin (eqB false) (eBin ixA (eBin ixA (eBin ixA (eVb 0) (eC (.int 3))) (eVb 6)) (eC (.int 0))) (eC (.str (Str.ofString "knot")))))
def m_law_footed_ce2 (F__law_footed : FF) : EF := (eMv 6)
def m_law_footed (F__law_footed : FF) : SF := (sSeq (sSet 3 (eLc [6] (iR1 (eCB (un1 lenD) (aCons (eBin ixA (eVb 0) (eC (.int 3))) aNil))) (gN 6) (eNox (m_law_footed_ct1 F__law_footed)) (eNox (m_law_footed_ce2 F__law_footed)))) (sSeq (sKill [4, 5] (sIf (eAnd (eB (eBin (ltI fun i j => decide (j < i)) (eCB (un1 lenD) (aCons (eVb 3) aNil)) (eC (.int 0)))) (eB (eBin (eqB false) (eBin modD (eVb 2) (eC (.int 2))) (eC (.int 1))))) (sSeq (sSet 4 (eBin ixA (eVb 3) (eBin modD (eBin divD (eVb 2) (eC (.int 2))) (eCB (un1 lenD) (aCons (eVb 3) aNil))))) (sSeq (sSet 5 (eCall 3 none F__law_footed (aCons (eBin ixA (eBin ixA (eVb 0) (eC (.int 3))) (eVb 4)) (aCons (eMv 1) (aCons (eBin divD (eVb 2) (eC (.int 6))) aNil))))) (sEnd (sRet (eBin addD (eSl (eVb 0) none (some (eC (.int 3)))) (eTup (aCons (eBin addD (eBin addD (eSl (eBin ixA (eVb 0) (eC (.int 3))) none (some (eVb 4))) (eTup (aCons (eMv 5) aNil))) (eSl (eBin ixA (eVb 0) (eC (.int 3))) (some (eBin addD (eVb 4) (eC (.int 1)))) none)) aNil))))))) sNil)) (sSeq (sSet 4 (eBin modD (eBin divD (eVb 2) (eC (.int 2))) (eBin addD (eCB (un1 lenD) (aCons (eBin ixA (eVb 0) (eC (.int 3))) aNil)) (eC (.int 1))))) (sEnd (sRet (eBin addD (eSl (eVb 0) none (some (eC (.int 3)))) (eTup (aCons (eBin addD (eBin addD (eSl (eBin ixA (eVb 0) (eC (.int 3))) none (some (eVb 4))) (eTup (aCons (eMv 1) aNil))) (eSl (eBin ixA (eVb 0) (eC (.int 3))) (some (eVb 4)) none)) aNil))))))))
theorem m_law_footed_eq (F__law_footed : FF) (ρ : Rho) : fnF 7 3 (m_law_footed F__law_footed) ρ = finR 3 (m_law_footed F__law_footed (ρ ++ [none, none, none, none])) := fnF_eq 7 3 _
/-- _law_drawn(state, left); slots 0:state 1:left 2:cell 3:takes 4:kids 5:k 6:tree -/
def m_law_drawn_b1 (F__law_footed F__law_kid F__law_cell : FF) : SF := (sKill [5] (sIns 4 (eBin modD (eBin divD (eVb 2) (eC (.int 24))) (eBin addD (eCB (un1 lenD) (aCons (eVb 4) aNil)) (eC (.int 1)))) (eCall 2 (some 0) F__law_kid (aCons (eVb 0) (aCons (eMv 1) aNil)))))
def m_law_drawn (F__law_footed F__law_kid F__law_cell : FF) : SF := (sSeq (sSet 2 (eCall 1 (some 0) F__law_cell (aCons (eVb 0) aNil))) (sSeq (sSet 3 (eBin ixA (eLst (aCons (eC .none) (aCons (eTup (aCons (eC (.str (Str.ofString "S1"))) (aCons (eC (.bool false)) aNil))) (aCons (eTup (aCons (eC (.str (Str.ofString "S2"))) (aCons (eC (.bool false)) aNil))) (aCons (eTup (aCons (eC (.str (Str.ofString "S1"))) (aCons (eC (.bool true)) aNil))) aNil))))) (eBin modD (eVb 2) (eC (.int 4))))) (sSeq (sSet 4 (eLst (aCons (eTup (aCons (eC (.str (Str.ofString "sign"))) (aCons (eBin ixA (eLst (aCons (eC (.str (Str.ofString "a"))) (aCons (eC (.str (Str.ofString "b"))) aNil))) (eBin modD (eBin divD (eVb 2) (eC (.int 4))) (eC (.int 2)))) aNil))) aNil))) (sSeq (sFor (iR1 (eBin modD (eBin divD (eVb 2) (eC (.int 8))) (eC (.int 3)))) (gN 5) (m_law_drawn_b1 F__law_footed F__law_kid F__law_cell)) (sSeq (sSet 6 (eTup (aCons (eC (.str (Str.ofString "knot"))) (aCons (eBin ixA (eLst (aCons (eC (.str (Str.ofString "S"))) (aCons (eC (.str (Str.ofString "S1"))) (aCons (eC (.str (Str.ofString "S2"))) aNil)))) (eBin modD (eBin divD (eVb 2) (eC (.int 72))) (eC (.int 3)))) (aCons (eMv 3) (aCons (eCB (un1 tupleD) (aCons (eVb 4) aNil)) aNil)))))) (sSeq (sIf (eB (eBin (eqB false) (eBin modD (eBin divD (eVb 2) (eC (.int 216))) (eC (.int 2))) (eC (.int 0)))) (sEnd (sRet (eRv 6))) sNil) (sEnd (sRet (eCall 3 none F__law_footed (aCons (eMv 6) (aCons (eTup (aCons (eC (.str (Str.ofString "foot"))) (aCons (eBin ixA (eLst (aCons (eC (.str (Str.ofString "S"))) (aCons (eC (.str (Str.ofString "S1"))) (aCons (eC (.str (Str.ofString "S2"))) aNil)))) (eBin modD (eBin divD (eVb 2) (eC (.int 432))) (eC (.int 3)))) aNil))) (aCons (eBin divD (eVb 2) (eC (.int 1296))) aNil))))))))))))
theorem m_law_drawn_eq (F__law_footed F__law_kid F__law_cell : FF) (ρ : Rho) : fnF 7 2 (m_law_drawn F__law_footed F__law_kid F__law_cell) ρ = finR 2 (m_law_drawn F__law_footed F__law_kid F__law_cell (ρ ++ [none, none, none, none, none])) := fnF_eq 7 2 _
/-- _law_book(state, many, left); slots 0:state 1:many 2:left 3:cell 4:trees 5:k 6:name 7:foot 8:kids 9:key -/
def m_law_book_b1 (F__law_drawn F__law_cell : FF) : SF := (sKill [5, 9] (sSeq (sSet 9 (eBin ixA (eLst (aCons (eC (.str (Str.ofString "p"))) (aCons (eC (.str (Str.ofString "qq"))) (aCons (eC (.str (Str.ofString "r2"))) (aCons (eC (.str (Str.ofString "tall"))) (aCons (eC (.str (Str.ofString "u"))) aNil)))))) (eVb 5))) (sIns 4 (eBin modD (eBin divD (eVb 3) (eBin addD (eVb 5) (eC (.int 7)))) (eBin addD (eCB (un1 lenD) (aCons (eVb 4) aNil)) (eC (.int 1)))) (eTup (aCons (eMv 9) (aCons (eCall 2 (some 0) F__law_drawn (aCons (eVb 0) (aCons (eMv 2) aNil))) aNil))))))
def m_law_book_b2 (F__law_drawn F__law_cell : FF) : SF := (sKill [5, 6, 7, 8] (sSeq (sSet 6 (eBin ixA (eLst (aCons (eC (.str (Str.ofString "S"))) (aCons (eC (.str (Str.ofString "S1"))) (aCons (eC (.str (Str.ofString "S2"))) aNil)))) (eVb 5))) (sSeq (sApp 4 (eTup (aCons (eBin ixA (eLst (aCons (eC (.str (Str.ofString "s"))) (aCons (eC (.str (Str.ofString "x0"))) (aCons (eC (.str (Str.ofString "keytree"))) aNil)))) (eVb 5)) (aCons (eTup (aCons (eC (.str (Str.ofString "knot"))) (aCons (eMv 6) (aCons (eC .none) (aCons (eTup (aCons (eTup (aCons (eC (.str (Str.ofString "sign"))) (aCons (eBin ixA (eLst (aCons (eC (.str (Str.ofString "a"))) (aCons (eC (.str (Str.ofString "b"))) (aCons (eC (.str (Str.ofString "a"))) aNil)))) (eVb 5)) aNil))) aNil)) aNil))))) aNil)))) (sSeq (sSet 7 (eTup (aCons (eC (.str (Str.ofString "foot"))) (aCons (eMv 6) aNil)))) (sSeq (sSet 8 (eBin ixA (eLst (aCons (eTup (aCons (eTup (aCons (eC (.str (Str.ofString "sign"))) (aCons (eC (.str (Str.ofString "b"))) aNil))) (aCons (eMv 7) aNil))) (aCons (eTup (aCons (eMv 7) (aCons (eTup (aCons (eC (.str (Str.ofString "sign"))) (aCons (eC (.str (Str.ofString "a"))) aNil))) aNil))) aNil))) (eBin modD (eBin divD (eVb 3) (eBin addD (eVb 5) (eC (.int 1)))) (eC (.int 2))))) (sApp 4 (eTup (aCons (eBin ixA (eLst (aCons (eC (.str (Str.ofString "g"))) (aCons (eC (.str (Str.ofString "h1"))) (aCons (eC (.str (Str.ofString "graftofaone"))) aNil)))) (eVb 5)) (aCons (eTup (aCons (eC (.str (Str.ofString "knot"))) (aCons (eMv 6) (aCons (eC .none) (aCons (eMv 8) aNil))))) aNil)))))))))
def m_law_book (F__law_drawn F__law_cell : FF) : SF := (sSeq (sSet 3 (eCall 1 (some 0) F__law_cell (aCons (eVb 0) aNil))) (sSeq (sSet 4 (eLst aNil)) (sSeq (sFor (iR1 (eC (.int 3))) (gN 5) (m_law_book_b2 F__law_drawn F__law_cell)) (sSeq (sFor (iR1 (eVb 1)) (gN 5) (m_law_book_b1 F__law_drawn F__law_cell)) (sEnd (sRet (eTup (aCons (eBin ixA (eLst (aCons (eC (.str (Str.ofString "S"))) (aCons (eC (.str (Str.ofString "S"))) (aCons (eC (.str (Str.ofString "S1"))) aNil)))) (eBin modD (eBin divD (eVb 3) (eC (.int 3))) (eC (.int 3)))) (aCons (eCB (un1 tupleD) (aCons (eVb 4) aNil)) aNil)))))))))
theorem m_law_book_eq (F__law_drawn F__law_cell : FF) (ρ : Rho) : fnF 10 3 (m_law_book F__law_drawn F__law_cell) ρ = finR 3 (m_law_book F__law_drawn F__law_cell (ρ ++ [none, none, none, none, none, none, none])) := fnF_eq 10 3 _
end GM
namespace GM
open PySem L2 GS
def capN : Nat → Nat
  | 0 => 1
  | l + 1 => 1 + 3 * capN l
theorem capN_few {n : Nat} (h : capN n ≤ 15) : 3 * capN n + 2 ≤ 42 + 2 * n := by
  match n, h with
  | 0, _ => simp [capN]
  | 1, _ => simp [capN]
  | 2, _ => simp [capN]
  | n + 3, h =>
    have h' : 1 + 3 * (1 + 3 * (1 + 3 * capN n)) ≤ 15 := h
    omega
theorem capN_pos (l : Nat) : 1 ≤ capN l := by cases l <;> simp [capN]
/-- no knot has more than three kids -/
def Nar (t : Tr) : Prop := ∀ u ∈ t.pieces, u.kids.length ≤ 3
theorem Nar.kid {t k : Tr} (h : Nar t) (m : k ∈ t.kids) : Nar k := fun u mu => h u (by
  rw [pieces_kids t]
  exact List.mem_cons_of_mem _ (List.mem_flatMap.mpr ⟨k, m, mu⟩))
theorem Nar.knot {n : Str} {tk : Option (Str × Bool)} {ks : List Tr} (hl : ks.length ≤ 3) (h : ∀ k ∈ ks, Nar k) : Nar (.knot n tk ks) := fun u mu => by
  rw [pieces_kids] at mu
  rcases List.mem_cons.mp mu with rfl | mu
  · exact hl
  · obtain ⟨k, mk, mu⟩ := List.mem_flatMap.mp mu
    exact h k mk u mu
/-- what must be put has one of three names -/
def nm3 : List Str := [Str.ofString "S", Str.ofString "S1", Str.ofString "S2"]
def wtk : Option (Str × Bool) → Bool
  | some (n, c) => decide (n ∈ nm3) || (!c && decide (n = Str.ofString "Z"))
  | none => true
def sg3 : List Str := [Str.ofString "a", Str.ofString "b", Str.ofString "ab"]
def WnB : Tr → Bool
  | .hole n => decide (n ∈ nm3)
  | .knot n tk _ => decide (n ∈ nm3) && wtk tk
  | .foot n => decide (n ∈ nm3)
  | .sign s => decide (s ∈ sg3)
  | .void => true
def Wn (t : Tr) : Prop := ∀ u ∈ t.pieces, WnB u = true
theorem Wn.knot {n : Str} {tk : Option (Str × Bool)} {ks : List Tr} (h : (decide (n ∈ nm3) && wtk tk) = true) (hk : ∀ k ∈ ks, Wn k) : Wn (.knot n tk ks) := fun u mu => by
  rw [pieces_kids] at mu
  rcases List.mem_cons.mp mu with rfl | mu
  · exact h
  · obtain ⟨k, mk, mu⟩ := List.mem_flatMap.mp mu
    exact hk k mk u mu
theorem Wn.kid {t k : Tr} (h : Wn t) (m : k ∈ t.kids) : Wn k := fun u mu => h u (by
  rw [pieces_kids]
  exact List.mem_cons_of_mem _ (List.mem_flatMap.mpr ⟨k, m, mu⟩))
theorem Wn.self {t : Tr} (h : Wn t) : WnB t = true := h t (by rw [pieces_kids]; simp)
theorem Wn.one {t : Tr} (h : t.kids = []) (hw : WnB t = true) : Wn t := fun u mu => by
  rw [pieces_kids, h] at mu
  simp at mu
  subst mu
  exact hw
structure KidOk (l : Nat) (t : Tr) : Prop where
  ok : t.ok = true
  ht : t.ht ≤ l
  feet : t.feet = []
  sz : t.pieces.length ≤ capN l
  nar : Nar t
  wn : Wn t
theorem kid_leaf {l : Nat} {t : Tr} (h : t.kids = []) (ok : t.ok = true) (hh : t.ht = 0) (hf : t.footN = none) (hw : WnB t = true := by rfl) : KidOk l t := by
  have hp : t.pieces = [t] := by rw [pieces_kids, h]; rfl
  refine ⟨ok, by omega, by unfold Tr.feet; rw [hp]; simp [hf], by rw [hp]; exact capN_pos l, fun u mu => ?_, Wn.one h hw⟩
  rw [hp] at mu
  simp at mu
  subst mu
  rw [h]; simp
def KidGen (n : Nat) (F : FF) : Prop := ∀ (ns : List Int) (a : Nat) (ex : Option Int) (l : Nat), l ≤ n → ∃ (t : Tr) (a' : Nat), F [some ⟨stD ns a ex, .io⟩, some ⟨.int l, .sh⟩] = .ok (.sh t.enc) [some ⟨stD ns a' ex, .io⟩, none] ∧ KidOk l t
theorem n3 (c : Int) : ∃ z : Str, pick [PyData.str (Str.ofString "S"), .str (Str.ofString "S1"), .str (Str.ofString "S2")] (c % 3) = .str z ∧ nameB z = true ∧ decide (z ∈ nm3) = true :=
  pick3 (P := fun d => ∃ z : Str, d = .str z ∧ nameB z = true ∧ decide (z ∈ nm3) = true) c ⟨_, rfl, by decide +kernel, by decide +kernel⟩ ⟨_, rfl, by decide +kernel, by decide +kernel⟩ ⟨_, rfl, by decide +kernel, by decide +kernel⟩
theorem law_kid_ok {n : Nat} {Fk Fc : FF} (hc : CellSp Fc) (hk : ∀ m, m + 1 = n → KidGen m Fk) : KidGen n (fnF 8 2 (m_law_kid Fk Fc)) := fun ns a ex l hle => by
  obtain ⟨c, a0, h1⟩ := hc ns a ex
  obtain ⟨sg, esg, osg, wsg⟩ := pick3 (P := fun d => ∃ z : Str, d = .str z ∧ signB z = true ∧ decide (z ∈ sg3) = true) (a := .str (Str.ofString "a")) (b := .str (Str.ofString "b")) (d := .str (Str.ofString "ab")) (c / 5) ⟨_, rfl, by decide +kernel, by decide +kernel⟩ ⟨_, rfl, by decide +kernel, by decide +kernel⟩ ⟨_, rfl, by decide +kernel, by decide +kernel⟩
  obtain ⟨nm, enm, onm, wnm⟩ := n3 (c / 15)
  by_cases q : l = 0 ∨ c % 5 < 3
  · obtain ⟨t, et, ht⟩ := pick4 (P := fun d => ∃ t : Tr, d = t.enc ∧ KidOk l t) (a := Tr.enc (.sign sg)) (b := Tr.enc (.sign sg)) (d := Tr.enc .void) (f := Tr.enc (.hole nm)) (c / 45) ⟨_, rfl, kid_leaf rfl osg rfl rfl wsg⟩ ⟨_, rfl, kid_leaf rfl osg rfl rfl wsg⟩ ⟨_, rfl, kid_leaf rfl rfl rfl rfl⟩ ⟨_, rfl, kid_leaf rfl onm rfl rfl wnm⟩
    refine ⟨t, a0, ?_, ht⟩
    rw [m_law_kid_eq]
    simp only [Tr.enc] at et
    by_cases q1 : l = 0
    · simp [m_law_kid, h1, esg, enm, q1, et]
    · have q2 : c % 5 < 3 := by omega
      simp [m_law_kid, h1, esg, enm, q1, q2, et]
  · have q1 : ¬ l = 0 := by omega
    have q2 : ¬ c % 5 < 3 := by omega
    obtain ⟨tk, etk, otk, wkt⟩ := pick4 (P := fun d => ∃ tk : Option (Str × Bool), d = encTk tk ∧ okTk tk = true ∧ wtk tk = true) (a := .none) (b := .tuple [.str nm, .bool false]) (d := .tuple [.str (Str.ofString "Z"), .bool false]) (f := .tuple [.str nm, .bool true]) (c / 45) ⟨none, rfl, rfl, rfl⟩ ⟨some (nm, false), rfl, onm, by rw [wtk, wnm]; rfl⟩ ⟨some (_, false), rfl, by decide +kernel, by decide +kernel⟩ ⟨some (nm, true), rfl, onm, by rw [wtk, wnm]; rfl⟩
    obtain ⟨nm2, enm2, onm2, wnm2⟩ := n3 (c / 540)
    obtain ⟨m, hm, hm3⟩ : ∃ m : Nat, (1 : Int) + c / 180 % 3 = m ∧ 1 ≤ m ∧ m ≤ 3 := ⟨(1 + c / 180 % 3).toNat, by omega, by omega, by omega⟩
    have hk' := hk (n - 1) (by omega)
    obtain ⟨⟨ts, a'⟩, hf, hf1, hf2⟩ := forL_by (S := List Tr × Nat) (g := gN 7) (b := m_law_kid_b1 Fk Fc) (fun p => [some ⟨stD ns p.2 ex, .io⟩, some ⟨.int l, .sh⟩, some ⟨.int c, .sh⟩, some ⟨.tuple [.str (Str.ofString "sign"), .str sg], .sh⟩, some ⟨.str nm, .sh⟩, some ⟨encTk tk, .sh⟩, some ⟨.list (p.1.map Tr.enc), .ow⟩, none])
      (fun pre p => p.1.length = pre.length ∧ ∀ t ∈ p.1, KidOk (l - 1) t) (rgD 0 m) ([], a0) ⟨rfl, by simp⟩ (fun pre d post ⟨ts, a1⟩ hd ⟨g1, g2⟩ => by
        obtain ⟨hk1, rfl⟩ := rgD_mid hd
        obtain ⟨t, a2, e, ot⟩ := hk' ns a1 ex (l - 1) (by omega)
        rw [show ((l - 1 : Nat) : Int) = (l : Int) - 1 by omega] at e
        dsimp only at g1 g2
        have hz : ts.length < sizeLine := fitsl (by omega)
        refine ⟨(ts ++ [t], a2), ?_, by simp [g1], fun t' mt => ?_⟩
        · simp [m_law_kid_b1, e, hz]
        · rcases List.mem_append.mp mt with mt | mt
          · exact g2 t' mt
          · simp at mt; subst mt; exact ot)
    rw [rgD_len] at hf1
    dsimp only at hf hf1 hf2
    rw [List.map_nil] at hf
    have ok : okR (m : Int) = true := okR_nat (by omega)
    refine ⟨.knot nm2 tk ts, a', ?_, ?_, ?_, ?_, ?_, ?_, Wn.knot (by rw [wnm2, wkt]; rfl) fun t mt => (hf2 t mt).wn⟩
    · rw [m_law_kid_eq]
      simp [m_law_kid, h1, esg, enm, q1, q2, etk, hm, ok, hf, enm2, Tr.enc, encL_map]
    · simp only [Tr.ok, Bool.and_eq_true, decide_eq_true_eq]
      exact ⟨onm2, otk, by omega, by omega, okL_of fun t mt => (hf2 t mt).ok⟩
    · have := htL_of (ts := ts) (n := l - 1) fun t mt => (hf2 t mt).ht
      rw [Tr.ht]; omega
    · rw [feet_knot, List.flatMap_eq_nil_iff]
      exact fun t mt => (hf2 t mt).feet
    · rw [pieces_knot]
      have := flat_le (f := Tr.pieces) (n := capN (l - 1)) ts fun t mt => (hf2 t mt).sz
      have e : capN l = 1 + 3 * capN (l - 1) := by
        rw [show l = (l - 1) + 1 by omega]; rfl
      rw [e]
      have : ts.length * capN (l - 1) ≤ 3 * capN (l - 1) := Nat.mul_le_mul_right _ (by omega)
      omega
    · exact Nar.knot (by omega) fun t mt => (hf2 t mt).nar
/-- a foot is put in -/
structure Footed (nm : Str) (t t' : Tr) : Prop where
  ok : t'.ok = true
  ht : t'.ht ≤ t.ht
  feet : t'.feet = [nm]
  sz : t'.pieces.length = t.pieces.length + 1
  signs : t'.signs = t.signs
  kn : ∃ n tk ks ks', t = .knot n tk ks ∧ t' = .knot n tk ks'
  wn : decide (nm ∈ nm3) = true → Wn t → Wn t'
def FootedSp (n : Nat) (F : FF) : Prop := ∀ (t : Tr) (nm : Str) (cell : Int), t.ok = true → t.ht ≤ n → t.feet = [] → Nar t → t.isKnot = true → nameB nm = true → ∃ t', F [some ⟨t.enc, .sh⟩, some ⟨Tr.enc (.foot nm), .sh⟩, some ⟨.int cell, .sh⟩] = .ok (.sh t'.enc) [none, none, none] ∧ Footed nm t t'
theorem flat_feet_nil {ks : List Tr} (h : ks.flatMap Tr.feet = []) {k : Tr} (m : k ∈ ks) : k.feet = [] := List.flatMap_eq_nil_iff.mp h k m
theorem split_at {ks : List Tr} {i : Nat} {k : Tr} (h : ks[i]? = some k) : ks = ks.take i ++ k :: ks.drop (i + 1) := by
  have hi := (List.getElem?_eq_some_iff.mp h).1
  conv => lhs; rw [← List.take_append_drop i ks]
  congr 1
  rw [List.drop_eq_getElem_cons hi]
  congr 1
  exact (List.getElem?_eq_some_iff.mp h).2
theorem law_footed_ok {n : Nat} {Ff : FF} (hf : ∀ m, m + 1 = n → FootedSp m Ff) : FootedSp n (fnF 7 3 (m_law_footed Ff)) := fun t nm cell ok hh ft nar kn onm => by
  cases t with
  | knot tn tk ks =>
    have okt := ok
    rw [Tr.ok] at ok
    simp only [Bool.and_eq_true, decide_eq_true_eq] at ok
    obtain ⟨o1, o2, o3, o4, o5⟩ := ok
    have hl3 : ks.length ≤ 3 := nar (.knot tn tk ks) (by rw [pieces_kids]; simp)
    rw [feet_knot] at ft
    rw [Tr.ht] at hh
    have ek : Tr.encL ks = ks.map Tr.enc := encL_map ks
    have c3 : cutD [PyData.str (Str.ofString "knot"), .str tn, encTk tk, .tuple (ks.map Tr.enc)] none (some 3) = [PyData.str (Str.ofString "knot"), .str tn, encTk tk] := cutD_to _ 3
    have s3 : 3 + 1 ≤ sizeLine := by decide
    have ekn : Tr.enc (.knot tn tk ks) = .tuple [.str (Str.ofString "knot"), .str tn, encTk tk, .tuple (ks.map Tr.enc)] := by rw [Tr.enc, ek]
    rw [m_law_footed_eq]
    -- which kids are knots
    have hcm := lcL_up (vs := [6]) (g := gN 6) (ft := eNox (m_law_footed_ct1 Ff)) (fe := eNox (m_law_footed_ce2 Ff)) [some ⟨Tr.enc (.knot tn tk ks), .sh⟩, some ⟨Tr.enc (.foot nm), .sh⟩, some ⟨.int cell, .sh⟩, none, none, none, none] (fun i : Nat => PyData.int ((0 : Int) + (i : Int)))
      (fun i => [some ⟨Tr.enc (.knot tn tk ks), .sh⟩, some ⟨Tr.enc (.foot nm), .sh⟩, some ⟨.int cell, .sh⟩, none, none, none, some ⟨.int ((0 : Int) + (i : Int)), .sh⟩]) (fun i => (ks[i]?.map Tr.isKnot).getD false) (fun i : Nat => PyData.int (i : Int)) (List.range ks.length) [] (fits (by simp; omega)) (fun i mi => by
        have hi : i < ks.length := List.mem_range.mp mi
        have e1 : L2.atI (ks.map Tr.enc) (i : Int) = some (ks[i]).enc := by
          rw [atI_nat (xs := ks.map Tr.enc) (j := i) (v := (ks[i]).enc) (by simp [hi])]
        have e2 : ks[i]? = some ks[i] := List.getElem?_eq_getElem hi
        rw [e2]
        generalize ks[i] = k at e1
        cases k <;> simp [m_law_footed_ct1, m_law_footed_ce2, Tr.enc, ek, e1, Tr.isKnot])
    obtain ⟨kl, hkl⟩ : ∃ kl, (List.range ks.length).filter (fun i => (ks[i]?.map Tr.isKnot).getD false) = kl := ⟨_, rfl⟩
    rw [hkl, List.nil_append] at hcm
    have hkm : ∀ i ∈ kl, ∃ k, ks[i]? = some k ∧ k.isKnot = true := by
      intro i mi
      rw [← hkl, List.mem_filter] at mi
      cases hx : ks[i]? with
      | none => rw [hx] at mi; simp at mi
      | some k => rw [hx] at mi; exact ⟨k, rfl, by simpa using mi.2⟩
    have hrg : rgD 0 ks.length = (List.range ks.length).map fun i : Nat => PyData.int ((0 : Int) + (i : Int)) := rfl
    rw [← hrg] at hcm
    have okl : okR (ks.length : Int) = true := okR_nat (by omega)
    have tn2 : ((ks.length : Int)).toNat = ks.length := by omega
    by_cases q : 0 < kl.length ∧ cell % 2 = 1
    · obtain ⟨q1, q2⟩ := q
      have q1' : (0 : Int) < (kl.length : Int) := by omega
      have hm0 := Int.emod_nonneg (cell / 2) (show (kl.length : Int) ≠ 0 by omega)
      have hm1 := Int.emod_lt_of_pos (cell / 2) q1'
      obtain ⟨j, hj⟩ : ∃ j : Nat, cell / 2 % (kl.length : Int) = j := ⟨(cell / 2 % (kl.length : Int)).toNat, by omega⟩
      have hjl : j < kl.length := by omega
      have ej : L2.atI (kl.map fun i : Nat => PyData.int (i : Int)) (j : Int) = some (.int (kl[j] : Int)) := by
        rw [atI_nat (xs := kl.map fun i : Nat => PyData.int (i : Int)) (j := j) (v := .int (kl[j] : Int)) (by simp [hjl])]
      obtain ⟨k, hk, kk⟩ := hkm (kl[j]) (List.getElem_mem hjl)
      generalize kl[j] = i at ej hk
      have mk : k ∈ ks := List.mem_of_getElem? hk
      have hi := (List.getElem?_eq_some_iff.mp hk).1
      have ei : L2.atI (ks.map Tr.enc) (i : Int) = some k.enc := by
        rw [atI_nat (xs := ks.map Tr.enc) (j := i) (v := k.enc) (by rw [List.getElem?_map, hk]; rfl)]
      have hkh := ht_mem mk
      obtain ⟨k', ek', fk⟩ := hf (n - 1) (by omega) k nm (cell / 6) (okL_mem o5 k mk) (by omega) (flat_feet_nil ft mk) (nar.kid mk) kk onm
      have ct : cutD (ks.map Tr.enc) none (some (i : Int)) = (ks.take i).map Tr.enc := by rw [cutD_to, List.map_take]
      have cf : cutD (ks.map Tr.enc) (some ((i : Int) + 1)) none = (ks.drop (i + 1)).map Tr.enc := by
        rw [show (i : Int) + 1 = ((i + 1 : Nat) : Int) by omega, cutD_from, List.map_drop]
      have sp := split_at hk
      have z1 : min i ks.length + 1 ≤ sizeLine := fits (by omega)
      have z2 : min i ks.length + 1 + (ks.length - (i + 1)) ≤ sizeLine := fits (by omega)
      have z2' : min i ks.length + (ks.length - (i + 1) + 1) ≤ sizeLine := fits (by omega)
      refine ⟨.knot tn tk (ks.take i ++ k' :: ks.drop (i + 1)), ?_, ?_, ?_, ?_, ?_, ?_, ⟨tn, tk, ks, _, rfl, rfl⟩, fun w3 W => Wn.knot W.self fun z mz => ?_⟩
      · rw [ekn] at hcm ⊢
        have ek2 : Ff [some ⟨k.enc, .sh⟩, some ⟨Tr.enc (.foot nm), .sh⟩, some ⟨.int (cell / 6), .sh⟩] = .ok (.sh k'.enc) [none, none, none] := ek'
        simp [m_law_footed, okl, tn2, hcm, q1, q2, resO_mod, hj, ej, ei, ek2, c3, ct, cf, z1, z2, z2', s3]
        simp [Tr.enc, encL_map]
      · simp only [Tr.ok, Bool.and_eq_true, decide_eq_true_eq]
        have hlen : (ks.take i ++ k' :: ks.drop (i + 1)).length = ks.length := by conv => rhs; rw [sp]
                                                                                  simp
        refine ⟨o1, o2, by omega, by omega, okL_of fun t mt => ?_⟩
        rcases List.mem_append.mp mt with mt | mt
        · exact okL_mem o5 t (List.mem_of_mem_take mt)
        · rcases List.mem_cons.mp mt with rfl | mt
          · exact fk.ok
          · exact okL_mem o5 t (List.mem_of_mem_drop mt)
      · rw [Tr.ht, Tr.ht]
        have := htL_of (ts := ks.take i ++ k' :: ks.drop (i + 1)) (n := Tr.htL ks) fun t mt => by
          rcases List.mem_append.mp mt with mt | mt
          · exact ht_mem (List.mem_of_mem_take mt)
          · rcases List.mem_cons.mp mt with rfl | mt
            · exact Nat.le_trans fk.ht hkh
            · exact ht_mem (List.mem_of_mem_drop mt)
        omega
      · rw [feet_knot, List.flatMap_append, List.flatMap_cons, fk.feet]
        have h1 : (ks.take i).flatMap Tr.feet = [] := List.flatMap_eq_nil_iff.mpr fun t mt => flat_feet_nil ft (List.mem_of_mem_take mt)
        have h2 : (ks.drop (i + 1)).flatMap Tr.feet = [] := List.flatMap_eq_nil_iff.mpr fun t mt => flat_feet_nil ft (List.mem_of_mem_drop mt)
        rw [h1, h2]; rfl
      · rw [pieces_knot, pieces_knot]
        conv => rhs; rw [sp]
        simp only [List.flatMap_append, List.flatMap_cons, List.length_append, fk.sz]
        omega
      · rw [signs_knot, signs_knot]
        conv => rhs; rw [sp]
        simp only [List.flatMap_append, List.flatMap_cons, fk.signs]
      · rcases List.mem_append.mp mz with mz | mz
        · exact W.kid (List.mem_of_mem_take mz)
        · rcases List.mem_cons.mp mz with rfl | mz
          · exact fk.wn w3 (W.kid mk)
          · exact W.kid (List.mem_of_mem_drop mz)
    · have p0 : (0 : Int) < (ks.length : Int) + 1 := by omega
      have hm0 := Int.emod_nonneg (cell / 2) (show (ks.length : Int) + 1 ≠ 0 by omega)
      have hm1 := Int.emod_lt_of_pos (cell / 2) p0
      obtain ⟨i, hi⟩ : ∃ i : Nat, cell / 2 % ((ks.length : Int) + 1) = i := ⟨(cell / 2 % ((ks.length : Int) + 1)).toNat, by omega⟩
      have hil : i ≤ ks.length := by omega
      have ct : cutD (ks.map Tr.enc) none (some (i : Int)) = (ks.take i).map Tr.enc := by rw [cutD_to, List.map_take]
      have cf : cutD (ks.map Tr.enc) (some (i : Int)) none = (ks.drop i).map Tr.enc := by rw [cutD_from, List.map_drop]
      have z1 : min i ks.length + 1 ≤ sizeLine := fits (by omega)
      have z2 : min i ks.length + 1 + (ks.length - i) ≤ sizeLine := fits (by omega)
      have z2' : min i ks.length + (ks.length - i + 1) ≤ sizeLine := fits (by omega)
      have hlen : (ks.take i ++ Tr.foot nm :: ks.drop i).length = ks.length + 1 := by simp; omega
      refine ⟨.knot tn tk (ks.take i ++ .foot nm :: ks.drop i), ?_, ?_, ?_, ?_, ?_, ?_, ⟨tn, tk, ks, _, rfl, rfl⟩, fun w3 W => Wn.knot W.self fun z mz => ?_⟩
      · rw [ekn] at hcm ⊢
        by_cases qa : 0 < kl.length
        · have qb : ¬ cell % 2 = 1 := fun e => q ⟨qa, e⟩
          simp [m_law_footed, okl, tn2, hcm, qa, qb, resO_mod p0, hi, c3, ct, cf, z1, z2, z2', s3]
          simp [Tr.enc, encL_map]
        · simp [m_law_footed, okl, tn2, hcm, qa, resO_mod p0, hi, c3, ct, cf, z1, z2, z2', s3]
          simp [Tr.enc, encL_map]
      · simp only [Tr.ok, Bool.and_eq_true, decide_eq_true_eq]
        refine ⟨o1, o2, by omega, by omega, okL_of fun t mt => ?_⟩
        rcases List.mem_append.mp mt with mt | mt
        · exact okL_mem o5 t (List.mem_of_mem_take mt)
        · rcases List.mem_cons.mp mt with rfl | mt
          · exact onm
          · exact okL_mem o5 t (List.mem_of_mem_drop mt)
      · rw [Tr.ht, Tr.ht]
        have := htL_of (ts := ks.take i ++ Tr.foot nm :: ks.drop i) (n := Tr.htL ks) fun t mt => by
          rcases List.mem_append.mp mt with mt | mt
          · exact ht_mem (List.mem_of_mem_take mt)
          · rcases List.mem_cons.mp mt with rfl | mt
            · simp [Tr.ht]
            · exact ht_mem (List.mem_of_mem_drop mt)
        omega
      · rw [feet_knot, List.flatMap_append, List.flatMap_cons]
        have h1 : (ks.take i).flatMap Tr.feet = [] := List.flatMap_eq_nil_iff.mpr fun t mt => flat_feet_nil ft (List.mem_of_mem_take mt)
        have h2 : (ks.drop i).flatMap Tr.feet = [] := List.flatMap_eq_nil_iff.mpr fun t mt => flat_feet_nil ft (List.mem_of_mem_drop mt)
        rw [h1, h2]; rfl
      · rw [pieces_knot, pieces_knot]
        conv => rhs; rw [← List.take_append_drop i ks]
        simp only [List.flatMap_append, List.flatMap_cons, List.length_append]
        rw [show (Tr.foot nm).pieces = [.foot nm] from rfl, List.length_singleton]
        omega
      · rw [signs_knot, signs_knot]
        conv => rhs; rw [← List.take_append_drop i ks]
        simp only [List.flatMap_append, List.flatMap_cons]
        rfl
      · rcases List.mem_append.mp mz with mz | mz
        · exact W.kid (List.mem_of_mem_take mz)
        · rcases List.mem_cons.mp mz with rfl | mz
          · exact Wn.one rfl w3
          · exact W.kid (List.mem_of_mem_drop mz)
  | _ => cases kn
/-- a start or a graft that is drawn -/
structure TreeOk (h : Nat) (t : Tr) : Prop where
  ok : t.ok = true
  kn : t.isKnot = true
  feet : t.feet.length ≤ 1
  ht : t.ht ≤ h
  sz : t.pieces.length ≤ 50
  s4 : t.pieces.length ≤ 40 + 2 * h
  sg : 1 ≤ t.signs.length
  wn : Wn t
def DrawnGen (n : Nat) (F : FF) : Prop := ∀ (ns : List Int) (a : Nat) (ex : Option Int), ∃ (t : Tr) (a' : Nat), F [some ⟨stD ns a ex, .io⟩, some ⟨.int n, .sh⟩] = .ok (.sh t.enc) [some ⟨stD ns a' ex, .io⟩, none] ∧ TreeOk (n + 1) t
theorem ins_mem {α : Type} {xs : List α} {i : Nat} {x y : α} (h : y ∈ xs.take i ++ [x] ++ xs.drop i) : y = x ∨ y ∈ xs := by
  simp only [List.mem_append, List.mem_cons, List.not_mem_nil, or_false] at h
  rcases h with (h | h) | h
  · exact .inr (List.mem_of_mem_take h)
  · exact .inl h
  · exact .inr (List.mem_of_mem_drop h)
theorem ins_perm {α : Type} (xs : List α) (i : Nat) (x : α) : (xs.take i ++ [x] ++ xs.drop i).Perm (x :: xs) := by
  rw [List.append_assoc, List.singleton_append]
  exact List.perm_middle.trans (by rw [List.take_append_drop])
theorem ins_len {α : Type} (xs : List α) (i : Nat) (x : α) : (xs.take i ++ [x] ++ xs.drop i).length = xs.length + 1 := (ins_perm xs i x).length_eq
theorem perm_flat {f : Tr → List Str} {xs ys : List Tr} (h : xs.Perm ys) : (xs.flatMap f).length = (ys.flatMap f).length := (h.flatMap_right f).length_eq
theorem law_drawn_ok {n : Nat} {Ff Fk Fc : FF} (hn : capN n ≤ 15) (hc : CellSp Fc) (hk : KidGen n Fk) (hf : FootedSp (n + 1) Ff) : DrawnGen n (fnF 7 2 (m_law_drawn Ff Fk Fc)) := fun ns a ex => by
  obtain ⟨c, a0, h1⟩ := hc ns a ex
  obtain ⟨tk, etk, otk, wkt⟩ := pick4 (P := fun d => ∃ tk : Option (Str × Bool), d = encTk tk ∧ okTk tk = true ∧ wtk tk = true) (a := .none) (b := .tuple [.str (Str.ofString "S1"), .bool false]) (d := .tuple [.str (Str.ofString "S2"), .bool false]) (f := .tuple [.str (Str.ofString "S1"), .bool true]) c ⟨none, rfl, rfl, rfl⟩ ⟨some (_, false), rfl, by decide +kernel, by decide +kernel⟩ ⟨some (_, false), rfl, by decide +kernel, by decide +kernel⟩ ⟨some (_, true), rfl, by decide +kernel, by decide +kernel⟩
  obtain ⟨sg, esg, osg, wsg⟩ := pick2 (P := fun d => ∃ z : Str, d = .str z ∧ signB z = true ∧ decide (z ∈ sg3) = true) (a := .str (Str.ofString "a")) (b := .str (Str.ofString "b")) (c / 4) ⟨_, rfl, by decide +kernel, by decide +kernel⟩ ⟨_, rfl, by decide +kernel, by decide +kernel⟩
  obtain ⟨nm, enm, onm, w72⟩ := n3 (c / 72)
  obtain ⟨fm, efm, ofm, w432⟩ := n3 (c / 432)
  obtain ⟨m, hm, hm2⟩ : ∃ m : Nat, c / 8 % 3 = m ∧ m ≤ 2 := ⟨(c / 8 % 3).toNat, by omega, by omega⟩
  obtain ⟨⟨ks, a'⟩, f1, g1, g2, g3⟩ := forL_by (S := List Tr × Nat) (g := gN 5) (b := m_law_drawn_b1 Ff Fk Fc) (fun p => [some ⟨stD ns p.2 ex, .io⟩, some ⟨.int n, .sh⟩, some ⟨.int c, .sh⟩, some ⟨encTk tk, .sh⟩, some ⟨.list (p.1.map Tr.enc), .ow⟩, none, none])
    (fun pre p => p.1.length = pre.length + 1 ∧ (∀ k ∈ p.1, KidOk n k) ∧ 1 ≤ (p.1.flatMap Tr.signs).length) (rgD 0 m) ([.sign sg], a0) ⟨rfl, by
      intro k mk
      simp at mk
      subst mk
      exact kid_leaf rfl osg rfl rfl wsg, by simp [Tr.signs, Tr.pieces, Tr.signN]⟩ (fun pre d post ⟨ks, a1⟩ hd ⟨q1, q2, q3⟩ => by
      obtain ⟨hkk, rfl⟩ := rgD_mid hd
      dsimp only at q1 q2 q3 ⊢
      obtain ⟨t, a2, e, ot⟩ := hk ns a1 ex n (Nat.le_refl _)
      have p0 : (0 : Int) < (ks.length : Int) + 1 := by omega
      have hm0 := Int.emod_nonneg (c / 24) (show (ks.length : Int) + 1 ≠ 0 by omega)
      have hm1 := Int.emod_lt_of_pos (c / 24) p0
      obtain ⟨i, hi⟩ : ∃ i : Nat, c / 24 % ((ks.length : Int) + 1) = i := ⟨(c / 24 % ((ks.length : Int) + 1)).toNat, by omega⟩
      have oki : okI (i : Int) = true := okI_nat (by omega)
      have hz : ks.length < sizeLine := fitsl (by omega)
      refine ⟨(ks.take i ++ [t] ++ ks.drop i, a2), ?_, by rw [ins_len, q1]; simp, fun k mk => ?_, ?_⟩
      · simp [m_law_drawn_b1, resO_mod p0, hi, e, hz, oki]
      · rcases ins_mem mk with rfl | mk
        · exact ot
        · exact q2 k mk
      · have := perm_flat (f := Tr.signs) (ins_perm ks i t)
        dsimp only at this ⊢
        rw [this, List.flatMap_cons, List.length_append]
        omega)
  rw [rgD_len] at g1
  dsimp only at f1 g1 g2 g3
  have f1' : forL (gN 5) (m_law_drawn_b1 Ff Fk Fc) (rgD 0 m) [some ⟨stD ns a0 ex, .io⟩, some ⟨.int n, .sh⟩, some ⟨.int c, .sh⟩, some ⟨encTk tk, .sh⟩, some ⟨.list [.tuple [.str (Str.ofString "sign"), .str sg]], .ow⟩, none, none] = _ := f1
  have ok : okR (m : Int) = true := okR_nat (by omega)
  have okt : (Tr.knot nm tk ks).ok = true := by
    simp only [Tr.ok, Bool.and_eq_true, decide_eq_true_eq]
    exact ⟨onm, otk, by omega, by omega, okL_of fun t mt => (g2 t mt).ok⟩
  have hht : (Tr.knot nm tk ks).ht ≤ n + 1 := by
    have := htL_of (ts := ks) (n := n) fun t mt => (g2 t mt).ht
    rw [Tr.ht]; omega
  have hft : (Tr.knot nm tk ks).feet = [] := by
    rw [feet_knot, List.flatMap_eq_nil_iff]
    exact fun t mt => (g2 t mt).feet
  have hs4 : (Tr.knot nm tk ks).pieces.length + 1 ≤ 42 + 2 * n := by
    rw [pieces_knot]
    have h2 := flat_le (f := Tr.pieces) (n := capN n) ks fun t mt => (g2 t mt).sz
    have h3 : ks.length * capN n ≤ 3 * capN n := Nat.mul_le_mul_right _ (by omega)
    have h4 := capN_few hn
    omega
  have hsz : (Tr.knot nm tk ks).pieces.length ≤ 49 := by
    rw [pieces_knot]
    have h2 := flat_le (f := Tr.pieces) (n := capN n) ks fun t mt => (g2 t mt).sz
    have h3 : ks.length * capN n ≤ 3 * capN n := Nat.mul_le_mul_right _ (by omega)
    omega
  have hsg : 1 ≤ (Tr.knot nm tk ks).signs.length := by rw [signs_knot]; exact g3
  have wkn : Wn (.knot nm tk ks) := Wn.knot (by rw [w72, wkt]; rfl) fun t mt => (g2 t mt).wn
  have ee : Tr.enc (.knot nm tk ks) = .tuple [.str (Str.ofString "knot"), .str nm, encTk tk, .tuple (ks.map Tr.enc)] := by rw [Tr.enc, encL_map]
  by_cases q : c / 216 % 2 = 0
  · refine ⟨.knot nm tk ks, a', ?_, okt, rfl, by rw [hft]; simp, hht, by omega, by omega, hsg, wkn⟩
    rw [m_law_drawn_eq]
    simp [m_law_drawn, h1, etk, esg, hm, ok, f1', enm, q, ee]
  · obtain ⟨t', e', fk⟩ := hf (.knot nm tk ks) fm (c / 1296) okt hht hft (Nar.knot (by omega) fun t mt => (g2 t mt).nar) rfl ofm
    obtain ⟨_, _, _, ks', _, et'⟩ := fk.kn
    refine ⟨t', a', ?_, fk.ok, by rw [et']; rfl, by rw [fk.feet]; simp, Nat.le_trans fk.ht hht, by rw [fk.sz]; omega, by rw [fk.sz]; omega, by rw [fk.signs]; exact hsg, fk.wn w432 wkn⟩
    rw [ee, Tr.enc] at e'
    rw [m_law_drawn_eq]
    simp [m_law_drawn, h1, etk, esg, hm, ok, f1', enm, q, efm, e']
def baseK : List Str := [Str.ofString "s", Str.ofString "g", Str.ofString "x0", Str.ofString "h1", Str.ofString "keytree", Str.ofString "graftofaone"]
def moreK : List Str := [Str.ofString "p", Str.ofString "qq", Str.ofString "r2", Str.ofString "tall", Str.ofString "u"]
theorem allK_nd : (baseK ++ moreK).Nodup := by decide +kernel
theorem allK_ok : ∀ k ∈ baseK ++ moreK, keyB k = true := by decide +kernel
/-- the six trees that stand in each book -/
structure Base (ts : List (Str × Tr)) : Prop where
  st : ∀ n ∈ [Str.ofString "S", Str.ofString "S1", Str.ofString "S2"], ∃ p ∈ ts, p.1 ∈ baseK ∧ p.2.isGraft = false ∧ p.2.name = n
  gr : ∀ n ∈ [Str.ofString "S", Str.ofString "S1", Str.ofString "S2"], ∃ p ∈ ts, p.1 ∈ baseK ∧ p.2.isGraft = true ∧ p.2.name = n
/-- nothing can be put in -/
def noW : Tr → Bool
  | .hole _ => false
  | .knot _ (some _) _ => false
  | _ => true
def NoW (t : Tr) : Prop := ∀ u ∈ t.pieces, noW u = true
/-- .. and the tree is low -/
structure NoWh (m : Nat) (t : Tr) : Prop where
  w : NoW t
  h : t.ht ≤ 3
  h1 : t.ht ≤ max 1 (m - 2)
structure BookOk (h : Nat) (b : Bk) : Prop where
  top : nameB b.top = true
  len : b.trees.length ≤ 11
  pos : 6 ≤ b.trees.length
  nd : (b.trees.map (·.1)).Nodup
  keys : ∀ p ∈ b.trees, p.1 ∈ baseK ++ moreK
  trees : ∀ p ∈ b.trees, TreeOk h p.2
  base : Base b.trees
  bs : ∀ p ∈ b.trees, p.1 ∈ baseK → NoWh h p.2
def BookGen (n : Nat) (F : FF) : Prop := ∀ (ns : List Int) (a : Nat) (ex : Option Int) (m : Nat), m ≤ 5 → ∃ (b : Bk) (a' : Nat), F [some ⟨stD ns a ex, .io⟩, some ⟨.int m, .sh⟩, some ⟨.int n, .sh⟩] = .ok (.sh b.enc) [some ⟨stD ns a' ex, .io⟩, none, none] ∧ BookOk (n + 1) b ∧ b.trees.length = 6 + m ∧ b.top ∈ nm3
theorem base_start (h : Nat) {n s : Str} (hn : nameB n = true) (hs : signB s = true) (h3 : n ∈ nm3) (s3 : s ∈ sg3) : TreeOk (h + 1) (.knot n none [.sign s]) :=
  ⟨by simp [Tr.ok, Tr.okL, okTk, hn, hs], rfl, by simp [Tr.feet, Tr.pieces, Tr.piecesL, Tr.footN, List.filterMap_cons], by simp [Tr.ht, Tr.htL], by simp [Tr.pieces, Tr.piecesL], by simp [Tr.pieces, Tr.piecesL] <;> omega, by simp [Tr.signs, Tr.pieces, Tr.piecesL, Tr.signN, List.filterMap_cons], by simp [Wn, Tr.pieces, Tr.piecesL, WnB, wtk, h3, s3]⟩
theorem base_graft (h : Nat) {n s m : Str} (hn : nameB n = true) (hs : signB s = true) (hm : nameB m = true) (h3 : n ∈ nm3) (s3 : s ∈ sg3) (m3 : m ∈ nm3) : TreeOk (h + 1) (.knot n none [.sign s, .foot m]) ∧ TreeOk (h + 1) (.knot n none [.foot m, .sign s]) :=
  ⟨⟨by simp [Tr.ok, Tr.okL, okTk, hn, hs, hm], rfl, by simp [Tr.feet, Tr.pieces, Tr.piecesL, Tr.footN, List.filterMap_cons], by simp [Tr.ht, Tr.htL], by simp [Tr.pieces, Tr.piecesL], by simp [Tr.pieces, Tr.piecesL] <;> omega, by simp [Tr.signs, Tr.pieces, Tr.piecesL, Tr.signN, List.filterMap_cons], by simp [Wn, Tr.pieces, Tr.piecesL, WnB, wtk, h3, s3, m3]⟩,
   ⟨by simp [Tr.ok, Tr.okL, okTk, hn, hs, hm], rfl, by simp [Tr.feet, Tr.pieces, Tr.piecesL, Tr.footN, List.filterMap_cons], by simp [Tr.ht, Tr.htL], by simp [Tr.pieces, Tr.piecesL], by simp [Tr.pieces, Tr.piecesL] <;> omega, by simp [Tr.signs, Tr.pieces, Tr.piecesL, Tr.signN, List.filterMap_cons], by simp [Wn, Tr.pieces, Tr.piecesL, WnB, wtk, h3, s3, m3]⟩⟩
theorem encKT_eq (k n : Str) (ks : List Tr) : encKT (k, .knot n none ks) = .tuple [.str k, .tuple [.str (Str.ofString "knot"), .str n, .none, .tuple (ks.map Tr.enc)]] := by
  rw [encKT, Tr.enc, encL_map]; rfl
theorem law_book_ok {n : Nat} {Fd Fc : FF} (hc : CellSp Fc) (hd : DrawnGen n Fd) : BookGen n (fnF 10 3 (m_law_book Fd Fc)) := fun ns a ex m hm => by
  obtain ⟨c, a0, h1⟩ := hc ns a ex
  -- the six
  have gk : ∀ (x : Int) (nm : Str), nameB nm = true → nm ∈ nm3 → ∃ ks : List Tr, pick [PyData.tuple [.tuple [.str (Str.ofString "sign"), .str (Str.ofString "b")], .tuple [.str (Str.ofString "foot"), .str nm]], .tuple [.tuple [.str (Str.ofString "foot"), .str nm], .tuple [.str (Str.ofString "sign"), .str (Str.ofString "a")]]] (x % 2) = .tuple (ks.map Tr.enc) ∧ TreeOk (n + 1) (.knot nm none ks) ∧ ∃ s, Tr.knot nm none ks = .knot nm none [.sign s, .foot nm] ∨ Tr.knot nm none ks = .knot nm none [.foot nm, .sign s] := fun x nm onm n3' =>
    pick2 (P := fun d => ∃ ks : List Tr, d = .tuple (ks.map Tr.enc) ∧ TreeOk (n + 1) (.knot nm none ks) ∧ ∃ s, Tr.knot nm none ks = .knot nm none [.sign s, .foot nm] ∨ Tr.knot nm none ks = .knot nm none [.foot nm, .sign s]) x
      ⟨[.sign (Str.ofString "b"), .foot nm], rfl, (base_graft n onm (by decide +kernel) onm n3' (by decide +kernel) n3').1, _, .inl rfl⟩ ⟨[.foot nm, .sign (Str.ofString "a")], rfl, (base_graft n onm (by decide +kernel) onm n3' (by decide +kernel) n3').2, _, .inr rfl⟩
  obtain ⟨k0, e0, o0, b0⟩ := gk c (Str.ofString "S") (by decide +kernel) (by decide +kernel)
  obtain ⟨k1, e1, o1, b1⟩ := gk (c / 2) (Str.ofString "S1") (by decide +kernel) (by decide +kernel)
  obtain ⟨k2, e2, o2, b2⟩ := gk (c / 3) (Str.ofString "S2") (by decide +kernel) (by decide +kernel)
  let six : List (Str × Tr) := [(Str.ofString "s", .knot (Str.ofString "S") none [.sign (Str.ofString "a")]), (Str.ofString "g", .knot (Str.ofString "S") none k0), (Str.ofString "x0", .knot (Str.ofString "S1") none [.sign (Str.ofString "b")]), (Str.ofString "h1", .knot (Str.ofString "S1") none k1),
    (Str.ofString "keytree", .knot (Str.ofString "S2") none [.sign (Str.ofString "a")]), (Str.ofString "graftofaone", .knot (Str.ofString "S2") none k2)]
  have hsix : six = [(Str.ofString "s", .knot (Str.ofString "S") none [.sign (Str.ofString "a")]), (Str.ofString "g", .knot (Str.ofString "S") none k0), (Str.ofString "x0", .knot (Str.ofString "S1") none [.sign (Str.ofString "b")]), (Str.ofString "h1", .knot (Str.ofString "S1") none k1),
    (Str.ofString "keytree", .knot (Str.ofString "S2") none [.sign (Str.ofString "a")]), (Str.ofString "graftofaone", .knot (Str.ofString "S2") none k2)] := rfl
  have z : ∀ k : Nat, k ≤ 5 → k < sizeLine := fun k h => fitsl (by omega)
  have f1 : forL (gN 5) (m_law_book_b2 Fd Fc) (rgD 0 3) [some ⟨stD ns a0 ex, .io⟩, some ⟨.int m, .sh⟩, some ⟨.int n, .sh⟩, some ⟨.int c, .sh⟩, some ⟨.list [], .ow⟩, none, none, none, none, none] = .nx [some ⟨stD ns a0 ex, .io⟩, some ⟨.int m, .sh⟩, some ⟨.int n, .sh⟩, some ⟨.int c, .sh⟩, some ⟨.list (six.map encKT), .ow⟩, none, none, none, none, none] := by
    rw [show rgD 0 3 = [.int 0, .int 1, .int 2] from rfl]
    rw [hsix]
    simp only [List.map_cons, List.map_nil, encKT_eq]
    simp [forL_cons, m_law_book_b2, z, e0, e1, e2, Tr.enc]
  have six_len : six.length = 6 := rfl
  have six_keys : six.map (·.1) = baseK := rfl
  have six_ok : ∀ p ∈ six, TreeOk (n + 1) p.2 := by
    intro p mp
    rw [hsix] at mp
    simp only [List.mem_cons, List.not_mem_nil, or_false] at mp
    rcases mp with rfl | rfl | rfl | rfl | rfl | rfl
    · exact base_start n (by decide +kernel) (by decide +kernel) (by decide +kernel) (by decide +kernel)
    · exact o0
    · exact base_start n (by decide +kernel) (by decide +kernel) (by decide +kernel) (by decide +kernel)
    · exact o1
    · exact base_start n (by decide +kernel) (by decide +kernel) (by decide +kernel) (by decide +kernel)
    · exact o2
  have bst : ∀ (nm s : Str), (Tr.knot nm none [.sign s]).isGraft = false ∧ (Tr.knot nm none [.sign s]).name = nm := fun nm s => by simp [Tr.isGraft, Tr.name, Tr.word, Tr.feet, Tr.pieces, Tr.piecesL, Tr.footN, List.filterMap_cons]
  have bgr : ∀ {nm : Str} {t : Tr}, (∃ s, t = .knot nm none [.sign s, .foot nm] ∨ t = .knot nm none [.foot nm, .sign s]) → t.isGraft = true ∧ t.name = nm := by
    rintro nm t ⟨s, rfl | rfl⟩ <;> simp [Tr.isGraft, Tr.name, Tr.word, Tr.feet, Tr.pieces, Tr.piecesL, Tr.footN, List.filterMap_cons]
  have six_base : Base six := by
    refine ⟨fun nm mn => ?_, fun nm mn => ?_⟩
    · simp only [List.mem_cons, List.not_mem_nil, or_false] at mn
      rcases mn with rfl | rfl | rfl
      · exact ⟨_, by rw [hsix]; exact .head _, by decide +kernel, bst _ _⟩
      · exact ⟨_, by rw [hsix]; exact .tail _ (.tail _ (.head _)), by decide +kernel, bst _ _⟩
      · exact ⟨_, by rw [hsix]; exact .tail _ (.tail _ (.tail _ (.tail _ (.head _)))), by decide +kernel, bst _ _⟩
    · simp only [List.mem_cons, List.not_mem_nil, or_false] at mn
      rcases mn with rfl | rfl | rfl
      · exact ⟨_, by rw [hsix]; exact .tail _ (.head _), by dsimp only; decide +kernel, bgr b0⟩
      · exact ⟨_, by rw [hsix]; exact .tail _ (.tail _ (.tail _ (.head _))), by dsimp only; decide +kernel, bgr b1⟩
      · exact ⟨_, by rw [hsix]; exact .tail _ (.tail _ (.tail _ (.tail _ (.tail _ (.head _))))), by dsimp only; decide +kernel, bgr b2⟩
  have six_bs : ∀ p ∈ six, NoWh (n + 1) p.2 := by
    have gs : ∀ nm s : Str, NoWh (n + 1) (.knot nm none [.sign s]) := fun nm s => ⟨by simp [NoW, Tr.pieces, Tr.piecesL, noW], by simp [Tr.ht, Tr.htL], by simp [Tr.ht, Tr.htL]; omega⟩
    have gb : ∀ {nm : Str} {t : Tr}, (∃ s, t = .knot nm none [.sign s, .foot nm] ∨ t = .knot nm none [.foot nm, .sign s]) → NoWh (n + 1) t := by
      rintro nm t ⟨s, rfl | rfl⟩ <;> exact ⟨by simp [NoW, Tr.pieces, Tr.piecesL, noW], by simp [Tr.ht, Tr.htL], by simp [Tr.ht, Tr.htL]; omega⟩
    intro p mp
    rw [hsix] at mp
    simp only [List.mem_cons, List.not_mem_nil, or_false] at mp
    rcases mp with rfl | rfl | rfl | rfl | rfl | rfl
    · exact gs _ _
    · exact gb b0
    · exact gs _ _
    · exact gb b1
    · exact gs _ _
    · exact gb b2
  clear_value six
  obtain ⟨⟨ts, a'⟩, f2, g1, g2, g3, g4, g5⟩ := forL_by (S := List (Str × Tr) × Nat) (g := gN 5) (b := m_law_book_b1 Fd Fc) (fun p => [some ⟨stD ns p.2 ex, .io⟩, some ⟨.int m, .sh⟩, some ⟨.int n, .sh⟩, some ⟨.int c, .sh⟩, some ⟨.list (p.1.map encKT), .ow⟩, none, none, none, none, none])
    (fun pre p => p.1.length = 6 + pre.length ∧ (p.1.map (·.1)).Perm ((moreK.take pre.length).reverse ++ baseK) ∧ (∀ q ∈ p.1, TreeOk (n + 1) q.2) ∧ (∀ q ∈ six, q ∈ p.1) ∧ ∀ q ∈ p.1, q.1 ∈ baseK → NoWh (n + 1) q.2) (rgD 0 m) (six, a0) ⟨by simpa using six_len, by simp [six_keys], six_ok, fun _ h => h, fun q mq _ => six_bs q mq⟩ (fun pre d post ⟨ts, a1⟩ hd' ⟨q1, q2, q3, q4, q5⟩ => by
      obtain ⟨hkk, rfl⟩ := rgD_mid hd'
      generalize hkp : pre.length = k at hkk q1 q2
      rw [show (0 : Int) + (k : Int) = k by omega]
      dsimp only at q1 q2 q3 q4 q5 ⊢
      obtain ⟨t, a2, e, ot⟩ := hd ns a1 ex
      have hk5 : k < moreK.length := by have : moreK.length = 5 := rfl; omega
      have ek : L2.atI [PyData.str (Str.ofString "p"), .str (Str.ofString "qq"), .str (Str.ofString "r2"), .str (Str.ofString "tall"), .str (Str.ofString "u")] (k : Int) = some (.str moreK[k]) := by
        have := atI_nat (xs := moreK.map PyData.str) (j := k) (v := .str (moreK[k])) (by simp [hk5])
        exact this
      have p1 : (0 : Int) < (k : Int) + 7 := by omega
      have p2 : (k : Int) + 7 < 1073741824 := by omega
      have p0 : (0 : Int) < (ts.length : Int) + 1 := by omega
      have hm0 := Int.emod_nonneg (c / ((k : Int) + 7)) (show (ts.length : Int) + 1 ≠ 0 by omega)
      have hm1 := Int.emod_lt_of_pos (c / ((k : Int) + 7)) p0
      obtain ⟨i, hi⟩ : ∃ i : Nat, c / ((k : Int) + 7) % ((ts.length : Int) + 1) = i := ⟨(c / ((k : Int) + 7) % ((ts.length : Int) + 1)).toNat, by omega⟩
      have oki : okI (i : Int) = true := okI_nat (by omega)
      have hz : ts.length < sizeLine := fitsl (by omega)
      refine ⟨(ts.take i ++ [(moreK[k], t)] ++ ts.drop i, a2), ?_, by rw [ins_len, q1, List.length_append, List.length_singleton, hkp]; omega, ?_, fun q mq => ?_, fun q mq => ?_, fun q mq bq => ?_⟩
      · simp [m_law_book_b1, ek, resO_div p1 p2, resO_mod p0, hi, e, hz, oki, encKT]
      · have h3 := (ins_perm ts i (moreK[k], t)).map (·.1)
        refine h3.trans ?_
        rw [List.map_cons, List.length_append, List.length_singleton, hkp]
        have h4 : moreK.take (k + 1) = moreK.take k ++ [moreK[k]] := by rw [List.take_succ, List.getElem?_eq_getElem hk5]; rfl
        rw [h4, List.reverse_append]
        exact q2.cons _
      · rcases ins_mem mq with rfl | mq
        · exact ot
        · exact q3 q mq
      · have := (ins_perm ts i (moreK[k], t)).symm.mem_iff (a := q)
        exact this.mp (by simp [q4 q mq])
      · rcases ins_mem mq with rfl | mq
        · exact absurd (List.getElem_mem hk5) fun h => by
            have := (List.nodup_append.mp allK_nd).2.2 _ bq _ h
            exact this rfl
        · exact q5 q mq bq)
  rw [rgD_len] at g1 g2
  dsimp only at f2 g1 g2 g3 g4 g5
  obtain ⟨top, etop, otop, top3⟩ := pick3 (P := fun d => ∃ z : Str, d = .str z ∧ nameB z = true ∧ z ∈ nm3) (a := .str (Str.ofString "S")) (b := .str (Str.ofString "S")) (d := .str (Str.ofString "S1")) (c / 3) ⟨_, rfl, by decide +kernel, by decide +kernel⟩ ⟨_, rfl, by decide +kernel, by decide +kernel⟩ ⟨_, rfl, by decide +kernel, by decide +kernel⟩
  have hsub : ∀ k ∈ ts.map (·.1), k ∈ baseK ++ moreK := fun k mk => by
    have := g2.mem_iff.mp mk
    simp only [List.mem_append, List.mem_reverse] at this
    rcases this with h | h
    · exact List.mem_append_right _ (List.mem_of_mem_take h)
    · exact List.mem_append_left _ h
  refine ⟨⟨top, ts⟩, a', ?_, ⟨otop, by dsimp only; omega, by dsimp only; omega, ?_, fun p mp => hsub p.1 (List.mem_map_of_mem mp), g3, ?_, g5⟩, g1, top3⟩
  · rw [m_law_book_eq]
    have okm : okR (m : Int) = true := okR_nat (by omega)
    have ok3 : okR 3 = true := rfl
    have t3 : (3 : Int).toNat = 3 := rfl
    simp [m_law_book, h1, ok3, f1, okm, f2, etop, Bk.enc]
  · refine (g2.nodup_iff).mpr ?_
    have h5 : ((moreK.take m).reverse ++ baseK).Perm (baseK ++ moreK.take m) := List.perm_append_comm.trans ((List.Perm.refl _).append (List.reverse_perm _))
    refine (h5.nodup_iff).mpr ?_
    exact List.Nodup.sublist (List.Sublist.append (List.Sublist.refl _) (List.take_sublist _ _)) allK_nd
  · refine ⟨fun nm mn => ?_, fun nm mn => ?_⟩
    · obtain ⟨p, mp, r⟩ := six_base.st nm mn
      exact ⟨p, g4 p mp, r⟩
    · obtain ⟨p, mp, r⟩ := six_base.gr nm mn
      exact ⟨p, g4 p mp, r⟩
end GM
namespace GM
open PySem L2 GS
/-- piece_at(tree, place); slots 0:tree 1:place 2:found 3:number 4:kids -/
def m_piece_at_2_b1 (F_NoPlace F_kids_of : FF) : SF := (sKill [3, 4] (sSeq (sSet 4 (eCall 1 none F_kids_of (aCons (eMv 2) aNil))) (sSeq (sIf (eNot (eB (eChain (ltI fun i j => decide (i ≤ j)) (ltI fun i j => decide (i < j)) (eC (.int 0)) (eVb 3) (eCB (un1 lenD) (aCons (eVb 4) aNil))))) (sRaise F_NoPlace "NoPlace" ["place"] (aCons (eMv 1) aNil)) sNil) (sSet 2 (eBin ixA (eVb 4) (eVb 3))))))
def m_piece_at_2 (F_NoPlace F_kids_of : FF) : SF := (sSeq (sSet 2 (eMv 0)) (sSeq (sFor (iSq (eMv 1)) (gN 3) (m_piece_at_2_b1 F_NoPlace F_kids_of)) (sEnd (sRet (eRv 2)))))
theorem m_piece_at_2_eq (F_NoPlace F_kids_of : FF) (ρ : Rho) : fnF 5 2 (m_piece_at_2 F_NoPlace F_kids_of) ρ = finR 2 (m_piece_at_2 F_NoPlace F_kids_of (ρ ++ [none, none, none])) := fnF_eq 5 2 _
/-- signs_of(tree); slots 0:tree 1:found 2:kid -/
def m_signs_of_b1 (F_kids_of F_signs_of : FF) : SF := (sKill [2] (sSet 1 (eBin addD (eVb 1) (eCall 1 none F_signs_of (aCons (eMv 2) aNil)))))
def m_signs_of (F_kids_of F_signs_of : FF) : SF := (sSeq (sIf (eB (eBin (eqB false) (eBin ixA (eVb 0) (eC (.int 0))) (eC (.str (Str.ofString "sign"))))) (sEnd (sRet (eTup (aCons (eBin ixA (eVb 0) (eC (.int 1))) aNil)))) sNil) (sSeq (sSet 1 (eTup aNil)) (sSeq (sFor (iSq (eCall 1 none F_kids_of (aCons (eMv 0) aNil))) (gN 2) (m_signs_of_b1 F_kids_of F_signs_of)) (sEnd (sRet (eRv 1))))))
theorem m_signs_of_eq (F_kids_of F_signs_of : FF) (ρ : Rho) : fnF 3 1 (m_signs_of F_kids_of F_signs_of) ρ = finR 1 (m_signs_of F_kids_of F_signs_of (ρ ++ [none, none])) := fnF_eq 3 1 _
/-- amiss_in(tree); slots 0:tree 1:found 2:place -/
def m_amiss_in_ce1 (F_signs_of F_feet_of F_places : FF) : EF := (eCB (un1 lenD) (aCons (eVb 2) aNil))
def m_amiss_in (F_signs_of F_feet_of F_places : FF) : SF := (sSeq (sSet 1 (eCall 1 none F_places (aCons (eMv 0) aNil))) (sSeq (sIf (eB (eBin (eqB true) (eBin ixA (eVb 0) (eC (.int 0))) (eC (.str (Str.ofString "knot"))))) (sEnd (sRet (eC (.str (Str.ofString "knot"))))) sNil) (sSeq (sIf (eB (eBin (ltI fun i j => decide (j < i)) (eCB (un1 lenD) (aCons (eCall 1 none F_feet_of (aCons (eMv 0) aNil)) aNil)) (eC (.int 1)))) (sEnd (sRet (eC (.str (Str.ofString "feet"))))) sNil) (sSeq (sIf (eB (eBin (eqB false) (eCB (un1 lenD) (aCons (eCall 1 none F_signs_of (aCons (eMv 0) aNil)) aNil)) (eC (.int 0)))) (sEnd (sRet (eC (.str (Str.ofString "sign"))))) sNil) (sSeq (sIf (eOr (eB (eBin (ltI fun i j => decide (j < i)) (eCB (un1 lenD) (aCons (eVb 1) aNil)) (eC (.int 60)))) (eB (eBin (ltI fun i j => decide (j ≤ i)) (eCB (un1 maxLD) (aCons (eLc [2] (iSq (eMv 1)) (gN 2) (eNox eYes) (eNox (m_amiss_in_ce1 F_signs_of F_feet_of F_places))) aNil)) (eC (.int 12))))) (sEnd (sRet (eC (.str (Str.ofString "great"))))) sNil) (sEnd (sRet (eC .none))))))))
theorem m_amiss_in_eq (F_signs_of F_feet_of F_places : FF) (ρ : Rho) : fnF 3 1 (m_amiss_in F_signs_of F_feet_of F_places) ρ = finR 1 (m_amiss_in F_signs_of F_feet_of F_places (ρ ++ [none, none])) := fnF_eq 3 1 _
/-- made_book(top, trees); slots 0:top 1:trees 2:keys 3:number 4:word 5:key 6:tree -/
def m_made_book_b1 (F_NoTree F_amiss_in F_Twice F_is_key F_NoKey : FF) : SF := (sKill [3, 4, 5, 6] (sSeq (sUnp (gT 2 (gsC (gN 5) (gsC (gN 6) gsN))) (eBin ixA (eVb 1) (eVb 3))) (sSeq (sIf (eNot (eB (eCall 1 none F_is_key (aCons (eMv 5) aNil)))) (sRaise F_NoKey "NoKey" ["number"] (aCons (eMv 3) aNil)) sNil) (sSeq (sIf (eB (eBin (inB false) (eVb 5) (eVb 2))) (sRaise F_Twice "Twice" ["key"] (aCons (eMv 5) aNil)) sNil) (sSeq (sSet 4 (eCall 1 none F_amiss_in (aCons (eMv 6) aNil))) (sSeq (sIf (eB (eBin (isD true) (eVb 4) (eC .none))) (sRaise F_NoTree "NoTree" ["key", "word"] (aCons (eMv 5) (aCons (eMv 4) aNil))) sNil) (sApp 2 (eMv 5))))))))
def m_made_book (F_NoTree F_amiss_in F_Twice F_is_key F_NoKey : FF) : SF := (sSeq (sIf (eB (eBin (eqB false) (eCB (un1 lenD) (aCons (eVb 1) aNil)) (eC (.int 0)))) (sRaise F_NoKey "NoKey" ["number"] (aCons (eC (.int 0)) aNil)) sNil) (sSeq (sIf (eB (eBin (ltI fun i j => decide (j < i)) (eCB (un1 lenD) (aCons (eVb 1) aNil)) (eC (.int 400)))) (sRaise F_NoKey "NoKey" ["number"] (aCons (eC (.int 400)) aNil)) sNil) (sSeq (sSet 2 (eLst aNil)) (sSeq (sFor (iR1 (eCB (un1 lenD) (aCons (eVb 1) aNil))) (gN 3) (m_made_book_b1 F_NoTree F_amiss_in F_Twice F_is_key F_NoKey)) (sEnd (sRet (eTup (aCons (eMv 0) (aCons (eCB (un1 tupleD) (aCons (eVb 1) aNil)) aNil)))))))))
theorem m_made_book_eq (F_NoTree F_amiss_in F_Twice F_is_key F_NoKey : FF) (ρ : Rho) : fnF 7 2 (m_made_book F_NoTree F_amiss_in F_Twice F_is_key F_NoKey) ρ = finR 2 (m_made_book F_NoTree F_amiss_in F_Twice F_is_key F_NoKey (ρ ++ [none, none, none, none, none])) := fnF_eq 7 2 _
end GM
namespace GM
open PySem L2 GS
theorem map_int_mid {p : List Nat} {pre post : List D} {d : D} (hd : (p.map fun n : Nat => PyData.int (n : Int)) = pre ++ d :: post) : ∃ k, p[pre.length]? = some k ∧ d = .int (k : Int) := by
  have h2 : (p.map fun n : Nat => PyData.int (n : Int))[pre.length]? = some d := by rw [hd, List.getElem?_append_right (Nat.le_refl _), Nat.sub_self]; rfl
  rw [List.getElem?_map] at h2
  obtain ⟨k, h3, h4⟩ := Option.map_eq_some_iff.mp h2
  exact ⟨k, h3, h4.symm⟩
theorem piece_at_2_ok {Fx Fk : FF} (hk : KidsSp Fk) : PieceSp (fnF 5 2 (m_piece_at_2 Fx Fk)) := fun t p u hu => by
  rw [m_piece_at_2_eq]
  obtain ⟨v, hf, hv⟩ := forL_by (S := Tr) (g := gN 3) (b := m_piece_at_2_b1 Fx Fk) (fun v => [some ⟨t.enc, .sh⟩, some ⟨encP p, .sh⟩, some ⟨v.enc, .sh⟩, none, none])
    (fun pre v => t.at (p.take pre.length) = some v) (p.map fun n : Nat => PyData.int (n : Int)) t (by simp [Tr.at]) (fun pre d post v hd hv => by
      obtain ⟨k, hk1, rfl⟩ := map_int_mid hd
      have htk : p.take (pre.length + 1) = p.take pre.length ++ [k] := by rw [List.take_succ, hk1]; rfl
      obtain ⟨w, hw⟩ := at_pre (t := t) (p := p.take (pre.length + 1)) (q := p.drop (pre.length + 1)) (u := u) (by rw [List.take_append_drop]; exact hu)
      have hw2 := hw
      rw [htk, at_snoc, hv] at hw2
      simp only [Option.bind_some] at hw2
      have hlt : k < v.kids.length := (List.getElem?_eq_some_iff.mp hw2).1
      have ea : L2.atI (v.kids.map Tr.enc) (k : Int) = some w.enc := by
        rw [atI_nat (xs := v.kids.map Tr.enc) (j := k) (v := w.enc) (by rw [List.getElem?_map, hw2]; rfl)]
      refine ⟨w, ?_, by rw [List.length_append, List.length_singleton]; exact hw⟩
      simp [m_piece_at_2_b1, hk v, hlt, ea])
  rw [List.length_map, List.take_length, hu] at hv
  cases hv
  have hf' : forL (gN 3) (m_piece_at_2_b1 Fx Fk) (p.map fun n : Nat => PyData.int (n : Int)) [some ⟨t.enc, .sh⟩, some ⟨encP p, .sh⟩, some ⟨t.enc, .sh⟩, none, none] = .nx [some ⟨t.enc, .sh⟩, some ⟨encP p, .sh⟩, some ⟨u.enc, .sh⟩, none, none] := hf
  simp only [encP] at hf' ⊢
  simp [m_piece_at_2, hf']
def SignsSp (n : Nat) (F : FF) : Prop := ∀ t : Tr, t.ht ≤ n → t.pieces.length ≤ 100000 → F [some ⟨t.enc, .sh⟩] = .ok (.sh (.tuple (t.signs.map .str))) [none]
theorem signs_le (t : Tr) : t.signs.length ≤ t.pieces.length := by unfold Tr.signs; exact List.length_filterMap_le _ _
theorem signs_kids (t : Tr) (h : t.signN = none) : t.signs = t.kids.flatMap Tr.signs := by
  cases t with
  | knot n tk ks => exact signs_knot n tk ks
  | sign s => cases h
  | void => rfl
  | hole n => rfl
  | foot n => rfl
theorem signs_of_ok {n : Nat} {Fk Fs : FF} (hk : KidsSp Fk) (hs : ∀ m, m + 1 = n → SignsSp m Fs) : SignsSp n (fnF 3 1 (m_signs_of Fk Fs)) := fun t hh hz => by
  rw [m_signs_of_eq]
  have key : t.signN = none → forL (gN 2) (m_signs_of_b1 Fk Fs) (t.kids.map Tr.enc) [some ⟨t.enc, .sh⟩, some ⟨.tuple [], .sh⟩, none] = .nx [some ⟨t.enc, .sh⟩, some ⟨.tuple (t.signs.map .str), .sh⟩, none] := fun h => by
    obtain ⟨acc, hf, ha⟩ := forL_by (S := List Str) (g := gN 2) (b := m_signs_of_b1 Fk Fs) (fun acc => [some ⟨t.enc, .sh⟩, some ⟨.tuple (acc.map .str), .sh⟩, none])
      (fun pre acc => acc = (t.kids.take pre.length).flatMap Tr.signs) (t.kids.map Tr.enc) [] (by simp) (fun pre d post acc hd ha => by
        obtain ⟨k, hk1, rfl⟩ := map_mid hd
        have mk : k ∈ t.kids := List.mem_of_getElem? hk1
        have hkh := ht_kids mk
        obtain ⟨n', rfl⟩ : ∃ n', n = n' + 1 := ⟨n - 1, by omega⟩
        have e := hs n' rfl k (by omega) (Nat.le_trans (pieces_kid_le mk) hz)
        have htk : t.kids.take (pre.length + 1) = t.kids.take pre.length ++ [k] := by rw [List.take_succ, hk1]; rfl
        have hac : ((t.kids.take (pre.length + 1)).flatMap Tr.signs).length ≤ t.signs.length := by
          rw [signs_kids t h]
          have : t.kids.flatMap Tr.signs = (t.kids.take (pre.length + 1)).flatMap Tr.signs ++ (t.kids.drop (pre.length + 1)).flatMap Tr.signs := by rw [← List.flatMap_append, List.take_append_drop]
          rw [this, List.length_append]; omega
        have hsl := signs_le t
        rw [htk, List.flatMap_append, List.length_append] at hac
        simp only [List.flatMap_cons, List.flatMap_nil, List.append_nil] at hac
        have z : acc.length + k.signs.length ≤ sizeLine := fits (by rw [ha]; omega)
        refine ⟨acc ++ k.signs, ?_, by rw [List.length_append, List.length_singleton, htk, List.flatMap_append, ha]; simp⟩
        simp [m_signs_of_b1, e, z])
    rw [List.length_map, List.take_length, ← signs_kids t h] at ha
    subst ha
    exact hf
  cases t with
  | sign s => simp [m_signs_of, Tr.enc, Tr.signs, Tr.pieces, Tr.signN]
  | knot nm tk ks =>
    have e := hk (.knot nm tk ks)
    have k1 := key rfl
    simp only [Tr.enc] at e k1 ⊢
    simp [m_signs_of, e, k1]
  | void =>
    have e := hk .void
    have k1 := key rfl
    simp only [Tr.enc] at e k1 ⊢
    simp [m_signs_of, e, k1]
  | hole nm =>
    have e := hk (.hole nm)
    have k1 := key rfl
    simp only [Tr.enc] at e k1 ⊢
    simp [m_signs_of, e, k1]
  | foot nm =>
    have e := hk (.foot nm)
    have k1 := key rfl
    simp only [Tr.enc] at e k1 ⊢
    simp [m_signs_of, e, k1]
def Tr.deep (t : Tr) : Bool := t.places.any fun p => decide (12 ≤ p.length)
def am (t : Tr) : Option Str := if t.isKnot = false then some (Str.ofString "knot") else if 1 < t.feet.length then some (Str.ofString "feet") else if t.signs = [] then some (Str.ofString "sign")
  else if 60 < t.places.length ∨ t.deep = true then some (Str.ofString "great") else none
def optS : Option Str → D
  | none => .none
  | some s => .str s
def AmissSp (n : Nat) (F : FF) : Prop := ∀ t : Tr, t.ht ≤ n → t.pieces.length ≤ 100000 → F [some ⟨t.enc, .sh⟩] = .ok (.sh (optS (am t))) [none]
theorem max_deep (t : Tr) : decide ((12 : Int) ≤ maxI (t.places.map fun p => (p.length : Int))) = t.deep := by
  have hne : t.places.map (fun p => (p.length : Int)) ≠ [] := by rw [places_kids]; simp
  unfold Tr.deep
  rw [Bool.eq_iff_iff, decide_eq_true_eq, List.any_eq_true]
  constructor
  · intro h
    obtain ⟨p, mp, e⟩ := List.mem_map.mp (maxI_mem hne)
    exact ⟨p, mp, by rw [decide_eq_true_eq]; omega⟩
  · rintro ⟨p, mp, h⟩
    have := maxI_le (List.mem_map.mpr ⟨p, mp, rfl⟩ : (p.length : Int) ∈ t.places.map fun p => (p.length : Int))
    rw [decide_eq_true_eq] at h
    omega
theorem amiss_in_ok {n : Nat} {Fs Ff Fp : FF} (hs : SignsSp n Fs) (hf : FeetSp n Ff) (hp : PlacesSp n Fp) : AmissSp n (fnF 3 1 (m_amiss_in Fs Ff Fp)) := fun t hh hz => by
  rw [m_amiss_in_eq]
  have e1 := hs t hh hz
  have e2 := hf t hh hz
  have e3 := hp t hh hz
  have pl := places_len t
  have hne : t.places.map (fun p => (p.length : Int)) ≠ [] := by rw [places_kids]; simp
  have h := lcL_all (vs := [2]) (g := gN 2) (fe := eNox (m_amiss_in_ce1 Fs Ff Fp)) [some ⟨t.enc, .sh⟩, some ⟨.list (t.places.map encP), .sh⟩, none] encP (fun p => [some ⟨t.enc, .sh⟩, some ⟨.list (t.places.map encP), .sh⟩, some ⟨encP p, .sh⟩]) (fun p => .int (p.length : Int)) t.places [] (fits (by simp; omega)) (fun p _ => by simp [m_amiss_in_ce1, encP])
  rw [List.nil_append, show t.places.map (fun p : List Nat => PyData.int (p.length : Int)) = (t.places.map fun p => (p.length : Int)).map .int by rw [List.map_map]; rfl] at h
  have hm := maxLD_l hne
  have hd := max_deep t
  generalize t.places.map (fun p => (p.length : Int)) = ls at h hm hd
  unfold am
  have hkn : ∃ w r, t.enc = .tuple (.str w :: r) ∧ (w = Str.ofString "knot" ↔ t.isKnot = true) := by
    cases t <;> refine ⟨_, _, rfl, ?_⟩ <;> simp [Tr.isKnot] <;> decide +kernel
  obtain ⟨w, r, he, hw⟩ := hkn
  rw [he] at e1 e2 e3 h ⊢
  by_cases q1 : t.isKnot = true
  · have hw1 := hw.mpr q1
    subst hw1
    rw [if_neg (by rw [q1]; simp)]
    by_cases q2 : 1 < t.feet.length
    · rw [if_pos q2]
      have q2' : (1 : Int) < t.feet.length := by omega
      simp [m_amiss_in, e3, e2, q2, q2', optS]
    · rw [if_neg q2]
      have q2' : ¬ (1 : Int) < t.feet.length := by omega
      by_cases q3 : t.signs = []
      · rw [if_pos q3]
        simp [m_amiss_in, e3, e2, q2, q2', e1, q3, optS]
      · rw [if_neg q3]
        by_cases q4 : 60 < t.places.length
        · rw [if_pos (.inl q4)]
          have q4' : (60 : Int) < t.places.length := by omega
          simp [m_amiss_in, e3, e2, q2, q2', e1, q3, q4, q4', optS]
        · have q4' : ¬ (60 : Int) < t.places.length := by omega
          cases q5 : t.deep with
          | true =>
            rw [q5, decide_eq_true_eq] at hd
            rw [if_pos (.inr rfl)]
            simp [m_amiss_in, e3, e2, q2, q2', e1, q3, q4, q4', h, hm, hd, optS]
          | false =>
            rw [q5, decide_eq_false_iff_not] at hd
            rw [if_neg (by simp [q4])]
            simp [m_amiss_in, e3, e2, q2, q2', e1, q3, q4, q4', h, hm, hd, optS]
  · have hw1 : ¬ w = Str.ofString "knot" := fun e => q1 (hw.mp e)
    rw [if_pos (by simpa using q1)]
    simp [m_amiss_in, e3, hw1, optS]
structure PairOk (n : Nat) (p : Str × Tr) : Prop where
  ok : p.2.ok = true
  ht : p.2.ht ≤ n
  sz : p.2.pieces.length ≤ 100000
  kl : p.1.length ≤ 1000000
@[simp] theorem isD_optS (neg : Bool) (o : Option Str) : isD neg (optS o) .none = some (.sh (.bool (neg ^^ o.isNone))) := by cases o <;> cases neg <;> rfl
def xNoKey (i : Nat) : Xc := ⟨"NoKey", [("number", .int i)]⟩
def xTwice (k : Str) : Xc := ⟨"Twice", [("key", .str k)]⟩
def xNoTree (k w : Str) : Xc := ⟨"NoTree", [("word", .str w), ("key", .str k)]⟩
def scB : List Str → List (Str × Tr) → Option Xc
  | _, [] => none
  | ks, (k, t) :: r => if keyB k = false then some (xNoKey ks.length) else if k ∈ ks then some (xTwice k) else match am t with
    | some w => some (xNoTree k w)
    | none => scB (ks ++ [k]) r
def mkX (L : List (Str × Tr)) : Option Xc := if L = [] then some (xNoKey 0) else if 400 < L.length then some (xNoKey 400) else scB [] L
theorem in_strs (neg : Bool) (k : Str) (ks : List Str) (h1 : PyData.strOk k = true) (h2 : ∀ k ∈ ks, PyData.strOk k = true) : inB neg (.str k) (.list (ks.map .str)) = some (.sh (.bool (neg ^^ decide (k ∈ ks)))) := by
  have o2 : okEq (.list (ks.map .str)) = true := okEq_of (strs_clean h2).1 (by
    rw [PyData.depth]
    have := depthAll_of (ds := ks.map PyData.str) (n := 0) fun d m => by obtain ⟨f, _, rfl⟩ := List.mem_map.mp m; exact Nat.le_refl _
    omega)
  rw [inB_l, okEq_str h1, o2]
  have e : (ks.map PyData.str).any (fun z => PyData.eqv z (.str k)) = decide (k ∈ ks) := by
    rw [List.any_map, Bool.eq_iff_iff, List.any_eq_true, decide_eq_true_eq]
    simp [PyData.eqv]
  rw [e]; rfl
end GM
namespace GM
open PySem L2 GS
/-- book_rows(book); slots 0:book 1:key 2:tree -/
def m_book_rows_ce1 (F_tree_text : FF) : EF := (eBin addD (eBin addD (eVb 1) (eC (.str (Str.ofString " : ")))) (eCall 1 none F_tree_text (aCons (eMv 2) aNil)))
def m_book_rows (F_tree_text : FF) : SF := (sEnd (sRet (eBin addD (eLst (aCons (eBin addD (eC (.str (Str.ofString "top "))) (eBin ixA (eVb 0) (eC (.int 0)))) aNil)) (eLc [1, 2] (iSq (eBin ixA (eVb 0) (eC (.int 1)))) (gT 2 (gsC (gN 1) (gsC (gN 2) gsN))) (eNox eYes) (eNox (m_book_rows_ce1 F_tree_text))))))
theorem m_book_rows_eq (F_tree_text : FF) (ρ : Rho) : fnF 3 1 (m_book_rows F_tree_text) ρ = finR 1 (m_book_rows F_tree_text (ρ ++ [none, none])) := fnF_eq 3 1 _
/-- tree_in(text); slots 0:text 1:tree -/
def m_tree_in (F_read_tree : FF) : SF := (sSeq (sSet 1 (eC .none)) (sSeq (sTry0 ["NoPlace", "NoText", "NoKey", "Twice", "NoTree", "NoRow"] ["NoText"] (sSet 1 (eCall 1 none F_read_tree (aCons (eMv 0) aNil))) (sSet 1 (eC .none))) (sEnd (sRet (eRv 1)))))
theorem m_tree_in_eq (F_read_tree : FF) (ρ : Rho) : fnF 2 1 (m_tree_in F_read_tree) ρ = finR 1 (m_tree_in F_read_tree (ρ ++ [none])) := fnF_eq 2 1 _
/-- row_read(text, number); slots 0:text 1:number 2:words 3:tree -/
def m_row_read (F_NoRow F_tree_in : FF) : SF := (sSeq (sSet 2 (eM1 splitD (eVb 0) (eC (.str (Str.ofString " "))))) (sSeq (sSet 3 (eC .none)) (sSeq (sIf (eAnd (eB (eBin (ltI fun i j => decide (j < i)) (eCB (un1 lenD) (aCons (eVb 2) aNil)) (eC (.int 2)))) (eB (eBin (eqB false) (eBin ixA (eVb 2) (eC (.int 1))) (eC (.str (Str.ofString ":")))))) (sSet 3 (eCall 1 none F_tree_in (aCons (eM1 joinD (eC (.str (Str.ofString " "))) (eSl (eVb 2) (some (eC (.int 2))) none)) aNil))) sNil) (sSeq (sIf (eB (eBin (isD false) (eVb 3) (eC .none))) (sRaise F_NoRow "NoRow" ["row"] (aCons (eMv 1) aNil)) sNil) (sEnd (sRet (eTup (aCons (eBin ixA (eVb 2) (eC (.int 0))) (aCons (eMv 3) aNil)))))))))
theorem m_row_read_eq (F_NoRow F_tree_in : FF) (ρ : Rho) : fnF 4 2 (m_row_read F_NoRow F_tree_in) ρ = finR 2 (m_row_read F_NoRow F_tree_in (ρ ++ [none, none])) := fnF_eq 4 2 _
end GM
namespace GM
open PySem L2 GS
theorem hd1_app (x : String) (c : Nat) (hx : (Str.ofString x).cps.toList = [c]) (n : Str) : hd1 (Str.ofString x ++ n) = Str.ofString x := str_ext (by rw [hd1_cps, app_cps, hx]; rfl)
theorem tl1_app (x : String) (c : Nat) (hx : (Str.ofString x).cps.toList = [c]) (n : Str) : tl1 (Str.ofString x ++ n) = n := str_ext (by rw [tl1_cps, app_cps, hx]; rfl)
theorem hd1_hd {w : Str} {c : Nat} (h : hdC w = some c) : hd1 w = ⟨#[c]⟩ := str_ext (by
  rw [hd1_cps]
  unfold hdC at h
  cases e : w.cps.toList with
  | nil => rw [e] at h; cases h
  | cons d ds => rw [e] at h; cases h; rfl)
theorem leafT_word {t : Tr} (ok : t.ok = true) {w : Str} (hw : t.words = [w]) : leafT w = some t := by
  cases t with
  | sign s =>
    simp only [Tr.words, List.cons.injEq, and_true] at hw
    subst hw
    have hs : signB s = true := ok
    obtain ⟨c, h1, h2⟩ := sign_hd hs
    unfold leafT
    rw [if_neg (hd_ne h1 cpM (by have := smlR c h2; omega)), if_pos hs]
  | void =>
    simp only [Tr.words, List.cons.injEq, and_true] at hw
    subst hw
    unfold leafT
    rw [if_pos rfl]
  | hole n =>
    simp only [Tr.words, List.cons.injEq, and_true] at hw
    subst hw
    have hn : nameB n = true := ok
    have h1 := hd_app "+" 43 cpP n
    unfold leafT
    rw [if_neg (hd_ne h1 cpM (by decide)), if_neg (by rw [not_sign h1 (by decide +kernel)]; simp), hd1_app "+" 43 cpP, tl1_app "+" 43 cpP, if_pos ⟨rfl, hn⟩]
  | foot n =>
    simp only [Tr.words, List.cons.injEq, and_true] at hw
    subst hw
    have hn : nameB n = true := ok
    have h1 := hd_app "*" 42 cpA n
    have ne : ¬ Str.ofString "*" = Str.ofString "+" := by decide +kernel
    unfold leafT
    rw [if_neg (hd_ne h1 cpM (by decide)), if_neg (by rw [not_sign h1 (by decide +kernel)]; simp), hd1_app "*" 42 cpA, tl1_app "*" 42 cpA, if_neg (fun h => ne h.1), if_pos ⟨rfl, hn⟩]
  | knot n tk ks => simp [Tr.words] at hw
theorem tkT_words {W : List Str} {a : Nat} {tk : Option (Str × Bool)} {w : Str} {r : List Str} (ok : okTk tk = true) (hd : W.drop a = tkW tk ++ w :: r) (hc : ∃ c, hdC w = some c ∧ c ≠ 33 ∧ c ≠ 63) : tkT W a = (tk, a + (tkW tk).length) := by
  unfold tkT
  cases tk with
  | none =>
    simp only [tkW, List.nil_append] at hd
    obtain ⟨c, h1, h2, h3⟩ := hc
    rw [drop_get hd]
    dsimp only
    have e := hd1_hd h1
    rw [if_neg]
    · rfl
    · rintro ⟨q | q, _⟩
      · rw [e] at q; exact one_ne "!" 33 cpB h2 q
      · rw [e] at q; exact one_ne "?" 63 cpQ h3 q
  | some p =>
    obtain ⟨q, b⟩ := p
    simp only [tkW, List.cons_append, List.nil_append] at hd
    have hq : nameB q = true := ok
    rw [drop_get hd]
    dsimp only
    cases b with
    | true =>
      have h1 : hd1 (Str.ofString (if true = true then "!" else "?") ++ q) = Str.ofString "!" := hd1_app "!" 33 cpB q
      have h2 : tl1 (Str.ofString (if true = true then "!" else "?") ++ q) = q := tl1_app "!" 33 cpB q
      rw [h1, h2, if_pos ⟨.inl rfl, hq⟩]
      simp [tkW]
    | false =>
      have h1 : hd1 (Str.ofString (if false = true then "!" else "?") ++ q) = Str.ofString "?" := hd1_app "?" 63 cpQ q
      have h2 : tl1 (Str.ofString (if false = true then "!" else "?") ++ q) = q := tl1_app "?" 63 cpQ q
      rw [h1, h2, if_pos ⟨.inr rfl, hq⟩]
      simp [tkW, bang_ne.symm]
theorem lpT_words {W : List Str} {rec : Nat → RdT} {r : List Str} : ∀ (ks acc : List Tr) (m a : Nat), acc.length + ks.length ≤ 8 → acc ++ ks ≠ [] → ks.length < m → W.drop a = Tr.wordsL ks ++ CB :: r → (∀ t ∈ ks, t.ok = true) →
    (∀ t ∈ ks, ∀ b s, W.drop b = t.words ++ s → rec b = .ok (t, b + t.words.length)) → lpT rec W m a acc = .ok (acc ++ ks, a + (Tr.wordsL ks).length)
  | _, _, 0, _, _, _, hm, _, _, _ => by omega
  | [], acc, m + 1, a, _, hne, _, hd, _, _ => by
    rw [lpT, if_neg (by simpa using hne)]
    simp only [Tr.wordsL, List.nil_append] at hd
    rw [drop_get hd]
    dsimp only
    rw [if_pos rfl]
    simp [Tr.wordsL]
  | t :: ks, acc, m + 1, a, h8, _, hm, hd, ok, hr => by
    rw [Tr.wordsL, List.append_assoc] at hd
    rw [List.length_cons] at h8 hm
    have e := hr t (by simp) a _ hd
    have st : stepT rec (lpT rec W m) a acc = .ok (acc ++ t :: ks, a + (Tr.wordsL (t :: ks)).length) := by
      unfold stepT
      rw [if_neg (by omega), e]
      dsimp only
      rw [lpT_words ks (acc ++ [t]) m _ (by simp; omega) (by simp) (by omega) (drop_next hd) (fun u mu => ok u (by simp [mu])) (fun u mu => hr u (by simp [mu]))]
      simp [Tr.wordsL, Nat.add_assoc]
    rw [lpT]
    by_cases hn : acc = []
    · rw [if_pos hn, st]
    · rw [if_neg hn]
      obtain ⟨w, wr, c, h1, h2, h3, h4, h5, h6⟩ := words_hd (ok t (by simp))
      rw [h1, List.cons_append] at hd
      rw [drop_get hd]
      dsimp only
      rw [if_neg (hd_ne h2 cpC h5), st]
theorem rdT_words : ∀ (n : Nat) (t : Tr), t.ok = true → t.ht < n → ∀ (W : List Str) (a : Nat) (r : List Str), W.drop a = t.words ++ r → rdT W n a = .ok (t, a + t.words.length)
  | 0, t, _, h, _, _, _, _ => by omega
  | n + 1, t, ok, hh, W, a, r, hd => by
    by_cases hk : t.isKnot = true
    · cases t with
      | knot nm tk ks =>
        obtain ⟨p1, p2, p3, p4, p5⟩ := knot_parts ok
        simp only [Tr.words, List.cons_append, List.append_assoc] at hd
        have g0 := drop_get hd
        have d1 : W.drop (a + 1) = nm :: (tkW tk ++ (Tr.wordsL ks ++ (CB :: r))) := by
          have := drop_next (a := [Str.ofString "["]) (r := nm :: (tkW tk ++ (Tr.wordsL ks ++ (CB :: r)))) hd
          exact this
        have g1 := drop_get d1
        have d2 : W.drop (a + 2) = tkW tk ++ (Tr.wordsL ks ++ (CB :: r)) := by
          have := drop_next (a := [nm]) (r := tkW tk ++ (Tr.wordsL ks ++ (CB :: r))) d1
          exact this
        obtain ⟨k0, kr, hks⟩ : ∃ k0 kr, ks = k0 :: kr := by
          cases ks with
          | nil => simp at p3
          | cons k0 kr => exact ⟨k0, kr, rfl⟩
        obtain ⟨w, wr, c, h1, h2, h3, h4, h5, h6⟩ := words_hd (p5 k0 (by rw [hks]; simp))
        have tk2 := tkT_words (W := W) (a := a + 2) (tk := tk) (w := w) (r := wr ++ (Tr.wordsL kr ++ (CB :: r))) p2 (by rw [d2, hks, Tr.wordsL, h1]; simp) ⟨c, h2, h3, h4⟩
        have d3 := drop_next d2
        have lp := lpT_words (rec := rdT W n) ks [] wFuel (a + 2 + (tkW tk).length) (by simpa using p4) (by rw [hks]; simp) (by unfold wFuel; omega) d3 p5 (fun t mt b s hb => rdT_words n t (p5 t mt) (by have := ht_mem mt; simp only [Tr.ht] at hh; omega) W b s hb)
        rw [rdT, g0]
        dsimp only
        rw [if_pos rfl, g1]
        dsimp only
        rw [if_pos p1, tk2]
        dsimp only
        rw [lp]
        simp [Tr.words]
        omega
      | sign _ => cases hk
      | void => cases hk
      | hole _ => cases hk
      | foot _ => cases hk
    · have hk' : t.isKnot = false := by simpa using hk
      obtain ⟨w, hw⟩ : ∃ w, t.words = [w] := by
        cases t with
        | knot _ _ _ => cases hk'
        | sign s => exact ⟨_, rfl⟩
        | void => exact ⟨_, rfl⟩
        | hole s => exact ⟨_, rfl⟩
        | foot s => exact ⟨_, rfl⟩
      rw [hw] at hd ⊢
      rw [rdT, drop_get hd]
      dsimp only
      rw [if_neg (leaf_ne ok hk' hw), leafT_word ok hw]
      rfl
theorem rdT_whole {t : Tr} {n : Nat} (ok : t.ok = true) (h : t.ht < n) : rdT t.words n 0 = .ok (t, t.words.length) := by
  have := rdT_words n t ok h t.words 0 [] (by simp)
  rw [Nat.zero_add] at this
  exact this
abbrev CO : Str := Str.ofString ":"
def treeT (n : Nat) (r : List Str) : Option Tr := match rdT r n 0 with
  | .ok (t, b) => if b < r.length then none else some t
  | .error _ => none
def rowT (n : Nat) (s : Str) : Option (Str × Tr) := match Txt.split s BL with
  | k :: c :: w :: r => if c = CO then (treeT n (w :: r)).map fun t => (k, t) else none
  | _ => none
structure RowOk (n : Nat) (s : Str) : Prop where
  len : s.length ≤ 90000
  ok : ∀ c ∈ s.cps.toList, c < 0x110000
  op : opensT (Txt.split s BL) 0 < n
def TreeInSp (n : Nat) (F : FF) : Prop := ∀ r : List Str, WOkT r → r ≠ [] → (∀ w ∈ r, 32 ∉ w.cps.toList) → (lineT r).length ≤ 1000000 → opensT r 0 < n → F [some ⟨.str (lineT r), .sh⟩] = .ok (.sh (encO (treeT n r))) [none]
theorem tree_in_ok {n : Nat} {Fr : FF} (hr : ReadT n Fr) : TreeInSp n (fnF 2 1 (m_tree_in Fr)) := fun r ok h0 hb hl ho => by
  rw [m_tree_in_eq]
  have e := hr r ok h0 hb hl ho
  unfold treeT
  have x4 : ∀ e, (noT e).cls = Str.ofString "NoText" := fun _ => rfl
  cases hrd : rdT r n 0 with
  | error e' =>
    rw [hrd] at e
    dsimp only at e ⊢
    simp [m_tree_in, e, x4, encO]
  | ok x =>
    obtain ⟨t, b⟩ := x
    rw [hrd] at e
    dsimp only at e ⊢
    by_cases q : b < r.length
    · rw [if_pos q] at e ⊢
      simp [m_tree_in, e, x4, encO]
    · rw [if_neg q] at e ⊢
      simp [m_tree_in, e, encO]
def xNoRow (i : Nat) : Xc := ⟨"NoRow", [("row", .int i)]⟩
def RowSp (n : Nat) (F : FF) : Prop := ∀ (s : Str) (i : Nat), RowOk n s → F [some ⟨.str s, .sh⟩, some ⟨.int i, .sh⟩] = match rowT n s with
  | none => .exc (xNoRow i) [none, none]
  | some p => .ok (.sh (encKT p)) [none, none]
theorem opensT_tail (W r : List Str) : opensT r 0 ≤ opensT (W ++ r) 0 := by
  unfold opensT
  rw [List.drop_zero, List.drop_zero, List.count_append]
  omega
theorem row_read_ok {n : Nat} {Fx Ft : FF} (hx : Raises Fx) (ht : TreeInSp n Ft) : RowSp n (fnF 4 2 (m_row_read Fx Ft)) := fun s i ok => by
  rw [m_row_read_eq]
  have hs := splitD_s s BL (by decide +kernel) (by have := ok.len; omega)
  have sp := split_bl s
  have op := ok.op
  have hlen := ok.len
  have hs' : splitD (.str s) (.str (Str.ofString " ")) = some (.fr (.list ((Txt.split s BL).map .str))) := hs
  unfold rowT
  generalize hW : Txt.split s BL = W at sp op hs' ⊢
  match W, sp, op, hs' with
  | [], sp, _, _ => exact absurd rfl sp.ne
  | [a], sp, op, hs' => simp [m_row_read, hs', sRaise_eq hx, xNoRow, outR_2]
  | [a, b], sp, op, hs' => simp [m_row_read, hs', sRaise_eq hx, xNoRow, outR_2]
  | k :: c :: w :: r, sp, op, hs' =>
    dsimp only
    by_cases hc : c = CO
    · rw [if_pos hc]
      subst hc
      have mem : ∀ v ∈ w :: r, v ∈ k :: CO :: w :: r := fun v m => by simp at m ⊢; right; right; exact m
      have wok : WOkT (w :: r) := ⟨by have := sp.num; simp at this ⊢; omega, fun v m => by have := sp.len v (mem v m); omega, fun v m => strOk_of fun ch mc => ok.ok ch (sp.mem v (mem v m) ch mc)⟩
      have bl1 : BL.length = 1 := by decide +kernel
      have tot := sp.tot
      have num := sp.num
      simp only [List.map_cons, List.sum_cons, List.length_cons] at tot num
      have jl := join_len BL (w :: r)
      rw [bl1] at jl
      simp only [List.map_cons, List.sum_cons, List.length_cons] at jl
      have hl : (lineT (w :: r)).length ≤ 1000000 := by
        show (Txt.join BL (w :: r)).length ≤ _
        omega
      have jok : joinOk BL (w :: r) = true := by
        unfold joinOk
        refine Nat.ble_eq_true_of_le ?_
        rw [bl1]
        simp only [List.map_cons, List.sum_cons, List.length_cons]
        omega
      have e := ht (w :: r) wok (by simp) (fun v m => sp.sep v (mem v m)) hl (Nat.lt_of_le_of_lt (opensT_tail [k, CO] (w :: r)) op)
      have j : joinD (.str (Str.ofString " ")) (.list ((w :: r).map .str)) = some (.sh (.str (lineT (w :: r)))) := joinD_l BL (w :: r) jok
      simp only [List.map_cons] at j hs'
      have c2 : cutD (PyData.str k :: .str CO :: .str w :: r.map .str) (some 2) none = .str w :: r.map .str := cutD_from _ 2
      have g : (2 : Int) < (r.length : Int) + 1 + 1 + 1 := by omega
      cases hT : treeT n (w :: r) with
      | none =>
        rw [hT] at e
        simp [m_row_read, hs', g, c2, j, e, encO, sRaise_eq hx, xNoRow, outR_2]
      | some t =>
        rw [hT] at e
        simp [m_row_read, hs', g, c2, j, e, encO, encKT, outR_2]
    · rw [if_neg hc]
      have g : (2 : Int) < (r.length : Int) + 1 + 1 + 1 := by omega
      simp only [List.map_cons] at hs'
      simp [m_row_read, hs', g, hc, sRaise_eq hx, xNoRow, outR_2]
theorem lpT_size {rec : Nat → RdT} {W : List Str} (h : ∀ a t b, rec a = .ok (t, b) → t.pieces.length + a ≤ b) : ∀ (m a : Nat) (ks us : List Tr) (b : Nat), lpT rec W m a ks = .ok (us, b) → (us.flatMap Tr.pieces).length + a ≤ b + (ks.flatMap Tr.pieces).length
  | 0, a, ks, us, b, q => by cases q
  | m + 1, a, ks, us, b, q => by
    have S : stepT rec (lpT rec W m) a ks = .ok (us, b) → (us.flatMap Tr.pieces).length + a ≤ b + (ks.flatMap Tr.pieces).length := fun q => by
      unfold stepT at q
      split at q
      · cases q
      · cases hr : rec a with
        | error e => rw [hr] at q; cases q
        | ok x =>
          obtain ⟨t, b'⟩ := x
          rw [hr] at q
          have h1 := h a t b' hr
          have h2 := lpT_size h m b' (ks ++ [t]) us b q
          simp only [List.flatMap_append, List.length_append, List.flatMap_cons, List.flatMap_nil, List.append_nil] at h2
          omega
    rw [lpT] at q
    split at q
    · exact S q
    · cases hw : W[a]? with
      | none => rw [hw] at q; cases q
      | some w =>
        rw [hw] at q
        dsimp only at q
        split at q
        · cases q; omega
        · exact S q
theorem rdT_size (W : List Str) : ∀ (n a : Nat) (t : Tr) (b : Nat), rdT W n a = .ok (t, b) → t.pieces.length + a ≤ b
  | 0, a, t, b, q => by cases q
  | n + 1, a, t, b, q => by
    rw [rdT] at q
    cases hw : W[a]? with
    | none => rw [hw] at q; cases q
    | some w =>
      rw [hw] at q
      dsimp only at q
      by_cases hc : w = OB
      · rw [if_pos hc] at q
        cases hk : W[a + 1]? with
        | none => rw [hk] at q; cases q
        | some nm =>
          rw [hk] at q
          dsimp only at q
          by_cases hn : nameB nm = true
          · rw [if_pos hn] at q
            cases hl : lpT (rdT W n) W wFuel (tkT W (a + 2)).2 [] with
            | error e => rw [hl] at q; cases q
            | ok x =>
              obtain ⟨us, b'⟩ := x
              rw [hl] at q
              cases q
              have h1 := lpT_size (fun a t b e => rdT_size W n a t b e) wFuel _ [] us b' hl
              have h2 := (tkT_ok W (a + 2)).2.1
              rw [pieces_kids]
              simp only [Tr.kids, List.length_cons, List.flatMap_nil, List.length_nil] at h1 ⊢
              omega
          · rw [if_neg hn] at q; cases q
      · rw [if_neg hc] at q
        cases hl : leafT w with
        | none => rw [hl] at q; cases q
        | some t' =>
          rw [hl] at q
          cases q
          have := (leafT_ok hl).2
          rw [pieces_kids]
          cases t with
          | knot _ _ _ => simp only [Tr.ht] at this; omega
          | sign _ => simp [Tr.kids]; omega
          | void => simp [Tr.kids]; omega
          | hole _ => simp [Tr.kids]; omega
          | foot _ => simp [Tr.kids]; omega
theorem rowT_pair {n : Nat} {s : Str} {p : Str × Tr} (ok : RowOk n s) (h : rowT n s = some p) : PairOk n p := by
  have sp := split_bl s
  have hl := ok.len
  unfold rowT at h
  generalize Txt.split s BL = W at sp h
  match W, sp, h with
  | k :: c :: w :: r, sp, h =>
    dsimp only at h
    split at h
    · obtain ⟨t, ht, rfl⟩ := Option.map_eq_some_iff.mp h
      unfold treeT at ht
      cases hr : rdT (w :: r) n 0 with
      | error e => rw [hr] at ht; cases ht
      | ok x =>
        obtain ⟨t', b⟩ := x
        rw [hr] at ht
        dsimp only at ht
        split at ht
        · cases ht
        · cases ht
          obtain ⟨q1, q2, q3, q4⟩ := (rdT_ends (w :: r) n 0 (Nat.zero_le _)).ok t b hr
          have q5 := rdT_size _ _ _ _ _ hr
          have := sp.num
          simp only [List.length_cons] at this q2
          exact ⟨q3, q4, by show t.pieces.length ≤ 100000; omega, by have := sp.len k (by simp); show k.length ≤ 1000000; omega⟩
    · cases h
def rowsT (n : Nat) : Nat → List Str → Except Nat (List (Str × Tr))
  | _, [] => .ok []
  | i, s :: r => match rowT n s with
    | none => .error i
    | some p => match rowsT n (i + 1) r with
      | .error e => .error e
      | .ok L => .ok (p :: L)
def rdB (n : Nat) (rows : List Str) : Except Xc (Str × List (Str × Tr)) := match rows with
  | [] => .error (xNoRow 0)
  | s :: r => match Txt.split s BL with
    | [a, b] => if a = Str.ofString "top" ∧ nameB b = true then (match rowsT n 1 r with
      | .error k => .error (xNoRow k)
      | .ok L => match mkX L with
        | some x => .error x
        | none => .ok (b, L)) else .error (xNoRow 0)
    | _ => .error (xNoRow 0)
theorem rowsT_pair {n : Nat} : ∀ (rows : List Str) (i : Nat) (L : List (Str × Tr)), (∀ s ∈ rows, RowOk n s) → rowsT n i rows = .ok L → L.length = rows.length ∧ ∀ p ∈ L, PairOk n p
  | [], i, L, _, h => by cases h; simp
  | s :: r, i, L, ok, h => by
    rw [rowsT] at h
    cases hr : rowT n s with
    | none => rw [hr] at h; cases h
    | some p =>
      rw [hr] at h
      dsimp only at h
      cases hr2 : rowsT n (i + 1) r with
      | error e => rw [hr2] at h; cases h
      | ok L2 =>
        rw [hr2] at h
        cases h
        obtain ⟨h1, h2⟩ := rowsT_pair r (i + 1) L2 (fun s m => ok s (by simp [m])) hr2
        exact ⟨by simp [h1], fun q m => (List.mem_cons.mp m).elim (fun e => e ▸ rowT_pair (ok s (by simp)) hr) (h2 q)⟩
section
variable {n : Nat} {Fm Fr Fn Fx : FF}
end
def rowW (p : Str × Tr) : Str := p.1 ++ Str.ofString " : " ++ lineT p.2.words
def Bk.rows (b : Bk) : List Str := (Str.ofString "top " ++ b.top) :: b.trees.map rowW
structure BookW (n : Nat) (b : Bk) : Prop where
  len : b.trees.length ≤ 1000
  top : b.top.length ≤ 1000
  all : ∀ p ∈ b.trees, p.2.ok = true ∧ p.2.ht ≤ n ∧ p.2.pieces.length ≤ 5000 ∧ p.1.length ≤ 1000
def BookRows (n : Nat) (F : FF) : Prop := ∀ b : Bk, BookW n b → F [some ⟨b.enc, .sh⟩] = .ok (.fr (.list (b.rows.map .str))) [none]
theorem book_rows_ok {n : Nat} {Ft : FF} (ht : TextSp n Ft) : BookRows n (fnF 3 1 (m_book_rows Ft)) := fun b ok => by
  rw [m_book_rows_eq]
  have hl := ok.len
  have l3 : (Str.ofString " : ").length = 3 := by decide +kernel
  have l4 : (Str.ofString "top ").length = 4 := by decide +kernel
  have h := lcL_all (vs := [1, 2]) (g := gT 2 (gsC (gN 1) (gsC (gN 2) gsN))) (fe := eNox (m_book_rows_ce1 Ft)) [some ⟨b.enc, .sh⟩, none, none] encKT (fun p => [some ⟨b.enc, .sh⟩, some ⟨.str p.1, .sh⟩, some ⟨p.2.enc, .sh⟩]) (fun p => .str (rowW p)) b.trees [] (fits (by simp; omega)) (fun p m => by
    obtain ⟨a1, a2, a3, a4⟩ := ok.all p m
    have e := ht p.2 a1 a2 (by omega)
    have ll : (lineT p.2.words).length ≤ 31 * (4 * 5000) := by
      have h1 := line_len (ws := p.2.words) fun w m => (word_chars p.2 a1 w m).1
      have h2 := words_len p.2
      omega
    have z1 : p.1.length + (Str.ofString " : ").length ≤ sizeLine := fits (by omega)
    have z2 : (p.1 ++ Str.ofString " : ").length + (lineT p.2.words).length ≤ sizeLine := fits (by rw [app_len]; omega)
    simp [m_book_rows_ce1, encKT, e, z1, z2, rowW])
  rw [List.nil_append] at h
  have z1 : (Str.ofString "top ").length + b.top.length ≤ sizeLine := fits (by have := ok.top; omega)
  have z2 : 1 + b.trees.length ≤ sizeLine := fits (by omega)
  have z3 : b.trees.length + 1 ≤ sizeLine := fits (by omega)
  simp [m_book_rows, ix_top, ix_trees, h, z1, z2, z3, Bk.rows, Function.comp_def]
end GM
namespace GM
open PySem L2 GS
theorem name_ne {n : Str} (h : nameB n = true) : n ≠ OB := fun e => by
  obtain ⟨c, h1, h2⟩ := name_hd h
  exact hd_ne h1 cpO (by have := grtR c h2; omega) e
theorem tkW_ob {tk : Option (Str × Bool)} : (tkW tk).count OB = 0 := by
  cases tk with
  | none => rfl
  | some p =>
    obtain ⟨q, b⟩ := p
    refine List.count_eq_zero.mpr fun m => ?_
    simp only [tkW, List.mem_singleton] at m
    cases b
    · exact hd_ne (hd_app "?" 63 cpQ q) cpO (by decide) m.symm
    · exact hd_ne (hd_app "!" 33 cpB q) cpO (by decide) m.symm
mutual
theorem words_ob : ∀ t : Tr, t.ok = true → t.words.count OB ≤ t.pieces.length
  | .sign s, h => by rw [Tr.words]; exact Nat.le_trans List.count_le_length (by simp [Tr.pieces])
  | .void, _ => by rw [Tr.words]; exact Nat.le_trans List.count_le_length (by simp [Tr.pieces])
  | .hole n, h => by rw [Tr.words]; exact Nat.le_trans List.count_le_length (by simp [Tr.pieces])
  | .foot n, h => by rw [Tr.words]; exact Nat.le_trans List.count_le_length (by simp [Tr.pieces])
  | .knot n tk ks, h => by
    obtain ⟨h1, h2, h3, h4, h5⟩ := knot_parts h
    have ih := words_obL ks (okL_of h5)
    have n1 : ¬ (n == OB) = true := by simpa using name_ne h1
    have c1 : ¬ (CB == OB) = true := by decide +kernel
    rw [Tr.words, Tr.pieces, List.count_cons, List.count_cons, List.count_append, List.count_append, tkW_ob, List.count_cons, if_neg n1, if_neg c1]
    simp
    exact ih
theorem words_obL : ∀ ts : List Tr, Tr.okL ts = true → (Tr.wordsL ts).count OB ≤ (Tr.piecesL ts).length
  | [], _ => by simp [Tr.wordsL]
  | t :: ts, h => by
    rw [Tr.okL, Bool.and_eq_true] at h
    have h1 := words_ob t h.1
    have h2 := words_obL ts h.2
    rw [Tr.wordsL, Tr.piecesL, List.count_append, List.length_append]
    omega
end
theorem row_line (p : Str × Tr) (ok : p.2.ok = true) : rowW p = lineT (p.1 :: CO :: p.2.words) := by
  obtain ⟨w, wr, c, h1, _⟩ := words_hd ok
  refine str_ext ?_
  unfold rowW lineT
  have e3 : (Str.ofString " : ").cps.toList = [32, 58, 32] := by decide +kernel
  have ec : CO.cps.toList = [58] := by decide +kernel
  rw [app_cps, app_cps, join_cps, join_cps, e3, cpBL, h1]
  simp only [List.map_cons, TL.joinL, ec]
  simp
theorem top_line (t : Str) : Str.ofString "top " ++ t = lineT [Str.ofString "top", t] := by
  refine str_ext ?_
  unfold lineT
  have e3 : (Str.ofString "top ").cps.toList = (Str.ofString "top").cps.toList ++ [32] := by decide +kernel
  rw [app_cps, join_cps, e3, cpBL]
  simp only [List.map_cons, List.map_nil, TL.joinL]
  simp
theorem key_chars {k : Str} (h : keyB k = true) : ∀ c ∈ k.cps.toList, 48 ≤ c ∧ c ≤ 122 := fun c m => by
  rcases nameL_mem h c m with q | q
  · have := smlR c q; omega
  · have := figR c q; omega
theorem key_ne {k : Str} (h : keyB k = true) : k ≠ OB := fun e => by
  have h1 := key_chars h
  subst e
  have h2 : (91 : Nat) ∈ OB.cps.toList := by rw [cpO]; simp
  unfold keyB at h
  rw [cpO] at h
  revert h
  decide +kernel
/-- a book that is well -/
structure BkW (h : Nat) (b : Bk) : Prop where
  top : nameB b.top = true
  pos : 1 ≤ b.trees.length
  len : b.trees.length ≤ 400
  nd : (b.trees.map (·.1)).Nodup
  keys : ∀ p ∈ b.trees, keyB p.1 = true
  trees : ∀ p ∈ b.trees, TreeOk h p.2
theorem BookOk.w {h : Nat} {b : Bk} (B : BookOk h b) : BkW h b := ⟨B.top, by have := B.pos; omega, by have := B.len; omega, B.nd, fun p m => allK_ok _ (B.keys p m), B.trees⟩
theorem tree_line {h : Nat} {t : Tr} (T : TreeOk h t) : (lineT t.words).length ≤ 6200 := by
  have h1 := line_len (ws := t.words) fun w m => (word_chars t T.ok w m).1
  have h2 := words_len t
  have := T.sz
  omega
theorem am_none {h : Nat} {t : Tr} (T : TreeOk h t) (hh : h ≤ 11) : am t = none := by
  unfold am
  have h1 := T.feet
  have h2 : t.signs ≠ [] := fun e => by have := T.sg; rw [e] at this; simp at this
  have h3 : t.deep = false := by
    unfold Tr.deep
    rw [Bool.eq_false_iff]
    intro q
    obtain ⟨p, mp, hp⟩ := List.any_eq_true.mp q
    have := place_len t p mp
    have := T.ht
    rw [decide_eq_true_eq] at hp
    omega
  rw [if_neg (by rw [T.kn]; simp), if_neg (by omega), if_neg h2, if_neg (by rw [places_len, h3]; have := T.sz; simp; omega)]
theorem scB_none : ∀ (L : List (Str × Tr)) (ks : List Str), (ks ++ L.map (·.1)).Nodup → (∀ p ∈ L, keyB p.1 = true ∧ am p.2 = none) → scB ks L = none
  | [], _, _, _ => rfl
  | (k, t) :: L, ks, nd, ok => by
    obtain ⟨h1, h2⟩ := ok (k, t) (by simp)
    have hk : k ∉ ks := fun m => by
      rw [List.nodup_append] at nd
      exact nd.2.2 k m k (by simp) rfl
    rw [scB, if_neg (by rw [h1]; simp), if_neg hk]
    have h2 : am t = none := h2
    rw [h2]
    exact scB_none L (ks ++ [k]) (by simpa using nd) fun p m => ok p (by simp [m])
theorem mkX_none {h : Nat} {b : Bk} (B : BkW h b) (hh : h ≤ 11) : mkX b.trees = none := by
  unfold mkX
  have h1 := B.pos
  have h2 := B.len
  rw [if_neg (fun e => by rw [e] at h1; simp at h1), if_neg (by omega)]
  exact scB_none b.trees [] (by simpa using B.nd) fun p m => ⟨B.keys p m, am_none (B.trees p m) hh⟩
theorem row_ok {h n : Nat} {p : Str × Tr} (hk : keyB p.1 = true) (T : TreeOk h p.2) (hn : 50 < n) : RowOk n (rowW p) ∧ (h < n → rowT n (rowW p) = some p) := by
  have nb : ∀ w ∈ p.1 :: CO :: p.2.words, 32 ∉ w.cps.toList := fun w m q => by
    simp only [List.mem_cons] at m
    rcases m with rfl | rfl | m
    · have := key_chars hk 32 q; omega
    · rw [show CO.cps.toList = [58] by decide +kernel] at q; simp at q
    · have := (word_chars p.2 T.ok w m).2 32 q; omega
  have sp : Txt.split (rowW p) BL = p.1 :: CO :: p.2.words := by rw [row_line p T.ok]; exact line_split2 (by simp) nb
  have l3 : (Str.ofString " : ").length = 3 := by decide +kernel
  have hl := tree_line T
  have hk24 := keyB_len hk
  refine ⟨⟨?_, fun c m => ?_, ?_⟩, fun hh => ?_⟩
  · unfold rowW; rw [app_len, app_len]; omega
  · rw [row_line p T.ok] at m
    rcases join_mem m with q | ⟨w, mw, q⟩
    · rw [cpBL] at q; simp at q; omega
    · simp only [List.mem_cons] at mw
      rcases mw with rfl | rfl | mw
      · have := key_chars hk c q; omega
      · rw [show CO.cps.toList = [58] by decide +kernel] at q; simp at q; omega
      · have := (word_chars p.2 T.ok w mw).2 c q; omega
  · rw [sp]
    unfold opensT
    have k1 : ¬ (p.1 == OB) = true := by simpa using key_ne hk
    have c1 : ¬ (CO == OB) = true := by decide +kernel
    rw [List.drop_zero, List.count_cons, List.count_cons, if_neg k1, if_neg c1]
    have := words_ob p.2 T.ok
    have := T.sz
    omega
  · unfold rowT
    rw [sp]
    obtain ⟨w, wr, c, h1, _⟩ := words_hd T.ok
    have e := rdT_whole (n := n) T.ok (by have := T.ht; omega)
    rw [h1] at e ⊢
    dsimp only
    rw [if_pos rfl]
    unfold treeT
    rw [e]
    simp
theorem rowsT_ok {h n : Nat} (hn : 50 < n) (hh : h < n) : ∀ (L : List (Str × Tr)) (i : Nat), (∀ p ∈ L, keyB p.1 = true ∧ TreeOk h p.2) → rowsT n i (L.map rowW) = .ok L
  | [], _, _ => rfl
  | p :: L, i, ok => by
    obtain ⟨h1, h2⟩ := ok p (by simp)
    rw [List.map_cons, rowsT, (row_ok h1 h2 hn).2 hh]
    dsimp only
    rw [rowsT_ok hn hh L (i + 1) fun q m => ok q (by simp [m])]
theorem rdB_rows {h n : Nat} {b : Bk} (B : BkW h b) (hh : h ≤ 11) (hn : 50 < n) : rdB n b.rows = .ok (b.top, b.trees) := by
  unfold rdB Bk.rows
  have sp : Txt.split (Str.ofString "top " ++ b.top) BL = [Str.ofString "top", b.top] := by
    rw [top_line]
    refine line_split2 (by simp) fun w m q => ?_
    simp only [List.mem_cons, List.not_mem_nil, or_false] at m
    rcases m with rfl | rfl
    · revert q; decide +kernel
    · have := name_chars B.top 32 q; omega
  dsimp only
  rw [sp]
  dsimp only
  rw [if_pos ⟨rfl, B.top⟩, rowsT_ok hn (by omega) b.trees 1 fun p m => ⟨B.keys p m, B.trees p m⟩]
  dsimp only
  rw [mkX_none B hh]
theorem rows_ok {h n : Nat} {b : Bk} (B : BkW h b) (hn : 50 < n) : ∀ s ∈ b.rows, RowOk n s := fun s m => by
  unfold Bk.rows at m
  rcases List.mem_cons.mp m with rfl | m
  · have l4 : (Str.ofString "top ").length = 4 := by decide +kernel
    have h24 := nameB_len B.top
    have nb : ∀ w ∈ [Str.ofString "top", b.top], 32 ∉ w.cps.toList := fun w m q => by
      simp only [List.mem_cons, List.not_mem_nil, or_false] at m
      rcases m with rfl | rfl
      · revert q; decide +kernel
      · have := name_chars B.top 32 q; omega
    refine ⟨by rw [app_len]; omega, fun c mc => ?_, ?_⟩
    · rw [app_cps] at mc
      rcases List.mem_append.mp mc with q | q
      · have : ∀ c ∈ (Str.ofString "top ").cps.toList, c < 0x110000 := by decide +kernel
        exact this c q
      · have := name_chars B.top c q; omega
    · rw [top_line, line_split2 (by simp) nb]
      unfold opensT
      refine Nat.lt_of_le_of_lt (Nat.le_trans List.count_le_length (show _ ≤ 2 by simp)) (by omega)
  · obtain ⟨p, mp, rfl⟩ := List.mem_map.mp m
    exact (row_ok (B.keys p mp) (B.trees p mp) hn).1
theorem rows_strOk {h n : Nat} {b : Bk} (B : BkW h b) : ∀ s ∈ b.rows, PyData.strOk s = true := fun s m => strOk_of (rows_ok (n := 51) B (by decide) s m).ok
theorem bk_clean {h : Nat} {b : Bk} (B : BkW h b) (hh : h ≤ 80) : cleanB b.enc = true ∧ b.enc.depth ≤ 190 := by
  unfold Bk.enc
  refine ⟨?_, ?_⟩
  · rw [cleanB]
    refine cleanL_of fun d m => ?_
    simp only [List.mem_cons, List.not_mem_nil, or_false] at m
    rcases m with rfl | rfl
    · exact nameB_strOk B.top
    · rw [cleanB]
      refine cleanL_of fun d m => ?_
      obtain ⟨p, mp, rfl⟩ := List.mem_map.mp m
      unfold encKT
      rw [cleanB]
      refine cleanL_of fun d m => ?_
      simp only [List.mem_cons, List.not_mem_nil, or_false] at m
      rcases m with rfl | rfl
      · exact keyB_strOk (B.keys p mp)
      · exact clean_enc p.2 (B.trees p mp).ok
  · have := depthAll_of (ds := b.trees.map encKT) (n := 2 * h + 2) fun d m => by
      obtain ⟨p, mp, rfl⟩ := List.mem_map.mp m
      unfold encKT
      have h1 := depth_enc p.2
      have h2 := (B.trees p mp).ht
      simp only [PyData.depth, PyData.depthAll]
      omega
    simp only [PyData.depth, PyData.depthAll]
    omega
theorem BkW.bw {h : Nat} {b : Bk} (B : BkW h b) : BookW h b := ⟨by have := B.len; omega, by have := nameB_len B.top; omega, fun p m => ⟨(B.trees p m).ok, (B.trees p m).ht, by have := (B.trees p m).sz; omega, by have := keyB_len (B.keys p m); omega⟩⟩
theorem BkW.pair {h : Nat} {b : Bk} (B : BkW h b) : ∀ p ∈ b.trees, PairOk h p := fun p m => ⟨(B.trees p m).ok, (B.trees p m).ht, by have := (B.trees p m).sz; omega, by have := keyB_len (B.keys p m); omega⟩
theorem BkW.known {h : Nat} {b : Bk} (B : BkW h b) (hh : h ≤ 11) : (nameB b.top && decide (1 ≤ b.trees.length) && decide (b.trees.length ≤ 400) && (b.trees.all fun p => keyB p.1 && (am p.2).isNone) && decide (b.trees.map (·.1)).Nodup) = true := by
  have h1 : (b.trees.all fun p => keyB p.1 && (am p.2).isNone) = true := List.all_eq_true.mpr fun p m => by rw [B.keys p m, am_none (B.trees p m) hh]; rfl
  simp [B.top, B.pos, B.len, B.nd, h1]
end GM
namespace GM
open PySem L2 GS
end GM
namespace GM
open PySem L2 GS
end GM
namespace GM
open PySem L2 GS
/-- _law_all(tree, place); slots 0:tree 1:place 2:found 3:k -/
def m_law_all_2_b1 (F__law_all : FF) : SF := (sKill [3] (sExt 2 (eCall 2 none F__law_all (aCons (eBin ixA (eBin ixA (eVb 0) (eC (.int 3))) (eVb 3)) (aCons (eBin addD (eVb 1) (eTup (aCons (eMv 3) aNil))) aNil)))))
def m_law_all_2 (F__law_all : FF) : SF := (sSeq (sSet 2 (eLst (aCons (eTup (aCons (eMv 1) (aCons (eMv 0) aNil))) aNil))) (sSeq (sKill [3] (sIf (eB (eBin (eqB false) (eBin ixA (eVb 0) (eC (.int 0))) (eC (.str (Str.ofString "knot"))))) (sFor (iR1 (eCB (un1 lenD) (aCons (eBin ixA (eVb 0) (eC (.int 3))) aNil))) (gN 3) (m_law_all_2_b1 F__law_all)) sNil)) (sEnd (sRet (eRv 2)))))
theorem m_law_all_2_eq (F__law_all : FF) (ρ : Rho) : fnF 4 2 (m_law_all_2 F__law_all) ρ = finR 2 (m_law_all_2 F__law_all (ρ ++ [none, none])) := fnF_eq 4 2 _
end GM
namespace GM
open PySem L2 GS
@[simp] theorem isD_encO (neg : Bool) (o : Option Tr) : isD neg (encO o) .none = some (.sh (.bool (neg ^^ o.isNone))) := by
  cases o with
  | none => cases neg <;> rfl
  | some t => show isD neg t.enc .none = _; rw [isD_enc]; cases neg <;> rfl
section
variable {n : Nat} {Fn Fr Fs : FF}
end
end GM
namespace GM
open PySem L2 GS
mutual
def Tr.pps (q : List Nat) : Tr → List (List Nat × Tr)
  | .knot n tk ks => (q, .knot n tk ks) :: Tr.ppsL q 0 ks
  | .sign s => [(q, .sign s)]
  | .void => [(q, .void)]
  | .hole s => [(q, .hole s)]
  | .foot s => [(q, .foot s)]
def Tr.ppsL (q : List Nat) (k : Nat) : List Tr → List (List Nat × Tr)
  | [] => []
  | t :: ts => Tr.pps (q ++ [k]) t ++ Tr.ppsL q (k + 1) ts
end
theorem ppsL_snoc (t : Tr) (q : List Nat) : ∀ (k : Nat) (ts : List Tr), Tr.ppsL q k (ts ++ [t]) = Tr.ppsL q k ts ++ t.pps (q ++ [k + ts.length])
  | k, [] => by simp [Tr.ppsL]
  | k, u :: ts => by
    rw [List.cons_append, Tr.ppsL, Tr.ppsL, ppsL_snoc t q (k + 1) ts, List.append_assoc, List.length_cons, show k + 1 + ts.length = k + (ts.length + 1) by omega]
mutual
theorem pps_snd : ∀ (t : Tr) (q : List Nat), (t.pps q).map (·.2) = t.pieces
  | .knot n tk ks, q => by rw [Tr.pps, Tr.pieces, List.map_cons, ppsL_snd ks q 0]
  | .sign s, q => by rw [Tr.pps, Tr.pieces]; rfl; intros; simp_all
  | .void, q => by rw [Tr.pps, Tr.pieces]; rfl; intros; simp_all
  | .hole s, q => by rw [Tr.pps, Tr.pieces]; rfl; intros; simp_all
  | .foot s, q => by rw [Tr.pps, Tr.pieces]; rfl; intros; simp_all
theorem ppsL_snd : ∀ (ts : List Tr) (q : List Nat) (k : Nat), (Tr.ppsL q k ts).map (·.2) = Tr.piecesL ts
  | [], q, k => rfl
  | t :: ts, q, k => by rw [Tr.ppsL, Tr.piecesL, List.map_append, pps_snd t, ppsL_snd ts]
end
mutual
theorem pps_fst : ∀ (t : Tr) (q : List Nat), (t.pps q).map (·.1) = t.places.map (q ++ ·)
  | .knot n tk ks, q => by rw [Tr.pps, places_kids, List.map_cons, List.map_cons, ppsL_fst ks q 0]; simp [Tr.kids]
  | .sign s, q => by rw [Tr.pps, places_kids]; simp [Tr.kids, Tr.placesL]
  | .void, q => by rw [Tr.pps, places_kids]; simp [Tr.kids, Tr.placesL]
  | .hole s, q => by rw [Tr.pps, places_kids]; simp [Tr.kids, Tr.placesL]
  | .foot s, q => by rw [Tr.pps, places_kids]; simp [Tr.kids, Tr.placesL]
theorem ppsL_fst : ∀ (ts : List Tr) (q : List Nat) (k : Nat), (Tr.ppsL q k ts).map (·.1) = (Tr.placesL k ts).map (q ++ ·)
  | [], q, k => rfl
  | t :: ts, q, k => by
    rw [Tr.ppsL, Tr.placesL, List.map_append, List.map_append, pps_fst t, ppsL_fst ts, List.map_map]
    congr 1
    refine List.map_congr_left fun p _ => ?_
    simp
end
theorem pps_len (t : Tr) (q : List Nat) : (t.pps q).length = t.pieces.length := by rw [← pps_snd t q, List.length_map]
def encPT (p : List Nat × Tr) : D := .tuple [encP p.1, p.2.enc]
def AllP (n : Nat) (F : FF) : Prop := ∀ (t : Tr) (q : List Nat), t.ht ≤ n → t.pieces.length ≤ 100000 → q.length + t.ht ≤ 1000 → F [some ⟨t.enc, .sh⟩, some ⟨encP q, .sh⟩] = .ok (.fr (.list ((t.pps q).map encPT))) [none, none]
theorem encP_snoc (q : List Nat) (k : Nat) (h : q.length ≤ 100000) : addD (encP q) (.tuple [.int (k : Int)]) = some (.sh (encP (q ++ [k]))) := by
  unfold encP
  have : q.length + 1 ≤ sizeLine := fits (by omega)
  simp [this]
theorem law_all_2_ok {n : Nat} {Fa : FF} (ha : ∀ m, m + 1 = n → AllP m Fa) : AllP n (fnF 4 2 (m_law_all_2 Fa)) := fun t q hh hz hq => by
  rw [m_law_all_2_eq]
  cases t with
  | knot nm tk ks =>
    have p4 : ks.length ≤ 100000 := by
      have h1 : ks.length ≤ (Tr.piecesL ks).length := by
        rw [piecesL_flat]
        clear hh hz hq ha
        induction ks with
        | nil => simp
        | cons k ks ih => rw [List.flatMap_cons, List.length_append, List.length_cons, pieces_kids k, List.length_cons]; omega
      rw [Tr.pieces, List.length_cons] at hz
      omega
    have okr : okR (ks.length : Int) = true := okR_nat (by omega)
    obtain ⟨acc, hf, hacc⟩ := forL_by (S := List (List Nat × Tr)) (g := gN 3) (b := m_law_all_2_b1 Fa) (fun acc => [some ⟨Tr.enc (.knot nm tk ks), .sh⟩, some ⟨encP q, .sh⟩, some ⟨.list (acc.map encPT), .ow⟩, none])
      (fun pre acc => acc = (q, Tr.knot nm tk ks) :: Tr.ppsL q 0 (ks.take pre.length)) (rgD 0 ks.length) [(q, .knot nm tk ks)] (by simp [Tr.ppsL]) (fun pre d post acc hd hacc => by
        obtain ⟨hk, rfl⟩ := rgD_mid hd
        rw [Int.zero_add]
        have hg : ks[pre.length]? = some ks[pre.length] := List.getElem?_eq_getElem hk
        generalize ks[pre.length] = k at hg
        have mk : k ∈ ks := List.mem_of_getElem? hg
        have hkh : k.ht ≤ Tr.htL ks := ht_mem mk
        simp only [Tr.ht] at hh hq
        obtain ⟨n', rfl⟩ : ∃ n', n = n' + 1 := ⟨n - 1, by omega⟩
        have kz : k.pieces.length ≤ 100000 := Nat.le_trans (pieces_kid_le (t := .knot nm tk ks) mk) hz
        have e := ha n' rfl k (q ++ [pre.length]) (by omega) kz (by simp; omega)
        have es := encP_snoc q pre.length (by omega)
        have htk : ks.take (pre.length + 1) = ks.take pre.length ++ [k] := by rw [List.take_succ, hg]; rfl
        have hsn := ppsL_snoc k q 0 (ks.take pre.length)
        rw [Nat.zero_add, List.length_take, Nat.min_eq_left (by omega)] at hsn
        have hle : (Tr.ppsL q 0 (ks.take (pre.length + 1))).length ≤ 100000 := by
          have h1 : (Tr.ppsL q 0 (ks.take (pre.length + 1))).length = (Tr.piecesL (ks.take (pre.length + 1))).length := by rw [← ppsL_snd _ q 0, List.length_map]
          rw [h1, piecesL_flat]
          rw [Tr.pieces, List.length_cons, piecesL_flat] at hz
          have : ks.flatMap Tr.pieces = (ks.take (pre.length + 1)).flatMap Tr.pieces ++ (ks.drop (pre.length + 1)).flatMap Tr.pieces := by rw [← List.flatMap_append, List.take_append_drop]
          rw [this, List.length_append] at hz
          omega
        rw [htk, hsn, List.length_append] at hle
        have z : acc.length + (k.pps (q ++ [pre.length])).length ≤ sizeLine := fits (by rw [hacc, List.length_cons]; omega)
        have ea : L2.atI (ks.map Tr.enc) (pre.length : Int) = some k.enc := by
          rw [atI_nat (xs := ks.map Tr.enc) (j := pre.length) (v := k.enc) (by rw [List.getElem?_map, hg]; rfl)]
        refine ⟨acc ++ k.pps (q ++ [pre.length]), ?_, by rw [List.length_append, List.length_singleton, htk, hsn, hacc]; simp⟩
        rw [enc_knot]
        simp [m_law_all_2_b1, ea, es, e, z])
    rw [rgD_len, List.take_length] at hacc
    subst hacc
    have hf' : forL (gN 3) (m_law_all_2_b1 Fa) (rgD 0 ks.length) [some ⟨Tr.enc (.knot nm tk ks), .sh⟩, some ⟨encP q, .sh⟩, some ⟨.list [.tuple [encP q, Tr.enc (.knot nm tk ks)]], .ow⟩, none] = _ := hf
    rw [enc_knot] at hf' ⊢
    rw [Tr.pps]
    simp [m_law_all_2, okr, hf']
  | sign s => simp [m_law_all_2, Tr.enc, Tr.pps, encPT]
  | void => simp [m_law_all_2, Tr.enc, Tr.pps, encPT]
  | hole s => simp [m_law_all_2, Tr.enc, Tr.pps, encPT]
  | foot s => simp [m_law_all_2, Tr.enc, Tr.pps, encPT]
end GM
namespace GM
open PySem L2 GS
end GM
namespace GM
open PySem L2 GS
def fl1 (x : Xc) : D := (x.fs.head?.map (·.2)).getD .none
def fl2 (x : Xc) : D := ((x.fs.drop 1).head?.map (·.2)).getD .none
def xd (x : Xc) : D := if x.cls = "NoRow" then .tuple [.str (Str.ofString "row"), fl1 x] else if x.cls = "NoKey" then .tuple [.str (Str.ofString "key"), fl1 x] else if x.cls = "Twice" then .tuple [.str (Str.ofString "twice"), fl1 x] else .tuple [.str (Str.ofString "tree"), fl2 x, fl1 x]
section
variable {n : Nat} {Fa Fk Fr Fn : FF}
end
end GM
namespace GM
open PySem L2 GS
end GM
namespace GM
open PySem L2 GS
def MadeIo (n : Nat) (F : FF) : Prop := ∀ (top : Str) (L : List (Str × Tr)), L.length ≤ 100000 → (∀ p ∈ L, PairOk n p) →
  F [some ⟨.str top, .sh⟩, some ⟨.list (L.map encKT), .io⟩] = match mkX L with
    | some x => .exc x [none, some ⟨.list (L.map encKT), .io⟩]
    | none => .ok (.sh (Bk.enc ⟨top, L⟩)) [none, some ⟨.list (L.map encKT), .io⟩]
theorem made_loopI {n : Nat} {Ft Fa Fw Fk Fx : FF} (ha : AmissSp n Fa) (hk : KeySp Fk) (r1 : Raises Ft) (r2 : Raises Fw) (r3 : Raises Fx) (top : D) (all : List (Str × Tr)) (hall : all.length ≤ 100000) (okall : ∀ p ∈ all, PairOk n p) :
    ∀ (L pre : List (Str × Tr)), all = pre ++ L → (∀ p ∈ pre, keyB p.1 = true) →
    match scB (pre.map (·.1)) L with
    | some x => ∃ ks, forL (gN 3) (m_made_book_b1 Ft Fa Fw Fk Fx) ((rgD 0 all.length).drop pre.length) [some ⟨top, .sh⟩, some ⟨.list (all.map encKT), .io⟩, some ⟨.list ((pre.map (·.1)).map .str), .ow⟩, none, none, none, none] = .exc x [some ⟨top, .sh⟩, some ⟨.list (all.map encKT), .io⟩, some ⟨.list ks, .ow⟩, none, none, none, none]
    | none => forL (gN 3) (m_made_book_b1 Ft Fa Fw Fk Fx) ((rgD 0 all.length).drop pre.length) [some ⟨top, .sh⟩, some ⟨.list (all.map encKT), .io⟩, some ⟨.list ((pre.map (·.1)).map .str), .ow⟩, none, none, none, none] = .nx [some ⟨top, .sh⟩, some ⟨.list (all.map encKT), .io⟩, some ⟨.list ((all.map (·.1)).map .str), .ow⟩, none, none, none, none]
  | [], pre, e, _ => by
    rw [List.append_nil] at e
    subst e
    rw [scB, List.drop_of_length_le (by rw [rgD_len]; exact Nat.le_refl _)]
    rfl
  | (k, t) :: L, pre, e, hp => by
    have hlt : pre.length < all.length := by rw [e]; simp
    have hd : (rgD 0 all.length).drop pre.length = .int ((0 : Int) + (pre.length : Int)) :: (rgD 0 all.length).drop (pre.length + 1) := by
      rw [List.drop_eq_getElem_cons (by rw [rgD_len]; exact hlt)]
      congr 1
      unfold rgD; simp
    have hat : L2.atI (all.map encKT) (pre.length : Int) = some (encKT (k, t)) := by
      rw [atI_nat (xs := all.map encKT) (j := pre.length) (v := encKT (k, t)) (by rw [List.getElem?_map, e, List.getElem?_append_right (Nat.le_refl _), Nat.sub_self]; rfl)]
    have ok := okall (k, t) (by rw [e]; simp)
    have e1 := hk k (fits ok.kl)
    have e2 := ha t ok.ht ok.sz
    rw [hd, forL_cons2, scB, Int.zero_add]
    have hpl : (pre.map (·.1)).length = pre.length := by simp
    cases q1 : keyB k with
    | false =>
      rw [if_pos rfl]
      rw [q1] at e1
      refine ⟨(pre.map (·.1)).map .str, ?_⟩
      rw [hpl]
      unfold encKT at hat ⊢
      simp [m_made_book_b1, hat, e1, sRaise_eq r3, xNoKey]
    | true =>
      rw [if_neg (by simp)]
      rw [q1] at e1
      have ein := in_strs false k (pre.map (·.1)) (keyB_strOk q1) fun k' m => by
        obtain ⟨p, mp, rfl⟩ := List.mem_map.mp m
        exact keyB_strOk (hp p mp)
      by_cases q2 : k ∈ pre.map (·.1)
      · rw [if_pos q2]
        rw [decide_eq_true q2] at ein
        refine ⟨(pre.map (·.1)).map .str, ?_⟩
        generalize pre.map (·.1) = ks at ein
        unfold encKT at hat ⊢
        simp [m_made_book_b1, hat, e1, ein, sRaise_eq r2, xTwice]
      · rw [if_neg q2]
        rw [decide_eq_false q2] at ein
        cases q3 : am t with
        | some w =>
          rw [q3] at e2
          refine ⟨(pre.map (·.1)).map .str, ?_⟩
          generalize pre.map (·.1) = ks at ein
          unfold encKT at hat ⊢
          simp [m_made_book_b1, hat, e1, ein, e2, optS, sRaise_eq r1, xNoTree]
        | none =>
          rw [q3] at e2
          have z : (pre.map (·.1)).length < sizeLine := fitsl (by rw [hpl]; omega)
          have st : optR (gN 3 (.int (pre.length : Int)) [some ⟨top, .sh⟩, some ⟨.list (all.map encKT), .io⟩, some ⟨.list ((pre.map (·.1)).map .str), .ow⟩, none, none, none, none]) (m_made_book_b1 Ft Fa Fw Fk Fx) = .nx [some ⟨top, .sh⟩, some ⟨.list (all.map encKT), .io⟩, some ⟨.list (((pre ++ [(k, t)]).map (·.1)).map .str), .ow⟩, none, none, none, none] := by
            rw [List.map_append]
            generalize pre.map (·.1) = ks at ein z
            unfold encKT at hat ⊢
            simp [m_made_book_b1, hat, e1, ein, e2, optS, z]
          have ih := made_loopI ha hk r1 r2 r3 top all hall okall L (pre ++ [(k, t)]) (by rw [e]; simp) (fun p m => (List.mem_append.mp m).elim (hp p) fun q => by simp at q; subst q; exact q1)
          rw [List.length_append, List.length_singleton] at ih
          rw [st, turnR_nx]
          rw [List.map_append] at ih ⊢
          exact ih
theorem made_book_okI {n : Nat} {Ft Fa Fw Fk Fx : FF} (ha : AmissSp n Fa) (hk : KeySp Fk) (r1 : Raises Ft) (r2 : Raises Fw) (r3 : Raises Fx) : MadeIo n (fnF 7 2 (m_made_book Ft Fa Fw Fk Fx)) := fun top L hL ok => by
  rw [m_made_book_eq]
  unfold mkX
  by_cases q1 : L = []
  · rw [if_pos q1]
    subst q1
    simp [m_made_book, sRaise_eq r3, xNoKey, outR_2]
  · rw [if_neg q1]
    have q1' : ¬ (L.length : Int) = 0 := by have := List.length_pos_iff.mpr q1; omega
    by_cases q2 : 400 < L.length
    · have q2' : (400 : Int) < L.length := by omega
      rw [if_pos q2]
      simp [m_made_book, q1, q1', q2, q2', sRaise_eq r3, xNoKey, outR_2]
    · have q2' : ¬ (400 : Int) < L.length := by omega
      rw [if_neg q2]
      have lp := made_loopI ha hk r1 r2 r3 (.str top) L hL ok L [] rfl (by simp)
      have okr : okR (L.length : Int) = true := okR_nat (by omega)
      simp only [List.map_nil, List.length_nil, List.drop_zero] at lp
      cases hs : scB [] L with
      | some x =>
        rw [hs] at lp
        obtain ⟨ks, lp⟩ := lp
        simp [m_made_book, q1, q1', q2, q2', okr, lp, outR_2]
      | none =>
        rw [hs] at lp
        simp [m_made_book, q1, q1', q2, q2', okr, lp, outR_2, Bk.enc]
end GM
namespace GM
open PySem L2 GS
/-- take_plan(words, at); slots 0:words 1:at 2:key 3:puts 4:after 5:place 6:plan 7:behind -/
def m_take_plan_t1 (F_word_at F_take_plan F_NoText F_place_of F_is_key : FF) : EF := (eB (eBin (eqB true) (eCall 2 none F_word_at (aCons (eMv 0) (aCons (eMv 4) aNil))) (eC (.str (Str.ofString ")")))))
def m_take_plan_b2 (F_word_at F_take_plan F_NoText F_place_of F_is_key : FF) : SF := (sKill [5, 6, 7] (sSeq (sSet 5 (eCall 1 none F_place_of (aCons (eBin ixA (eVb 0) (eVb 4)) aNil))) (sSeq (sIf (eB (eBin (isD false) (eVb 5) (eC .none))) (sRaise F_NoText "NoText" ["at"] (aCons (eMv 4) aNil)) sNil) (sSeq (sUnp (gT 2 (gsC (gN 6) (gsC (gN 7) gsN))) (eCall 2 none F_take_plan (aCons (eMv 0) (aCons (eBin addD (eVb 4) (eC (.int 1))) aNil)))) (sSeq (sApp 3 (eTup (aCons (eMv 5) (aCons (eMv 6) aNil)))) (sSet 4 (eMv 7)))))))
def m_take_plan (F_word_at F_take_plan F_NoText F_place_of F_is_key : FF) : SF := (sSeq (sIf (eB (eBin (eqB true) (eCall 2 none F_word_at (aCons (eMv 0) (aCons (eMv 1) aNil))) (eC (.str (Str.ofString "("))))) (sRaise F_NoText "NoText" ["at"] (aCons (eMv 1) aNil)) sNil) (sSeq (sSet 2 (eCall 2 none F_word_at (aCons (eMv 0) (aCons (eBin addD (eVb 1) (eC (.int 1))) aNil)))) (sSeq (sIf (eNot (eB (eCall 1 none F_is_key (aCons (eMv 2) aNil)))) (sRaise F_NoText "NoText" ["at"] (aCons (eBin addD (eVb 1) (eC (.int 1))) aNil)) sNil) (sSeq (sSet 3 (eLst aNil)) (sSeq (sSet 4 (eBin addD (eVb 1) (eC (.int 2)))) (sSeq (whileL (m_take_plan_t1 F_word_at F_take_plan F_NoText F_place_of F_is_key) (m_take_plan_b2 F_word_at F_take_plan F_NoText F_place_of F_is_key) wFuel) (sEnd (sRet (eTup (aCons (eTup (aCons (eMv 2) (aCons (eCB (un1 tupleD) (aCons (eVb 3) aNil)) aNil))) (aCons (eBin addD (eVb 4) (eC (.int 1))) aNil)))))))))))
theorem m_take_plan_eq (F_word_at F_take_plan F_NoText F_place_of F_is_key : FF) (ρ : Rho) : fnF 8 2 (m_take_plan F_word_at F_take_plan F_NoText F_place_of F_is_key) ρ = finR 2 (m_take_plan F_word_at F_take_plan F_NoText F_place_of F_is_key (ρ ++ [none, none, none, none, none, none])) := fnF_eq 8 2 _
end GM
namespace GM
open PySem L2 GS
abbrev OP : Str := Str.ofString "("
abbrev CL : Str := Str.ofString ")"
abbrev Rd := Except Nat (Str × List D × Nat)
structure WOk (W : List Str) : Prop where
  num : W.length ≤ 100000
  len : ∀ w ∈ W, w.length ≤ 10000
  ok : ∀ w ∈ W, PyData.strOk w = true
theorem at_str {W : List Str} {a : Nat} {w : Str} (h : W[a]? = some w) : L2.atI (W.map PyData.str) (a : Int) = some (.str w) := by
  rw [atI_nat (xs := W.map PyData.str) (j := a) (v := .str w) (by rw [List.getElem?_map, h]; rfl)]
section
variable {n : Nat} {Fw Ft Fx Fp Fk : FF}
end
section
variable {n : Nat} {Fd Fp Fk : FF}
end
end GM
namespace GM
open PySem L2 GS
end GM
namespace GS
open PySem L2
@[simp] theorem atI_last2 {α : Type} (xs : List α) (x : α) : atI (xs ++ [x]) (-1) = some x := by
  unfold L2.atI ixN
  have h1 : ¬ (0 : Int) ≤ -1 := by omega
  have h2 : -((xs ++ [x]).length : Int) ≤ -1 := by rw [List.length_append, List.length_singleton]; omega
  rw [if_neg h1, if_pos h2]
  have h3 : ((-1 : Int) + ((xs ++ [x]).length : Int)).toNat = xs.length := by rw [List.length_append, List.length_singleton]; omega
  rw [h3]
  simp
theorem sub_sum {l m : List Nat} (h : l.Sublist m) : l.sum ≤ m.sum := by
  induction h with
  | slnil => simp
  | cons a _ ih => rw [List.sum_cons]; omega
  | cons_cons a _ ih => rw [List.sum_cons, List.sum_cons]; omega
end GS
namespace GM
open PySem L2 GS
structure Wd (b : Nat) (w : Str) : Prop where
  len : w.length ≤ b
  chr : ∀ c ∈ w.cps.toList, c < 128
  one : w.cps.toList.count 40 ≤ 1
structure Ws (b k m : Nat) (ws : List Str) : Prop where
  all : ∀ w ∈ ws, Wd b w
  cnt : (ws.map fun w => w.cps.toList.count 40).sum ≤ k
  num : ws.length ≤ m
theorem Wd.up {b b' : Nat} {w : Str} (h : Wd b w) (l : b ≤ b') : Wd b' w := ⟨by have := h.len; omega, h.chr, h.one⟩
theorem Ws.up {b b' k k' m m' : Nat} {ws : List Str} (h : Ws b k m ws) (l : b ≤ b') (l2 : k ≤ k') (l3 : m ≤ m') : Ws b' k' m' ws := ⟨fun w q => (h.all w q).up l, Nat.le_trans h.cnt l2, Nat.le_trans h.num l3⟩
theorem Ws.one {b : Nat} {w : Str} (h : Wd b w) : Ws b 1 1 [w] := ⟨fun v q => by simp at q; subst q; exact h, by simpa using h.one, by simp⟩
theorem Ws.zero {b : Nat} {w : Str} (h : Wd b w) (z : w.cps.toList.count 40 = 0) : Ws b 0 1 [w] := ⟨fun v q => by simp at q; subst q; exact h, by rw [List.map_singleton, z]; simp, by simp⟩
theorem Ws.sub {b k m : Nat} {ws vs : List Str} (h : Ws b k m ws) (s : vs.Sublist ws) : Ws b k m vs :=
  ⟨fun w q => h.all w (s.subset q), Nat.le_trans (sub_sum (s.map _)) h.cnt, Nat.le_trans s.length_le h.num⟩
theorem str8 (x : Int) : ∃ f, strD (.int (x % 8)) = some (.sh (.str f)) ∧ f ∈ figs := by
  have h : x % 8 = 0 ∨ x % 8 = 1 ∨ x % 8 = 2 ∨ x % 8 = 3 ∨ x % 8 = 4 ∨ x % 8 = 5 ∨ x % 8 = 6 ∨ x % 8 = 7 := by omega
  rcases h with h | h | h | h | h | h | h | h <;> rw [h]
  · exact ⟨_, rfl, by decide +kernel⟩
  · exact ⟨_, rfl, by decide +kernel⟩
  · exact ⟨_, rfl, by decide +kernel⟩
  · exact ⟨_, rfl, by decide +kernel⟩
  · exact ⟨_, rfl, by decide +kernel⟩
  · exact ⟨_, rfl, by decide +kernel⟩
  · exact ⟨_, rfl, by decide +kernel⟩
  · exact ⟨_, rfl, by decide +kernel⟩
noncomputable def s8 (x : Int) : Str := (str8 x).choose
end GM
namespace GM
open PySem L2 GS
end GM
namespace GM
open PySem L2 GS
end GM
namespace GS
open PySem L2
@[simp] theorem atI_last {α : Type} (xs : List α) (x : α) : atI (xs ++ [x]) (-1) = some x := by
  unfold L2.atI ixN
  have h1 : ¬ (0 : Int) ≤ -1 := by omega
  have h2 : -((xs ++ [x]).length : Int) ≤ -1 := by rw [List.length_append, List.length_singleton]; omega
  rw [if_neg h1, if_pos h2]
  have h3 : ((-1 : Int) + ((xs ++ [x]).length : Int)).toNat = xs.length := by rw [List.length_append, List.length_singleton]; omega
  rw [h3]
  simp
end GS
namespace GM
open PySem L2 GS
/-- all trees that can be asked -/
theorem BookOk.bk {h : Nat} {b : Bk} (B : BookOk h b) : BkOk h b :=
  ⟨by have := B.len; omega, fun p m => (B.trees p m).ht, fun p m => by have := (B.trees p m).sz; omega, fun p m e => by have := (B.trees p m).kn; rw [e] at this; cases this⟩
theorem TreeOk.graft {h : Nat} {t : Tr} (o : TreeOk h t) : t.isGraft = decide (0 < t.feet.length) ∧ L2.atI (t.feet.map PyData.str ++ [.str t.word]) 0 = some (.str t.name) := by
  have := o.feet
  unfold Tr.isGraft Tr.name
  cases hq : t.feet with
  | nil => simp
  | cons a r =>
    rw [hq] at this
    cases r with
    | nil => simp
    | cons b r => simp at this
end GM
namespace GS
open PySem L2 PySem.Spec PyProof.Rows
section
variable {X : Cx} {C : Ct} {e : Expr} {es : List Expr} {ta : TA} {fa : AF} {te : TE} {fe : EF} {p pos : Pos} {x : Str} {fns : List Str}
end
end GS
namespace GS
open PySem L2
section
variable {ρ : Rho}
end
end GS
namespace GS
open PySem L2
section
variable {ρ : Rho}
theorem slot_one (c : Option Cel) (x : Cel) (outs : Rho) : slot (c :: some x :: outs) 1 = some x := rfl
@[simp] theorem backR_io1 (i : Nat) (h0 : Hd) (hs : List Hd) (d : D) (d' : D) (fl : Fl) (c0 : Option Cel) (outs : Rho) : backR ρ (some 1) (h0 :: .bw i :: hs) (.ok (.sh d) (c0 :: some ⟨d', fl⟩ :: outs)) = match slot ρ i with
    | some c => .ok (.sh d) (ρ.set i (some ⟨d', c.fl⟩))
    | none => .stuck := by
  unfold backR
  dsimp only
  rw [putB_bw i 1 _ _ rfl, slot_one]
  cases slot ρ i <;> rfl
@[simp] theorem backR_io1x (i : Nat) (h0 : Hd) (hs : List Hd) (x : Xc) (d' : D) (fl : Fl) (c0 : Option Cel) (outs : Rho) : backR ρ (some 1) (h0 :: .bw i :: hs) (.exc x (c0 :: some ⟨d', fl⟩ :: outs)) = match slot ρ i with
    | some c => .exc x (ρ.set i (some ⟨d', c.fl⟩))
    | none => .stuck := by
  unfold backR
  dsimp only
  rw [putB_bw i 1 _ _ rfl, slot_one]
  cases slot ρ i <;> rfl
@[simp] theorem backR_io0x (i : Nat) (hs : List Hd) (x : Xc) (d' : D) (fl : Fl) (outs : Rho) : backR ρ (some 0) (.bw i :: hs) (.exc x (some ⟨d', fl⟩ :: outs)) = match slot ρ i with
    | some c => .exc x (ρ.set i (some ⟨d', c.fl⟩))
    | none => .stuck := by
  unfold backR
  dsimp only
  rw [putB_bw i 0 _ _ rfl, slot_zero]
  cases slot ρ i <;> rfl
end
end GS
namespace GS
open PySem L2 PySem.Spec PyProof.Rows
end GS
namespace GS
open PySem L2 PySem.Spec PyProof.Rows PySem.W PySem.Calls
/-- v is a tuple of these numbers -/
def IsTI (h : Heap) (v : Value) (ns : List Int) : Prop := ∃ (a : Addr) (its : List Value), v = .ref a ∧ h.IsTuple a its.toArray ∧ IntsAre its ns
theorem IsTI.keeps {h h' : Heap} {v : Value} {ns : List Int} (x : IsTI h v ns) (k : ∀ b o, v = .ref b → h.get? b = some o → h'.get? b = some o) : IsTI h' v ns := by
  obtain ⟨a, its, e, ⟨o, ho, hc, n, hd⟩, hi⟩ := x
  exact ⟨a, its, e, ⟨o, k a o e ho, hc, n, hd⟩, hi⟩
section
variable {M : Model} {A : Around} {E : Value → Shared → Prop} {s : Shared}
theorem IsTI.type {v : Value} {ns : List Int} (x : IsTI s.heap v ns) : Looks M s.heap (typeOf v) (.type "tuple") := by
  obtain ⟨a, its, rfl, ⟨o, ho, hc, n, hd⟩, hi⟩ := x
  rw [← hc]
  exact (Looks.ld ho).andThen .now
end
section
variable {prog : Program} {w : World} {A : Around} {E : Value → Shared → Prop} {s : Shared}
end
section
variable {prog : Program} {w : World} {A : Around} {E : Value → Shared → Prop} {s : Shared}
end
section
variable {X : Cx}
end
end GS
namespace GS
open PySem L2 PySem.Spec PyProof.Rows
def TI (K : PySem.W.Frag) (H : Hp) (x : V) (ns : List Int) : Prop := ∃ t, x = V.ref t ∧ SqT K H t (ns.map V.int)
section
variable {X : Cx}
end
section
variable {K : KW} {B H : Hp}
end
end GS
namespace GS
open PySem L2
end GS
namespace GM
open PySem L2 GS
/-- _law_pieces(tree, place); slots 0:tree 1:place 2:found 3:k -/
def m_law_pieces_b1 (F__law_pieces : FF) : SF := (sKill [3] (sExt 2 (eCall 2 none F__law_pieces (aCons (eBin ixA (eBin ixA (eVb 0) (eC (.int 3))) (eVb 3)) (aCons (eBin addD (eVb 1) (eTup (aCons (eMv 3) aNil))) aNil)))))
def m_law_pieces (F__law_pieces : FF) : SF := (sSeq (sSet 2 (eLst (aCons (eTup (aCons (eMv 1) (aCons (eMv 0) aNil))) aNil))) (sSeq (sKill [3] (sIf (eB (eBin (eqB false) (eBin ixA (eVb 0) (eC (.int 0))) (eC (.str (Str.ofString "knot"))))) (sFor (iR1 (eCB (un1 lenD) (aCons (eBin ixA (eVb 0) (eC (.int 3))) aNil))) (gN 3) (m_law_pieces_b1 F__law_pieces)) sNil)) (sEnd (sRet (eRv 2)))))
/-- _law_called(tree); slots 0:tree 1:feet 2:place 3:piece -/
def m_law_called_ct1 (F__law_pieces : FF) : EF := (eB (eBin (eqB false) (eBin ixA (eVb 3) (eC (.int 0))) (eC (.str (Str.ofString "foot")))))
def m_law_called_ce2 (F__law_pieces : FF) : EF := (eBin ixA (eVb 3) (eC (.int 1)))
def m_law_called (F__law_pieces : FF) : SF := (sSeq (sSet 1 (eLc [2, 3] (iSq (eCall 2 none F__law_pieces (aCons (eMv 0) (aCons (eTup aNil) aNil)))) (gT 2 (gsC (gN 2) (gsC (gN 3) gsN))) (eNox (m_law_called_ct1 F__law_pieces)) (eNox (m_law_called_ce2 F__law_pieces)))) (sEnd (sRet (eIf (eB (eBin (ltI fun i j => decide (j < i)) (eCB (un1 lenD) (aCons (eVb 1) aNil)) (eC (.int 0)))) (eTup (aCons (eC (.bool true)) (aCons (eBin ixA (eVb 1) (eC (.int 0))) aNil))) (eTup (aCons (eC (.bool false)) (aCons (eBin ixA (eVb 0) (eC (.int 1))) aNil)))))))
theorem m_law_called_eq (F__law_pieces : FF) (ρ : Rho) : fnF 4 1 (m_law_called F__law_pieces) ρ = finR 1 (m_law_called F__law_pieces (ρ ++ [none, none, none])) := fnF_eq 4 1 _
/-- _law_takers(book, piece); slots 0:book 1:piece 2:key 3:tree -/
def m_law_takers_ct1 (F__law_called : FF) : EF := (eB (eBin (eqB false) (eCall 1 none F__law_called (aCons (eMv 3) aNil)) (eTup (aCons (eC (.bool true)) (aCons (eBin ixA (eBin ixA (eVb 1) (eC (.int 2))) (eC (.int 0))) aNil)))))
def m_law_takers_ce2 (F__law_called : FF) : EF := (eMv 2)
def m_law_takers_ct3 (F__law_called : FF) : EF := (eB (eBin (eqB false) (eCall 1 none F__law_called (aCons (eMv 3) aNil)) (eTup (aCons (eC (.bool false)) (aCons (eBin ixA (eVb 1) (eC (.int 1))) aNil)))))
def m_law_takers_ce4 (F__law_called : FF) : EF := (eMv 2)
def m_law_takers (F__law_called : FF) : SF := (sSeq (sIf (eB (eBin (eqB false) (eBin ixA (eVb 1) (eC (.int 0))) (eC (.str (Str.ofString "hole"))))) (sEnd (sRet (eLc [2, 3] (iSq (eBin ixA (eVb 0) (eC (.int 1)))) (gT 2 (gsC (gN 2) (gsC (gN 3) gsN))) (eNox (m_law_takers_ct3 F__law_called)) (eNox (m_law_takers_ce4 F__law_called))))) sNil) (sSeq (sIf (eAnd (eB (eBin (eqB false) (eBin ixA (eVb 1) (eC (.int 0))) (eC (.str (Str.ofString "knot"))))) (eB (eBin (isD true) (eBin ixA (eVb 1) (eC (.int 2))) (eC .none)))) (sEnd (sRet (eLc [2, 3] (iSq (eBin ixA (eVb 0) (eC (.int 1)))) (gT 2 (gsC (gN 2) (gsC (gN 3) gsN))) (eNox (m_law_takers_ct1 F__law_called)) (eNox (m_law_takers_ce2 F__law_called))))) sNil) (sEnd (sRet (eLst aNil)))))
theorem m_law_takers_eq (F__law_called : FF) (ρ : Rho) : fnF 4 2 (m_law_takers F__law_called) ρ = finR 2 (m_law_takers F__law_called (ρ ++ [none, none])) := fnF_eq 4 2 _
end GM
namespace GM
open PySem L2 GS
theorem law_pieces_ok {n : Nat} {Fa : FF} (ha : ∀ m, m + 1 = n → AllP m Fa) : AllP n (fnF 4 2 (m_law_pieces Fa)) := law_all_2_ok ha
def bsD (c : Bool × Str) : D := .tuple [.bool c.1, .str c.2]
theorem okW_bs {c : Bool × Str} (h : PyData.strOk c.2 = true) : okW (bsD c) = true := okW_of (by unfold bsD; simp [cleanB, cleanL, h]) (by unfold bsD; simp [PyData.depth, PyData.depthAll])
theorem eqB_bs {c e : Bool × Str} (neg : Bool) (h : PyData.strOk c.2 = true) (h' : PyData.strOk e.2 = true) : eqB neg (bsD c) (bsD e) = some (.sh (.bool (neg ^^ decide (c = e)))) := by
  rw [eqB_of neg (okW_bs h) (okW_bs h')]
  obtain ⟨a, x⟩ := c
  obtain ⟨b, y⟩ := e
  have q : PyData.eqv (bsD (a, x)) (bsD (b, y)) = decide ((a, x) = (b, y)) := by
    unfold bsD
    rw [PyData.eqv, PyData.eqvAll, PyData.eqvAll, PyData.eqvAll, PyData.eqv, PyData.eqv]
    by_cases q1 : a = b <;> by_cases q2 : x = y <;> simp [q1, q2]
  rw [q]
def Tr.called (t : Tr) : Bool × Str := match t.feet with
  | f :: _ => (true, f)
  | [] => (false, t.word)
def CalledSp (n : Nat) (F : FF) : Prop := ∀ t : Tr, t.ht ≤ n → t.pieces.length ≤ 100000 → t ≠ .void → F [some ⟨t.enc, .sh⟩] = .ok (.sh (bsD t.called)) [none]
theorem filter_some {α β γ : Type} [Inhabited β] (f : α → Option β) (g : β → γ) : ∀ l : List α, (l.filter fun x => (f x).isSome).map (fun x => g ((f x).getD default)) = (l.filterMap f).map g
  | [] => rfl
  | x :: l => by
    cases h : f x with
    | none => simp [h, filter_some f g l]
    | some y => simp [h, filter_some f g l]
theorem feet_pps (t : Tr) (q : List Nat) : (t.pps q).filterMap (fun x => x.2.footN) = t.feet := by
  unfold Tr.feet
  rw [← pps_snd t q, List.filterMap_map]
  rfl
theorem foot_enc (u : Tr) : ∃ w r, u.enc = .tuple (.str w :: r) ∧ ((decide (w = Str.ofString "foot")) = u.footN.isSome) ∧ (∀ nm, u.footN = some nm → r = [.str nm]) := by
  cases u <;> refine ⟨_, _, rfl, ?_, ?_⟩ <;> simp [Tr.footN] <;> decide +kernel
theorem word_enc {t : Tr} (h : t ≠ .void) : ∃ w r, t.enc = .tuple (.str w :: .str t.word :: r) := by
  cases t <;> first | exact ⟨_, _, rfl⟩ | exact absurd rfl h
theorem law_called_ok {n : Nat} {Fp : FF} (hn : n ≤ 1000) (hp : AllP n Fp) : CalledSp n (fnF 4 1 (m_law_called Fp)) := fun t ht hz hv => by
  rw [m_law_called_eq]
  have e1 := hp t [] ht hz (by simp; omega)
  have e1' : Fp [some ⟨t.enc, .sh⟩, some ⟨.tuple [], .sh⟩] = .ok (.fr (.list ((t.pps []).map encPT))) [none, none] := e1
  have hl : (t.pps []).length ≤ 100000 := by rw [pps_len]; exact hz
  have h := lcL_up (vs := [2, 3]) (g := gT 2 (gsC (gN 2) (gsC (gN 3) gsN))) (ft := eNox (m_law_called_ct1 Fp)) (fe := eNox (m_law_called_ce2 Fp)) [some ⟨t.enc, .sh⟩, none, none, none] encPT (fun p => [some ⟨t.enc, .sh⟩, none, some ⟨encP p.1, .sh⟩, some ⟨p.2.enc, .sh⟩])
    (fun p => p.2.footN.isSome) (fun p => .str (p.2.footN.getD default)) (t.pps []) [] (fits (by simp; omega)) (fun p _ => by
      obtain ⟨w, r, ew, q1, q2⟩ := foot_enc p.2
      refine ⟨by simp [encPT], ?_, by simp, fun h => ?_⟩
      · rw [ew, ← q1]
        by_cases q : w = Str.ofString "foot" <;> simp [m_law_called_ct1, q]
      · obtain ⟨nm, hnm⟩ := Option.isSome_iff_exists.mp h
        rw [q2 nm hnm] at ew
        rw [ew, hnm]
        simp [m_law_called_ce2])
  rw [List.nil_append, filter_some (fun x : List Nat × Tr => x.2.footN) PyData.str, feet_pps] at h
  obtain ⟨w, r, ew⟩ := word_enc hv
  unfold Tr.called
  cases hf : t.feet with
  | nil =>
    rw [hf] at h
    rw [ew] at e1' h ⊢
    simp [m_law_called, e1', h, bsD]
  | cons f fs =>
    rw [hf] at h
    have z : (0 : Int) < (fs.length : Int) + 1 := by omega
    simp [m_law_called, e1', h, bsD, z]
/-- the law's own takers -/
structure BkN (n : Nat) (b : Bk) : Prop where
  bk : BkOk n b
  ft : ∀ p ∈ b.trees, p.2.feet.length ≤ 1
  ok : ∀ p ∈ b.trees, p.2.ok = true
  kn : ∀ p ∈ b.trees, p.2.isKnot = true
theorem called_is {t : Tr} (h : t.feet.length ≤ 1) : t.called = (t.isGraft, t.name) := by
  unfold Tr.called Tr.isGraft Tr.name
  cases hf : t.feet with
  | nil => simp
  | cons f fs =>
    rw [hf, List.length_cons] at h
    have : fs = [] := List.eq_nil_of_length_eq_zero (by omega)
    subst this
    simp
mutual
theorem piece_ok : ∀ {t : Tr}, t.ok = true → ∀ u ∈ t.pieces, u.ok = true
  | .knot n tk ks, h, u, m => by
    rw [Tr.pieces] at m
    rcases List.mem_cons.mp m with rfl | m
    · exact h
    · rw [Tr.ok] at h
      simp only [Bool.and_eq_true, decide_eq_true_eq] at h
      exact piecesL_ok h.2.2.2.2 u m
  | .sign s, h, u, m => by simp [Tr.pieces] at m; subst m; exact h
  | .void, h, u, m => by simp [Tr.pieces] at m; subst m; exact h
  | .hole s, h, u, m => by simp [Tr.pieces] at m; subst m; exact h
  | .foot s, h, u, m => by simp [Tr.pieces] at m; subst m; exact h
theorem piecesL_ok : ∀ {ts : List Tr}, Tr.okL ts = true → ∀ u ∈ Tr.piecesL ts, u.ok = true
  | [], _, u, m => by simp [Tr.piecesL] at m
  | t :: ts, h, u, m => by
    rw [Tr.okL, Bool.and_eq_true] at h
    rw [Tr.piecesL] at m
    rcases List.mem_append.mp m with m | m
    · exact piece_ok h.1 u m
    · exact piecesL_ok h.2 u m
end
theorem feet_ok {t : Tr} (h : t.ok = true) : ∀ f ∈ t.feet, nameB f = true := fun f m => by
  obtain ⟨u, mu, e⟩ := List.mem_filterMap.mp m
  have ou := piece_ok h u mu
  cases u <;> cases e
  exact ou
theorem called_strOk {t : Tr} (ho : t.ok = true) (hk : t.isKnot = true) : PyData.strOk t.called.2 = true := by
  unfold Tr.called
  cases hf : t.feet with
  | nil =>
    cases t with
    | knot n tk ks =>
      rw [Tr.ok] at ho
      simp only [Bool.and_eq_true] at ho
      exact nameB_strOk ho.1
    | _ => cases hk
  | cons f fs => exact nameB_strOk (feet_ok ho f (by rw [hf]; simp))
def LTakers (n : Nat) (F : FF) : Prop := ∀ (b : Bk) (u : Tr), BkN n b → u.ok = true → F [some ⟨b.enc, .sh⟩, some ⟨u.enc, .sh⟩] = .ok (.fr (.list ((b.takers u).map .str))) [none, none]
theorem law_takers_ok {n : Nat} {Fc : FF} (hc : CalledSp n Fc) : LTakers n (fnF 4 2 (m_law_takers Fc)) := fun b u B ou => by
  rw [m_law_takers_eq]
  have hl := B.bk.len
  have ec : ∀ p ∈ b.trees, Fc [some ⟨p.2.enc, .sh⟩] = .ok (.sh (bsD (p.2.isGraft, p.2.name))) [none] := fun p m => by
    have e := hc p.2 (B.bk.ht p m) (B.bk.sz p m) (B.bk.nv p m)
    rw [called_is (B.ft p m)] at e
    exact e
  have so : ∀ p ∈ b.trees, PyData.strOk p.2.name = true := fun p m => by
    have := called_strOk (B.ok p m) (B.kn p m)
    rw [called_is (B.ft p m)] at this
    exact this
  cases u with
  | hole nm =>
    have onm : PyData.strOk nm = true := nameB_strOk ou
    have h := lcL_up (vs := [2, 3]) (g := gT 2 (gsC (gN 2) (gsC (gN 3) gsN))) (ft := eNox (m_law_takers_ct3 Fc)) (fe := eNox (m_law_takers_ce4 Fc)) [some ⟨b.enc, .sh⟩, some ⟨Tr.enc (.hole nm), .sh⟩, none, none] encKT (fun p => [some ⟨b.enc, .sh⟩, some ⟨Tr.enc (.hole nm), .sh⟩, some ⟨.str p.1, .sh⟩, some ⟨p.2.enc, .sh⟩])
      (fun p => decide (p.2.isGraft = false) && decide (p.2.name = nm)) (fun p => .str p.1) b.trees [] (fits (by simp; omega)) (fun p mp => by
        have e := ec p mp
        have q := eqB_bs (c := (p.2.isGraft, p.2.name)) (e := (false, nm)) false (so p mp) onm
        rw [Bool.false_xor] at q
        unfold bsD at e q
        refine ⟨by simp [encKT], ?_, by simp, fun _ => by simp [m_law_takers_ce4]⟩
        simp [m_law_takers_ct3, e, Tr.enc, q])
    rw [List.nil_append] at h
    simp only [Tr.enc] at h ⊢
    simp [m_law_takers, ix_trees, h, Bk.takers, Tr.want]
  | knot nm tk ks =>
    cases tk with
    | none => simp [m_law_takers, Tr.enc, encTk, Bk.takers, Tr.want]
    | some w =>
      obtain ⟨m, must⟩ := w
      have onm : PyData.strOk m = true := by
        rw [Tr.ok] at ou
        simp only [Bool.and_eq_true] at ou
        exact nameB_strOk ou.2.1
      have h := lcL_up (vs := [2, 3]) (g := gT 2 (gsC (gN 2) (gsC (gN 3) gsN))) (ft := eNox (m_law_takers_ct1 Fc)) (fe := eNox (m_law_takers_ce2 Fc)) [some ⟨b.enc, .sh⟩, some ⟨Tr.enc (.knot nm (some (m, must)) ks), .sh⟩, none, none] encKT (fun p => [some ⟨b.enc, .sh⟩, some ⟨Tr.enc (.knot nm (some (m, must)) ks), .sh⟩, some ⟨.str p.1, .sh⟩, some ⟨p.2.enc, .sh⟩])
        (fun p => decide (p.2.isGraft = true) && decide (p.2.name = m)) (fun p => .str p.1) b.trees [] (fits (by simp; omega)) (fun p mp => by
          have e := ec p mp
          have q := eqB_bs (c := (p.2.isGraft, p.2.name)) (e := (true, m)) false (so p mp) onm
          rw [Bool.false_xor] at q
          unfold bsD at e q
          refine ⟨by simp [encKT], ?_, by simp, fun _ => by simp [m_law_takers_ce2]⟩
          simp [m_law_takers_ct1, e, Tr.enc, encTk, q])
      rw [List.nil_append] at h
      simp only [Tr.enc, encTk] at h ⊢
      simp [m_law_takers, ix_trees, h, Bk.takers, Tr.want]
  | _ => simp [m_law_takers, Tr.enc, Bk.takers, Tr.want]
end GM
namespace L2
open PySem PySem.W PySem.Calls PySem.Spec PyProof.Rows
/-- a list or a tuple of pairs at the addresses ps -/
def SeqAt2 (K : PySem.W.Frag) (H : Hp) (a : Addr) (ps : List Addr) : Prop := SqL K H a (ps.map V.ref) ∨ XT H a (ps.map V.ref)
def rDictX (K : PySem.W.Frag) (w : World) : List V → Hp → VK → Prop := fun xs H Q => ∃ (a : Addr) (ps : List Addr), xs = [.ref a] ∧ SeqAt2 K H a ps ∧
  ((∃ kvs : List (Key × V), Paired (fun p kv => XT H p [kV kv.1, kv.2]) ps kvs ∧ ∀ p ep ys us, H p = none → SOk ys → KV kvs us → pairK ys = merged [] us → Q (.ref p) (upd H p (dX w p ep (ys.map valK)))) ∨
   (∃ kvs : List (NestedKey × Addr × V), Paired (fun p y => XT H p [.ref y.2.1, y.2.2] ∧ NK H (.ref y.2.1) y.1 ∧ y.1.depth ≤ 8) ps kvs ∧ ∀ p ep zs, H p = none → Paired (fun y z => z.1 = y.1 ∧ z.2.1 = y.2.1 ∧ RelV y.2.2 z.2.2) kvs zs → Q (.ref p) (upd H p (dX w p ep ((storedAllH [] zs).map refK)))))
section
variable {X : Cx} {pins : List (Addr × Obj)} {σ : St} {H : Hp} {s : Shared}
theorem pairsS_of (J : Inv X pins σ H s) : ∀ {ps : List Addr} {kvs : List (Key × V)}, Paired (fun p kv => XT H p [kV kv.1, kv.2]) ps kvs →
    ∃ us : List (Key × Value × Value), KV kvs (pairK us) ∧ SOk us ∧ us.length = ps.length ∧ ∀ (j : Nat) (y : Key × Value × Value), us[j]? = some y → ∃ b, ps[j]? = some b ∧ s.heap.IsTuple b #[y.2.1, y.2.2]
  | _, _, .nil => ⟨[], .nil, (fun _ m => by cases m), rfl, fun j y e => by simp at e⟩
  | _, _, .cons (a := p) (b := kv) h t => by
    obtain ⟨us, r, so, hl, hp⟩ := pairsS_of J t
    obtain ⟨ws, rv, ht, _⟩ := J.tuple h.sq
    obtain ⟨u1, u2, rfl, r1, r2⟩ := vals2 rv
    have k1 : keyIs kv.1 u1 = true := kV_is (P := X.prog) (w := X.w) r1
    refine ⟨(kv.1, u1, u2) :: us, .cons ⟨rfl, r2⟩ r, fun y m => ?_, by simp [hl], fun j y e => ?_⟩
    · cases m with
      | head => exact k1
      | tail _ m => exact so y m
    · cases j with
      | zero => cases (Option.some.inj e); exact ⟨p, rfl, ht⟩
      | succ j =>
        obtain ⟨b, e1, e2⟩ := hp j y (by simpa using e)
        exact ⟨b, by simpa using e1, e2⟩
theorem pairsT_of (J : Inv X pins σ H s) : ∀ {ps : List Addr} {kvs : List (NestedKey × Addr × V)}, Paired (fun p y => XT H p [.ref y.2.1, y.2.2] ∧ NK H (.ref y.2.1) y.1 ∧ y.1.depth ≤ 8) ps kvs →
    ∃ zs : List (NestedKey × Addr × Value), Paired (fun y z => z.1 = y.1 ∧ z.2.1 = y.2.1 ∧ RelV y.2.2 z.2.2) kvs zs ∧ KOk H zs ∧ zs.length = ps.length ∧ ∀ (j : Nat) (z : NestedKey × Addr × Value), zs[j]? = some z → ∃ b, ps[j]? = some b ∧ s.heap.IsTuple b #[.ref z.2.1, z.2.2]
  | _, _, .nil => ⟨[], .nil, (fun _ m => by cases m), rfl, fun j y e => by simp at e⟩
  | _, _, .cons (a := p) (b := y) h t => by
    obtain ⟨zs, r, so, hl, hp⟩ := pairsT_of J t
    obtain ⟨h, hk⟩ := h
    obtain ⟨ws, rv, ht, _⟩ := J.tuple h.sq
    obtain ⟨u1, u2, rfl, r1, r2⟩ := vals2 rv
    cases r1
    refine ⟨(y.1, y.2.1, u2) :: zs, .cons ⟨rfl, rfl, r2⟩ r, fun y m => ?_, by simp [hl], fun j y e => ?_⟩
    · cases m with
      | head => exact hk
      | tail _ m => exact so y m
    · cases j with
      | zero => cases (Option.some.inj e); exact ⟨p, rfl, ht⟩
      | succ j =>
        obtain ⟨b, e1, e2⟩ := hp j y (by simpa using e)
        exact ⟨b, by simpa using e1, e2⟩
/-- the argument, as the library asks for it -/
theorem arg_of (J : Inv X pins σ H s) {a : Addr} {ps : List Addr} (h : SeqAt2 X.K H a ps) (prs : List (Value × Value)) (hl : prs.length = ps.length) (hp : ∀ (j : Nat) (k v : Value), prs[j]? = some (k, v) → ∃ b, ps[j]? = some b ∧ s.heap.IsTuple b #[k, v]) :
    ps.length ≤ sizeLine ∧ ∃ (T : String) (fp : List Addr) (OK : Heap → Prop), PairArg X.prog X.w T a fp [] prs.length (PairRel prs) OK ∧ OK s.heap := by
  have pi : ∀ us : List Value, us = ps.map Value.ref → PairItems s.heap us.toArray (fun j => ps.getD j 0) prs := fun us e => by
    subst e
    refine ⟨by simp [hl], fun j k v q => ?_⟩
    obtain ⟨b, e1, e2⟩ := hp j k v q
    refine ⟨by simp [e1], .inl ?_⟩
    have eb : ps.getD j 0 = b := by simp [e1]
    show s.heap.IsTuple (ps.getD j 0) #[k, v]
    rw [eb]
    exact e2
  rcases h with h | h
  · obtain ⟨us, rv, pl, hz⟩ := J.list h
    have eu := refs_at rv
    rw [List.length_map] at hz
    obtain ⟨o, n, ho, hc, hd, hdat⟩ := pl
    exact ⟨hz, "list", _, _, PairArg.list a us.toArray _ prs, ⟨⟨o, n, ho, hc, hd, hdat⟩, pi us eu⟩⟩
  · obtain ⟨o, e, hd⟩ := h
    obtain ⟨e1, hz, us, rv, o', e2, c, n, dd⟩ := J.hok _ _ e
    rw [e1] at e2
    cases e2
    have eu := refs_at rv
    rw [List.length_map] at hz
    exact ⟨hz, "tuple", _, _, PairArg.tuple a us.toArray _ prs, ⟨⟨o, n, e1, c, hd, dd⟩, pi us eu⟩⟩
theorem storedAllH_len (zs : List (NestedKey × Addr × Value)) : ∀ acc : List (NestedKey × Addr × Value), (storedAllH acc zs).length ≤ acc.length + zs.length := by
  induction zs with
  | nil => intro acc; exact Nat.le_refl _
  | cons z zs ih =>
    intro acc
    have h1 := ih (storedH acc z.1 z.2.1 z.2.2)
    have h2 := storedH_len acc z.1 z.2.1 z.2.2
    rw [List.length_cons]
    show (storedAllH (storedH acc z.1 z.2.1 z.2.2) zs).length ≤ _
    omega
theorem merged_len (zs : List (Key × Value)) : ∀ acc : List (Key × Value), (merged acc zs).length ≤ acc.length + zs.length := by
  induction zs with
  | nil => intro acc; exact Nat.le_refl _
  | cons z zs ih =>
    intro acc
    have h1 := ih (stored acc z.1 z.2)
    have h2 := stored_len acc z.1 z.2
    rw [List.length_cons]
    show (merged (stored acc z.1 z.2) zs).length ≤ _
    omega
theorem call_dictX (hc : X.calm = true) (hu : X.A.units + 65 < cLine) : CallR X (.type "dict") (rDictX X.K X.w) := by
  rintro pins s σ H xs us Q J r ⟨a, ps, rfl, hs, h⟩
  obtain ⟨u, rfl, rx⟩ := vals1 r
  cases rx
  have big : (s.heap.objs.size == sysModules) = false := beq_eq_false_iff_ne.mpr (Nat.ne_of_gt J.big)
  have fr : H s.heap.objs.size = none := J.hok.fresh (Nat.le_refl _)
  rcases h with ⟨kvs, hp, q⟩ | ⟨kvs, hp, q⟩
  · obtain ⟨ys, r1, r2, r3, r4⟩ := pairsS_of J hp
    obtain ⟨hz, T, fp, OK, PA, ok⟩ := arg_of J hs (ys.map fun y => (y.2.1, y.2.2)) (by simp [r3]) fun j k v e => by
      rw [List.getElem?_map] at e
      obtain ⟨y, e1, e2⟩ := Option.map_eq_some_iff.mp e
      cases e2
      exact r4 j y e1
    refine PySem.call_dict_pairs (knd := mixKind X.prog X.w) (kvs := pairK ys) PA (J.ok.hd hc) ok ⟨by simp [pairK], fun i k v e => ?_⟩ (by simp [r3]; exact hz) fun h' tk hd' k => ?_
    · unfold PairRel at e
      rw [List.getElem?_map] at e
      obtain ⟨y, e1, e2⟩ := Option.map_eq_some_iff.mp e
      cases e2
      exact ⟨y.1, by simp [pairK, e1], r2 y (List.mem_of_getElem? e1)⟩
    · obtain ⟨ep, zs, z1, z2, oko⟩ := dX_okS hd' (by have := merged_len (pairK ys) []; simp [pairK] at this ⊢; omega) big
      exact ⟨.ref s.heap.objs.size, _, J.laid (t' := tk) (fun b o e => k b o (fun m => by cases m) e) (Nat.le_refl _) (oko _), rfl, q _ ep zs _ fr z1 r1 z2⟩
  · obtain ⟨zs, r1, r2, r3, r4⟩ := pairsT_of J hp
    obtain ⟨hz, T, fp, OK, PA, ok⟩ := arg_of J hs (zs.map fun z => (.ref z.2.1, z.2.2)) (by simp [r3]) fun j k v e => by
      rw [List.getElem?_map] at e
      obtain ⟨y, e1, e2⟩ := Option.map_eq_some_iff.mp e
      cases e2
      exact r4 j y e1
    refine call_dict_pairsH (knd := nestedKind X.prog X.w) (ps := zs) PA (J.ok.hd hc) (by show X.A.units + 1 + 1 + 8 < cLine; omega) ok ⟨by simp, fun i k v e => ?_⟩ (fun h' kp x m => ?_) (by simp [r3]; exact hz) fun h' tk hd' k => ?_
    · unfold PairRel at e
      rw [List.getElem?_map] at e
      obtain ⟨y, e1, e2⟩ := Option.map_eq_some_iff.mp e
      cases e2
      exact ⟨y.1, y.2.1, e1, rfl⟩
    · have k0 : (nestedKind X.prog X.w).is s.heap x.1 x.2.1 := ⟨(r2 x m).1.is J.hok rfl, (r2 x m).2⟩
      exact nestedKind_stays.stays (fun b o _ _ e _ => kp b o (Nat.ne_of_lt (Heap.lt_size e)) (fun m => by cases m) e) k0
    · obtain ⟨ep, oko⟩ := dX_okT hd' (by have := storedAllH_len zs []; simp at this; omega) big
      exact ⟨.ref s.heap.objs.size, _, J.laid (t' := tk) (fun b o e => k b o (fun m => by cases m) e) (Nat.le_refl _) (oko _), rfl, q _ ep zs fr r1⟩
end
end L2
namespace GS
open PySem L2
/-- pairs -/
def pairsD : List D → Option (List (D × D))
  | [] => some []
  | .tuple [k, v] :: ds => (pairsD ds).map fun ps => (k, v) :: ps
  | _ => none
/-- keys of one sort -/
def okPs (b : Bool) (ps : List (D × D)) : Bool := ps.all fun p => isK p.1 && (tupB p.1 == b)
def dictP (ds : List D) : Option Hd := (pairsD ds).bind fun ps => if okPs false ps || okPs true ps then some (.fr (.dict (dMerge ps))) else none
def dictD : D → Option Hd
  | .list ds => dictP ds
  | .tuple ds => dictP ds
  | _ => none
section
variable {K : KW} {ρ : Rho} {σ : St} {B H : Hp} {v x y : V} {Q : VK}
theorem pairs_rp : ∀ {vs : List V} {ds : List D} {ps : List (D × D)}, RpL K B vs ds → pairsD ds = some ps → ∃ as : List Addr, vs = as.map V.ref ∧ Paired (fun a p => ∃ k v, XT B a [k, v] ∧ Rp K B k p.1 ∧ Rp K B v p.2) as ps
  | _, [], _, .nil, e => by cases e; exact ⟨[], rfl, .nil⟩
  | _, d :: ds, ps, .cons h t, e => by
    match d, h, e with
    | .tuple [k, v], h, e =>
      obtain ⟨qs, e1, rfl⟩ := Option.map_eq_some_iff.mp (show (pairsD ds).map (fun ps => (k, v) :: ps) = some ps from e)
      obtain ⟨as, rfl, r⟩ := pairs_rp t e1
      cases h with
      | tup hx hr =>
        cases hr with
        | cons r1 hr =>
          cases hr with
          | cons r2 hr =>
            cases hr
            exact ⟨_ :: as, rfl, .cons ⟨_, _, hx, r1, r2⟩ r⟩
theorem pairs_S {H : Hp} (s : Same B H) : ∀ {as : List Addr} {ps : List (D × D)}, Paired (fun a p => ∃ k v, XT B a [k, v] ∧ Rp K B k p.1 ∧ Rp K B v p.2) as ps → okPs false ps = true → ∃ kvs : List (Key × V), Paired (fun p kv => XT H p [kV kv.1, kv.2]) as kvs ∧ RpK K B kvs ps
  | _, _, .nil, _ => ⟨[], .nil, .nil⟩
  | _, _, .cons (b := p) h t, e => by
    unfold okPs at e
    rw [List.all_cons, Bool.and_eq_true] at e
    obtain ⟨kvs, q1, q2⟩ := pairs_S s t e.2
    obtain ⟨k, v, hx, r1, r2⟩ := h
    have e1 := e.1
    rw [Bool.and_eq_true] at e1
    obtain ⟨nk, hn⟩ := isK_key e1.1
    obtain ⟨kd, d⟩ := p
    obtain ⟨kk, rfl, e2, _⟩ := sk_of r1 hn (by simpa using e1.2)
    simp only at e2
    subst e2
    exact ⟨(kk, v) :: kvs, .cons (same_x s hx) q1, .cons r2 q2⟩
theorem pairs_T {H : Hp} (s : Same B H) : ∀ {as : List Addr} {ps : List (D × D)}, Paired (fun a p => ∃ k v, XT B a [k, v] ∧ Rp K B k p.1 ∧ Rp K B v p.2) as ps → okPs true ps = true → ∃ kvs : List (NestedKey × Addr × V),
    Paired (fun p y => XT H p [.ref y.2.1, y.2.2] ∧ NK H (.ref y.2.1) y.1 ∧ y.1.depth ≤ 8) as kvs ∧ Paired (fun y p => keyD p.1 = some y.1 ∧ tupB p.1 = true ∧ Rp K B (.ref y.2.1) p.1 ∧ Rp K B y.2.2 p.2) kvs ps
  | _, _, .nil, _ => ⟨[], .nil, .nil⟩
  | _, _, .cons (b := p) h t, e => by
    unfold okPs at e
    rw [List.all_cons, Bool.and_eq_true] at e
    obtain ⟨kvs, q1, q2⟩ := pairs_T s t e.2
    obtain ⟨k, v, hx, r1, r2⟩ := h
    have e1 := e.1
    rw [Bool.and_eq_true] at e1
    obtain ⟨nk, hn⟩ := isK_key e1.1
    have ht : tupB p.1 = true := by simpa using e1.2
    obtain ⟨b, rfl, k1, k2⟩ := tk_of s r1 hn ht
    exact ⟨(nk, b, v) :: kvs, .cons ⟨same_x s hx, k1, k2⟩ q1, .cons ⟨hn, ht, r1, r2⟩ q2⟩
theorem rps_merge : ∀ {us : List (Key × Value)} {ps : List (D × D)}, RpS K B us ps → ∀ {u0 : List (Key × Value)} {p0 : List (D × D)}, RpS K B u0 p0 → RpS K B (merged u0 us) (ps.foldl (fun acc p => dPut acc p.1 p.2) p0)
  | _, _, .nil, _, _, h0 => h0
  | _, _, .cons (a := u) (b := p) h t, u0, p0, h0 => by
    obtain ⟨kd, d⟩ := p
    obtain ⟨e, v, r1, r2⟩ := h
    simp only at e
    subst e
    exact rps_merge t (rps_put r1 r2 h0)
theorem rpx_merge : ∀ {kvs : List (NestedKey × Addr × V)} {zs : List (NestedKey × Addr × Value)} {ps : List (D × D)}, Paired (fun y p => keyD p.1 = some y.1 ∧ tupB p.1 = true ∧ Rp K B (.ref y.2.1) p.1 ∧ Rp K B y.2.2 p.2) kvs ps → Paired (fun y z => z.1 = y.1 ∧ z.2.1 = y.2.1 ∧ RelV y.2.2 z.2.2) kvs zs →
    ∀ {z0 : List (NestedKey × Addr × Value)} {p0 : List (D × D)}, RpX K B true (z0.map refK) p0 → RpX K B true ((storedAllH z0 zs).map refK) (ps.foldl (fun acc p => dPut acc p.1 p.2) p0)
  | _, _, _, .nil, .nil, _, _, h0 => h0
  | _, _, _, .cons (a := y) (b := p) h t, .cons (b := z) q r, z0, p0, h0 => by
    obtain ⟨z1, z2, z3⟩ := z
    obtain ⟨e1, e2, e3⟩ := q
    simp only at e1 e2 e3
    subst e1 e2
    exact rpx_merge t r (rpx_put h.1 h.2.1 h.2.2.1 e3 h.2.2.2 h0)
/-- a new dict that nobody holds -/
theorem newD (S : Sim K ρ σ B H) {ps : List (D × D)} {p : Addr} {ep : Nat} {b : Bool} {xs : List (NestedKey × Value × Value)} (hp : H p = none) (h : RpX K B b xs ps) (k : ∀ v B' H', Sim K ρ σ B' H' → Ext ρ σ B H ρ σ B' H' → HdOk K (New ρ σ H) ρ σ B' H' v (.fr (.dict ps)) → Q v H') :
    Q (.ref p) (upd H p (dX K.w p ep xs)) := by
  obtain ⟨S', x⟩ := S.newH hp (dX K.w p ep xs)
  obtain ⟨bb, n⟩ := S.free hp
  exact k _ _ _ S' x ⟨p, rfl, bb, ⟨ep, b, xs, upd_same, h⟩, n, .inl hp⟩
theorem cl_dict : CalL K (rDictX K K.w) (un1 dictD) := CalL.one fun ρ σ B H x d h Q S t e k => by
  have main : ∀ {a : Addr} {vs : List V} {ds : List D}, RpL K B vs ds → dictP ds = some h → (∀ as, vs = as.map V.ref → SeqAt2 K H a as) → rDictX K K.w [.ref a] H Q := fun {a vs ds} ra e hs => by
    obtain ⟨ps, e1, e2⟩ := Option.bind_eq_some_iff.mp e
    obtain ⟨c, rfl⟩ := if_some e2
    obtain ⟨as, rfl, r⟩ := pairs_rp ra e1
    rw [Bool.or_eq_true] at c
    refine ⟨a, as, rfl, hs as rfl, ?_⟩
    rcases c with c | c
    · obtain ⟨kvs, q1, q2⟩ := pairs_S S.bh r c
      refine .inl ⟨kvs, q1, fun p ep ys us hp so kv e => ?_⟩
      exact newD S hp (rps_X so (by rw [e]; exact rps_merge (rpk_S q2 kv) .nil)) k
    · obtain ⟨kvs, q1, q2⟩ := pairs_T S.bh r c
      refine .inr ⟨kvs, q1, fun p ep zs hp kv => ?_⟩
      exact newD S hp (rpx_merge q2 kv (z0 := []) .nil) k
  cases d with
  | list ds =>
    obtain ⟨a, vs, rfl, ha, ra⟩ := t
    exact main ra e fun as q => by subst q; exact .inl ha
  | tuple ds =>
    obtain ⟨a, vs, rfl, ha, ra⟩ := Tp.tupX t
    exact main ra e fun as q => by subst q; exact .inr (same_x S.bh ha)
  | _ => cases e
end
section
variable {X : Cx} {C : Ct} {pos : Pos}
end
end GS
namespace GM
open PySem L2 GS
/-- _law_plan(state, book, key, left); slots 0:state 1:book 2:key 3:left 4:cell 5:puts 6:place 7:piece 8:some 9:must 10:one -/
def m_law_plan_ct1 (F__law_pieces F__law_plan F__law_takers F__law_cell : FF) : EF := (eB (eBin (inB false) (eVb 10) (eTup (aCons (eC (.str (Str.ofString "s"))) (aCons (eC (.str (Str.ofString "x0"))) (aCons (eC (.str (Str.ofString "keytree"))) (aCons (eC (.str (Str.ofString "g"))) (aCons (eC (.str (Str.ofString "h1"))) (aCons (eC (.str (Str.ofString "graftofaone"))) aNil)))))))))
def m_law_plan_ce2 (F__law_pieces F__law_plan F__law_takers F__law_cell : FF) : EF := (eMv 10)
def m_law_plan_b3 (F__law_pieces F__law_plan F__law_takers F__law_cell : FF) : SF := (sKill [6, 7, 8, 9] (sSeq (sSet 8 (eCall 2 none F__law_takers (aCons (eMv 1) (aCons (eMv 7) aNil)))) (sSeq (sSet 9 (eOr (eB (eBin (eqB false) (eBin ixA (eVb 7) (eC (.int 0))) (eC (.str (Str.ofString "hole"))))) (eAnd (eB (eBin (eqB false) (eBin ixA (eVb 7) (eC (.int 0))) (eC (.str (Str.ofString "knot"))))) (eAnd (eB (eBin (isD true) (eBin ixA (eVb 7) (eC (.int 2))) (eC .none))) (eBin ixA (eBin ixA (eVb 7) (eC (.int 2))) (eC (.int 1))))))) (sSeq (sIf (eOr (eB (eBin (eqB false) (eVb 3) (eC (.int 0)))) (eOr (eB (eBin (eqB false) (eBin modD (eVb 4) (eC (.int 3))) (eC (.int 2)))) (eB (eBin (ltI fun i j => decide (j < i)) (eBin ixA (eVb 0) (eC (.str (Str.ofString "keys")))) (eC (.int 5)))))) (sSet 8 (eLc [10] (iSq (eMv 8)) (gN 10) (eNox (m_law_plan_ct1 F__law_pieces F__law_plan F__law_takers F__law_cell)) (eNox (m_law_plan_ce2 F__law_pieces F__law_plan F__law_takers F__law_cell)))) sNil) (sIf (eOr (eB (eVb 9)) (eAnd (eB (eBin (ltI fun i j => decide (j < i)) (eCB (un1 lenD) (aCons (eVb 8) aNil)) (eC (.int 0)))) (eAnd (eB (eBin (ltI fun i j => decide (j < i)) (eVb 3) (eC (.int 0)))) (eB (eBin (ltI fun i j => decide (j < i)) (eBin modD (eBin divD (eVb 4) (eC (.int 3))) (eC (.int 3))) (eC (.int 0))))))) (sSeq (sApp 5 (eTup (aCons (eMv 6) (aCons (eCall 4 (some 0) F__law_plan (aCons (eVb 0) (aCons (eMv 1) (aCons (eBin ixA (eVb 8) (eBin modD (eBin divD (eVb 4) (eC (.int 9))) (eCB (un1 lenD) (aCons (eVb 8) aNil)))) (aCons (eCB (un2 maxD) (aCons (eC (.int 0)) (aCons (eBin subD (eVb 3) (eC (.int 1))) aNil))) aNil))))) aNil)))) (sSet 4 (eBin addD (eBin divD (eVb 4) (eC (.int 5))) (eC (.int 1))))) sNil)))))
def m_law_plan (F__law_pieces F__law_plan F__law_takers F__law_cell : FF) : SF := (sSeq (sSet 4 (eCall 1 (some 0) F__law_cell (aCons (eVb 0) aNil))) (sSeq (sPut 0 (eC (.str (Str.ofString "keys"))) (eBin addD (eBin ixA (eVb 0) (eC (.str (Str.ofString "keys")))) (eC (.int 1)))) (sSeq (sSet 3 (eIf (eB (eBin (ltI fun i j => decide (i < j)) (eBin ixA (eVb 0) (eC (.str (Str.ofString "keys")))) (eC (.int 6)))) (eMv 3) (eC (.int 0)))) (sSeq (sSet 5 (eLst aNil)) (sSeq (sFor (iSq (eCall 2 none F__law_pieces (aCons (eBin ixA (eCB (un1 dictD) (aCons (eBin ixA (eVb 1) (eC (.int 1))) aNil)) (eVb 2)) (aCons (eTup aNil) aNil)))) (gT 2 (gsC (gN 6) (gsC (gN 7) gsN))) (m_law_plan_b3 F__law_pieces F__law_plan F__law_takers F__law_cell)) (sEnd (sRet (eTup (aCons (eMv 2) (aCons (eCB (un1 tupleD) (aCons (eVb 5) aNil)) aNil))))))))))
theorem m_law_plan_eq (F__law_pieces F__law_plan F__law_takers F__law_cell : FF) (ρ : Rho) : fnF 11 4 (m_law_plan F__law_pieces F__law_plan F__law_takers F__law_cell) ρ = finR 4 (m_law_plan F__law_pieces F__law_plan F__law_takers F__law_cell (ρ ++ [none, none, none, none, none, none, none])) := fnF_eq 11 4 _
end GM
namespace GM
open PySem L2 GS
def StrK (ps : List (D × D)) : Prop := ∀ p ∈ ps, ∃ s, p.1 = PyData.str s
theorem dGet_put (x y : Str) (v : D) : ∀ {ps : List (D × D)}, StrK ps → dGet (dPut ps (.str x) v) (.str y) = if x = y then some v else dGet ps (.str y) := fun {ps} h => by
  unfold dPut
  have mp : ∀ {ps : List (D × D)}, StrK ps → dGet (ps.map fun p => if kEq p.1 (.str x) then (p.1, v) else p) (.str y) = if ps.any (fun p => kEq p.1 (.str x)) && decide (x = y) then some v else dGet ps (.str y) := fun {ps} h => by
    induction ps with
    | nil => rfl
    | cons p ps ih =>
      obtain ⟨s, hs⟩ := h p (by simp)
      obtain ⟨k, d⟩ := p
      simp only at hs
      subst hs
      have ih := ih fun p m => h p (by simp [m])
      rw [List.map_cons, List.any_cons, kEq_s]
      by_cases q1 : s = x
      · subst q1
        by_cases q2 : s = y
        · simp [q2]
        · simp [q2, ih]
      · by_cases q2 : s = y
        · have q3 : ¬ x = y := fun e => q1 (by rw [q2, e])
          rw [if_neg (by simpa using q1)]
          simp [q2, q3]
        · rw [if_neg (by simpa using q1)]
          rw [dGet_cons, kEq_s, decide_eq_false q2, ih, dGet_cons, kEq_s, decide_eq_false q2, decide_eq_false q1, Bool.false_or]
          rfl
  have ap : ∀ {ps : List (D × D)}, StrK ps → ps.any (fun p => kEq p.1 (.str x)) = false → dGet (ps ++ [(.str x, v)]) (.str y) = if x = y then some v else dGet ps (.str y) := fun {ps} h hn => by
    induction ps with
    | nil => by_cases q : x = y <;> simp [q]
    | cons p ps ih =>
      obtain ⟨s, hs⟩ := h p (by simp)
      obtain ⟨k, d⟩ := p
      simp only at hs
      subst hs
      rw [List.any_cons, Bool.or_eq_false_iff] at hn
      have ih := ih (fun p m => h p (by simp [m])) hn.2
      have q1 : ¬ s = x := by simpa using hn.1
      rw [List.cons_append]
      by_cases q2 : s = y
      · have q3 : ¬ x = y := fun e => q1 (by rw [q2, e])
        simp [q2, q3]
      · simp [q2, ih]
  split
  · rename_i c
    rw [mp h, c, Bool.true_and]
    by_cases q : x = y <;> simp [q]
  · rename_i c
    exact ap h (by simpa using c)
theorem strK_put {ps : List (D × D)} (h : StrK ps) (x : Str) (v : D) : StrK (dPut ps (.str x) v) := by
  unfold dPut
  split
  · intro p m
    obtain ⟨q, mq, rfl⟩ := List.mem_map.mp m
    obtain ⟨s, hs⟩ := h q mq
    refine ⟨s, ?_⟩
    split <;> exact hs
  · intro p m
    rcases List.mem_append.mp m with m | m
    · exact h p m
    · simp at m; subst m; exact ⟨x, rfl⟩
/-- dict(book[1]) -/
def ktD (p : Str × Tr) : D × D := (.str p.1, p.2.enc)
def Bk.dict (b : Bk) : D := .dict (dMerge (b.trees.map ktD))
theorem fold_get (k : Str) : ∀ (ts : List (Str × Tr)) {acc : List (D × D)} (o : Option Tr), StrK acc → dGet acc (.str k) = o.map Tr.enc →
    dGet ((ts.map ktD).foldl (fun acc p => dPut acc p.1 p.2) acc) (.str k) = (ts.foldl (fun acc p => if p.1 = k then some p.2 else acc) o).map Tr.enc := by
  intro ts
  induction ts with
  | nil => intro acc o _ h; exact h
  | cons t ts ih =>
    intro acc o hs h
    refine ih _ (strK_put hs t.1 t.2.enc) ?_
    show dGet (dPut acc (.str t.1) t.2.enc) (.str k) = _
    rw [dGet_put _ _ _ hs, h]
    by_cases q : t.1 = k <;> simp [q]
theorem book_get (b : Bk) (k : Str) : dGet (dMerge (b.trees.map ktD)) (.str k) = (b.treeOf k).map Tr.enc := fold_get k b.trees none (fun _ m => by cases m) rfl
theorem pairsD_kt : ∀ ts : List (Str × Tr), pairsD (ts.map encKT) = some (ts.map ktD)
  | [] => rfl
  | t :: ts => by
    show (pairsD (ts.map encKT)).map (fun ps => (PyData.str t.1, t.2.enc) :: ps) = _
    rw [pairsD_kt ts]
    rfl
@[simp] theorem dict_book (b : Bk) : dictD (.tuple (b.trees.map encKT)) = some (.fr b.dict) := by
  show dictP (b.trees.map encKT) = _
  unfold dictP
  rw [pairsD_kt, Option.bind_some]
  have : okPs false (b.trees.map ktD) = true := by
    unfold okPs
    rw [List.all_map, List.all_eq_true]
    intro p _
    rfl
  rw [this, Bool.true_or]
  rfl
theorem ix_dict {b : Bk} {k : Str} {t : Tr} (h : b.treeOf k = some t) : ixA b.dict (.str k) = some (.sh t.enc) := by
  show ixA (.dict _) _ = _
  rw [ixA_d, isK_s, book_get, h]
  rfl
inductive Pl where
  | mk (key : Str) (puts : List (List Nat × Pl))
  deriving Inhabited
def Pl.key : Pl → Str
  | .mk k _ => k
def Pl.puts : Pl → List (List Nat × Pl)
  | .mk _ ps => ps
mutual
def Pl.enc : Pl → D
  | .mk k ps => .tuple [.str k, .tuple (Pl.encL ps)]
def Pl.encL : List (List Nat × Pl) → List D
  | [] => []
  | x :: r => Pl.encX x :: Pl.encL r
def Pl.encX : List Nat × Pl → D
  | (p, q) => .tuple [encP p, q.enc]
end
theorem pencL_map : ∀ ps : List (List Nat × Pl), Pl.encL ps = ps.map Pl.encX
  | [] => rfl
  | x :: r => by rw [Pl.encL, pencL_map r, List.map_cons]
theorem penc_eq (q : Pl) : q.enc = .tuple [.str q.key, .tuple (q.puts.map Pl.encX)] := by
  cases q with
  | mk k ps => rw [Pl.enc, pencL_map]; rfl
theorem pencX_eq (x : List Nat × Pl) : Pl.encX x = .tuple [encP x.1, x.2.enc] := by
  obtain ⟨p, q⟩ := x
  rw [Pl.encX]
mutual
/-- how many keys -/
def Pl.size : Pl → Nat
  | .mk _ ps => 1 + Pl.sizeL ps
def Pl.sizeL : List (List Nat × Pl) → Nat
  | [] => 0
  | x :: r => Pl.sizeX x + Pl.sizeL r
def Pl.sizeX : List Nat × Pl → Nat
  | (_, q) => q.size
end
mutual
/-- how many within one another -/
def Pl.dep : Pl → Nat
  | .mk _ ps => Pl.depL ps + 1
def Pl.depL : List (List Nat × Pl) → Nat
  | [] => 0
  | x :: r => max (Pl.depX x) (Pl.depL r)
def Pl.depX : List Nat × Pl → Nat
  | (_, q) => q.dep
end
theorem sizeL_snoc (ps : List (List Nat × Pl)) (x : List Nat × Pl) : Pl.sizeL (ps ++ [x]) = Pl.sizeL ps + x.2.size := by
  induction ps with
  | nil => obtain ⟨p, q⟩ := x; simp [Pl.sizeL, Pl.sizeX]
  | cons y ps ih => rw [List.cons_append, Pl.sizeL, ih, Pl.sizeL]; omega
theorem depL_snoc (ps : List (List Nat × Pl)) (x : List Nat × Pl) : Pl.depL (ps ++ [x]) = max (Pl.depL ps) x.2.dep := by
  induction ps with
  | nil => obtain ⟨p, q⟩ := x; simp [Pl.depL, Pl.depX]
  | cons y ps ih => rw [List.cons_append, Pl.depL, ih, Pl.depL]; omega
def Tr.must (t : Tr) : Bool := match t.want with
  | some (_, _, b) => b
  | none => false
mutual
/-- a plan of a book -/
inductive PlOk (b : Bk) : Pl → Prop
  | mk {k : Str} {t : Tr} {ps : List (List Nat × Pl)} : b.treeOf k = some t → PutsOk b (t.pps []) ps → PlOk b (.mk k ps)
/-- what is put at pieces, in their order -/
inductive PutsOk (b : Bk) : List (List Nat × Tr) → List (List Nat × Pl) → Prop
  | nil : PutsOk b [] []
  | skip {p : List Nat} {u : Tr} {us : List (List Nat × Tr)} {ps : List (List Nat × Pl)} : u.must = false → PutsOk b us ps → PutsOk b ((p, u) :: us) ps
  | put {p : List Nat} {u : Tr} {q : Pl} {us : List (List Nat × Tr)} {ps : List (List Nat × Pl)} : q.key ∈ b.takers u → PlOk b q → PutsOk b us ps → PutsOk b ((p, u) :: us) ((p, q) :: ps)
end
end GM
namespace GM
open PySem L2 GS
theorem BookOk.bkN {h : Nat} {b : Bk} (B : BookOk h b) : BkN h b := ⟨B.bk, fun p m => (B.trees p m).feet, fun p m => (B.trees p m).ok, fun p m => (B.trees p m).kn⟩
theorem st_keys (ns : List Int) (a : Int) (k : Int) : ixA (stD ns a (some k)) (.str (Str.ofString "keys")) = some (.sh (.int k)) := by simp [stD]
theorem st_put (ns : List Int) (a : Int) (k v : Int) : setD (.str (Str.ofString "keys")) (.int v) (stD ns a (some k)) = some (stD ns a (some v)) := by
  have l3 : 3 < sizeLine := by decide
  simp [stD, dPut, l3]
theorem want_no {u : Tr} (h : noW u = true) : u.want = none := by
  cases u with
  | knot n tk ks => cases tk with
    | none => rfl
    | some w => cases h
  | hole n => cases h
  | _ => rfl
theorem must_wn {u : Tr} (h : WnB u = true) (m : u.must = true) : ∃ g n, u.want = some (g, n, true) ∧ n ∈ nm3 := by
  cases u with
  | hole n => exact ⟨false, n, rfl, by simpa [WnB] using h⟩
  | knot n tk ks =>
    cases tk with
    | none => cases m
    | some w =>
      obtain ⟨x, c⟩ := w
      cases c with
      | false => cases m
      | true => exact ⟨true, x, rfl, by have h := h; simp [WnB, wtk] at h; exact h.2⟩
  | _ => cases m
theorem mem_takers {b : Bk} {u : Tr} {g : Bool} {n : Str} {m : Bool} (h : u.want = some (g, n, m)) {p : Str × Tr} (mp : p ∈ b.trees) (hg : p.2.isGraft = g) (hn : p.2.name = n) : p.1 ∈ b.takers u := by
  unfold Bk.takers
  rw [h]
  exact List.mem_map.mpr ⟨p, List.mem_filter.mpr ⟨mp, by simp [hg, hn]⟩, rfl⟩
/-- what must be put can be, by one of the sixQ -/
theorem base_taker {h : Nat} {b : Bk} (B : BookOk h b) {u : Tr} (w : WnB u = true) (m : u.must = true) : ∃ k ∈ b.takers u, k ∈ baseK := by
  obtain ⟨g, n, hw, hn⟩ := must_wn w m
  cases g with
  | false =>
    obtain ⟨p, mp, bk, e1, e2⟩ := B.base.st n hn
    exact ⟨p.1, mem_takers hw mp e1 e2, bk⟩
  | true =>
    obtain ⟨p, mp, bk, e1, e2⟩ := B.base.gr n hn
    exact ⟨p.1, mem_takers hw mp e1 e2, bk⟩
theorem takers_keys {b : Bk} {u : Tr} {k : Str} (h : k ∈ b.takers u) : ∃ t, (k, t) ∈ b.trees := by
  unfold Bk.takers at h
  split at h
  · cases h
  · obtain ⟨p, mp, rfl⟩ := List.mem_map.mp h
    exact ⟨p.2, (List.mem_filter.mp mp).1⟩
theorem takers_len (b : Bk) (u : Tr) : (b.takers u).length ≤ b.trees.length := by
  unfold Bk.takers
  split
  · simp
  · rw [List.length_map]; exact List.length_filter_le _ _
/-- sixQ keys in a tuple -/
def sixQ : List Str := [Str.ofString "s", Str.ofString "x0", Str.ofString "keytree", Str.ofString "g", Str.ofString "h1", Str.ofString "graftofaone"]
theorem six_base (k : Str) : decide (k ∈ sixQ) = decide (k ∈ baseK) := by
  have : k ∈ sixQ ↔ k ∈ baseK := by
    unfold sixQ baseK
    simp only [List.mem_cons, List.not_mem_nil, or_false]
    constructor <;> (rintro (h | h | h | h | h | h) <;> simp [h])
  simp only [this]
def rankP (l : Nat) (k : Str) : Nat := if k ∈ baseK then 0 else l + 1
/-- how many keys a plan may have, by the number of its first -/
def limP (c s : Nat) : Nat := if 6 ≤ c then 51 else 2551 * min s (6 - c)
mutual
/-- how many keys are none of the sixQ -/
def Pl.nb : Pl → Nat
  | .mk k ps => (if k ∈ baseK then 0 else 1) + Pl.nbL ps
def Pl.nbL : List (List Nat × Pl) → Nat
  | [] => 0
  | x :: r => Pl.nbX x + Pl.nbL r
def Pl.nbX : List Nat × Pl → Nat
  | (_, q) => q.nb
end
theorem nbL_snoc (ps : List (List Nat × Pl)) (x : List Nat × Pl) : Pl.nbL (ps ++ [x]) = Pl.nbL ps + x.2.nb := by
  induction ps with
  | nil => obtain ⟨p, q⟩ := x; simp [Pl.nbL, Pl.nbX]
  | cons y ps ih => rw [List.cons_append, Pl.nbL, ih, Pl.nbL]; omega
mutual
theorem nb_size : ∀ q : Pl, q.nb ≤ q.size
  | .mk k ps => by
    have := nbL_size ps
    rw [Pl.nb, Pl.size]
    split <;> omega
theorem nbL_size : ∀ ps : List (List Nat × Pl), Pl.nbL ps ≤ Pl.sizeL ps
  | [] => by simp [Pl.nbL]
  | x :: r => by
    have h1 := nbX_size x
    have h2 := nbL_size r
    rw [Pl.nbL, Pl.sizeL]
    omega
theorem nbX_size : ∀ x : List Nat × Pl, Pl.nbX x ≤ Pl.sizeX x
  | (p, q) => by
    have := nb_size q
    rw [Pl.nbX, Pl.sizeX]
    omega
end
structure GoodP (b : Bk) (n c : Nat) (key : Str) (q : Pl) : Prop where
  ok : PlOk b q
  key : q.key = key
  dep : q.dep ≤ n + 1
  size : q.size ≤ limP c q.size
  nb : q.nb ≤ if q.key ∈ baseK then 0 else max 1 (7 - c)
def PlanGen (n : Nat) (F : FF) : Prop := ∀ (h : Nat) (b : Bk) (ns : List Int) (a kx : Nat) (l : Nat) (key : Str), BookOk h b → h ≤ 100 → key ∈ b.trees.map (·.1) → rankP l key ≤ n → l ≤ 1000 → ∃ (q : Pl) (a' : Nat),
  F [some ⟨stD ns a (some kx), .io⟩, some ⟨b.enc, .sh⟩, some ⟨.str key, .sh⟩, some ⟨.int l, .sh⟩] = .ok (.sh q.enc) [some ⟨stD ns a' (some ((kx + q.size : Nat) : Int)), .io⟩, none, none, none] ∧ GoodP b n (kx + 1) key q
section
variable {Fp Fl Ft Fc : FF}
def stP (ns : List Int) (a kx : Nat) (b : Bk) (key : Str) (l : Nat) (c : Int) (ps : List (List Nat × Pl)) (x6 x7 x8 x9 x10 : Option Cel) : Rho :=
  [some ⟨stD ns a (some kx), .io⟩, some ⟨b.enc, .sh⟩, some ⟨.str key, .sh⟩, some ⟨.int l, .sh⟩, some ⟨.int c, .sh⟩, some ⟨.list (ps.map Pl.encX), .ow⟩, x6, x7, x8, x9, x10]
theorem must_val (u : Tr) (r : Rho) (r0 : Option Cel) (r1 r2 r3 r4 r5 r6 : Option Cel) : sSet 9 (eOr (eB (eBin (eqB false) (eBin ixA (eVb 7) (eC (.int 0))) (eC (.str (Str.ofString "hole"))))) (eAnd (eB (eBin (eqB false) (eBin ixA (eVb 7) (eC (.int 0))) (eC (.str (Str.ofString "knot"))))) (eAnd (eB (eBin (isD true) (eBin ixA (eVb 7) (eC (.int 2))) (eC .none))) (eBin ixA (eBin ixA (eVb 7) (eC (.int 2))) (eC (.int 1))))))
    [r0, r1, r2, r3, r4, r5, r6, some ⟨u.enc, .sh⟩, r8, none, none] = .nx [r0, r1, r2, r3, r4, r5, r6, some ⟨u.enc, .sh⟩, r8, some ⟨.bool u.must, .sh⟩, none] := by
  cases u with
  | knot n tk ks =>
    cases tk with
    | none => simp [Tr.enc, encTk, Tr.must, Tr.want]
    | some w => obtain ⟨m, c⟩ := w; cases c <;> simp [Tr.enc, encTk, Tr.must, Tr.want]
  | _ => simp [Tr.enc, Tr.must, Tr.want]
end
section
variable {Fp Fl Ft Fc : FF}
/-- those of the sixQ alone, or all -/
theorem some_val {h : Nat} {b : Bk} (B : BookOk h b) (u : Tr) (wu : WnB u = true) (ns : List Int) (a kx l : Nat) (key : Str) (c : Int) (ps : List (List Nat × Pl)) (x6 x7 x9 : Option Cel) : ∃ sm : List Str, (∀ k ∈ sm, k ∈ b.takers u) ∧ sm.length ≤ 11 ∧ (l = 0 ∨ 5 < kx → ∀ k ∈ sm, k ∈ baseK) ∧ (u.must = true → sm ≠ []) ∧
    sIf (eOr (eB (eBin (eqB false) (eVb 3) (eC (.int 0)))) (eOr (eB (eBin (eqB false) (eBin modD (eVb 4) (eC (.int 3))) (eC (.int 2)))) (eB (eBin (ltI fun i j => decide (j < i)) (eBin ixA (eVb 0) (eC (.str (Str.ofString "keys")))) (eC (.int 5)))))) (sSet 8 (eLc [10] (iSq (eMv 8)) (gN 10) (eNox (m_law_plan_ct1 Fp Fl Ft Fc)) (eNox (m_law_plan_ce2 Fp Fl Ft Fc)))) sNil
      (stP ns a kx b key l c ps x6 x7 (some ⟨.list ((b.takers u).map .str), .ow⟩) x9 none) = .nx (stP ns a kx b key l c ps x6 x7 (some ⟨.list (sm.map .str), .ow⟩) x9 none) := by
  have tl : (b.takers u).length ≤ 11 := Nat.le_trans (takers_len b u) B.len
  have ek := st_keys ns a kx
  by_cases q : l = 0 ∨ c % 3 = 2 ∨ 5 < kx
  · refine ⟨(b.takers u).filter fun k => decide (k ∈ baseK), fun k m => (List.mem_filter.mp m).1, Nat.le_trans (List.length_filter_le _ _) tl, fun _ k m => by simpa using (List.mem_filter.mp m).2, fun m e => ?_, ?_⟩
    · obtain ⟨k, mk, bk⟩ := base_taker B wu m
      have : k ∈ (b.takers u).filter fun k => decide (k ∈ baseK) := List.mem_filter.mpr ⟨mk, by simpa using bk⟩
      rw [e] at this
      cases this
    · have hl := lcL_up (vs := [10]) (g := gN 10) (ft := eNox (m_law_plan_ct1 Fp Fl Ft Fc)) (fe := eNox (m_law_plan_ce2 Fp Fl Ft Fc)) (stP ns a kx b key l c ps x6 x7 (some ⟨.list ((b.takers u).map .str), .sh⟩) x9 none) PyData.str
        (fun k => stP ns a kx b key l c ps x6 x7 (some ⟨.list ((b.takers u).map .str), .sh⟩) x9 (some ⟨.str k, .sh⟩)) (fun k => decide (k ∈ baseK)) PyData.str (b.takers u) [] (fits (by simp; omega)) (fun k _ => by
          refine ⟨by simp [stP], ?_, by simp [stP], fun _ => by simp [stP, m_law_plan_ce2]⟩
          have bq : ∀ x : Str, (x == k) = decide (k = x) := fun x => by
            by_cases e : k = x
            · simp [e]
            · have e' : ¬ x = k := fun z => e z.symm
              simp [e, e']
          rw [← six_base]
          simp [stP, m_law_plan_ct1, flatD, PyData.eqv, sixQ, bq])
      rw [List.nil_append] at hl
      unfold stP at hl ⊢
      generalize stD ns a (some kx) = sd at ek hl ⊢
      generalize (b.takers u).map PyData.str = tks at hl ⊢
      generalize ((b.takers u).filter fun k => decide (k ∈ baseK)).map PyData.str = fks at hl ⊢
      by_cases q1 : l = 0
      · simp [q1] at hl ⊢
        simp [hl]
      · by_cases q2 : c % 3 = 2
        · simp [q1, q2, hl]
        · have q3 : (5 : Int) < kx := by omega
          simp [q1, q2, ek, q3, hl]
  · refine ⟨b.takers u, fun k m => m, tl, fun h => ?_, fun m e => ?_, ?_⟩
    · exact absurd (h.elim .inl fun h => .inr (.inr h)) q
    · obtain ⟨k, mk, _⟩ := base_taker B wu m
      rw [e] at mk
      cases mk
    · have q1 : ¬ l = 0 := fun e => q (.inl e)
      have q2 : ¬ c % 3 = 2 := fun e => q (.inr (.inl e))
      have q3 : ¬ (5 : Int) < kx := fun e => q (.inr (.inr (by omega)))
      unfold stP
      generalize stD ns a (some kx) = sd at ek ⊢
      simp [q1, q2, ek, q3]
end
end GM
namespace GM
open PySem L2 GS
section
variable {Fp Fl Ft Fc : FF}
/-- one piece: nothing, or a plan -/
theorem plan_turn {n h : Nat} {b : Bk} (B : BookOk h b) (hh : h ≤ 100) (ht : LTakers h Ft) (hl : ∀ m, m + 1 = n → PlanGen m Fl) (ns : List Int) (a kx l : Nat) (key : Str) (c : Int) (ps : List (List Nat × Pl)) (p : List Nat) (u : Tr)
    (ou : u.ok = true) (wu : WnB u = true) (hb : key ∈ baseK → noW u = true) (hr : key ∉ baseK → l + 1 ≤ n) (hl0 : l ≤ 1000) (hps : ps.length ≤ 1000) :
    ∃ ρ', optR (gT 2 (gsC (gN 6) (gsC (gN 7) gsN)) (encPT (p, u)) (stP ns a kx b key l c ps none none none none none)) (m_law_plan_b3 Fp Fl Ft Fc) = .nx ρ' ∧
      ((u.must = false ∧ ρ' = stP ns a kx b key l c ps none none none none none) ∨
       ∃ (q : Pl) (a' : Nat), ρ' = stP ns a' (kx + q.size) b key l (c / 5 + 1) (ps ++ [(p, q)]) none none none none none ∧ q.key ∈ b.takers u ∧ (l = 0 ∨ 5 < kx → q.key ∈ baseK) ∧ key ∉ baseK ∧ GoodP b (n - 1) (kx + 1) q.key q) := by
  obtain ⟨sm, s1, s2, s3, s4, s5⟩ := some_val (Fp := Fp) (Fl := Fl) (Ft := Ft) (Fc := Fc) B u wu ns a kx l key c ps (some ⟨encP p, .sh⟩) (some ⟨u.enc, .sh⟩) (some ⟨.bool u.must, .sh⟩)
  have et := ht b u B.bkN ou
  have eg : gT 2 (gsC (gN 6) (gsC (gN 7) gsN)) (encPT (p, u)) (stP ns a kx b key l c ps none none none none none) = some (stP ns a kx b key l c ps (some ⟨encP p, .sh⟩) (some ⟨u.enc, .sh⟩) none none none) := by simp [stP, encPT]
  rw [eg, optR_s]
  -- the first three steps
  have st1 : sSet 8 (eCall 2 none Ft (aCons (eMv 1) (aCons (eMv 7) aNil))) (stP ns a kx b key l c ps (some ⟨encP p, .sh⟩) (some ⟨u.enc, .sh⟩) none none none) = .nx (stP ns a kx b key l c ps (some ⟨encP p, .sh⟩) (some ⟨u.enc, .sh⟩) (some ⟨.list ((b.takers u).map .str), .ow⟩) none none) := by
    unfold stP
    generalize stD ns a (some kx) = sd
    simp [et]
  have zk : (b.takers u = []) → u.must = false := fun e => by
    cases hm : u.must with
    | false => rfl
    | true =>
      obtain ⟨k, mk, _⟩ := base_taker B wu hm
      rw [e] at mk
      cases mk
  by_cases q : u.must = true ∨ (sm ≠ [] ∧ 0 < l ∧ 0 < c / 3 % 3)
  · -- put
    have hne : sm ≠ [] := q.elim s4 fun h => h.1
    have hlen : 0 < sm.length := List.length_pos_iff.mpr hne
    have hm0 := Int.emod_nonneg (c / 9) (show (sm.length : Int) ≠ 0 by omega)
    have hm1 := Int.emod_lt_of_pos (c / 9) (show (0 : Int) < (sm.length : Int) by omega)
    obtain ⟨j, hj⟩ : ∃ j : Nat, c / 9 % (sm.length : Int) = j := ⟨(c / 9 % (sm.length : Int)).toNat, by omega⟩
    have hjl : j < sm.length := by omega
    have ej : L2.atI (sm.map PyData.str) (j : Int) = some (.str (sm[j])) := by
      rw [atI_nat (xs := sm.map PyData.str) (j := j) (v := .str (sm[j])) (by simp [hjl])]
    have mk : sm[j] ∈ sm := List.getElem_mem hjl
    generalize sm[j] = k at ej mk
    have mkt := s1 k mk
    obtain ⟨tk, mtk⟩ := takers_keys mkt
    have nb : key ∉ baseK := fun e => by
      have := want_no (hb e)
      unfold Bk.takers at mkt
      rw [this] at mkt
      cases mkt
    have hn := hr nb
    obtain ⟨qp, a', e, G⟩ := hl (n - 1) (by omega) h b ns a kx (l - 1) k B hh (List.mem_map.mpr ⟨_, mtk, rfl⟩) (by
      unfold rankP
      split
      · omega
      · rename_i nk
        have : ¬ l = 0 := fun e => nk (s3 (.inl e) k mk)
        omega) (by omega)
    have hmax : (if (l : Int) - 1 > 0 then (l : Int) - 1 else 0) = ((l - 1 : Nat) : Int) := by split <;> omega
    have hmD : maxD (.int 0) (.int ((l : Int) - 1)) = some (.sh (.int ((l - 1 : Nat) : Int))) := by
      show some _ = _
      rw [hmax]
    refine ⟨_, ?_, .inr ⟨qp, a', rfl, by rw [G.key]; exact mkt, fun h => by rw [G.key]; exact s3 h k mk, nb, by rw [G.key]; exact G⟩⟩
    unfold m_law_plan_b3
    refine kill_of (stP ns a' (kx + qp.size) b key l (c / 5 + 1) (ps ++ [(p, qp)]) (some ⟨encP p, .sh⟩) (some ⟨u.enc, .sh⟩) (some ⟨.list (sm.map .str), .ow⟩) (some ⟨.bool u.must, .sh⟩) none) (by simp [stP]) (seq_of _ st1 (seq_of _ (must_val u [] _ _ _ _ _ _ _) (seq_of _ s5 ?_))) (by simp [stP])
    have z1 : ps.length < sizeLine := fitsl (by omega)
    have z0 : (0 : Int) < (sm.length : Int) := by omega
    have cond : (u.must || (decide ((0 : Int) < (sm.length : Int)) && (decide ((0 : Int) < (l : Int)) && decide (0 < c / 3 % 3)))) = true := by
      rcases q with q | ⟨_, q2, q3⟩
      · rw [q]; rfl
      · have q2' : (0 : Int) < (l : Int) := by omega
        rw [decide_eq_true z0, decide_eq_true q2', decide_eq_true q3]; simp
    have e' : Fl [some ⟨stD ns (a : Int) (some (kx : Int)), .io⟩, some ⟨b.enc, .sh⟩, some ⟨.str k, .sh⟩, some ⟨.int ((l - 1 : Nat) : Int), .sh⟩] = .ok (.sh qp.enc) [some ⟨stD ns (a' : Int) (some ((kx + qp.size : Nat) : Int)), .io⟩, none, none, none] := e
    unfold stP
    generalize stD ns (a : Int) (some (kx : Int)) = sd at e' ⊢
    generalize stD ns (a' : Int) (some ((kx + qp.size : Nat) : Int)) = sd' at e' ⊢
    have hx : Pl.encX (p, qp) = .tuple [encP p, qp.enc] := pencX_eq _
    rw [List.map_append, List.map_cons, List.map_nil, hx]
    cases hm : u.must with
    | true => simp [resO_mod z0, hj, ej, hmD, e', z1]
    | false =>
      rw [hm, Bool.false_or, Bool.and_eq_true, Bool.and_eq_true, decide_eq_true_eq, decide_eq_true_eq, decide_eq_true_eq] at cond
      have c1 : 0 < sm.length := hlen
      have c2 : 0 < l := by omega
      simp [cond.2.2, c1, c2, resO_mod z0, hj, ej, hmD, e', z1]
  · -- nothing
    have hm : u.must = false := by
      cases hm : u.must with
      | false => rfl
      | true => exact absurd (.inl hm) q
    refine ⟨_, ?_, .inl ⟨hm, rfl⟩⟩
    unfold m_law_plan_b3
    refine kill_of (stP ns a kx b key l c ps (some ⟨encP p, .sh⟩) (some ⟨u.enc, .sh⟩) (some ⟨.list (sm.map .str), .ow⟩) (some ⟨.bool u.must, .sh⟩) none) (by simp [stP]) (seq_of _ st1 (seq_of _ (must_val u [] _ _ _ _ _ _ _) (seq_of _ s5 ?_))) (by simp [stP])
    unfold stP
    generalize stD ns (a : Int) (some (kx : Int)) = sd
    rw [hm]
    by_cases q1 : sm = []
    · subst q1
      simp
    · have q1' : 0 < sm.length := List.length_pos_iff.mpr q1
      by_cases q2 : 0 < l
      · have q3 : ¬ 0 < c / 3 % 3 := fun e => q (.inr ⟨q1, q2, e⟩)
        simp [q1', q2, q3]
      · simp [q1', q2]
/-- the pieces, one behind the other -/
theorem plan_loop {n h : Nat} {b : Bk} (B : BookOk h b) (hh : h ≤ 100) (ht : LTakers h Ft) (hl : ∀ m, m + 1 = n → PlanGen m Fl) (ns : List Int) (l c0 : Nat) (key : Str)
    (hr : key ∉ baseK → l + 1 ≤ n) (hl0 : l ≤ 1000) (hc : 6 ≤ c0 → l = 0) : ∀ (us : List (List Nat × Tr)) (a kx : Nat) (c : Int) (ps : List (List Nat × Pl)), (∀ x ∈ us, x.2.ok = true ∧ WnB x.2 = true ∧ (key ∈ baseK → noW x.2 = true)) → ps.length + us.length ≤ 50 →
      kx = c0 + Pl.sizeL ps → Pl.sizeL ps ≤ 51 * ps.length + 2551 * min (Pl.sizeL ps) (5 - c0) → Pl.depL ps ≤ n → (6 ≤ c0 → Pl.sizeL ps ≤ ps.length) → Pl.nbL ps ≤ min (Pl.sizeL ps) (6 - c0) →
    ∃ (qs : List (List Nat × Pl)) (a' : Nat) (c' : Int), forL (gT 2 (gsC (gN 6) (gsC (gN 7) gsN))) (m_law_plan_b3 Fp Fl Ft Fc) (us.map encPT) (stP ns a kx b key l c ps none none none none none) = .nx (stP ns a' (c0 + Pl.sizeL (ps ++ qs)) b key l c' (ps ++ qs) none none none none none) ∧
      PutsOk b us qs ∧ qs.length ≤ us.length ∧ Pl.sizeL (ps ++ qs) ≤ 51 * (ps ++ qs).length + 2551 * min (Pl.sizeL (ps ++ qs)) (5 - c0) ∧ Pl.depL (ps ++ qs) ≤ n ∧ (6 ≤ c0 → Pl.sizeL (ps ++ qs) ≤ (ps ++ qs).length) ∧ (key ∈ baseK → qs = []) ∧ Pl.nbL (ps ++ qs) ≤ 6 - c0
  | [], a, kx, c, ps, _, _, hk, h1, h2, h3, h4 => ⟨[], a, c, by rw [hk, List.append_nil]; rfl, .nil, Nat.le_refl _, by rw [List.append_nil]; exact h1, by rw [List.append_nil]; exact h2, by rw [List.append_nil]; exact h3, fun _ => rfl, by rw [List.append_nil]; omega⟩
  | (p, u) :: us, a, kx, c, ps, hu, hle, hk, h1, h2, h3, h4 => by
    rw [List.length_cons] at hle
    obtain ⟨ou, wu, bu⟩ := hu (p, u) (by simp)
    obtain ⟨ρ', e, hc'⟩ := plan_turn (Fp := Fp) (Fc := Fc) B hh ht hl ns a kx l key c ps p u ou wu bu hr hl0 (by omega)
    rw [List.map_cons, forL_cons2, e, turnR_nx]
    rcases hc' with ⟨m, rfl⟩ | ⟨q, a1, rfl, mt, qb, nb, G⟩
    · obtain ⟨qs, a', c', r1, r2, r3, r4, r5, r6, r7, r8⟩ := plan_loop B hh ht hl ns l c0 key hr hl0 hc us a kx c ps (fun x mx => hu x (by simp [mx])) (by omega) hk h1 h2 h3 h4
      exact ⟨qs, a', c', r1, .skip m r2, by rw [List.length_cons]; omega, r4, r5, r6, r7, r8⟩
    · have hz := sizeL_snoc ps (p, q)
      have hd := depL_snoc ps (p, q)
      dsimp only at hz hd
      have hn := hr nb
      have Gs := G.size
      have Gd := G.dep
      have hb2 := nbL_snoc ps (p, q)
      dsimp only at hb2
      have Gn := G.nb
      have Gz := nb_size q
      have hone : (l = 0 ∨ 5 < kx) → q.size = 1 := fun h => by
        obtain ⟨t, ht'⟩ := takers_keys mt
        have bq := qb h
        cases G.ok with
        | @mk k t' ps' e1 e2 =>
          have : t' = t := by
            have := treeOf_mem B.nd ht'
            dsimp only [Pl.key] at this
            rw [e1] at this
            exact Option.some.inj this
          subst this
          have nw := B.bs _ ht' bq
          have none : ∀ {vs : List (List Nat × Tr)} {rs : List (List Nat × Pl)}, (∀ x ∈ vs, noW x.2 = true) → PutsOk b vs rs → rs = [] := fun {vs rs} hv r => by
            induction vs generalizing rs with
            | nil => cases r; rfl
            | cons v vs ih =>
              cases r with
              | skip _ r => exact ih (fun x mx => hv x (by simp [mx])) r
              | put m _ _ =>
                have := want_no (hv _ List.mem_cons_self)
                unfold Bk.takers at m
                dsimp only at this
                rw [this] at m
                cases m
          have := none (fun x mx => nw.w x.2 (by rw [← pps_snd t' []]; exact List.mem_map_of_mem mx)) e2
          subst this
          simp [Pl.size, Pl.sizeL]
      obtain ⟨qs, a', c', r1, r2, r3, r4, r5, r6, r7, r8⟩ := plan_loop B hh ht hl ns l c0 key hr hl0 hc us a1 (kx + q.size) (c / 5 + 1) (ps ++ [(p, q)]) (fun x mx => hu x (by simp [mx])) (by simp; omega) (by rw [hz]; omega) (by
          rw [hz, List.length_append, List.length_singleton]
          by_cases h6 : 5 ≤ kx
          · unfold limP at Gs
            rw [if_pos (by omega)] at Gs
            have : min (Pl.sizeL ps) (5 - c0) ≤ min (Pl.sizeL ps + q.size) (5 - c0) := by omega
            have := Nat.mul_le_mul_left 2551 this
            omega
          · unfold limP at Gs
            rw [if_neg (by omega)] at Gs
            have e1 : min (Pl.sizeL ps) (5 - c0) = Pl.sizeL ps := by omega
            have e2 : min (Pl.sizeL ps + q.size) (5 - c0) = Pl.sizeL ps + min q.size (6 - (kx + 1)) := by omega
            rw [e2, Nat.mul_add]
            rw [e1] at h1
            omega) (by rw [hd]; omega) (fun h6 => by rw [hz, List.length_append, List.length_singleton, hone (.inl (hc h6))]; have := h3 h6; omega) (by
          rw [hz, hb2]
          by_cases kb : q.key ∈ baseK
          · rw [if_pos kb] at Gn
            omega
          · rw [if_neg kb] at Gn
            have : ¬ 5 < kx := fun e => kb (qb (.inr e))
            omega)
      rw [List.append_assoc] at r1 r4 r5 r6 r8
      exact ⟨(p, q) :: qs, a', c', r1, .put mt G.ok r2, by simp; omega, r4, r5, r6, fun e => absurd e nb, r8⟩
end
/-- a plan of a tree of the book -/
theorem law_plan_ok {n : Nat} {Fp Fl Ft Fc : FF} (hp : ∀ h, h ≤ 100 → AllP h Fp) (hl : ∀ m, m + 1 = n → PlanGen m Fl) (ht : ∀ h, h ≤ 100 → LTakers h Ft) (hc : CellSp Fc) : PlanGen n (fnF 11 4 (m_law_plan Fp Fl Ft Fc)) := fun h b ns a kx l key B hh mk hr hl0 => by
  obtain ⟨c, a0, h1⟩ := hc ns a (some kx)
  obtain ⟨⟨k', t⟩, mt, rfl⟩ := List.mem_map.mp mk
  have T := B.trees _ mt
  have et := treeOf_mem B.nd mt
  dsimp only at T et hr ⊢
  have e1 := hp h hh t [] T.ht (by have := T.sz; omega) (by simp; have := T.ht; omega)
  have e1' : Fp [some ⟨t.enc, .sh⟩, some ⟨.tuple [], .sh⟩] = .ok (.fr (.list ((t.pps []).map encPT))) [none, none] := e1
  obtain ⟨l', hl', hl1, hl2⟩ : ∃ l' : Nat, (if kx + 1 < 6 then l else 0) = l' ∧ l' ≤ l ∧ (6 ≤ kx + 1 → l' = 0) := ⟨_, rfl, by split <;> omega, fun h => by rw [if_neg (by omega)]⟩
  have hus : ∀ x ∈ t.pps [], x.2.ok = true ∧ WnB x.2 = true ∧ (k' ∈ baseK → noW x.2 = true) := fun x mx => by
    have mp : x.2 ∈ t.pieces := by rw [← pps_snd t []]; exact List.mem_map_of_mem mx
    exact ⟨piece_ok T.ok _ mp, T.wn _ mp, fun bk => (B.bs _ mt bk).w _ mp⟩
  have hpl : (t.pps []).length ≤ 50 := by rw [pps_len]; exact T.sz
  obtain ⟨qs, a', c', r1, r2, r3, r4, r5, r6, r7, r8⟩ := plan_loop (Fp := Fp) (Fc := Fc) B hh (ht h hh) hl ns l' (kx + 1) k' (fun nb => by unfold rankP at hr; rw [if_neg nb] at hr; omega) (by omega) hl2 (t.pps []) a0 (kx + 1) c [] hus (by simpa using hpl) (by simp [Pl.sizeL]) (by simp [Pl.sizeL]) (by simp [Pl.depL]) (by simp [Pl.sizeL]) (by simp [Pl.nbL])
  rw [List.nil_append] at r1 r4 r5 r6 r8
  refine ⟨.mk k' qs, a', ?_, .mk et r2, rfl, by rw [Pl.dep]; omega, ?_, by
    show Pl.nb (.mk k' qs) ≤ if k' ∈ baseK then 0 else max 1 (7 - (kx + 1))
    rw [Pl.nb]
    by_cases kb : k' ∈ baseK
    · rw [if_pos kb, if_pos kb, r7 kb]
      simp [Pl.nbL]
    · rw [if_neg kb, if_neg kb]
      omega⟩
  · rw [m_law_plan_eq]
    unfold m_law_plan
    have ek := st_keys ns a0 kx
    have ek2 := st_keys ns a0 ((kx : Int) + 1)
    have ep := st_put ns a0 kx ((kx : Int) + 1)
    have hix : ixA b.enc (.int 1) = some (.sh (.tuple (b.trees.map encKT))) := ix_trees b
    have hdx := ix_dict et
    have kz : Pl.size (.mk k' qs) = 1 + Pl.sizeL qs := by rw [Pl.size]
    have r1' : forL (gT 2 (gsC (gN 6) (gsC (gN 7) gsN))) (m_law_plan_b3 Fp Fl Ft Fc) ((t.pps []).map encPT) (stP ns a0 (kx + 1) b k' l' c [] none none none none none) = .nx (stP ns a' (kx + (Pl.size (.mk k' qs))) b k' l' c' qs none none none none none) := by
      rw [r1]
      congr 1
      unfold stP
      rw [kz, show kx + 1 + Pl.sizeL qs = kx + (1 + Pl.sizeL qs) by omega]
    rw [penc_eq]
    refine fin_seq [some ⟨stD ns a0 (some kx), .io⟩, some ⟨b.enc, .sh⟩, some ⟨.str k', .sh⟩, some ⟨.int l, .sh⟩, some ⟨.int c, .sh⟩, none, none, none, none, none, none] (by
      generalize stD ns a (some kx) = s0 at h1 ⊢
      generalize stD ns a0 (some kx) = s1 at h1 ⊢
      simp [h1]) ?_
    refine fin_seq [some ⟨stD ns a0 (some ((kx : Int) + 1)), .io⟩, some ⟨b.enc, .sh⟩, some ⟨.str k', .sh⟩, some ⟨.int l, .sh⟩, some ⟨.int c, .sh⟩, none, none, none, none, none, none] (by
      generalize stD ns a0 (some ((kx : Int) + 1)) = s2 at ep ⊢
      generalize stD ns a0 (some kx) = s1 at ek ep ⊢
      simp [ek, ep]) ?_
    refine fin_seq [some ⟨stD ns a0 (some ((kx : Int) + 1)), .io⟩, some ⟨b.enc, .sh⟩, some ⟨.str k', .sh⟩, some ⟨.int l', .sh⟩, some ⟨.int c, .sh⟩, none, none, none, none, none, none] (by
      generalize stD ns a0 (some ((kx : Int) + 1)) = s2 at ek2 ⊢
      by_cases q : kx + 1 < 6
      · rw [if_pos q] at hl'
        have q' : (kx : Int) + 1 < 6 := by omega
        simp [ek2, q', hl']
      · rw [if_neg q] at hl'
        have q' : ¬ (kx : Int) + 1 < 6 := by omega
        simp [ek2, q', ← hl']) ?_
    refine fin_seq (stP ns a0 (kx + 1) b k' l' c [] none none none none none) (by simp [stP]) ?_
    refine fin_seq (stP ns a' (kx + (Pl.size (.mk k' qs))) b k' l' c' qs none none none none none) ?_ ?_
    · rw [← r1']
      unfold stP
      generalize stD ns (a0 : Int) (some ((kx + 1 : Nat) : Int)) = s2
      have hd : ∃ ps, b.dict = .dict ps := ⟨_, rfl⟩
      simp [hix, hdx, e1']
    · unfold stP
      generalize stD ns (a' : Int) (some ((kx + (Pl.size (.mk k' qs)) : Nat) : Int)) = s3
      have z : qs.length < sizeLine := fitsl (by omega)
      simp [Pl.key, Pl.puts]
  · rw [Pl.size]
    unfold limP
    split
    · rename_i h6
      have := r6 h6
      omega
    · rename_i h6
      have e : min (1 + Pl.sizeL qs) (6 - (kx + 1)) = 1 + min (Pl.sizeL qs) (5 - (kx + 1)) := by omega
      rw [e, Nat.mul_add]
      omega
end GM
namespace GM
open PySem L2 GS
/-- place_word(place); slots 0:place 1:number -/
def m_place_word_ce1 : EF := (eCB (un1 strD) (aCons (eVb 1) aNil))
def m_place_word : SF := (sEnd (sRet (eIf (eB (eBin (eqB false) (eCB (un1 lenD) (aCons (eVb 0) aNil)) (eC (.int 0)))) (eC (.str (Str.ofString "."))) (eM1 joinD (eC (.str (Str.ofString "."))) (eLc [1] (iSq (eMv 0)) (gN 1) (eNox eYes) (eNox (m_place_word_ce1)))))))
theorem m_place_word_eq (ρ : Rho) : fnF 2 1 (m_place_word) ρ = finR 1 (m_place_word (ρ ++ [none])) := fnF_eq 2 1 _
/-- plan_words(plan); slots 0:plan 1:words 2:place 3:one -/
def m_plan_words_b1 (F_place_word F_plan_words : FF) : SF := (sKill [2, 3] (sSet 1 (eBin addD (eBin addD (eVb 1) (eLst (aCons (eCall 1 none F_place_word (aCons (eMv 2) aNil)) aNil))) (eCall 1 none F_plan_words (aCons (eMv 3) aNil)))))
def m_plan_words (F_place_word F_plan_words : FF) : SF := (sSeq (sSet 1 (eLst (aCons (eC (.str (Str.ofString "("))) (aCons (eBin ixA (eVb 0) (eC (.int 0))) aNil)))) (sSeq (sFor (iSq (eBin ixA (eVb 0) (eC (.int 1)))) (gT 2 (gsC (gN 2) (gsC (gN 3) gsN))) (m_plan_words_b1 F_place_word F_plan_words)) (sEnd (sRet (eBin addD (eVb 1) (eLst (aCons (eC (.str (Str.ofString ")"))) aNil)))))))
theorem m_plan_words_eq (F_place_word F_plan_words : FF) (ρ : Rho) : fnF 4 1 (m_plan_words F_place_word F_plan_words) ρ = finR 1 (m_plan_words F_place_word F_plan_words (ρ ++ [none, none, none])) := fnF_eq 4 1 _
/-- plan_text(plan); slots 0:plan -/
def m_plan_text (F_plan_words : FF) : SF := (sEnd (sRet (eM1 joinD (eC (.str (Str.ofString " "))) (eCall 1 none F_plan_words (aCons (eMv 0) aNil)))))
theorem m_plan_text_eq (F_plan_words : FF) (ρ : Rho) : fnF 1 1 (m_plan_text F_plan_words) ρ = finR 1 (m_plan_text F_plan_words (ρ ++ [])) := fnF_eq 1 1 _
end GM
namespace GM
open PySem L2 GS
def figW (d : Nat) : Str := ((toString (d : Int) : String) : Str)
def placeW (p : List Nat) : Str := if p = [] then DT else Txt.join DT (p.map figW)
mutual
def Pl.words : Pl → List Str
  | .mk k ps => OP :: k :: (Pl.wordsL ps ++ [CL])
def Pl.wordsL : List (List Nat × Pl) → List Str
  | [] => []
  | x :: r => Pl.wordsX x ++ Pl.wordsL r
def Pl.wordsX : List Nat × Pl → List Str
  | (p, q) => placeW p :: q.words
end
def plcOk (p : List Nat) : Bool := p.all (fun d => decide (d < 8)) && decide (p.length ≤ 20)
mutual
def Pl.tok : Pl → Bool
  | .mk k ps => keyB k && Pl.tokL ps
def Pl.tokL : List (List Nat × Pl) → Bool
  | [] => true
  | x :: r => Pl.tokX x && Pl.tokL r
def Pl.tokX : List Nat × Pl → Bool
  | (p, q) => plcOk p && q.tok
end
theorem fig_all : ∀ d, d < 8 → figW d ∈ figs ∧ fgN (figW d) = (d : Int) ∧ 46 ∉ (figW d).cps.toList ∧ 1 ≤ (figW d).length ∧ (figW d).length ≤ 1 ∧ ((d : Int).natAbs.log2 < 1920) := by
  intro d h
  have : ∀ d ∈ List.range 8, figW d ∈ figs ∧ fgN (figW d) = (d : Int) ∧ 46 ∉ (figW d).cps.toList ∧ 1 ≤ (figW d).length ∧ (figW d).length ≤ 1 ∧ ((d : Int).natAbs.log2 < 1920) := by decide +kernel
  exact this d (List.mem_range.mpr h)
theorem plc_mem {p : List Nat} (h : plcOk p = true) : (∀ d ∈ p, d < 8) ∧ p.length ≤ 20 := by
  unfold plcOk at h
  rw [Bool.and_eq_true, List.all_eq_true] at h
  exact ⟨fun d m => by simpa using h.1 d m, by simpa using h.2⟩
theorem split_place {p : List Nat} (h : plcOk p = true) (hn : p ≠ []) : Txt.split (Txt.join DT (p.map figW)) DT = p.map figW :=
  TL.split_join (s := 46) (S := []) cpDT (by decide +kernel) (by simpa using hn) fun w m => by
    obtain ⟨d, md, rfl⟩ := List.mem_map.mp m
    exact (fig_all d ((plc_mem h).1 d md)).2.2.1
theorem plD_place {p : List Nat} (h : plcOk p = true) : plD (placeW p) = some (encP p) := by
  unfold placeW plD
  by_cases hn : p = []
  · subst hn
    rw [if_pos rfl, if_pos rfl]
    rfl
  · rw [if_neg hn]
    have hs := split_place h hn
    have hd : ¬ Txt.join DT (p.map figW) = DT := fun e => by
      rw [e] at hs
      have h0 : Txt.split DT DT = [Str.ofString "", Str.ofString ""] := by decide +kernel
      rw [h0] at hs
      cases p with
      | nil => exact hn rfl
      | cons d p =>
        rw [List.map_cons] at hs
        injection hs with h1 _
        have := (fig_all d ((plc_mem h).1 d (by simp))).2.2.2.1
        rw [← h1] at this
        revert this
        decide +kernel
    rw [if_neg hd, hs]
    have ha : (p.map figW).all isFg = true := by
      rw [List.all_map, List.all_eq_true]
      intro d md
      obtain ⟨q1, _⟩ := fig_all d ((plc_mem h).1 d md)
      show isFg (figW d) = true
      unfold isFg
      rw [List.any_eq_true]
      exact ⟨_, q1, by simp⟩
    rw [if_pos ha]
    unfold encP
    congr 1
    rw [List.map_map]
    congr 1
    refine List.map_congr_left fun d md => ?_
    show PyData.int (fgN (figW d)) = .int (d : Int)
    rw [(fig_all d ((plc_mem h).1 d md)).2.1]
theorem dt1 : DT.length = 1 := by decide +kernel
theorem placeW_len {p : List Nat} (h : plcOk p = true) : (placeW p).length ≤ 40 := by
  unfold placeW
  split
  · rw [dt1]; omega
  · have h1 := join_len DT (p.map figW)
    have h2 := (plc_mem h).2
    have h3 : ((p.map figW).map (·.length)).sum ≤ 1 * (p.map figW).length := sum_le fun w m => by
      obtain ⟨d, md, rfl⟩ := List.mem_map.mp m
      exact (fig_all d ((plc_mem h).1 d md)).2.2.2.2.1
    rw [dt1, List.length_map] at *
    omega
theorem placeW_chr {p : List Nat} (h : plcOk p = true) : ∀ c ∈ (placeW p).cps.toList, c = 46 ∨ (48 ≤ c ∧ c ≤ 57) := fun c m => by
  have hd : DT.cps.toList = [46] := cpDT
  unfold placeW at m
  split at m
  · rw [hd] at m; simp at m; exact .inl m
  · rcases join_mem m with q | ⟨w, mw, q⟩
    · rw [hd] at q; simp at q; exact .inl q
    · obtain ⟨d, md, rfl⟩ := List.mem_map.mp mw
      have : ∀ d ∈ List.range 8, ∀ c ∈ (figW d).cps.toList, 48 ≤ c ∧ c ≤ 57 := by decide +kernel
      exact .inr (this d (List.mem_range.mpr ((plc_mem h).1 d md)) c q)
theorem placeW_ncl {p : List Nat} (h : plcOk p = true) : ¬ placeW p = CL := fun e => by
  have hc : CL.cps.toList = [41] := by decide +kernel
  have := placeW_chr h 41 (by rw [e, hc]; simp)
  omega
def PlaceWSp (F : FF) : Prop := ∀ p : List Nat, plcOk p = true → F [some ⟨encP p, .sh⟩] = .ok (.sh (.str (placeW p))) [none]
theorem place_join {p : List Nat} (h : plcOk p = true) : joinOk DT (p.map figW) = true :=
  joinOk_of (b := 1) (n := 20) (fun w m => by
    obtain ⟨d, md, rfl⟩ := List.mem_map.mp m
    exact (fig_all d ((plc_mem h).1 d md)).2.2.2.2.1) (by rw [List.length_map]; exact (plc_mem h).2) (by rw [dt1]; decide)
theorem strD_fig {d : Nat} (h : d < 8) : strD (.int (d : Int)) = some (.sh (.str (figW d))) := if_pos (fig_all d h).2.2.2.2.2
theorem place_word_ok : PlaceWSp (fnF 2 1 m_place_word) := fun p h => by
  rw [m_place_word_eq]
  have hl := (plc_mem h).2
  have e := lcL_all (vs := [1]) (g := gN 1) (fe := eNox m_place_word_ce1) [some ⟨encP p, .sh⟩, none] (fun d : Nat => PyData.int (d : Int)) (fun d => [some ⟨encP p, .sh⟩, some ⟨.int (d : Int), .sh⟩]) (fun d => .str (figW d)) p [] (fits (by simp; omega)) (fun d md => by
    have := strD_fig ((plc_mem h).1 d md)
    simp [m_place_word_ce1, this])
  rw [List.nil_append, show p.map (fun d => PyData.str (figW d)) = (p.map figW).map PyData.str by rw [List.map_map]; rfl] at e
  have hj := joinD_l DT (p.map figW) (place_join h)
  unfold placeW
  by_cases q : p = []
  · subst q
    simp [m_place_word, encP]
  · have q1 : ¬ (p.length : Int) = 0 := fun e => q (List.eq_nil_of_length_eq_zero (by omega))
    rw [if_neg q]
    unfold encP at e ⊢
    generalize p.map figW = fs at e hj ⊢
    simp [m_place_word, q, e, hj]
theorem wordsL_snoc (ps : List (List Nat × Pl)) (x : List Nat × Pl) : Pl.wordsL (ps ++ [x]) = Pl.wordsL ps ++ (placeW x.1 :: x.2.words) := by
  induction ps with
  | nil => obtain ⟨p, q⟩ := x; simp [Pl.wordsL, Pl.wordsX]
  | cons y ps ih => rw [List.cons_append, Pl.wordsL, ih, Pl.wordsL, List.append_assoc]
theorem words_eq (q : Pl) : q.words = OP :: q.key :: (Pl.wordsL q.puts ++ [CL]) := by
  cases q with
  | mk k ps => rw [Pl.words]; rfl
theorem tok_eq (q : Pl) : q.tok = (keyB q.key && Pl.tokL q.puts) := by
  cases q with
  | mk k ps => rw [Pl.tok]; rfl
theorem tokL_mem {ps : List (List Nat × Pl)} (h : Pl.tokL ps = true) : ∀ x ∈ ps, plcOk x.1 = true ∧ x.2.tok = true := by
  induction ps with
  | nil => intro x m; cases m
  | cons y ps ih =>
    rw [Pl.tokL, Bool.and_eq_true] at h
    intro x m
    cases m with
    | head =>
      obtain ⟨p, q⟩ := y
      have := h.1
      rw [Pl.tokX, Bool.and_eq_true] at this
      exact this
    | tail _ m => exact ih h.2 x m
theorem dep_eq (q : Pl) : q.dep = Pl.depL q.puts + 1 := by
  cases q with
  | mk k ps => rw [Pl.dep]; rfl
theorem depL_mem {ps : List (List Nat × Pl)} : ∀ x ∈ ps, x.2.dep ≤ Pl.depL ps := by
  induction ps with
  | nil => intro x m; cases m
  | cons y ps ih =>
    intro x m
    rw [Pl.depL]
    cases m with
    | head => obtain ⟨p, q⟩ := y; rw [Pl.depX]; show q.dep ≤ _; omega
    | tail _ m => have := ih x m; omega
def WordsQ (n : Nat) (F : FF) : Prop := ∀ q : Pl, q.tok = true → q.dep ≤ n → q.words.length ≤ 1000000 → F [some ⟨q.enc, .sh⟩] = .ok (.fr (.list (q.words.map .str))) [none]
theorem wordsL_take (ps : List (List Nat × Pl)) (i : Nat) : (Pl.wordsL (ps.take i)).length ≤ (Pl.wordsL ps).length := by
  induction ps generalizing i with
  | nil => simp
  | cons y ps ih =>
    cases i with
    | zero => simp [Pl.wordsL]
    | succ i => have := ih i; rw [List.take_succ_cons, Pl.wordsL, Pl.wordsL, List.length_append, List.length_append]; omega
theorem mid_of {α : Type} {xs : List α} {f : α → D} {pre post : List D} {d : D} (hd : xs.map f = pre ++ d :: post) : ∃ x, xs[pre.length]? = some x ∧ d = f x ∧ xs.take (pre.length + 1) = xs.take pre.length ++ [x] := by
  have h2 : (xs.map f)[pre.length]? = some d := by rw [hd, List.getElem?_append_right (Nat.le_refl _), Nat.sub_self]; rfl
  rw [List.getElem?_map] at h2
  obtain ⟨x, h3, h4⟩ := Option.map_eq_some_iff.mp h2
  exact ⟨x, h3, h4.symm, by rw [List.take_succ, h3]; rfl⟩
theorem plan_words_ok {n : Nat} {Fp Fw : FF} (hp : PlaceWSp Fp) (hw : ∀ m, m + 1 = n → WordsQ m Fw) : WordsQ n (fnF 4 1 (m_plan_words Fp Fw)) := fun q tk hd hz => by
  rw [m_plan_words_eq]
  rw [tok_eq, Bool.and_eq_true] at tk
  rw [dep_eq] at hd
  rw [words_eq] at hz ⊢
  have hz' : (Pl.wordsL q.puts).length ≤ 999990 + 7 := by simp at hz; omega
  obtain ⟨acc, hf, ha⟩ := forL_by (S := List Str) (g := gT 2 (gsC (gN 2) (gsC (gN 3) gsN))) (b := m_plan_words_b1 Fp Fw) (fun acc => [some ⟨q.enc, .sh⟩, some ⟨.list (acc.map .str), .ow⟩, none, none])
    (fun pre acc => acc = OP :: q.key :: Pl.wordsL (q.puts.take pre.length)) (q.puts.map Pl.encX) [OP, q.key] (by simp [Pl.wordsL]) (fun pre d post acc hd' ha => by
      obtain ⟨⟨p, r⟩, h1, rfl, h3⟩ := mid_of hd'
      have mx : (p, r) ∈ q.puts := List.mem_of_getElem? h1
      obtain ⟨t1, t2⟩ := tokL_mem tk.2 _ mx
      have dx := depL_mem _ mx
      dsimp only at t1 t2 dx
      have hl := wordsL_take q.puts (pre.length + 1)
      rw [h3, wordsL_snoc, List.length_append, List.length_cons] at hl
      dsimp only at hl
      have e1 := hp p t1
      have e2 := hw (n - 1) (by omega) r t2 (by omega) (by omega)
      refine ⟨acc ++ (placeW p :: r.words), ?_, by rw [List.length_append, List.length_singleton, h3, wordsL_snoc, ha]; rfl⟩
      have al : acc.length + 1 + r.words.length ≤ sizeLine := fits (by rw [ha]; simp; omega)
      have al0 : acc.length + 1 ≤ sizeLine := by omega
      rw [pencX_eq]
      simp [m_plan_words_b1, e1, e2, al, al0]
      try omega)
  rw [List.length_map, List.take_length] at ha
  subst ha
  have z : (Pl.wordsL q.puts).length + 1 + 1 + 1 ≤ sizeLine := fits (by omega)
  rw [penc_eq] at hf ⊢
  have hf' : forL (gT 2 (gsC (gN 2) (gsC (gN 3) gsN))) (m_plan_words_b1 Fp Fw) (q.puts.map Pl.encX) [some ⟨.tuple [.str q.key, .tuple (q.puts.map Pl.encX)], .sh⟩, some ⟨.list [.str OP, .str q.key], .ow⟩, none, none] = _ := hf
  simp [m_plan_words, hf', z]
end GM
namespace GM
open PySem L2 GS
end GM
namespace GM
open PySem L2 GS
theorem encP_clean (p : List Nat) : cleanB (encP p) = true ∧ (encP p).depth ≤ 1 := by
  refine ⟨?_, ?_⟩
  · unfold encP
    rw [cleanB]
    refine cleanL_of fun d m => ?_
    obtain ⟨k, mk, rfl⟩ := List.mem_map.mp m
    rfl
  · unfold encP
    have := depthAll_of (ds := p.map fun n : Nat => PyData.int (n : Int)) (n := 0) fun d m => by
      obtain ⟨k, mk, rfl⟩ := List.mem_map.mp m
      simp [PyData.depth]
    rw [PyData.depth]
    omega
def TextQ (n : Nat) (F : FF) : Prop := ∀ q : Pl, q.tok = true → q.dep ≤ n → q.words.length ≤ 100000 → joinOk BL q.words = true → F [some ⟨q.enc, .sh⟩] = .ok (.sh (.str (lineT q.words))) [none]
theorem plan_text_ok {n : Nat} {Fw : FF} (hw : WordsQ n Fw) : TextQ n (fnF 1 1 (m_plan_text Fw)) := fun q tk hd hz hj => by
  rw [m_plan_text_eq]
  have e := hw q tk hd (by omega)
  have hjj := joinD_l BL q.words hj
  unfold lineT
  generalize q.words = ws at e hjj ⊢
  simp [m_plan_text, e, hjj]
def TakeQ (n : Nat) (F : FF) : Prop := ∀ (A C : List Str) (q : Pl), q.tok = true → q.dep ≤ n → WOk (A ++ q.words ++ C) → F [some ⟨.list ((A ++ q.words ++ C).map .str), .sh⟩, some ⟨.int A.length, .sh⟩] = .ok (.sh (.tuple [q.enc, .int ((A.length + q.words.length : Nat) : Int)])) [none, none]
section
variable {n : Nat} {Fw Ft Fx Fp Fk : FF}
theorem word_mid {A C : List Str} {w : Str} : (A ++ w :: C)[A.length]? = some w := by rw [List.getElem?_append_right (Nat.le_refl _), Nat.sub_self]; rfl
theorem take_loopQ (hw : WordSp Fw) (ht : TakeQ n Ft) (hp : PlaceSp Fp) {W : List Str} (ok : WOk W) (at0 : Nat) (key : Str) : ∀ (ps : List (List Nat × Pl)) (f : Nat) (A C : List Str) (acc : List D), Pl.tokL ps = true → Pl.depL ps ≤ n → W = A ++ (Pl.wordsL ps ++ CL :: C) → ps.length < f → acc.length + ps.length ≤ 200000 →
    whileL (m_take_plan_t1 Fw Ft Fx Fp Fk) (m_take_plan_b2 Fw Ft Fx Fp Fk) f [some ⟨.list (W.map .str), .sh⟩, some ⟨.int at0, .sh⟩, some ⟨.str key, .sh⟩, some ⟨.list acc, .ow⟩, some ⟨.int A.length, .sh⟩, none, none, none] = .nx [some ⟨.list (W.map .str), .sh⟩, some ⟨.int at0, .sh⟩, some ⟨.str key, .sh⟩, some ⟨.list (acc ++ ps.map Pl.encX), .ow⟩, some ⟨.int ((A.length + (Pl.wordsL ps).length : Nat) : Int), .sh⟩, none, none, none]
  | _, 0, _, _, _, _, _, _, hf, _ => by omega
  | [], f + 1, A, C, acc, _, _, hW, _, _ => by
    have e1 := hw W A.length (by rw [hW]; simp)
    rw [show W[A.length]? = some CL by rw [hW, Pl.wordsL, List.nil_append]; exact word_mid] at e1
    dsimp only at e1
    rw [whileL_succ]
    simp [m_take_plan_t1, e1, Pl.wordsL]
  | (p, r) :: ps, f + 1, A, C, acc, tk, dp, hW, hf, hl => by
    rw [List.length_cons] at hf hl
    rw [Pl.tokL, Pl.tokX, Bool.and_eq_true, Bool.and_eq_true] at tk
    rw [Pl.depL, Pl.depX] at dp
    have hW1 : W = A ++ placeW p :: (r.words ++ (Pl.wordsL ps ++ CL :: C)) := by rw [hW, Pl.wordsL, Pl.wordsX]; simp
    have hat : W[A.length]? = some (placeW p) := by rw [hW1]; exact word_mid
    have hmem : placeW p ∈ W := List.mem_of_getElem? hat
    have e1 := hw W A.length (by rw [hW]; simp)
    rw [hat] at e1
    dsimp only at e1
    have hc := placeW_ncl tk.1.1
    have t1 : m_take_plan_t1 Fw Ft Fx Fp Fk [some ⟨.list (W.map .str), .sh⟩, some ⟨.int at0, .sh⟩, some ⟨.str key, .sh⟩, some ⟨.list acc, .ow⟩, some ⟨.int A.length, .sh⟩, none, none, none] = .ok (.sh (.bool true)) [some ⟨.list (W.map .str), .sh⟩, some ⟨.int at0, .sh⟩, some ⟨.str key, .sh⟩, some ⟨.list acc, .ow⟩, some ⟨.int A.length, .sh⟩, none, none, none] := by
      simp [m_take_plan_t1, e1, hc]
    rw [whileL_succ, t1, bindBS_ok, if_pos rfl]
    have e2 := hp (placeW p) (ok.len _ hmem) (ok.ok _ hmem)
    rw [plD_place tk.1.1] at e2
    have e3 := at_str hat
    have hW2 : W = (A ++ [placeW p]) ++ r.words ++ (Pl.wordsL ps ++ CL :: C) := by rw [hW1]; simp
    have e4 := ht (A ++ [placeW p]) (Pl.wordsL ps ++ CL :: C) r tk.1.2 (by omega) (by rw [← hW2]; exact ok)
    rw [← hW2, List.length_append, List.length_singleton] at e4
    simp only [Int.natCast_add, Int.cast_ofNat_Int] at e4
    have hal : acc.length < sizeLine := fitsl (by omega)
    have pe : ∃ ds, encP p = .tuple ds := ⟨_, rfl⟩
    obtain ⟨ds, pe⟩ := pe
    have b1 : m_take_plan_b2 Fw Ft Fx Fp Fk [some ⟨.list (W.map .str), .sh⟩, some ⟨.int at0, .sh⟩, some ⟨.str key, .sh⟩, some ⟨.list acc, .ow⟩, some ⟨.int A.length, .sh⟩, none, none, none] = .nx [some ⟨.list (W.map .str), .sh⟩, some ⟨.int at0, .sh⟩, some ⟨.str key, .sh⟩, some ⟨.list (acc ++ [Pl.encX (p, r)]), .ow⟩, some ⟨.int ((A.length : Int) + 1 + r.words.length), .sh⟩, none, none, none] := by
      rw [pencX_eq]
      rw [Option.getD_some, pe] at e2
      dsimp only
      rw [pe]
      try simp at e4
      simp [m_take_plan_b2, e3, e2, e4, hal]
    rw [b1, turnR_nx]
    have ih := take_loopQ hw ht hp ok at0 key ps f (A ++ [placeW p] ++ r.words) C (acc ++ [Pl.encX (p, r)]) tk.2 (by omega) (by rw [hW2]; try simp) (by omega) (by simp; try omega)
    rw [show ((A ++ [placeW p] ++ r.words).length : Int) = (A.length : Int) + 1 + r.words.length by simp; try omega] at ih
    rw [ih]
    congr 1
    rw [Pl.wordsL, Pl.wordsX]
    simp
    omega
theorem take_plan_okQ (hw : WordSp Fw) (ht : ∀ m, m + 1 = n → TakeQ m Ft) (hp : PlaceSp Fp) (hk : KeySp Fk) : TakeQ n (fnF 8 2 (m_take_plan Fw Ft Fx Fp Fk)) := fun A C q tk hd ok => by
  rw [m_take_plan_eq]
  rw [tok_eq, Bool.and_eq_true] at tk
  rw [dep_eq] at hd
  rw [words_eq] at ok ⊢
  generalize hW : A ++ OP :: q.key :: (Pl.wordsL q.puts ++ [CL]) ++ C = W at ok ⊢
  have hW1 : W = A ++ OP :: (q.key :: (Pl.wordsL q.puts ++ [CL]) ++ C) := by rw [← hW]; simp
  have hW2 : W = (A ++ [OP]) ++ q.key :: ((Pl.wordsL q.puts ++ [CL]) ++ C) := by rw [← hW]; simp
  have hW3 : W = (A ++ [OP, q.key]) ++ (Pl.wordsL q.puts ++ CL :: C) := by rw [← hW]; simp
  have e1 := hw W A.length (by rw [hW1]; simp)
  rw [show W[A.length]? = some OP by rw [hW1]; exact word_mid] at e1
  have e2 := hw W (A.length + 1) (by rw [hW1]; simp)
  have h2 : W[A.length + 1]? = some q.key := by rw [hW2, show A.length + 1 = (A ++ [OP]).length by simp]; exact word_mid
  rw [h2] at e2
  dsimp only at e1 e2
  simp only [Int.natCast_add, Int.cast_ofNat_Int] at e2
  try simp at e2
  have e3 := hk q.key (fits (by have := keyB_len tk.1; omega))
  rw [tk.1] at e3
  have pl : q.puts.length ≤ W.length := by
    have : ∀ ps : List (List Nat × Pl), ps.length ≤ (Pl.wordsL ps).length := fun ps => by
      induction ps with
      | nil => simp
      | cons x ps ih => obtain ⟨p, r⟩ := x; rw [Pl.wordsL, Pl.wordsX, List.length_cons, List.length_append, List.length_cons]; omega
    have := this q.puts
    rw [hW3]
    simp
    omega
  have L := take_loopQ (Fx := Fx) (Fk := Fk) hw (ht (n - 1) (by omega)) hp ok A.length q.key q.puts wFuel (A ++ [OP, q.key]) C [] tk.2 (by omega) hW3 (by have := ok.num; unfold wFuel; omega) (by have := ok.num; simp; omega)
  rw [List.nil_append, List.length_append, show [OP, q.key].length = 2 from rfl] at L
  simp only [Int.natCast_add, Int.cast_ofNat_Int] at L
  rw [penc_eq]
  have hfin : ((A.length + (OP :: q.key :: (Pl.wordsL q.puts ++ [CL])).length : Nat) : Int) = (A.length : Int) + 2 + (Pl.wordsL q.puts).length + 1 := by simp; omega
  rw [hfin]
  try simp at L
  simp [m_take_plan, e1, e2, e3, L, outR_2]
end
end GM
namespace GM
open PySem L2 GS
theorem kid_lt : ∀ (t : Tr) (p : List Nat), t.ok = true → p ∈ t.places → ∀ d ∈ p, d < 8 := fun t p => by
  induction p generalizing t with
  | nil => intro _ _ d m; cases m
  | cons k p ih =>
    intro ok mp d md
    rw [places_kids] at mp
    rcases List.mem_cons.mp mp with e | mp
    · cases e
    · have gen : ∀ (ts : List Tr) (j : Nat), (k :: p) ∈ Tr.placesL j ts → k < j + ts.length ∧ ∃ s ∈ ts, p ∈ s.places := fun ts => by
        induction ts with
        | nil => intro j m; simp [Tr.placesL] at m
        | cons s ts ih2 =>
          intro j m
          rw [Tr.placesL] at m
          rcases List.mem_append.mp m with m | m
          · obtain ⟨r, mr, e⟩ := List.mem_map.mp m
            cases e
            exact ⟨by simp, s, by simp, mr⟩
          · obtain ⟨h1, s', ms, h2⟩ := ih2 (j + 1) m
            exact ⟨by simp; omega, s', by simp [ms], h2⟩
      obtain ⟨h1, s, ms, h2⟩ := gen t.kids 0 mp
      cases t with
      | knot n tk ks =>
        rw [Tr.ok] at ok
        simp only [Bool.and_eq_true, decide_eq_true_eq] at ok
        have : ks.length ≤ 8 := ok.2.2.2.1
        rcases List.mem_cons.mp md with rfl | md
        · simp [Tr.kids] at h1; omega
        · exact ih s (okL_mem ok.2.2.2.2 s ms) h2 d md
      | _ => simp [Tr.kids] at ms
theorem pps_place {t : Tr} {x : List Nat × Tr} (m : x ∈ t.pps []) : x.1 ∈ t.places := by
  have : x.1 ∈ (t.pps []).map (·.1) := List.mem_map_of_mem m
  rw [pps_fst] at this
  simpa using this
theorem treeOf_in {b : Bk} {k : Str} {t : Tr} (h : b.treeOf k = some t) : (k, t) ∈ b.trees := by
  have gen : ∀ (ts : List (Str × Tr)) (o : Option Tr), ts.foldl (fun acc p => if p.1 = k then some p.2 else acc) o = some t → (k, t) ∈ ts ∨ o = some t := fun ts => by
    induction ts with
    | nil => intro o h; exact .inr h
    | cons p ts ih =>
      intro o h
      rcases ih _ h with m | e
      · exact .inl (by simp [m])
      · dsimp only at e
        split at e
        · rename_i q
          cases e
          exact .inl (by rw [← q]; simp)
        · exact .inr e
  rcases gen b.trees none h with m | e
  · exact m
  · cases e
section
variable {h : Nat} {b : Bk}
theorem BookOk.keyB (B : BookOk h b) {k : Str} {t : Tr} (m : (k, t) ∈ b.trees) : keyB k = true := allK_ok k (B.keys _ m)
mutual
theorem PlOk.tok (B : BookOk h b) (hh : h ≤ 20) : ∀ {q : Pl}, PlOk b q → q.tok = true
  | _, .mk (t := t) e r => by
    have mt := treeOf_in e
    have T := B.trees _ mt
    rw [Pl.tok, B.keyB mt, Bool.true_and]
    exact PutsOk.tok B hh r fun x mx => by
      have mp := pps_place mx
      unfold plcOk
      rw [Bool.and_eq_true, List.all_eq_true]
      refine ⟨fun d md => by simpa using kid_lt t x.1 T.ok mp d md, ?_⟩
      have := place_len t x.1 mp
      have := T.ht
      dsimp only at this
      simp
      omega
theorem PutsOk.tok (B : BookOk h b) (hh : h ≤ 20) : ∀ {us : List (List Nat × Tr)} {ps : List (List Nat × Pl)}, PutsOk b us ps → (∀ x ∈ us, plcOk x.1 = true) → Pl.tokL ps = true
  | _, _, .nil, _ => rfl
  | _, _, .skip _ r, hu => PutsOk.tok B hh r fun x m => hu x (by simp [m])
  | _, _, .put _ o r, hu => by
    rw [Pl.tokL, Pl.tokX, hu _ List.mem_cons_self, PlOk.tok B hh o, PutsOk.tok B hh r fun x m => hu x (by simp [m])]
    rfl
end
end
mutual
theorem pwords_len : ∀ q : Pl, q.words.length + 1 ≤ 4 * q.size
  | .mk k ps => by
    have := pwordsL_len ps
    rw [Pl.words, Pl.size]
    simp
    omega
theorem pwordsL_len : ∀ ps : List (List Nat × Pl), (Pl.wordsL ps).length ≤ 4 * Pl.sizeL ps
  | [] => by simp [Pl.wordsL]
  | x :: r => by
    have h1 := pwordsX_len x
    have h2 := pwordsL_len r
    rw [Pl.wordsL, Pl.sizeL, List.length_append]
    omega
theorem pwordsX_len : ∀ x : List Nat × Pl, (Pl.wordsX x).length ≤ 4 * Pl.sizeX x
  | (p, q) => by
    have := pwords_len q
    rw [Pl.wordsX, Pl.sizeX, List.length_cons]
    omega
end
structure WdQ (w : Str) : Prop where
  len : w.length ≤ 40
  chr : ∀ c ∈ w.cps.toList, 33 ≤ c ∧ c ≤ 122
theorem wq_key {k : Str} (h : keyB k = true) : WdQ k := by
  refine ⟨by have := keyB_len h; omega, fun c m => ?_⟩
  have hs : ∀ c ∈ SML.cps.toList, 33 ≤ c ∧ c ≤ 122 := by decide +kernel
  have hf : ∀ c ∈ FIG.cps.toList, 33 ≤ c ∧ c ≤ 122 := by decide +kernel
  exact (nameL_mem h c m).elim (hs c) (hf c)
theorem wq_place {p : List Nat} (h : plcOk p = true) : WdQ (placeW p) := ⟨placeW_len h, fun c m => by have := placeW_chr h c m; omega⟩
theorem wq_op : WdQ OP := ⟨by decide +kernel, by decide +kernel⟩
theorem wq_cl : WdQ CL := ⟨by decide +kernel, by decide +kernel⟩
mutual
theorem words_wq : ∀ q : Pl, q.tok = true → ∀ w ∈ q.words, WdQ w
  | .mk k ps, h, w, m => by
    rw [Pl.tok, Bool.and_eq_true] at h
    rw [Pl.words] at m
    rcases List.mem_cons.mp m with rfl | m
    · exact wq_op
    · rcases List.mem_cons.mp m with rfl | m
      · exact wq_key h.1
      · rcases List.mem_append.mp m with m | m
        · exact wordsL_wq ps h.2 w m
        · simp at m; subst m; exact wq_cl
theorem wordsL_wq : ∀ ps : List (List Nat × Pl), Pl.tokL ps = true → ∀ w ∈ Pl.wordsL ps, WdQ w
  | [], _, w, m => by simp [Pl.wordsL] at m
  | x :: r, h, w, m => by
    rw [Pl.tokL, Bool.and_eq_true] at h
    rw [Pl.wordsL] at m
    rcases List.mem_append.mp m with m | m
    · exact wordsX_wq x h.1 w m
    · exact wordsL_wq r h.2 w m
theorem wordsX_wq : ∀ x : List Nat × Pl, Pl.tokX x = true → ∀ w ∈ Pl.wordsX x, WdQ w
  | (p, q), h, w, m => by
    rw [Pl.tokX, Bool.and_eq_true] at h
    rw [Pl.wordsX] at m
    rcases List.mem_cons.mp m with rfl | m
    · exact wq_place h.1
    · exact words_wq q h.2 w m
end
mutual
theorem penc_clean : ∀ q : Pl, q.tok = true → cleanB q.enc = true ∧ q.enc.depth ≤ 3 * q.dep
  | .mk k ps, h => by
    rw [Pl.tok, Bool.and_eq_true] at h
    obtain ⟨h1, h2⟩ := pencL_clean ps h.2
    rw [Pl.enc, Pl.dep]
    refine ⟨?_, ?_⟩
    · rw [cleanB, cleanL, cleanL, cleanL, cleanB, cleanB, h1, keyB_strOk h.1]; rfl
    · simp only [PyData.depth, PyData.depthAll]
      omega
theorem pencL_clean : ∀ ps : List (List Nat × Pl), Pl.tokL ps = true → cleanL (Pl.encL ps) = true ∧ PyData.depthAll (Pl.encL ps) ≤ 3 * Pl.depL ps + 1
  | [], _ => ⟨rfl, by simp [Pl.encL, PyData.depthAll]⟩
  | x :: r, h => by
    rw [Pl.tokL, Bool.and_eq_true] at h
    obtain ⟨h1, h2⟩ := pencX_clean x h.1
    obtain ⟨h3, h4⟩ := pencL_clean r h.2
    rw [Pl.encL, Pl.depL]
    refine ⟨by rw [cleanL, h1, h3]; rfl, ?_⟩
    simp only [PyData.depthAll]
    omega
theorem pencX_clean : ∀ x : List Nat × Pl, Pl.tokX x = true → cleanB (Pl.encX x) = true ∧ (Pl.encX x).depth ≤ 3 * Pl.depX x + 1
  | (p, q), h => by
    rw [Pl.tokX, Bool.and_eq_true] at h
    obtain ⟨h1, h2⟩ := penc_clean q h.2
    obtain ⟨h3, h4⟩ := encP_clean p
    rw [Pl.encX, Pl.depX]
    have : 1 ≤ q.dep := by rw [dep_eq]; omega
    refine ⟨by rw [cleanB, cleanL, cleanL, cleanL, h1, h3]; rfl, ?_⟩
    simp only [PyData.depth, PyData.depthAll]
    omega
end
section
variable {Fa Fc : FF}
end
end GM
namespace GM
open PySem L2 GS
end GM
namespace GM
open PySem L2 GS
structure PQ (q : Pl) : Prop where
  tok : q.tok = true
  dep : q.dep ≤ 6
  size : q.size ≤ 12755
theorem GoodP.pq {h n : Nat} {b : Bk} {key : Str} {q : Pl} (B : BookOk h b) (hh : h ≤ 20) (G : GoodP b n 1 key q) (hn : n ≤ 5) : PQ q := by
  refine ⟨G.ok.tok B hh, by have := G.dep; omega, ?_⟩
  have := G.size
  unfold limP at this
  rw [if_neg (by omega)] at this
  have : min q.size (6 - 1) ≤ 5 := by omega
  have := Nat.mul_le_mul_left 2551 this
  omega
theorem forL_same {α : Type} {g : D → Rho → Option Rho} {b : SF} (ρ : Rho) (it : α → D) (as : List α) (h : ∀ a ∈ as, optR (g (it a) ρ) b = .nx ρ) : forL g b (as.map it) ρ = .nx ρ := by
  have := forL_look (g := g) (b := b) ρ ρ it (fun _ => true) (.sh .none) as fun a m => by rw [h a m]; rfl
  rw [this, List.all_eq_true.mpr fun _ _ => rfl]
  rfl
theorem bl1 : BL.length = 1 := by decide +kernel
/-- the words may be joined and read -/
theorem PQ.line {q : Pl} (Q : PQ q) : joinOk BL q.words = true ∧ (lineT q.words).length ≤ 10000000 ∧ q.words.length ≤ 51019 ∧ (∀ w ∈ q.words, w.length ≤ 40) ∧ (∀ w ∈ q.words, 32 ∉ w.cps.toList) ∧ ∀ w ∈ q.words, PyData.strOk w = true := by
  have h1 := pwords_len q
  have h2 := Q.size
  have h3 := words_wq q Q.tok
  have h4 : ∀ w ∈ q.words, w.length ≤ 40 := fun w m => (h3 w m).len
  refine ⟨joinOk_of (b := 40) (n := 60000) h4 (by omega) (by rw [bl1]; decide), ?_, by omega, h4, fun w m e => by have := (h3 w m).chr 32 e; omega, fun w m => strOk_of fun c mc => by have := (h3 w m).chr c mc; omega⟩
  have h5 := join_len BL q.words
  have h6 := sum_le h4
  rw [bl1] at h5
  unfold lineT
  omega
section
variable {Ft Fx Fr Fw Fp Fa Fb Fc : FF}
end
end GM
namespace GS
open PySem L2 RT
section
variable {X : Cx} {C : Ct} {ρ ρ1 : Rho} {σ σ1 : St} {B H B1 H1 : Hp} {e tg : Expr} {te : TE} {fe : EF} {pos p : Pos} {K : KW}
end
end GS
namespace GS
open PySem L2 PySem.Spec PyProof.Rows PySem.W PySem.Calls
section
variable {prog : Program} {w : World} {A : Around} {E : Value → Shared → Prop} {s : Shared}
end
section
variable {X : Cx}
end
section
variable {K : KW} {B H : Hp}
end
end GS
namespace GS
open PySem L2 PySem.Spec PyProof.Rows
/-- a def's promise where no repr is under way -/
structure FnG (P : Program) (w : World) (K : PySem.W.Frag) (mg : Str → Option Value) (base : Heap) (k : Nat) (f : Addr) (fd : FuncData) (ps : List Str) (sp : Sp) : Prop where
  ln : ∀ vs H Q E, sp vs H Q E → vs.length = ps.length
  go : ∀ (A : Around) (out : List Env) (t : Shared) (H : Hp) (ar : Args) (zs : List Value) (vs : List V) (Q : VK) (E : XK),
    A.guards = some [] → Room k A → Env0 P w K mg base A out t H → BindsTo t fd ar (ps.zip zs) → Vals vs zs → sp vs H Q E →
    codeAny (model P w) A (.call (.ref f) ar) (CR (L2.CX P w) out P w H t Q E) t
theorem FnG.of {P : Program} {w : World} {K : PySem.W.Frag} {mg : Str → Option Value} {base : Heap} {k : Nat} {f : Addr} {fd : FuncData} {ps : List Str} {sp : Sp} (F : FnOk P w K mg base (L2.CX P w) k f fd ps sp) : FnG P w K mg base k f fd ps sp :=
  ⟨F.len, fun A o t H ar zs vs Q E _ => F.run A o t H ar zs vs Q E⟩
section
variable {P : Program} {w : World} {K : PySem.W.Frag} {mg : Str → Option Value} {base : Heap}
end
section
variable {P : Program} {w : World} {K : KW} {mg : Str → Option Value} {base : Heap} {cv : Str → Value}
end
section
variable {X : Cx} {C : Ct} {k n : Nat} {f : Addr} {fd : FuncData} {ps : List Str} {sp : Sp} {W : L2.St → XK} {x : Str} {p pos : Pos} {e e0 : Expr} {es : List Expr} {t : TA} {t0 : TE} {F : FF} {g : AF} {f0 : EF}
end
end GS
namespace GS
open PySem L2 PySem.Spec PyProof.Rows
end GS
namespace L2
open PySem PySem.W PySem.Calls PySem.Spec PyProof.Rows
section
variable {X : Cx} {e1 e2 : Expr} {t : TA} {pz pd pos pos2 : Pos}
end
end L2
namespace GS
open PySem L2
section
variable {K : KW} {B H : Hp}
end
section
variable {X : Cx} {C : Ct} {e1 e2 : Expr} {t : TA} {f : AF} {pz pd pos pos2 : Pos}
end
end GS
namespace GS
open PySem L2
section
variable {K : KW} {C : Ct} {ρ ρ1 ρ2 : Rho} {σ σ1 σ2 : St} {B H B1 H1 B2 H2 : Hp} {a p : Addr} {o : HO} {Ed : Ends}
theorem fr_keep (x : Ext ρ1 σ1 B1 H1 ρ2 σ2 B2 H2) (hb : B1 a = none) (ho : H1 a = some o) (hn : ¬ OwnA ρ1 σ1 a) : B2 a = none ∧ H2 a = some o ∧ ¬ OwnA ρ2 σ2 a := by
  have nn : ¬ New ρ1 σ1 H1 a := fun h => h.elim (fun e => by rw [ho] at e; cases e) hn
  refine ⟨?_, x.kp a o ho hn, fun h => nn (x.sub a h)⟩
  cases e : B2 a with
  | none => rfl
  | some u =>
    rcases x.nw a u e with h | h
    · rw [hb] at h; cases h
    · exact absurd h nn
theorem Sim.chg (S : Sim K ρ σ B H) (hb : B a = none) (hn : ¬ OwnA ρ σ a) (o : HO) : Sim K ρ σ B (upd H a o) := by
  refine ⟨fun b u e => by rw [upd_ne (ne_of_none e hb)]; exact S.bh b u e, S.len, fun i c h => ?_, S.dj⟩
  obtain ⟨v, e, q⟩ := S.sl i c h
  refine ⟨v, e, q.mono (Same.refl B) fun b hv hb' ho hf => ⟨hb', upd_ne fun z => hn ⟨i, c, h, hf, ?_⟩⟩⟩
  rw [e, hv, z]
theorem Sim.untr (S : Sim K ρ σ B H) {i : Nat} (hi : i < ρ.length) (hio : ioAt ρ i = false) (v : V) : Sim K (ρ.set i none) (σ.set i (some v)) B H ∧ Ext ρ σ B H (ρ.set i none) (σ.set i (some v)) B H := by
  have hl := S.len
  have at1 : ∀ {j : Nat} {c : Cel}, (ρ.set i none)[j]? = some (some c) → i ≠ j ∧ ρ[j]? = some (some c) := fun {j c} h => by
    by_cases e : i = j
    · subst e
      rw [List.getElem?_set, if_pos rfl, if_pos hi] at h
      cases h
    · rw [List.getElem?_set, if_neg e] at h
      exact ⟨e, h⟩
  have oth : ∀ {j : Nat}, i ≠ j → (σ.set i (some v))[j]? = σ[j]? := fun {j} h => by rw [List.getElem?_set, if_neg h]
  refine ⟨⟨S.bh, by rw [List.length_set, List.length_set]; exact hl, fun j c h => ?_, fun j k cj ck a hj hk nj nk ej ek => ?_⟩, ⟨Same.refl B, fun _ _ e => .inl e, fun _ _ e _ => e, fun a ha => ?_, fun j c hj hf => ?_, fun j c hj hf => ?_⟩⟩
  · obtain ⟨ne, h⟩ := at1 h
    rw [oth ne]
    exact S.sl j c h
  · obtain ⟨n1, h1⟩ := at1 hj
    obtain ⟨n2, h2⟩ := at1 hk
    rw [oth n1] at ej
    rw [oth n2] at ek
    exact S.dj j k cj ck a h1 h2 nj nk ej ek
  · obtain ⟨j, c, hj, nf, e⟩ := ha
    obtain ⟨n1, h1⟩ := at1 hj
    rw [oth n1] at e
    exact .inr ⟨j, c, h1, nf, e⟩
  · have ne : i ≠ j := fun e => by subst e; exact not_io hio hj hf
    exact ⟨oth ne, c, by rw [List.getElem?_set, if_neg ne]; exact hj, hf⟩
  · obtain ⟨n1, h1⟩ := at1 hj
    exact ⟨c, h1, hf⟩
theorem Sim.track (S : Sim K ρ σ B H) {i : Nat} (hi : i < ρ.length) {d : D} (e : σ[i]? = some (some (.ref p))) (hb : B p = none) (ow : Ow K B p (H p) d) (hn : ¬ OwnA ρ σ p) : Sim K (ρ.set i (some ⟨d, .ow⟩)) σ B H := by
  have at1 : ∀ {j : Nat} {c : Cel}, (ρ.set i (some ⟨d, .ow⟩))[j]? = some (some c) → (i = j ∧ c = ⟨d, .ow⟩) ∨ (i ≠ j ∧ ρ[j]? = some (some c)) := fun {j c} h => by
    by_cases q : i = j
    · subst q
      rw [List.getElem?_set, if_pos rfl, if_pos hi] at h
      cases h
      exact .inl ⟨rfl, rfl⟩
    · rw [List.getElem?_set, if_neg q] at h
      exact .inr ⟨q, h⟩
  refine ⟨S.bh, by rw [List.length_set]; exact S.len, fun j c h => ?_, fun j k cj ck a hj hk nj nk ej ek => ?_⟩
  · rcases at1 h with ⟨rfl, rfl⟩ | ⟨_, h⟩
    · exact ⟨_, e, .inr ⟨by simp, p, rfl, hb, ow⟩⟩
    · exact S.sl j c h
  · rcases at1 hj with ⟨rfl, rfl⟩ | ⟨n1, h1⟩
    · rcases at1 hk with ⟨rfl, rfl⟩ | ⟨n2, h2⟩
      · rfl
      · rw [e] at ej
        cases ej
        exact absurd ⟨k, ck, h2, nk, ek⟩ hn
    · rcases at1 hk with ⟨rfl, rfl⟩ | ⟨n2, h2⟩
      · rw [e] at ek
        cases ek
        exact absurd ⟨j, cj, h1, nj, ej⟩ hn
      · exact S.dj j k cj ck a h1 h2 nj nk ej ek
/-- what is done at last: an object that nobody held is changed, shared, and a new owned one put into a slot -/
theorem Ext.last (x : Ext ρ σ B H ρ1 σ1 B1 H1) {i : Nat} {d : D} (hi : i < ρ1.length) (hio : ioAt ρ1 i = false) (e : σ1[i]? = some (some (.ref p))) (hb : B1 a = none) (na : New ρ σ H a) (np : New ρ σ H p) (o : HO) :
    Ext ρ σ B H (ρ1.set i (some ⟨d, .ow⟩)) σ1 (upd B1 a o) (upd H1 a o) := by
  have at1 : ∀ {j : Nat} {c : Cel}, (ρ1.set i (some ⟨d, .ow⟩))[j]? = some (some c) → (i = j ∧ c = ⟨d, .ow⟩) ∨ (i ≠ j ∧ ρ1[j]? = some (some c)) := fun {j c} h => by
    by_cases q : i = j
    · subst q
      rw [List.getElem?_set, if_pos rfl, if_pos hi] at h
      cases h
      exact .inl ⟨rfl, rfl⟩
    · rw [List.getElem?_set, if_neg q] at h
      exact .inr ⟨q, h⟩
  refine ⟨fun b u q => ?_, fun b u q => ?_, fun b u q hn => ?_, fun b h => ?_, fun j c hj hf => ?_, fun j c hj hf => ?_⟩
  · have := x.bb b u q
    rw [upd_ne (ne_of_none this hb)]
    exact this
  · by_cases z : b = a
    · subst z; exact .inr na
    · rw [upd_ne z] at q; exact x.nw b u q
  · have : b ≠ a := fun z => by
      subst z
      rcases na with h | h
      · rw [q] at h; cases h
      · exact hn h
    rw [upd_ne this]
    exact x.kp b u q hn
  · obtain ⟨j, c, hj, nf, ej⟩ := h
    rcases at1 hj with ⟨rfl, rfl⟩ | ⟨n1, h1⟩
    · rw [e] at ej
      cases ej
      exact np
    · exact x.sub b ⟨j, c, h1, nf, ej⟩
  · obtain ⟨h1, c', h2, h3⟩ := x.io j c hj hf
    have ne : i ≠ j := fun q => by subst q; exact not_io hio h2 h3
    exact ⟨h1, c', by rw [List.getElem?_set, if_neg ne]; exact h2, h3⟩
  · rcases at1 hj with ⟨rfl, rfl⟩ | ⟨n1, h1⟩
    · cases hf
    · exact x.oi j c h1 hf
theorem LkE.bindS2 {te : TE} {fe : EF} (l : LkE C te fe) (S : Sim C.K ρ1 σ1 B1 H1) (x0 : Ext ρ σ B H ρ1 σ1 B1 H1) {k : Hd → Rho → RS} {Q' : VK} (g : GoodS C ρ σ B H Ed (bindES (fe ρ1) k))
    (h : ∀ hd ρ2 v B2 H2, Sim C.K ρ2 σ1 B2 H2 → Ext ρ1 σ1 B1 H1 ρ2 σ1 B2 H2 → HdOk C.K (New ρ1 σ1 H1) ρ2 σ1 B2 H2 v hd → GoodS C ρ σ B H Ed (k hd ρ2) → Q' v H2) : te σ1 H1 Q' := by
  refine l ρ1 σ1 B1 H1 Q' S ?_
  cases e : fe ρ1 with
  | stuck => rw [e] at g; exact g
  | ok hd ρ2 => rw [e] at g; exact fun v B2 H2 s x y => h hd ρ2 v B2 H2 s x y g
  | exc x ρ2 => rw [e] at g; exact fun c d B' H' s x => g c d σ1 B' H' s (x0.trans x)
end
section
variable {X : Cx} {C : Ct} {e1 e2 c : Expr} {t1 t2 tc : TE} {f1 f2 fc : EF} {rest : List Stmt} {u : TS} {g : SF} {pos : Pos}
/-- x = [e1, e2], x[0].append(c) -/
def sNest (i : Nat) (f1 f2 fc : EF) : SF := fun ρ => bindES (f1 ρ) fun h1 ρ1 => match h1 with
  | .fr (.list d1) => bindES (eCap f2 ρ1) fun h2 ρ2 => match h2 with
    | .sh d2 => if i < ρ2.length ∧ ioAt ρ2 i = false then bindES (eCap fc (ρ2.set i none)) fun hc ρ3 => match hc with
      | .sh y => if i < ρ3.length ∧ ioAt ρ3 i = false ∧ d1.length < sizeLine then .nx (ρ3.set i (some ⟨.list [.list (d1 ++ [y]), d2], .ow⟩)) else .stuck
      | _ => .stuck else .stuck
    | _ => .stuck
  | _ => .stuck
theorem lk_nest {i : Nat} (l1 : LkE C t1 f1) (l2 : LkE C t2 f2) (lc : LkE C tc fc) : LkS C (tSeq (tAsg (tLst (tCons t1 (tCons t2 tNil))) (gName i)) (tDrop (tBM C.K "list" rAppend (tOp (rIx C.K) (tVar i) (tC (.int 0))) (tCons tc tNil)))) (sNest i f1 f2 fc) := fun ρ σ B H E S gd => by
  unfold sNest at gd
  show t1 σ H _
  refine l1.bindS S gd fun hd ρ1 v1 B1 H1 S1 x1 y1 g1 => ?_
  match hd, y1, g1 with
  | .fr (.list d1), y1, g1 =>
    obtain ⟨a, rfl, hb1, ⟨vs, ea, ra⟩, hn1, na⟩ := y1
    show t2 σ H1 _
    refine l2.cap.bindS2 S1 x1 g1 fun hd2 ρ2 v2 B2 H2 S2 x2 y2 g2 => ?_
    match hd2, y2, g2 with
    | .sh d2, y2, g2 =>
      obtain ⟨hb2, ea2, hn2⟩ := fr_keep x2 hb1 ea hn1
      dsimp only at g2
      split at g2
      case isFalse => exact g2.elim
      rename_i hg
      have fit : ([V.ref a, v2] : List V).length ≤ sizeLine := Nat.le_trans (by decide : 2 ≤ 1000) (small (Nat.le_refl _))
      refine ⟨fit, fun p hp => ?_⟩
      have x12 := x1.trans x2
      obtain ⟨Sp, xp⟩ := S2.newH hp (.lst [.ref a, v2])
      obtain ⟨bp, op⟩ := S2.free hp
      obtain ⟨S3, x3⟩ := Sp.untr hg.1 hg.2 (.ref p)
      have X3 := (x12.trans xp).trans x3
      have np : New ρ σ H p := x12.back (.inl hp)
      have ne : a ≠ p := fun z => by subst z; rw [hp] at ea2; cases ea2
      have li : i < σ.length := by rw [← S2.len]; exact hg.1
      have ei : (σ.set i (some (V.ref p)))[i]? = some (some (.ref p)) := by rw [List.getElem?_set, if_pos rfl, if_pos li]
      have sq : SqL C.K (upd H2 p (.lst [.ref a, v2])) p [.ref a, v2] := .inl (.inl upd_same)
      have ha2 : upd H2 p (.lst [.ref a, v2]) a = some (.lst vs) := by rw [upd_ne ne]; exact ea2
      refine ⟨.ref p, ei, .inl ⟨p, [.ref a, v2], 0, .ref a, rfl, rfl, sq, rfl, tyL (.inl (.inl ha2)), ?_⟩⟩
      show tc (σ.set i (some (V.ref p))) _ _
      refine lc.cap.bindS2 S3 X3 g2 fun hdc ρ3 y B3 H3 S4 x4 y4 g4 => ?_
      match hdc, y4, g4 with
      | .sh yd, y4, g4 =>
        dsimp only at g4
        split at g4
        case isFalse => exact g4.elim
        rename_i hg4
        have onp : ¬ OwnA (ρ2.set i none) (σ.set i (some (V.ref p))) p := fun z => by
          have := x3.sub p z
          rcases this with h | h
          · rw [upd_same] at h; cases h
          · exact op h
        have ona : ¬ OwnA (ρ2.set i none) (σ.set i (some (V.ref p))) a := fun z => by
          have := x3.sub a z
          rcases this with h | h
          · rw [ha2] at h; cases h
          · exact hn2 h
        obtain ⟨qp1, qp2, qp3⟩ := fr_keep x4 bp upd_same onp
        obtain ⟨qa1, qa2, qa3⟩ := fr_keep x4 hb2 ha2 ona
        refine ⟨a, vs, y, rfl, rfl, qa2, by rw [ra.length]; exact hg4.2.2, ?_⟩
        have X4 := X3.trans x4
        have ei3 := ei
        have Sc := S4.chg qa1 qa3 (.lst (vs ++ [y]))
        have Ss := Sc.share qa1 (by rw [upd_same]) qa3
        have sB : Same B3 (upd B3 a (.lst (vs ++ [y]))) := fun b w e => by rw [upd_ne (ne_of_none e qa1)]; exact e
        have bb13 : Same B1 B3 := x2.bb.trans (xp.bb.trans (x3.bb.trans x4.bb))
        have r1 : Rp C.K (upd B3 a (.lst (vs ++ [y]))) (.ref a) (.list (d1 ++ [yd])) := .lst (.inl (.inl upd_same)) ((ra.mono (bb13.trans sB)).append (.cons ((show Rp C.K B3 y yd from y4).mono sB) .nil))
        have r2 : Rp C.K (upd B3 a (.lst (vs ++ [y]))) v2 d2 := (show Rp C.K B2 v2 d2 from y2).mono ((xp.bb.trans (x3.bb.trans x4.bb)).trans sB)
        have ow : Ow C.K (upd B3 a (.lst (vs ++ [y]))) p (upd H3 a (.lst (vs ++ [y])) p) (.list [.list (d1 ++ [yd]), d2]) := ⟨[.ref a, v2], by rw [upd_ne (Ne.symm ne)]; exact qp2, .cons r1 (.cons r2 .nil)⟩
        have Sf := Ss.track hg4.1 (d := .list [.list (d1 ++ [yd]), d2]) ei (by rw [upd_ne (Ne.symm ne)]; exact qp1) ow qp3
        exact g4 _ _ _ Sf (X4.last hg4.1 hg4.2.1 ei qa1 na np _)
      | .fr _, _, g4 => exact g4.elim
      | .bw _, _, g4 => exact g4.elim
    | .fr _, _, g2 => exact g2.elim
    | .bw _, _, g2 => exact g2.elim
  | .fr .none, _, g1 => exact g1.elim
  | .fr (.bool _), _, g1 => exact g1.elim
  | .fr (.int _), _, g1 => exact g1.elim
  | .fr (.str _), _, g1 => exact g1.elim
  | .fr (.tuple _), _, g1 => exact g1.elim
  | .fr (.dict _), _, g1 => exact g1.elim
  | .sh _, _, g1 => exact g1.elim
  | .bw _, _, g1 => exact g1.elim
theorem sss_nest {i : Nat} {x : Str} {pos' pos2 ql q0 q1 q2 q3 q4 : Pos} {kk : Nat} (hN : X.N.Nodup) (l1 : SE X C e1 t1 f1) (l2 : SE X C e2 t2 f2) (lc : SE X C c tc fc) (r : SSs X C rest u g) (hi : X.N[i]? = some x := by rfl) (hx : Loc X.env.scope x := by first | exact Or.inl rfl | exact Or.inr rfl)
    (hv : Vis X.env.scope x := by first | exact Or.inl rfl | exact Or.inr (Or.inl rfl) | exact Or.inr (Or.inr rfl)) (hd : (x == ("__debug__" : Str)) = false := by decide) (hcd : (x == ("__classdict__" : Str)) = false := by decide) (hk : X.K = C.K := by rfl)
    (hsw : swapsWith (.List [e1, e2] ql) (some (.Name x pos')) pos.line X.env = pure false := by rfl) (hf : X.fn x = true ∨ X.env.scope.names.lookup x = some .local := by first | exact .inl rfl | exact .inr rfl | assumption)
    (hs1 : starEach [e1, e2] X.env = (false, eval e1 X.env) :: starEach [e2] X.env := by rfl) (hs2 : starEach [e2] X.env = (false, eval e2 X.env) :: starEach [] X.env := by rfl) (hs : starEach [c] X.env = (false, eval c X.env) :: starEach [] X.env := by rfl)
    (hfew : ((backTo q4 (starEach [c] X.env)).all (fun x => !x.1) && (backToKw q4 (keywordEach [] X.env)).all (fun x => x.1.isSome) && decide ([c].length + ([] : List Keyword).length + (if ([] : List Keyword).isEmpty then 0 else 1) < 30)) = true := by rfl)
    (hline : (q3.endLine == q4.line) = true := by rfl) (hb : attributeBase (.Subscript (.Name x q1) (.Constant (.int 0) kk q0) q2) "append" X.env (eval (.Subscript (.Name x q1) (.Constant (.int 0) kk q0) q2) X.env) = eval (.Subscript (.Name x q1) (.Constant (.int 0) kk q0) q2) X.env := by rfl) :
    SSs X C (.Assign [.Name x pos'] (.List [e1, e2] ql) pos :: .Expr (.Call (.Attribute (.Subscript (.Name x q1) (.Constant (.int 0) kk q0) q2) "append" q3) [c] [] q4) pos2 :: rest)
      (tSeq (tAsg (tLst (tCons t1 (tCons t2 tNil))) (gName i)) (tSeq (tDrop (tBM C.K "list" rAppend (tOp (rIx C.K) (tVar i) (tC (.int 0))) (tCons tc tNil))) u)) (sSeq (sNest i f1 f2 fc) g) := by
  refine ⟨pss_cons (ps_set hN hi hx (pe_lst (pa_cons l1.pe (pa_cons l2.pe pa_nil hs2) hs1)) hsw hf) (pss_cons ?_ r.ps), ?_⟩
  · rw [← hk]
    exact ps_expr (pe_bm PySem.F.plainAttrs_list PySem.F.slot_list_append PySem.F.type_list_append mt_append (pe_ix ix_seq (pe_var hi hv hd hcd) pe_int (by intro _ _; rfl)) (pa_cons lc.pe pa_nil hs) hb hfew hline hs)
  · have h := lk_seq (lk_nest (i := i) l1.lk l2.lk lc.lk) r.lk
    exact h
/-- x = [e1, e2], x[0].clear() -/
def sNestC (i : Nat) (f1 f2 : EF) : SF := fun ρ => bindES (f1 ρ) fun h1 ρ1 => match h1 with
  | .fr (.list d1) => bindES (eCap f2 ρ1) fun h2 ρ2 => match h2 with
    | .sh d2 => if i < ρ2.length ∧ ioAt ρ2 i = false then .nx ((ρ2.set i none).set i (some ⟨.list [.list [], d2], .ow⟩)) else .stuck
    | _ => .stuck
  | _ => .stuck
theorem lk_nestC {i : Nat} (l1 : LkE C t1 f1) (l2 : LkE C t2 f2) : LkS C (tSeq (tAsg (tLst (tCons t1 (tCons t2 tNil))) (gName i)) (tDrop (tBM0 C.K "list" rClear (tOp (rIx C.K) (tVar i) (tC (.int 0)))))) (sNestC i f1 f2) := fun ρ σ B H E S gd => by
  unfold sNestC at gd
  show t1 σ H _
  refine l1.bindS S gd fun hd ρ1 v1 B1 H1 S1 x1 y1 g1 => ?_
  match hd, y1, g1 with
  | .fr (.list d1), y1, g1 =>
    obtain ⟨a, rfl, hb1, ⟨vs, ea, ra⟩, hn1, na⟩ := y1
    show t2 σ H1 _
    refine l2.cap.bindS2 S1 x1 g1 fun hd2 ρ2 v2 B2 H2 S2 x2 y2 g2 => ?_
    match hd2, y2, g2 with
    | .sh d2, y2, g2 =>
      obtain ⟨hb2, ea2, hn2⟩ := fr_keep x2 hb1 ea hn1
      dsimp only at g2
      split at g2
      case isFalse => exact g2.elim
      rename_i hg
      have fit : ([V.ref a, v2] : List V).length ≤ sizeLine := Nat.le_trans (by decide : 2 ≤ 1000) (small (Nat.le_refl _))
      refine ⟨fit, fun p hp => ?_⟩
      have x12 := x1.trans x2
      obtain ⟨Sp, xp⟩ := S2.newH hp (.lst [.ref a, v2])
      obtain ⟨bp, op⟩ := S2.free hp
      obtain ⟨S3, x3⟩ := Sp.untr hg.1 hg.2 (.ref p)
      have X3 := (x12.trans xp).trans x3
      have np : New ρ σ H p := x12.back (.inl hp)
      have ne : a ≠ p := fun z => by subst z; rw [hp] at ea2; cases ea2
      have li : i < σ.length := by rw [← S2.len]; exact hg.1
      have ei : (σ.set i (some (V.ref p)))[i]? = some (some (.ref p)) := by rw [List.getElem?_set, if_pos rfl, if_pos li]
      have sq : SqL C.K (upd H2 p (.lst [.ref a, v2])) p [.ref a, v2] := .inl (.inl upd_same)
      have ha2 : upd H2 p (.lst [.ref a, v2]) a = some (.lst vs) := by rw [upd_ne ne]; exact ea2
      refine ⟨.ref p, ei, .inl ⟨p, [.ref a, v2], 0, .ref a, rfl, rfl, sq, rfl, tyL (.inl (.inl ha2)), ?_⟩⟩
      have onp : ¬ OwnA (ρ2.set i none) (σ.set i (some (V.ref p))) p := fun z => by
        have := x3.sub p z
        rcases this with h | h
        · rw [upd_same] at h; cases h
        · exact op h
      have ona : ¬ OwnA (ρ2.set i none) (σ.set i (some (V.ref p))) a := fun z => by
        have := x3.sub a z
        rcases this with h | h
        · rw [ha2] at h; cases h
        · exact hn2 h
      refine ⟨a, vs, rfl, rfl, ha2, ?_⟩
      have Sc := S3.chg hb2 ona (.lst [])
      have Ss := Sc.share hb2 (by rw [upd_same]) ona
      have sB : Same B2 (upd B2 a (.lst [])) := fun b w e => by rw [upd_ne (ne_of_none e hb2)]; exact e
      have r1 : Rp C.K (upd B2 a (.lst [])) (.ref a) (.list []) := .lst (.inl (.inl upd_same)) .nil
      have r2 : Rp C.K (upd B2 a (.lst [])) v2 d2 := (show Rp C.K B2 v2 d2 from y2).mono sB
      have ow : Ow C.K (upd B2 a (.lst [])) p (upd (upd H2 p (.lst [.ref a, v2])) a (.lst []) p) (.list [.list [], d2]) := ⟨[.ref a, v2], by rw [upd_ne (Ne.symm ne)]; exact upd_same, .cons r1 (.cons r2 .nil)⟩
      have l3 : i < (ρ2.set i none).length := by rw [List.length_set]; exact hg.1
      have io3 : ioAt (ρ2.set i none) i = false := by
        unfold ioAt slot
        rw [List.getElem?_set, if_pos rfl, if_pos hg.1]
      have Sf := Ss.track l3 (d := .list [.list [], d2]) ei (by rw [upd_ne (Ne.symm ne)]; exact bp) ow onp
      exact g2 _ _ _ Sf (X3.last l3 io3 ei hb2 na np _)
    | .fr _, _, g2 => exact g2.elim
    | .bw _, _, g2 => exact g2.elim
  | .fr .none, _, g1 => exact g1.elim
  | .fr (.bool _), _, g1 => exact g1.elim
  | .fr (.int _), _, g1 => exact g1.elim
  | .fr (.str _), _, g1 => exact g1.elim
  | .fr (.tuple _), _, g1 => exact g1.elim
  | .fr (.dict _), _, g1 => exact g1.elim
  | .sh _, _, g1 => exact g1.elim
  | .bw _, _, g1 => exact g1.elim
theorem sss_nestC {i : Nat} {x : Str} {pos' pos2 ql q0 q1 q2 q3 q4 : Pos} {kk : Nat} (hN : X.N.Nodup) (l1 : SE X C e1 t1 f1) (l2 : SE X C e2 t2 f2) (r : SSs X C rest u g) (hi : X.N[i]? = some x := by rfl) (hx : Loc X.env.scope x := by first | exact Or.inl rfl | exact Or.inr rfl)
    (hv : Vis X.env.scope x := by first | exact Or.inl rfl | exact Or.inr (Or.inl rfl) | exact Or.inr (Or.inr rfl)) (hd : (x == ("__debug__" : Str)) = false := by decide) (hcd : (x == ("__classdict__" : Str)) = false := by decide) (hk : X.K = C.K := by rfl)
    (hsw : swapsWith (.List [e1, e2] ql) (some (.Name x pos')) pos.line X.env = pure false := by rfl) (hf : X.fn x = true ∨ X.env.scope.names.lookup x = some .local := by first | exact .inl rfl | exact .inr rfl | assumption)
    (hs1 : starEach [e1, e2] X.env = (false, eval e1 X.env) :: starEach [e2] X.env := by rfl) (hs2 : starEach [e2] X.env = (false, eval e2 X.env) :: starEach [] X.env := by rfl)
    (hline : (q3.endLine == q4.line) = true := by rfl) (hb : attributeBase (.Subscript (.Name x q1) (.Constant (.int 0) kk q0) q2) "clear" X.env (eval (.Subscript (.Name x q1) (.Constant (.int 0) kk q0) q2) X.env) = eval (.Subscript (.Name x q1) (.Constant (.int 0) kk q0) q2) X.env := by rfl) :
    SSs X C (.Assign [.Name x pos'] (.List [e1, e2] ql) pos :: .Expr (.Call (.Attribute (.Subscript (.Name x q1) (.Constant (.int 0) kk q0) q2) "clear" q3) [] [] q4) pos2 :: rest)
      (tSeq (tAsg (tLst (tCons t1 (tCons t2 tNil))) (gName i)) (tSeq (tDrop (tBM0 C.K "list" rClear (tOp (rIx C.K) (tVar i) (tC (.int 0))))) u)) (sSeq (sNestC i f1 f2) g) := by
  refine ⟨pss_cons (ps_set hN hi hx (pe_lst (pa_cons l1.pe (pa_cons l2.pe pa_nil hs2) hs1)) hsw hf) (pss_cons ?_ r.ps), ?_⟩
  · rw [← hk]
    exact ps_expr (pe_bm0 PySem.F.plainAttrs_list PySem.F.slot_list_clear PySem.F.type_list_clear mt_clear (pe_ix ix_seq (pe_var hi hv hd hcd) pe_int (by intro _ _; rfl)) hb hline)
  · have h := lk_seq (lk_nestC (i := i) l1.lk l2.lk) r.lk
    exact h
/-- x.clear() -/
def clrD : D → Option D
  | .list _ => some (.list [])
  | _ => none
def sClr (i : Nat) : SF := fun ρ => mutS ρ i clrD
theorem ss_clr {i : Nat} {x : Str} {q1 q2 q3 : Pos} (hN : X.N[i]? = some x := by rfl) (hv : Vis X.env.scope x := by first | exact Or.inl rfl | exact Or.inr (Or.inl rfl) | exact Or.inr (Or.inr rfl)) (hd : (x == ("__debug__" : Str)) = false := by decide)
    (hcd : (x == ("__classdict__" : Str)) = false := by decide) (hk : X.K = C.K := by rfl) (hline : (q2.endLine == q3.line) = true := by rfl) :
    SS X C (.Expr (.Call (.Attribute (.Name x q1) "clear" q2) [] [] q3) pos) (tDrop (tBM0 C.K "list" rClear (tVar i))) (sClr i) := by
  refine ⟨by rw [← hk]; exact ps_expr (pe_bm0 PySem.F.plainAttrs_list PySem.F.slot_list_clear PySem.F.type_list_clear mt_clear (pe_var hN hv hd hcd) rfl hline), fun ρ σ B H E S g => ?_⟩
  unfold sClr at g
  obtain ⟨c, d', h1, h2, h3, h4⟩ := mutS_ok g
  obtain ⟨a, ea, hb, ow⟩ := S.own h1 h2
  obtain ⟨d, fl⟩ := c
  cases d with
  | list ds =>
    cases h3
    obtain ⟨ws, ew, rw'⟩ := ow
    have ow' : Ow C.K B a (some (.lst [])) (.list []) := ⟨_, rfl, .nil⟩
    obtain ⟨S2, x2⟩ := S.mut h1 h2 ea ow'
    exact ⟨.ref a, ea, tyL (.inl (.inl ew)), a, ws, rfl, rfl, ew, h4 _ _ _ S2 x2⟩
  | _ => cases h3
end
end GS
namespace GM
open PySem L2 GS
/-- read_book(rows); slots 0:rows 1:words 2:trees 3:number -/
def m_read_book_2_b1 (F_made_book F_row_read F_is_name F_NoRow : FF) : SF := (sKill [3] (sApp 2 (eCall 2 none F_row_read (aCons (eBin ixA (eVb 0) (eVb 3)) (aCons (eMv 3) aNil)))))
def m_read_book_2 (F_made_book F_row_read F_is_name F_NoRow : FF) : SF := (sSeq (sSet 1 (eIf (eB (eBin (ltI fun i j => decide (j < i)) (eCB (un1 lenD) (aCons (eVb 0) aNil)) (eC (.int 0)))) (eM1 splitD (eBin ixA (eVb 0) (eC (.int 0))) (eC (.str (Str.ofString " ")))) (eLst aNil))) (sSeq (sIf (eOr (eB (eBin (eqB true) (eCB (un1 lenD) (aCons (eVb 1) aNil)) (eC (.int 2)))) (eOr (eB (eBin (eqB true) (eBin ixA (eVb 1) (eC (.int 0))) (eC (.str (Str.ofString "top"))))) (eNot (eB (eCall 1 none F_is_name (aCons (eBin ixA (eVb 1) (eC (.int 1))) aNil)))))) (sRaise F_NoRow "NoRow" ["row"] (aCons (eC (.int 0)) aNil)) sNil) (sSeq (sSet 2 (eLst aNil)) (sSeq (sFor (iR2 (eC (.int 1)) (eCB (un1 lenD) (aCons (eVb 0) aNil))) (gN 3) (m_read_book_2_b1 F_made_book F_row_read F_is_name F_NoRow)) (sEnd (sRet (eCall 2 (some 1) F_made_book (aCons (eBin ixA (eVb 1) (eC (.int 1))) (aCons (eVb 2) aNil)))))))))
theorem m_read_book_2_eq (F_made_book F_row_read F_is_name F_NoRow : FF) (ρ : Rho) : fnF 4 1 (m_read_book_2 F_made_book F_row_read F_is_name F_NoRow) ρ = finR 1 (m_read_book_2 F_made_book F_row_read F_is_name F_NoRow (ρ ++ [none, none, none])) := fnF_eq 4 1 _
end GM
namespace GM
open PySem L2 GS
def BookRdI (n : Nat) (F : FF) : Prop := ∀ (rows : List Str) (t : Str) (L : List (Str × Tr)), rows.length ≤ 1000 → (∀ s ∈ rows, RowOk n s) → rdB n rows = .ok (t, L) → F [some ⟨.list (rows.map .str), .io⟩] = .ok (.sh (Bk.enc ⟨t, L⟩)) [some ⟨.list (rows.map .str), .io⟩]
section
variable {n : Nat} {Fm Fr Fn Fx : FF}
theorem rows_loopI (hr : RowSp n Fr) (all : List Str) (hall : all.length ≤ 1000) (ok : ∀ s ∈ all, RowOk n s) (wd : D) : ∀ (ss : List Str) (i : Nat) (acc L : List (Str × Tr)), all.drop i = ss → i ≤ all.length → acc.length + ss.length ≤ 1000 → rowsT n i ss = .ok L →
    forL (gN 3) (m_read_book_2_b1 Fm Fr Fn Fx) (rgD (i : Int) (all.length - i)) [some ⟨.list (all.map .str), .io⟩, some ⟨wd, .ow⟩, some ⟨.list (acc.map encKT), .ow⟩, none] = .nx [some ⟨.list (all.map .str), .io⟩, some ⟨wd, .ow⟩, some ⟨.list ((acc ++ L).map encKT), .ow⟩, none]
  | [], i, acc, L, hd, hi, _, hT => by
    have : all.length - i = 0 := by have := congrArg List.length hd; simpa using this
    rw [rowsT] at hT
    cases hT
    rw [this]
    simp [rgD]
  | s :: r, i, acc, L, hd, hi, hl, hT => by
    rw [List.length_cons] at hl
    have hlen : all.length - i = r.length + 1 := by have := congrArg List.length hd; simpa using this
    have g := drop_get hd
    have ms : s ∈ all := List.mem_of_getElem? g
    have e := hr s i (ok s ms)
    have ea := at_str' g
    have hrg : rgD (i : Int) (all.length - i) = .int (i : Int) :: rgD ((i + 1 : Nat) : Int) (all.length - (i + 1)) := by
      rw [hlen, show all.length - (i + 1) = r.length by omega]
      unfold rgD
      rw [List.range_succ_eq_map, List.map_cons, List.map_map]
      congr 1
      simp
      intro k _
      omega
    rw [hrg, forL_cons2]
    rw [rowsT] at hT
    have z : acc.length < sizeLine := fitsl (by omega)
    cases hS : rowT n s with
    | none =>
      rw [hS] at hT
      cases hT
    | some p =>
      rw [hS] at e hT
      dsimp only at e hT
      have st : optR (gN 3 (.int (i : Int)) [some ⟨.list (all.map .str), .io⟩, some ⟨wd, .ow⟩, some ⟨.list (acc.map encKT), .ow⟩, none]) (m_read_book_2_b1 Fm Fr Fn Fx) = .nx [some ⟨.list (all.map .str), .io⟩, some ⟨wd, .ow⟩, some ⟨.list ((acc ++ [p]).map encKT), .ow⟩, none] := by
        simp [m_read_book_2_b1, ea, e, z]
      rw [st, turnR_nx]
      have hd2 : all.drop (i + 1) = r := by rw [← List.drop_drop, hd]; rfl
      cases hR : rowsT n (i + 1) r with
      | error e' =>
        rw [hR] at hT
        cases hT
      | ok L' =>
        rw [hR] at hT
        dsimp only at hT
        cases hT
        have ih := rows_loopI hr all hall ok wd r (i + 1) (acc ++ [p]) L' hd2 (by omega) (by simp; omega) hR
        rw [ih]; simp
theorem read_book_okI (hm : MadeIo n Fm) (hr : RowSp n Fr) (hn : NameSp Fn) : BookRdI n (fnF 4 1 (m_read_book_2 Fm Fr Fn Fx)) := fun rows t L hl ok hB => by
  rw [m_read_book_2_eq]
  unfold rdB at hB
  cases rows with
  | nil => cases hB
  | cons s r =>
    have oks := ok s (by simp)
    have sp := split_bl s
    have hs : splitD (.str s) (.str (Str.ofString " ")) = some (.fr (.list ((Txt.split s BL).map .str))) := splitD_s s BL (by decide +kernel) (by have := oks.len; omega)
    dsimp only at hB
    generalize Txt.split s BL = W at sp hs hB
    have g : (0 : Int) < (r.length : Int) + 1 := by omega
    match W, sp, hs, hB with
    | [], sp, hs, hB => cases hB
    | [a], sp, hs, hB => cases hB
    | a :: b :: c :: W, sp, hs, hB => cases hB
    | [a, b], sp, hs, hB =>
      dsimp only at hB
      have e1 := hn b (fits (by have := sp.len b (by simp); have := oks.len; omega))
      by_cases q : a = Str.ofString "top" ∧ nameB b = true
      case neg => rw [if_neg q] at hB; cases hB
      rw [if_pos q] at hB
      obtain ⟨q1, q2⟩ := q
      rw [q2] at e1
      have okg : okR ((r.length : Int) + 1) = true := by rw [show (r.length : Int) + 1 = ((r.length + 1 : Nat) : Int) by omega]; exact okR_nat (by simp at hl; omega)
      have ok1 : okR 1 = true := rfl
      have er : ((r.length : Int) + 1 - 1).toNat = r.length := by omega
      cases hR : rowsT n 1 r with
      | error k => rw [hR] at hB; cases hB
      | ok L' =>
        rw [hR] at hB
        dsimp only at hB
        have lp := rows_loopI (Fm := Fm) (Fn := Fn) (Fx := Fx) hr (s :: r) hl ok (.list [.str a, .str b]) r 1 [] L' rfl (by simp) (by simp at hl ⊢; omega) hR
        simp only [List.length_cons, Nat.add_sub_cancel, List.map_nil] at lp
        obtain ⟨k1, k2⟩ := rowsT_pair r 1 L' (fun s m => ok s (by simp [m])) hR
        have e2 := hm b L' (by simp at hl; omega) k2
        simp at lp
        subst q1
        cases hX : mkX L' with
        | some x => rw [hX] at hB; cases hB
        | none =>
          rw [hX] at e2 hB
          dsimp only at e2 hB
          cases hB
          simp [m_read_book_2, g, hs, e1, okg, ok1, er, lp, e2, outR_1]
end
end GM
namespace GM
open PySem L2 GS
end GM
namespace GM
open PySem L2 GS
/-- a put: its place, key, what is put within -/
abbrev Pt := List Int × Str × D
def putP : D → Option Pt
  | .tuple [.tuple ns, .tuple [.str k, r]] => (intsT ns).map fun p => (p, k, r)
  | _ => none
def encI (p : List Int) : D := .tuple (p.map .int)
def encPt (x : Pt) : D := .tuple [encI x.1, .tuple [.str x.2.1, x.2.2]]
theorem intsT_map (p : List Int) : intsT (p.map .int) = some p := by
  induction p with
  | nil => rfl
  | cons i p ih => simp [intsT, ih]
theorem putP_enc (x : Pt) : putP (encPt x) = some x := by
  obtain ⟨p, k, r⟩ := x
  show (intsT (p.map .int)).map _ = _
  rw [intsT_map]
  rfl
def ltO : Option (List Int) → List Int → Bool
  | none, _ => true
  | some a, p => HT.lexLt a p
def goP : Option (List Int) → List D → Option (List Pt)
  | _, [] => some []
  | a, d :: ds => match putP d with
    | none => none
    | some x => if ltO a x.1 then (goP (some x.1) ds).map fun l => x :: l else none
def putsP : D → Option (List Pt)
  | .tuple ds => goP none ds
  | _ => none
end GM
namespace GM
open PySem L2 GS
def toI (p : List Nat) : List Int := p.map fun n : Nat => (n : Int)
theorem encP_I (p : List Nat) : encP p = encI (toI p) := by
  unfold encP encI toI
  rw [List.map_map]
  rfl
theorem toI_inj {p q : List Nat} (h : toI p = toI q) : p = q := by
  induction p generalizing q with
  | nil => cases q with
    | nil => rfl
    | cons _ _ => cases h
  | cons a p ih => cases q with
    | nil => cases h
    | cons b q =>
      unfold toI at h
      rw [List.map_cons, List.map_cons] at h
      injection h with h1 h2
      rw [ih h2, show a = b by omega]
theorem nkL_ints (p : List Int) : nkL (p.map .int) = some (p.map NestedKey.num) := by
  induction p with
  | nil => rfl
  | cons i p ih => rw [List.map_cons, nkL, ih]; rfl
theorem depth_nums (p : List Int) : NestedKey.depthAll (p.map NestedKey.num) = 0 := by
  induction p with
  | nil => rfl
  | cons i p ih => rw [List.map_cons, NestedKey.depthAll, ih]; rfl
theorem tkD_ints (p : List Int) : tkD (p.map .int) = some (.tup (p.map NestedKey.num)) := by
  unfold tkD
  rw [nkL_ints, Option.bind_some, if_pos (by rw [NestedKey.depth, depth_nums]; omega)]
theorem nums_inj {p q : List Int} (h : p.map NestedKey.num = q.map NestedKey.num) : p = q := by
  induction p generalizing q with
  | nil => cases q with
    | nil => rfl
    | cons _ _ => cases h
  | cons a p ih => cases q with
    | nil => cases h
    | cons b q =>
      rw [List.map_cons, List.map_cons] at h
      injection h with h1 h2
      injection h1 with h1
      rw [ih h2, h1]
@[simp] theorem kEq_I (p q : List Int) : kEq (encI p) (encI q) = decide (p = q) := by
  rw [kEq_key (show keyD (encI p) = _ from tkD_ints p) (show keyD (encI q) = _ from tkD_ints q)]
  by_cases h : p = q
  · simp [h]
  · have : ¬ NestedKey.tup (p.map NestedKey.num) = NestedKey.tup (q.map NestedKey.num) := fun e => h (nums_inj (by injection e))
    simp [h, this]
@[simp] theorem isK_I (p : List Int) : isK (encI p) = true := by
  show (tkD (p.map .int)).isSome = true
  rw [tkD_ints]
  rfl
def getI {α : Type} (L : List (List Int × α)) (p : List Int) : Option α := (L.find? fun x => decide (x.1 = p)).map (·.2)
theorem lexLt_irr (p : List Int) : HT.lexLt p p = false := by
  induction p with
  | nil => rfl
  | cons i p ih => rw [HT.lexLt_cons, if_pos rfl]; exact ih
theorem rising_nodup {ps : List (List Int)} (h : ps.Pairwise (fun p q => HT.lexLt p q = true)) : ps.Nodup :=
  h.imp fun {p q} l e => by rw [e, lexLt_irr] at l; cases l
end GM
namespace GM
open PySem L2 GS
def krD (x : Str × D) : D := .tuple [.str x.1, x.2]
def okAt (b : Bk) (L : List Pt) (x : List Nat × Tr) : Bool := match getI L (toI x.1) with
  | none => !x.2.must
  | some kr => decide (kr.1 ∈ b.takers x.2)
def wellB (b : Bk) (t : Tr) (L : List Pt) : Bool := (t.pps []).all (okAt b L) && L.all fun x => decide (x.1 ∈ t.places.map toI)
structure BkS (n : Nat) (b : Bk) : Prop where
  ok : BkOk n b
  so : ∀ p ∈ b.trees, PyData.strOk p.1 = true
theorem takers_so {b : Bk} (h : ∀ p ∈ b.trees, PyData.strOk p.1 = true) (u : Tr) : ∀ k ∈ b.takers u, PyData.strOk k = true := fun k m => by
  obtain ⟨t, mt⟩ := takers_keys m
  exact h _ mt
section
variable {Fp Ft Fw Fa : FF}
end
end GM
namespace GM
open PySem L2 GS
def isPlanN (b : Bk) : Nat → D → Bool
  | 0, _ => false
  | n + 1, d => match d with
    | .tuple [.str k, ps] => match putsP ps, b.treeOf k with
      | some L, some t => wellB b t L && L.all fun x => isPlanN b n (krD x.2)
      | _, _ => false
    | _ => false
/-- what is_plan may be asked of -/
def preP : Nat → D → Prop
  | 0, d => ∀ k ps, d ≠ .tuple [.str k, ps]
  | n + 1, d => ∀ k ps L, d = .tuple [.str k, ps] → putsP ps = some L → L.length ≤ 100000 ∧ ∀ x ∈ L, PyData.strOk x.2.1 = true ∧ preP n (krD x.2)
structure BkZ (n : Nat) (b : Bk) : Prop where
  s : BkS n b
  z : ∀ p ∈ b.trees, p.2.pieces.length ≤ 1000
section
variable {Fi Fw Ft Fa : FF}
end
theorem lexLt_places : ∀ t : Tr, (t.places.map toI).Pairwise fun p q => HT.lexLt p q = true := fun t => by
  have gen : ∀ n : Nat, (∀ t : Tr, t.ht ≤ n → (t.places.map toI).Pairwise fun p q => HT.lexLt p q = true) := fun n => by
    induction n with
    | zero =>
      intro t h
      cases t with
      | knot a b c => rw [Tr.ht] at h; omega
      | _ => simp [Tr.places]
    | succ n ih =>
      intro t h
      have hk : ∀ u ∈ t.kids, u.ht ≤ n := fun u mu => by
        cases t with
        | knot a b c =>
          rw [Tr.ht] at h
          have := ht_mem (ts := c) mu
          omega
        | _ => simp [Tr.kids] at mu
      have kd : ∀ (ts : List Tr) (j : Nat), (∀ u ∈ ts, u.ht ≤ n) → ((Tr.placesL j ts).map toI).Pairwise (fun p q => HT.lexLt p q = true) ∧ ∀ p ∈ Tr.placesL j ts, ∃ k r, p = k :: r ∧ j ≤ k := fun ts => by
        induction ts with
        | nil => intro j _; exact ⟨by simp [Tr.placesL], fun p m => by simp [Tr.placesL] at m⟩
        | cons u ts ih2 =>
          intro j hu
          obtain ⟨g1, g2⟩ := ih2 (j + 1) fun u m => hu u (by simp [m])
          rw [Tr.placesL]
          constructor
          · rw [List.map_append, List.pairwise_append]
            refine ⟨?_, g1, ?_⟩
            · have := ih u (hu u (by simp))
              rw [List.map_map]
              rw [List.pairwise_map] at this ⊢
              refine this.imp fun {p q} l => ?_
              show HT.lexLt ((j : Int) :: toI p) ((j : Int) :: toI q) = true
              rw [HT.lexLt_cons, if_pos rfl]
              exact l
            · intro p mp q mq
              obtain ⟨p', mp', rfl⟩ := List.mem_map.mp mp
              obtain ⟨p'', _, rfl⟩ := List.mem_map.mp mp'
              obtain ⟨q', mq', rfl⟩ := List.mem_map.mp mq
              obtain ⟨k, r, rfl, hk⟩ := g2 q' mq'
              show HT.lexLt ((j : Int) :: toI p'') ((k : Int) :: toI r) = true
              rw [HT.lexLt_cons, if_neg (by omega), decide_eq_true_eq]
              omega
          · intro p mp
            rcases List.mem_append.mp mp with mp | mp
            · obtain ⟨p', _, rfl⟩ := List.mem_map.mp mp
              exact ⟨j, p', rfl, Nat.le_refl _⟩
            · obtain ⟨k, r, e, hk⟩ := g2 p mp
              exact ⟨k, r, e, by omega⟩
      obtain ⟨g1, g2⟩ := kd t.kids 0 hk
      rw [places_kids, List.map_cons]
      refine .cons (fun q mq => ?_) g1
      obtain ⟨q', mq', rfl⟩ := List.mem_map.mp mq
      obtain ⟨k, r, rfl, _⟩ := g2 q' mq'
      rfl
  exact gen t.ht t (Nat.le_refl _)
/-- a put as a datum -/
def ptOf (x : List Nat × Pl) : Pt := (toI x.1, x.2.key, .tuple (x.2.puts.map Pl.encX))
theorem ptOf_enc (x : List Nat × Pl) : Pl.encX x = encPt (ptOf x) := by
  rw [pencX_eq, encP_I, penc_eq]
  rfl
theorem krD_pt (x : List Nat × Pl) : krD (ptOf x).2 = x.2.enc := by rw [penc_eq]; rfl
theorem goP_of : ∀ (ps : List (List Nat × Pl)) (a : Option (List Int)), (∀ x ∈ ps, ltO a (toI x.1) = true) → (ps.map fun x => toI x.1).Pairwise (fun p q => HT.lexLt p q = true) → goP a (ps.map Pl.encX) = some (ps.map ptOf)
  | [], _, _, _ => rfl
  | x :: ps, a, h1, h2 => by
    rw [List.map_cons] at h2
    cases h2 with
    | cons q1 q2 =>
      have r := goP_of ps (some (toI x.1)) (fun y my => q1 _ (List.mem_map_of_mem (f := fun x : List Nat × Pl => toI x.1) my)) q2
      rw [List.map_cons, goP, ptOf_enc, putP_enc]
      dsimp only
      rw [show (ptOf x).1 = toI x.1 from rfl, h1 x (by simp), if_pos rfl, r]
      rfl
theorem PutsOk.sub {b : Bk} : ∀ {us : List (List Nat × Tr)} {ps : List (List Nat × Pl)}, PutsOk b us ps → (ps.map (·.1)).Sublist (us.map (·.1))
  | _, _, .nil => .slnil
  | _, _, .skip _ r => (PutsOk.sub r).cons _
  | _, _, .put _ _ r => (PutsOk.sub r).cons₂ _
theorem getI_no {ps : List (List Nat × Pl)} {p : List Nat} (h : p ∉ ps.map (·.1)) : getI (ps.map ptOf) (toI p) = none := by
  unfold getI
  rw [Option.map_eq_none_iff, List.find?_eq_none]
  intro x mx
  obtain ⟨y, my, rfl⟩ := List.mem_map.mp mx
  simp only [decide_eq_true_eq]
  intro e
  exact h (by rw [← toI_inj e]; exact List.mem_map_of_mem my)
theorem PutsOk.at {b : Bk} : ∀ {us : List (List Nat × Tr)} {ps : List (List Nat × Pl)}, PutsOk b us ps → (us.map (·.1)).Nodup → ∀ x ∈ us, okAt b (ps.map ptOf) x = true
  | _, _, .nil, _, x, m => by cases m
  | _, _, .skip (p := p) (u := u) (us := us) (ps := ps) hm r, nd, x, m => by
    rw [List.map_cons, List.nodup_cons] at nd
    rcases List.mem_cons.mp m with rfl | m
    · unfold okAt
      rw [getI_no fun m => nd.1 ((PutsOk.sub r).subset m), hm]
      rfl
    · exact PutsOk.at r nd.2 x m
  | _, _, .put (p := p) (u := u) (q := q) (us := us) (ps := ps) hk _ r, nd, x, m => by
    rw [List.map_cons, List.nodup_cons] at nd
    rcases List.mem_cons.mp m with rfl | m
    · unfold okAt getI
      rw [List.map_cons, List.find?_cons, show decide ((ptOf (p, q)).1 = toI p) = true from decide_eq_true rfl]
      exact decide_eq_true hk
    · have r := PutsOk.at r nd.2 x m
      have ne : ¬ (ptOf (p, q)).1 = toI x.1 := fun e => nd.1 (by
        have : p = x.1 := toI_inj e
        rw [this]
        exact List.mem_map.mpr ⟨x, m, rfl⟩)
      unfold okAt getI at r ⊢
      rw [List.map_cons, List.find?_cons, decide_eq_false ne]
      exact r
theorem pps_places (t : Tr) : (t.pps []).map (·.1) = t.places := by rw [pps_fst]; simp
theorem well_of {b : Bk} {t : Tr} {ps : List (List Nat × Pl)} (h : PutsOk b (t.pps []) ps) : wellB b t (ps.map ptOf) = true := by
  have hr := lexLt_places t
  have nd : ((t.pps []).map (·.1)).Nodup := by
    rw [pps_places]
    exact List.Pairwise.of_map toI (fun a b h e => h (by rw [e])) (rising_nodup hr)
  unfold wellB
  rw [Bool.and_eq_true, List.all_eq_true, List.all_eq_true]
  refine ⟨fun x m => h.at nd x m, fun x m => ?_⟩
  obtain ⟨y, my, rfl⟩ := List.mem_map.mp m
  refine decide_eq_true ?_
  refine List.mem_map_of_mem (f := toI) ?_
  rw [← pps_places]
  exact h.sub.subset (List.mem_map_of_mem my)
theorem puts_of {b : Bk} {t : Tr} {ps : List (List Nat × Pl)} (h : PutsOk b (t.pps []) ps) : putsP (.tuple (ps.map Pl.encX)) = some (ps.map ptOf) := by
  refine goP_of ps none (fun _ _ => rfl) ?_
  have hr := lexLt_places t
  rw [← pps_places] at hr
  have := hr.sublist (h.sub.map toI)
  rw [List.map_map] at this
  exact this
theorem depX_le {ps : List (List Nat × Pl)} {n : Nat} (h : Pl.depL ps ≤ n) : ∀ x ∈ ps, x.2.dep ≤ n := by
  induction ps with
  | nil => intro x m; cases m
  | cons y ps ih =>
    intro x m
    obtain ⟨p, q⟩ := y
    rw [Pl.depL, Pl.depX] at h
    rcases List.mem_cons.mp m with rfl | m
    · show q.dep ≤ n
      omega
    · exact ih (by omega) x m
theorem PutsOk.each {b : Bk} : ∀ {us : List (List Nat × Tr)} {ps : List (List Nat × Pl)}, PutsOk b us ps → ∀ x ∈ ps, PlOk b x.2
  | _, _, .nil, x, m => by cases m
  | _, _, .skip _ r, x, m => PutsOk.each r x m
  | _, _, .put _ o r, x, m => by
    rcases List.mem_cons.mp m with rfl | m
    · exact o
    · exact PutsOk.each r x m
theorem PlOk.is {b : Bk} : ∀ {n : Nat} {q : Pl}, PlOk b q → q.dep ≤ n → isPlanN b n q.enc = true
  | 0, .mk k ps, _, h => by rw [Pl.dep] at h; omega
  | n + 1, .mk k ps, .mk e r, h => by
    rw [Pl.dep] at h
    rw [penc_eq]
    unfold isPlanN
    dsimp only [Pl.key, Pl.puts]
    rw [puts_of r, e]
    dsimp only
    rw [well_of r, Bool.true_and, List.all_eq_true]
    intro x m
    obtain ⟨y, my, rfl⟩ := List.mem_map.mp m
    rw [krD_pt]
    exact PlOk.is (r.each y my) (depX_le (by omega) y my)
theorem PlOk.keyIn {b : Bk} {q : Pl} (h : PlOk b q) : ∃ t, b.treeOf q.key = some t := by
  cases h with
  | mk e _ => exact ⟨_, e⟩
theorem PlOk.pre {h : Nat} {b : Bk} (B : BkZ h b) : ∀ {n : Nat} {q : Pl}, PlOk b q → q.dep ≤ n → preP n q.enc
  | 0, .mk k ps, _, h => by rw [Pl.dep] at h; omega
  | n + 1, .mk k ps, .mk (t := t) e r, h => by
    rw [Pl.dep] at h
    rw [penc_eq]
    intro k' ps' L eq hL
    dsimp only [Pl.key, Pl.puts] at eq
    injection eq with eq
    injection eq with e1 eq
    injection eq with e2 _
    rw [← e2, puts_of r] at hL
    cases hL
    constructor
    · have h1 := r.sub.length_le
      have h2 := B.z _ (treeOf_in e)
      rw [List.length_map, List.length_map, pps_len] at h1
      dsimp only at h2
      rw [List.length_map]
      omega
    · intro x m
      obtain ⟨y, my, rfl⟩ := List.mem_map.mp m
      have o := r.each y my
      obtain ⟨t', et⟩ := o.keyIn
      refine ⟨B.s.so _ (treeOf_in et), ?_⟩
      rw [krD_pt]
      exact PlOk.pre B o (depX_le (by omega) y my)
end GM
namespace GM
open PySem L2 GS
end GM
namespace GM
open PySem L2 GS
def Tr.whole (t : Tr) (top : Str) : Bool := !decide (t.feet.length = 1) && decide (t.name = top)
mutual
def Pl.within : Pl → List Pl
  | .mk k ps => .mk k ps :: Pl.withinL ps
def Pl.withinL : List (List Nat × Pl) → List Pl
  | [] => []
  | x :: r => Pl.withinX x ++ Pl.withinL r
def Pl.withinX : List Nat × Pl → List Pl
  | (_, q) => q.within
end
mutual
theorem PlOk.inner {b : Bk} : ∀ {q : Pl}, PlOk b q → ∀ r ∈ q.within, PlOk b r ∧ r.dep ≤ q.dep ∧ r.size ≤ q.size
  | .mk k ps, .mk e o, r, m => by
    rw [Pl.within] at m
    rcases List.mem_cons.mp m with rfl | m
    · exact ⟨.mk e o, Nat.le_refl _, Nat.le_refl _⟩
    · obtain ⟨h1, h2, h3⟩ := PutsOk.inner o r m
      rw [Pl.dep, Pl.size]
      exact ⟨h1, by omega, by omega⟩
theorem PutsOk.inner {b : Bk} : ∀ {us : List (List Nat × Tr)} {ps : List (List Nat × Pl)}, PutsOk b us ps → ∀ r ∈ Pl.withinL ps, PlOk b r ∧ r.dep ≤ Pl.depL ps ∧ r.size ≤ Pl.sizeL ps
  | _, _, .nil, r, m => by cases m
  | _, _, .skip _ o, r, m => PutsOk.inner o r m
  | _, _, .put _ q o, r, m => by
    rw [Pl.withinL, Pl.withinX] at m
    rw [Pl.depL, Pl.depX, Pl.sizeL, Pl.sizeX]
    rcases List.mem_append.mp m with m | m
    · obtain ⟨h1, h2, h3⟩ := PlOk.inner q r m
      exact ⟨h1, by omega, by omega⟩
    · obtain ⟨h1, h2, h3⟩ := PutsOk.inner o r m
      exact ⟨h1, by omega, by omega⟩
end
end GM
namespace GM
open PySem L2 GS
/-- law(script); slots 0:script 1:state 2:cell 3:book 4:wanted_places 5:told 6:rows 7:handed 8:found 9:trees 10:made 11:words 12:copy 13:plan 14:more 15:key 16:tree 17:place 18:piece 19:some -/
def m_law_k20_b1 (F_plan_text F_take_plan F_take_tree F__law_plan F_tree_text F_book_rows F_made_book F_read_book F__law_pieces F_takers F__law_takers F_places F__law_book F__law_cell : FF) : SF := (sKill [17, 18, 19] (sSeq (sNest 19 (eCall 2 none F_takers (aCons (eMv 3) (aCons (eMv 18) aNil))) (eCall 2 none F_takers (aCons (eMv 3) (aCons (eMv 18) aNil))) (eC (.str (Str.ofString "more")))) (sIf (eOr (eB (eBin (eqB true) (eBin ixA (eVb 19) (eC (.int 1))) (eCall 2 none F__law_takers (aCons (eMv 3) (aCons (eMv 18) aNil))))) (eB (eBin (eqB true) (eCall 2 none F_takers (aCons (eMv 3) (aCons (eMv 18) aNil))) (eBin ixA (eVb 19) (eC (.int 1)))))) (sEnd (sRet (eC (.bool false)))) sNil)))
def m_law_k20_ce2 (F_plan_text F_take_plan F_take_tree F__law_plan F_tree_text F_book_rows F_made_book F_read_book F__law_pieces F_takers F__law_takers F_places F__law_book F__law_cell : FF) : EF := (eMv 17)
def m_law_k20 (F_plan_text F_take_plan F_take_tree F__law_plan F_tree_text F_book_rows F_made_book F_read_book F__law_pieces F_takers F__law_takers F_places F__law_book F__law_cell : FF) : SF := (sSeq (sSet 1 (eDct (dCons (eC (.str (Str.ofString "script"))) (eMv 0) (dCons (eC (.str (Str.ofString "at"))) (eC (.int 0)) (dCons (eC (.str (Str.ofString "keys"))) (eC (.int 0)) dNil))))) (sSeq (sSet 2 (eCall 1 (some 0) F__law_cell (aCons (eVb 1) aNil))) (sSeq (sSet 3 (eCall 3 (some 0) F__law_book (aCons (eVb 1) (aCons (eBin modD (eVb 2) (eC (.int 6))) (aCons (eC (.int 2)) aNil))))) (sSeq (sUnp (gT 2 (gsC (gN 15) (gsC (gN 16) gsN))) (eBin ixA (eBin ixA (eVb 3) (eC (.int 1))) (eBin modD (eBin divD (eVb 2) (eC (.int 6))) (eCB (un1 lenD) (aCons (eBin ixA (eVb 3) (eC (.int 1))) aNil))))) (sSeq (sSet 4 (eLc [17, 18] (iSq (eCall 2 none F__law_pieces (aCons (eMv 16) (aCons (eTup aNil) aNil)))) (gT 2 (gsC (gN 17) (gsC (gN 18) gsN))) (eNox eYes) (eNox (m_law_k20_ce2 F_plan_text F_take_plan F_take_tree F__law_plan F_tree_text F_book_rows F_made_book F_read_book F__law_pieces F_takers F__law_takers F_places F__law_book F__law_cell)))) (sSeq (sNest 5 (eCall 1 none F_places (aCons (eMv 16) aNil)) (eCall 1 none F_places (aCons (eMv 16) aNil)) (eTup (aCons (eC (.int 7)) aNil))) (sSeq (sIf (eOr (eB (eBin (eqB true) (eBin ixA (eVb 5) (eC (.int 1))) (eVb 4))) (eB (eBin (eqB true) (eCall 1 none F_places (aCons (eMv 16) aNil)) (eVb 4)))) (sEnd (sRet (eC (.bool false)))) sNil) (sSeq (sFor (iSq (eCall 2 none F__law_pieces (aCons (eMv 16) (aCons (eTup aNil) aNil)))) (gT 2 (gsC (gN 17) (gsC (gN 18) gsN))) (m_law_k20_b1 F_plan_text F_take_plan F_take_tree F__law_plan F_tree_text F_book_rows F_made_book F_read_book F__law_pieces F_takers F__law_takers F_places F__law_book F__law_cell)) (sSeq (sNestC 6 (eCall 1 none F_book_rows (aCons (eMv 3) aNil)) (eCall 1 none F_book_rows (aCons (eMv 3) aNil))) (sSeq (sSet 7 (eCB (un1 listD) (aCons (eBin ixA (eVb 6) (eC (.int 1))) aNil))) (sSeq (sSet 8 (eCall 1 (some 0) F_read_book (aCons (eVb 7) aNil))) (sSeq (sClr 7) (sSeq (sSet 9 (eCB (un1 listD) (aCons (eBin ixA (eVb 3) (eC (.int 1))) aNil))) (sSeq (sSet 10 (eCall 2 (some 1) F_made_book (aCons (eBin ixA (eVb 3) (eC (.int 0))) (aCons (eVb 9) aNil)))) (sSeq (sClr 9) (sSeq (sIf (eOr (eB (eBin (eqB true) (eVb 8) (eVb 3))) (eOr (eB (eBin (eqB true) (eVb 10) (eVb 3))) (eB (eBin (eqB true) (eCall 1 none F_book_rows (aCons (eMv 10) aNil)) (eBin ixA (eVb 6) (eC (.int 1))))))) (sEnd (sRet (eC (.bool false)))) sNil) (sSeq (sSet 11 (eM1 splitD (eCall 1 none F_tree_text (aCons (eMv 16) aNil)) (eC (.str (Str.ofString " "))))) (sSeq (sSet 12 (eCB (un1 listD) (aCons (eVb 11) aNil))) (sSeq (sSet 13 (eCall 4 (some 0) F__law_plan (aCons (eVb 1) (aCons (eMv 3) (aCons (eMv 15) (aCons (eC (.int 3)) aNil)))))) (sSeq (sSet 14 (eM1 splitD (eCall 1 none F_plan_text (aCons (eMv 13) aNil)) (eC (.str (Str.ofString " "))))) (sSeq (sIf (eOr (eB (eBin (eqB true) (eCall 2 none F_take_tree (aCons (eMv 11) (aCons (eC (.int 0)) aNil))) (eTup (aCons (eMv 16) (aCons (eCB (un1 lenD) (aCons (eVb 12) aNil)) aNil))))) (eB (eBin (eqB true) (eVb 11) (eVb 12)))) (sEnd (sRet (eC (.bool false)))) sNil) (sEnd (sRet (eAnd (eB (eBin (eqB false) (eCall 2 none F_take_plan (aCons (eMv 14) (aCons (eC (.int 0)) aNil))) (eTup (aCons (eMv 13) (aCons (eCB (un1 lenD) (aCons (eVb 14) aNil)) aNil))))) (eBin (eqB false) (eVb 14) (eM1 splitD (eCall 1 none F_plan_text (aCons (eMv 13) aNil)) (eC (.str (Str.ofString " ")))))))))))))))))))))))))))))
theorem m_law_k20_eq (F_plan_text F_take_plan F_take_tree F__law_plan F_tree_text F_book_rows F_made_book F_read_book F__law_pieces F_takers F__law_takers F_places F__law_book F__law_cell : FF) (ρ : Rho) : fnF 20 1 (m_law_k20 F_plan_text F_take_plan F_take_tree F__law_plan F_tree_text F_book_rows F_made_book F_read_book F__law_pieces F_takers F__law_takers F_places F__law_book F__law_cell) ρ = finR 1 (m_law_k20 F_plan_text F_take_plan F_take_tree F__law_plan F_tree_text F_book_rows F_made_book F_read_book F__law_pieces F_takers F__law_takers F_places F__law_book F__law_cell (ρ ++ [none, none, none, none, none, none, none, none, none, none, none, none, none, none, none, none, none, none, none])) := fnF_eq 20 1 _
end GM
namespace GM
open PySem L2 GS
@[simp] theorem sClr_ow {ρ : Rho} {i : Nat} {ds : List D} (h : slot ρ i = some ⟨.list ds, .ow⟩) : sClr i ρ = .nx (ρ.set i (some ⟨.list [], .ow⟩)) := by
  unfold sClr mutS
  rw [h]
  rfl
theorem sNest_ok {i : Nat} {f1 f2 fc : EF} {ρ ρ1 ρ2 ρ3 : Rho} {d1 : List D} {d2 y : D} (e1 : f1 ρ = .ok (.fr (.list d1)) ρ1) (e2 : eCap f2 ρ1 = .ok (.sh d2) ρ2) (e3 : eCap fc (ρ2.set i none) = .ok (.sh y) ρ3) (h1 : i < ρ2.length ∧ ioAt ρ2 i = false) (h2 : i < ρ3.length ∧ ioAt ρ3 i = false ∧ d1.length < sizeLine) :
    sNest i f1 f2 fc ρ = .nx (ρ3.set i (some ⟨.list [.list (d1 ++ [y]), d2], .ow⟩)) := by
  unfold sNest
  rw [e1]
  show bindES (eCap f2 ρ1) _ = _
  rw [e2]
  show (if _ then _ else _) = _
  rw [if_pos h1, e3]
  show (if _ then _ else _) = _
  rw [if_pos h2]
theorem sNestC_ok {i : Nat} {f1 f2 : EF} {ρ ρ1 ρ2 : Rho} {d1 : List D} {d2 : D} (e1 : f1 ρ = .ok (.fr (.list d1)) ρ1) (e2 : eCap f2 ρ1 = .ok (.sh d2) ρ2) (h1 : i < ρ2.length ∧ ioAt ρ2 i = false) :
    sNestC i f1 f2 ρ = .nx ((ρ2.set i none).set i (some ⟨.list [.list [], d2], .ow⟩)) := by
  unfold sNestC
  rw [e1]
  show bindES (eCap f2 ρ1) _ = _
  rw [e2]
  show (if _ then _ else _) = _
  rw [if_pos h1]
section
variable {Fx Fq Fe Fp Ft Fo Fm Fr Fa Fk Fl Fs Fb Fc : FF}
theorem k20_piece (hk : TakersSp 3 Fk) (hl : LTakers 3 Fl) {b : Bk} (B : BookOk 3 b) (x0 x1 x2 x4 x5 x6 x7 x8 x9 x10 x11 x12 x13 x14 x15 x16 : Option Cel) (x : List Nat × Tr) (ok : x.2.ok = true) :
    optR (gT 2 (gsC (gN 17) (gsC (gN 18) gsN)) (encPT x) [x0, x1, x2, some ⟨b.enc, .sh⟩, x4, x5, x6, x7, x8, x9, x10, x11, x12, x13, x14, x15, x16, none, none, none]) (m_law_k20_b1 Fx Fq Fe Fp Ft Fo Fm Fr Fa Fk Fl Fs Fb Fc) = .nx [x0, x1, x2, some ⟨b.enc, .sh⟩, x4, x5, x6, x7, x8, x9, x10, x11, x12, x13, x14, x15, x16, none, none, none] := by
  obtain ⟨p, u⟩ := x
  have e1 := hk b u B.bk
  have e2 := hl b u B.bkN ok
  obtain ⟨c1, c2⟩ := strs_clean (ks := b.takers u) (takers_so (fun p mp => keyB_strOk (B.w.keys p mp)) u)
  have s1 := eqB_same true c1 c2
  have tl : (b.takers u).length < sizeLine := fitsl (by
    have hl := B.len
    unfold Bk.takers
    split
    · simp
    · rw [List.length_map]
      exact Nat.lt_of_le_of_lt (List.length_filter_le _ _) (by omega))
  have z : ((b.takers u).map PyData.str).length < sizeLine := by rw [List.length_map]; exact tl
  unfold encPT
  dsimp only
  generalize (b.takers u).map PyData.str = tk at e1 e2 s1 z
  generalize b.enc = be at e1 e2 ⊢
  generalize u.enc = ue at e1 e2 ⊢
  generalize encP p = pe
  have eg : gT 2 (gsC (gN 17) (gsC (gN 18) gsN)) (.tuple [pe, ue]) [x0, x1, x2, some ⟨be, .sh⟩, x4, x5, x6, x7, x8, x9, x10, x11, x12, x13, x14, x15, x16, none, none, none] = some [x0, x1, x2, some ⟨be, .sh⟩, x4, x5, x6, x7, x8, x9, x10, x11, x12, x13, x14, x15, x16, some ⟨pe, .sh⟩, some ⟨ue, .sh⟩, none] := by simp
  rw [eg, optR_s]
  unfold m_law_k20_b1
  refine kill_of [x0, x1, x2, some ⟨be, .sh⟩, x4, x5, x6, x7, x8, x9, x10, x11, x12, x13, x14, x15, x16, some ⟨pe, .sh⟩, some ⟨ue, .sh⟩, some ⟨.list [.list (tk ++ [.str (Str.ofString "more")]), .list tk], .ow⟩] (by simp) ?_ (by simp)
  refine seq_of [x0, x1, x2, some ⟨be, .sh⟩, x4, x5, x6, x7, x8, x9, x10, x11, x12, x13, x14, x15, x16, some ⟨pe, .sh⟩, some ⟨ue, .sh⟩, some ⟨.list [.list (tk ++ [.str (Str.ofString "more")]), .list tk], .ow⟩] ?_ ?_
  · exact sNest_ok (ρ1 := [x0, x1, x2, some ⟨be, .sh⟩, x4, x5, x6, x7, x8, x9, x10, x11, x12, x13, x14, x15, x16, some ⟨pe, .sh⟩, some ⟨ue, .sh⟩, none]) (ρ2 := [x0, x1, x2, some ⟨be, .sh⟩, x4, x5, x6, x7, x8, x9, x10, x11, x12, x13, x14, x15, x16, some ⟨pe, .sh⟩, some ⟨ue, .sh⟩, none]) (ρ3 := [x0, x1, x2, some ⟨be, .sh⟩, x4, x5, x6, x7, x8, x9, x10, x11, x12, x13, x14, x15, x16, some ⟨pe, .sh⟩, some ⟨ue, .sh⟩, none]) (by simp [e1]) (by simp [e1]) (by simp) ⟨by simp, rfl⟩ ⟨by simp, rfl, z⟩
  · simp [e1, e2, s1]
theorem law_k20_ok (hx : TextQ 6 Fx) (hq : TakeQ 6 Fq) (he : TakeT 60 Fe) (hp : PlanGen 4 Fp) (ht : TextSp 3 Ft) (ho : BookRows 3 Fo) (hm : MadeIo 3 Fm) (hr : BookRdI 60 Fr) (ha : AllP 3 Fa) (hk : TakersSp 3 Fk) (hl : LTakers 3 Fl) (hs : PlacesSp 3 Fs) (hb : BookGen 2 Fb) (hc : CellSp Fc) (ns : List Int) :
    fnF 20 1 (m_law_k20 Fx Fq Fe Fp Ft Fo Fm Fr Fa Fk Fl Fs Fb Fc) [some ⟨.list (ns.map .int), .sh⟩] = .ok (.sh (.bool true)) [none] := by
  obtain ⟨cell, a1, e1⟩ := hc ns 0 (some 0)
  obtain ⟨m, hm6, hm5⟩ : ∃ m : Nat, cell % 6 = (m : Int) ∧ m ≤ 5 := ⟨(cell % 6).toNat, by omega, by omega⟩
  obtain ⟨b, a2, e2, B, bl, _⟩ := hb ns a1 (some 0) m hm5
  have e2 : Fb [some ⟨stD ns a1 (some 0), .io⟩, some ⟨.int m, .sh⟩, some ⟨.int 2, .sh⟩] = .ok (.sh b.enc) [some ⟨stD ns a2 (some 0), .io⟩, none, none] := e2
  have len := B.len
  have pos := B.pos
  obtain ⟨j, hj6, jl⟩ : ∃ j : Nat, cell / 6 % (b.trees.length : Int) = (j : Int) ∧ j < b.trees.length := by
    have h1 := Int.emod_nonneg (cell / 6) (show (b.trees.length : Int) ≠ 0 by omega)
    have h2 := Int.emod_lt_of_pos (cell / 6) (show (0 : Int) < (b.trees.length : Int) by omega)
    exact ⟨(cell / 6 % (b.trees.length : Int)).toNat, by omega, by omega⟩
  obtain ⟨⟨k, t⟩, hkt⟩ : ∃ p, b.trees[j]? = some p := ⟨_, List.getElem?_eq_getElem jl⟩
  have mt := List.mem_of_getElem? hkt
  have T := B.trees _ mt
  have th := T.ht
  have tz := T.sz
  have tok := T.ok
  dsimp only at th tz tok
  have W := B.w
  -- the plan
  obtain ⟨q, a3, e3, G⟩ := hp 3 b ns a2 0 3 k B (by omega) (List.mem_map.mpr ⟨(k, t), mt, rfl⟩) (by unfold rankP; split <;> omega) (by omega)
  have e3' : Fp [some ⟨stD ns (a2 : Int) (some 0), .io⟩, some ⟨b.enc, .sh⟩, some ⟨.str k, .sh⟩, some ⟨.int 3, .sh⟩] = .ok (.sh q.enc) [some ⟨stD ns (a3 : Int) (some ((0 + q.size : Nat) : Int)), .io⟩, none, none, none] := e3
  have Q := G.pq B (by omega) (by omega)
  obtain ⟨l1, l2, l3, l4, l5, l6⟩ := Q.line
  have wk : WOk q.words := ⟨by omega, fun w m => by have := l4 w m; omega, l6⟩
  have f1 := hx q Q.tok Q.dep (by omega) l1
  have f2 := hq [] [] q Q.tok Q.dep (by simpa using wk)
  rw [List.nil_append, List.append_nil, List.length_nil, Nat.zero_add] at f2
  have f2 : Fq [some ⟨.list (q.words.map .str), .sh⟩, some ⟨.int 0, .sh⟩] = .ok (.sh (.tuple [q.enc, .int (q.words.length : Int)])) [none, none] := f2
  have q0 : q.words ≠ [] := by cases q; rw [Pl.words]; simp
  have f3 : splitD (.str (lineT q.words)) (.str (Str.ofString " ")) = some (.fr (.list (q.words.map .str))) := by
    have := splitD_s (lineT q.words) BL (by decide +kernel) (by omega)
    rw [line_split2 q0 l5] at this
    exact this
  obtain ⟨c1, c2⟩ := penc_clean q Q.tok
  have d1 := Q.dep
  have s1 : eqB false (.tuple [q.enc, .int (q.words.length : Int)]) (.tuple [q.enc, .int (q.words.length : Int)]) = some (.sh (.bool (!false))) := eqB_same false (by rw [cleanB, cleanL, cleanL, cleanL, c1]; rfl) (by simp only [PyData.depth, PyData.depthAll]; omega)
  obtain ⟨c3, c4⟩ := strs_clean (ks := q.words) l6
  have s2 := eqB_same false c3 c4
  -- the tree's words
  have wc := word_chars t tok
  have t0 : t.words ≠ [] := by obtain ⟨w, wr, c, h1, _⟩ := words_hd tok; rw [h1]; simp
  have tw := words_len t
  have g1 := ht t tok th (by omega)
  have g2 : splitD (.str (lineT t.words)) (.str (Str.ofString " ")) = some (.fr (.list (t.words.map .str))) := by
    have := splitD_s (lineT t.words) BL (by decide +kernel) (by have := tree_line T; dsimp only at this; omega)
    rw [line_split2 t0 (fun w mw q => by have := (wc w mw).2 32 q; omega)] at this
    exact this
  have wso : ∀ w ∈ t.words, PyData.strOk w = true := fun w mw => strOk_of fun c mc => by have := (wc w mw).2 c mc; omega
  have g3 := he t.words 0 ⟨by omega, fun w mw => by have := (wc w mw).1; omega, wso⟩ (by omega) (by unfold opensT; have := words_ob t tok; rw [List.drop_zero]; omega)
  rw [rdT_whole tok (by omega)] at g3
  have g3 : Fe [some ⟨.list (t.words.map .str), .sh⟩, some ⟨.int 0, .sh⟩] = .ok (.sh (.tuple [t.enc, .int (t.words.length : Int)])) [none, none] := g3
  have s3 : eqB true (.tuple [t.enc, .int (t.words.length : Int)]) (.tuple [t.enc, .int (t.words.length : Int)]) = some (.sh (.bool (!true))) := eqB_same true (by rw [cleanB, cleanL, cleanL, cleanL, clean_enc t tok]; rfl) (by have := depth_enc t; simp only [PyData.depth, PyData.depthAll]; omega)
  obtain ⟨c5, c6⟩ := strs_clean (ks := t.words) wso
  have s4 := eqB_same true c5 c6
  -- the book's rows
  have h1 := ho b W.bw
  have h2 := hr b.rows b.top b.trees (by unfold Bk.rows; simp; omega) (rows_ok W (by decide)) (rdB_rows W (by decide) (by decide))
  have eb : (⟨b.top, b.trees⟩ : Bk) = b := rfl
  have h3 := hm b.top b.trees (by omega) W.pair
  rw [mkX_none W (by decide)] at h3
  dsimp only at h3
  rw [eb] at h2 h3
  obtain ⟨c7, c8⟩ := strs_clean (rows_strOk (n := 51) W)
  have s5 := eqB_same true c7 c8
  obtain ⟨c9, c10⟩ := bk_clean W (by decide)
  have s6 := eqB_same true c9 c10
  -- places
  have p1 := hs t th (by omega)
  have p2 := ha t [] th (by omega) (by simp; omega)
  have p2 : Fa [some ⟨t.enc, .sh⟩, some ⟨.tuple [], .sh⟩] = .ok (.fr (.list ((t.pps []).map encPT))) [none, none] := p2
  have s7 : eqB true (.list (t.places.map encP)) (.list (t.places.map encP)) = some (.sh (.bool (!true))) := eqB_same true (by rw [cleanB]; exact cleanL_of fun d m => by obtain ⟨p, _, rfl⟩ := List.mem_map.mp m; exact (encP_clean p).1) (by
    have := depthAll_of (ds := t.places.map encP) (n := 1) fun d m => by obtain ⟨p, _, rfl⟩ := List.mem_map.mp m; exact (encP_clean p).2
    rw [PyData.depth]; omega)
  have pl : t.places.length = t.pieces.length := places_len t
  have lc := lcL_all (vs := [17, 18]) (g := gT 2 (gsC (gN 17) (gsC (gN 18) gsN))) (fe := eNox (m_law_k20_ce2 Fx Fq Fe Fp Ft Fo Fm Fr Fa Fk Fl Fs Fb Fc)) [some ⟨.list (ns.map .int), .sh⟩, some ⟨stD ns a2 (some 0), .ow⟩, some ⟨.int cell, .sh⟩, some ⟨b.enc, .sh⟩, none, none, none, none, none, none, none, none, none, none, none, some ⟨.str k, .sh⟩, some ⟨t.enc, .sh⟩, none, none, none] encPT
    (fun x => [some ⟨.list (ns.map .int), .sh⟩, some ⟨stD ns a2 (some 0), .ow⟩, some ⟨.int cell, .sh⟩, some ⟨b.enc, .sh⟩, none, none, none, none, none, none, none, none, none, none, none, some ⟨.str k, .sh⟩, some ⟨t.enc, .sh⟩, some ⟨encP x.1, .sh⟩, some ⟨x.2.enc, .sh⟩, none]) (fun x => encP x.1) (t.pps []) [] (fits (by simp [pps_len]; omega)) (fun x mx => by
      unfold encPT
      generalize stD ns (a2 : Int) (some 0) = s0
      exact ⟨by simp, by simp, by simp [m_law_k20_ce2]⟩)
  rw [List.nil_append, show (t.pps []).map (fun x => encP x.1) = t.places.map encP by rw [← pps_places, List.map_map]; rfl] at lc
  have lp : ∀ x0 x1 x2 x4 x5 x15 x16 : Option Cel, forL (gT 2 (gsC (gN 17) (gsC (gN 18) gsN))) (m_law_k20_b1 Fx Fq Fe Fp Ft Fo Fm Fr Fa Fk Fl Fs Fb Fc) ((t.pps []).map encPT) [x0, x1, x2, some ⟨b.enc, .sh⟩, x4, x5, none, none, none, none, none, none, none, none, none, x15, x16, none, none, none] = .nx [x0, x1, x2, some ⟨b.enc, .sh⟩, x4, x5, none, none, none, none, none, none, none, none, none, x15, x16, none, none, none] := fun x0 x1 x2 x4 x5 x15 x16 =>
    forL_same _ encPT (t.pps []) fun x mx => k20_piece hk hl B x0 x1 x2 x4 x5 none none none none none none none none none x15 x16 x (piece_ok tok x.2 (by rw [← pps_snd t []]; exact List.mem_map_of_mem mx))
  have atk : L2.atI (b.trees.map encKT) (j : Int) = some (encKT (k, t)) := atI_nat (by rw [List.getElem?_map, hkt]; rfl)
  have ixt := ix_trees b
  have ixp := ix_top b
  have btl : (b.trees.map encKT).length = b.trees.length := by simp
  have z1 : (t.places.map encP).length < sizeLine := fitsl (by simp; omega)
  have z2 : (b.trees.map encKT).length ≤ sizeLine := fits (by simp; omega)
  have z3 : (b.rows.map PyData.str).length ≤ sizeLine := fits (by unfold Bk.rows; simp; omega)
  have z4 : (t.words.map PyData.str).length ≤ sizeLine := fits (by simp; omega)
  rw [m_law_k20_eq]
  unfold m_law_k20
  have e1' : Fc [some ⟨stD ns 0 (some 0), .io⟩] = .ok (.sh (.int cell)) [some ⟨stD ns a1 (some 0), .io⟩] := e1
  refine fin_seq [some ⟨.list (ns.map .int), .sh⟩, some ⟨stD ns 0 (some 0), .ow⟩, none, none, none, none, none, none, none, none, none, none, none, none, none, none, none, none, none, none] (by simp [dMerge, dPut, stD]) ?_
  refine fin_seq [some ⟨.list (ns.map .int), .sh⟩, some ⟨stD ns a1 (some 0), .ow⟩, some ⟨.int cell, .sh⟩, none, none, none, none, none, none, none, none, none, none, none, none, none, none, none, none, none] (by
    generalize stD ns 0 (some 0) = s0 at e1' ⊢
    simp [e1']) ?_
  refine fin_seq [some ⟨.list (ns.map .int), .sh⟩, some ⟨stD ns a2 (some 0), .ow⟩, some ⟨.int cell, .sh⟩, some ⟨b.enc, .sh⟩, none, none, none, none, none, none, none, none, none, none, none, none, none, none, none, none] (by
    generalize stD ns (a1 : Int) (some 0) = s0 at e2 ⊢
    generalize stD ns (a2 : Int) (some 0) = s1 at e2 ⊢
    simp [hm6, e2]) ?_
  have p0 : (0 : Int) < (b.trees.length : Int) := by omega
  have twl : (t.words.map PyData.str).length = t.words.length := by simp
  have qwl : (q.words.map PyData.str).length = q.words.length := by simp
  clear e1 e2 e3 e1' tw
  have ep : encKT (k, t) = .tuple [.str k, t.enc] := rfl
  rw [ep] at atk
  generalize b.trees.map encKT = bt at ixt atk btl z2 h3
  generalize b.rows.map PyData.str = rw0 at h1 h2 s5 z3
  generalize t.places.map encP = tp at p1 s7 lc z1
  generalize (t.pps []).map encPT = pp at p2 lc lp
  generalize t.words.map PyData.str = tw0 at g2 g3 s4 z4 twl
  generalize q.words.map PyData.str = qw0 at f2 f3 s2 qwl
  generalize t.words.length = tn at g3 s3 twl
  generalize q.words.length = qn at f2 s1 qwl
  generalize lineT t.words = tln at g1 g2
  generalize lineT q.words = qln at f1 f3
  generalize stD ns (a2 : Int) (some 0) = s0 at e3' lc ⊢
  generalize stD ns (a3 : Int) (some ((0 + q.size : Nat) : Int)) = sd3 at e3' ⊢
  generalize q.enc = qe at e3' f1 f2 s1 ⊢
  generalize t.enc = te at g1 g3 s3 p1 p2 atk lc ⊢
  generalize b.enc = be at e3' h1 h2 h3 s6 ixt ixp lp lc ⊢
  generalize PyData.list (ns.map .int) = nsl at lc ⊢
  refine fin_seq [some ⟨nsl, .sh⟩, some ⟨s0, .ow⟩, some ⟨.int cell, .sh⟩, some ⟨be, .sh⟩, none, none, none, none, none, none, none, none, none, none, none, some ⟨.str k, .sh⟩, some ⟨te, .sh⟩, none, none, none] (by simp [ixt, btl, resO_mod p0, hj6, atk]) ?_
  refine fin_seq [some ⟨nsl, .sh⟩, some ⟨s0, .ow⟩, some ⟨.int cell, .sh⟩, some ⟨be, .sh⟩, some ⟨.list tp, .ow⟩, none, none, none, none, none, none, none, none, none, none, some ⟨.str k, .sh⟩, some ⟨te, .sh⟩, none, none, none] (by simp [p2, lc]) ?_
  refine fin_seq [some ⟨nsl, .sh⟩, some ⟨s0, .ow⟩, some ⟨.int cell, .sh⟩, some ⟨be, .sh⟩, some ⟨.list tp, .ow⟩, some ⟨.list [.list (tp ++ [.tuple [.int 7]]), .list tp], .ow⟩, none, none, none, none, none, none, none, none, none, some ⟨.str k, .sh⟩, some ⟨te, .sh⟩, none, none, none] (sNest_ok (ρ1 := [some ⟨nsl, .sh⟩, some ⟨s0, .ow⟩, some ⟨.int cell, .sh⟩, some ⟨be, .sh⟩, some ⟨.list tp, .ow⟩, none, none, none, none, none, none, none, none, none, none, some ⟨.str k, .sh⟩, some ⟨te, .sh⟩, none, none, none]) (ρ2 := [some ⟨nsl, .sh⟩, some ⟨s0, .ow⟩, some ⟨.int cell, .sh⟩, some ⟨be, .sh⟩, some ⟨.list tp, .ow⟩, none, none, none, none, none, none, none, none, none, none, some ⟨.str k, .sh⟩, some ⟨te, .sh⟩, none, none, none]) (ρ3 := [some ⟨nsl, .sh⟩, some ⟨s0, .ow⟩, some ⟨.int cell, .sh⟩, some ⟨be, .sh⟩, some ⟨.list tp, .ow⟩, none, none, none, none, none, none, none, none, none, none, some ⟨.str k, .sh⟩, some ⟨te, .sh⟩, none, none, none]) (by simp [p1]) (by simp [p1]) (by simp) ⟨by simp, rfl⟩ ⟨by simp, rfl, z1⟩) ?_
  refine fin_seq [some ⟨nsl, .sh⟩, some ⟨s0, .ow⟩, some ⟨.int cell, .sh⟩, some ⟨be, .sh⟩, some ⟨.list tp, .ow⟩, some ⟨.list [.list (tp ++ [.tuple [.int 7]]), .list tp], .ow⟩, none, none, none, none, none, none, none, none, none, some ⟨.str k, .sh⟩, some ⟨te, .sh⟩, none, none, none] (by simp [s7, p1]) ?_
  refine fin_seq [some ⟨nsl, .sh⟩, some ⟨s0, .ow⟩, some ⟨.int cell, .sh⟩, some ⟨be, .sh⟩, some ⟨.list tp, .ow⟩, some ⟨.list [.list (tp ++ [.tuple [.int 7]]), .list tp], .ow⟩, none, none, none, none, none, none, none, none, none, some ⟨.str k, .sh⟩, some ⟨te, .sh⟩, none, none, none] (by
    have := lp (some ⟨nsl, .sh⟩) (some ⟨s0, .ow⟩) (some ⟨.int cell, .sh⟩) (some ⟨.list tp, .ow⟩) (some ⟨.list [.list (tp ++ [.tuple [.int 7]]), .list tp], .ow⟩) (some ⟨.str k, .sh⟩) (some ⟨te, .sh⟩)
    rw [← this]
    simp [p2]) ?_
  refine fin_seq [some ⟨nsl, .sh⟩, some ⟨s0, .ow⟩, some ⟨.int cell, .sh⟩, some ⟨be, .sh⟩, some ⟨.list tp, .ow⟩, some ⟨.list [.list (tp ++ [.tuple [.int 7]]), .list tp], .ow⟩, some ⟨.list [.list [], .list rw0], .ow⟩, none, none, none, none, none, none, none, none, some ⟨.str k, .sh⟩, some ⟨te, .sh⟩, none, none, none] (sNestC_ok (d1 := rw0) (ρ1 := [some ⟨nsl, .sh⟩, some ⟨s0, .ow⟩, some ⟨.int cell, .sh⟩, some ⟨be, .sh⟩, some ⟨.list tp, .ow⟩, some ⟨.list [.list (tp ++ [.tuple [.int 7]]), .list tp], .ow⟩, none, none, none, none, none, none, none, none, none, some ⟨.str k, .sh⟩, some ⟨te, .sh⟩, none, none, none]) (ρ2 := [some ⟨nsl, .sh⟩, some ⟨s0, .ow⟩, some ⟨.int cell, .sh⟩, some ⟨be, .sh⟩, some ⟨.list tp, .ow⟩, some ⟨.list [.list (tp ++ [.tuple [.int 7]]), .list tp], .ow⟩, none, none, none, none, none, none, none, none, none, some ⟨.str k, .sh⟩, some ⟨te, .sh⟩, none, none, none]) (by simp [h1]) (by simp [h1]) ⟨by simp, rfl⟩) ?_
  refine fin_seq [some ⟨nsl, .sh⟩, some ⟨s0, .ow⟩, some ⟨.int cell, .sh⟩, some ⟨be, .sh⟩, some ⟨.list tp, .ow⟩, some ⟨.list [.list (tp ++ [.tuple [.int 7]]), .list tp], .ow⟩, some ⟨.list [.list [], .list rw0], .ow⟩, some ⟨.list rw0, .ow⟩, none, none, none, none, none, none, none, some ⟨.str k, .sh⟩, some ⟨te, .sh⟩, none, none, none] (by simp [z3]) ?_
  refine fin_seq [some ⟨nsl, .sh⟩, some ⟨s0, .ow⟩, some ⟨.int cell, .sh⟩, some ⟨be, .sh⟩, some ⟨.list tp, .ow⟩, some ⟨.list [.list (tp ++ [.tuple [.int 7]]), .list tp], .ow⟩, some ⟨.list [.list [], .list rw0], .ow⟩, some ⟨.list rw0, .ow⟩, some ⟨be, .sh⟩, none, none, none, none, none, none, some ⟨.str k, .sh⟩, some ⟨te, .sh⟩, none, none, none] (by simp [h2]) ?_
  refine fin_seq [some ⟨nsl, .sh⟩, some ⟨s0, .ow⟩, some ⟨.int cell, .sh⟩, some ⟨be, .sh⟩, some ⟨.list tp, .ow⟩, some ⟨.list [.list (tp ++ [.tuple [.int 7]]), .list tp], .ow⟩, some ⟨.list [.list [], .list rw0], .ow⟩, some ⟨.list [], .ow⟩, some ⟨be, .sh⟩, none, none, none, none, none, none, some ⟨.str k, .sh⟩, some ⟨te, .sh⟩, none, none, none] (sClr_ow rfl) ?_
  refine fin_seq [some ⟨nsl, .sh⟩, some ⟨s0, .ow⟩, some ⟨.int cell, .sh⟩, some ⟨be, .sh⟩, some ⟨.list tp, .ow⟩, some ⟨.list [.list (tp ++ [.tuple [.int 7]]), .list tp], .ow⟩, some ⟨.list [.list [], .list rw0], .ow⟩, some ⟨.list [], .ow⟩, some ⟨be, .sh⟩, some ⟨.list bt, .ow⟩, none, none, none, none, none, some ⟨.str k, .sh⟩, some ⟨te, .sh⟩, none, none, none] (by simp [ixt, z2]) ?_
  refine fin_seq [some ⟨nsl, .sh⟩, some ⟨s0, .ow⟩, some ⟨.int cell, .sh⟩, some ⟨be, .sh⟩, some ⟨.list tp, .ow⟩, some ⟨.list [.list (tp ++ [.tuple [.int 7]]), .list tp], .ow⟩, some ⟨.list [.list [], .list rw0], .ow⟩, some ⟨.list [], .ow⟩, some ⟨be, .sh⟩, some ⟨.list bt, .ow⟩, some ⟨be, .sh⟩, none, none, none, none, some ⟨.str k, .sh⟩, some ⟨te, .sh⟩, none, none, none] (by simp [ixp, h3]) ?_
  refine fin_seq [some ⟨nsl, .sh⟩, some ⟨s0, .ow⟩, some ⟨.int cell, .sh⟩, some ⟨be, .sh⟩, some ⟨.list tp, .ow⟩, some ⟨.list [.list (tp ++ [.tuple [.int 7]]), .list tp], .ow⟩, some ⟨.list [.list [], .list rw0], .ow⟩, some ⟨.list [], .ow⟩, some ⟨be, .sh⟩, some ⟨.list [], .ow⟩, some ⟨be, .sh⟩, none, none, none, none, some ⟨.str k, .sh⟩, some ⟨te, .sh⟩, none, none, none] (sClr_ow rfl) ?_
  refine fin_seq [some ⟨nsl, .sh⟩, some ⟨s0, .ow⟩, some ⟨.int cell, .sh⟩, some ⟨be, .sh⟩, some ⟨.list tp, .ow⟩, some ⟨.list [.list (tp ++ [.tuple [.int 7]]), .list tp], .ow⟩, some ⟨.list [.list [], .list rw0], .ow⟩, some ⟨.list [], .ow⟩, some ⟨be, .sh⟩, some ⟨.list [], .ow⟩, some ⟨be, .sh⟩, none, none, none, none, some ⟨.str k, .sh⟩, some ⟨te, .sh⟩, none, none, none] (by simp [s6, h1, s5]) ?_
  refine fin_seq [some ⟨nsl, .sh⟩, some ⟨s0, .ow⟩, some ⟨.int cell, .sh⟩, some ⟨be, .sh⟩, some ⟨.list tp, .ow⟩, some ⟨.list [.list (tp ++ [.tuple [.int 7]]), .list tp], .ow⟩, some ⟨.list [.list [], .list rw0], .ow⟩, some ⟨.list [], .ow⟩, some ⟨be, .sh⟩, some ⟨.list [], .ow⟩, some ⟨be, .sh⟩, some ⟨.list tw0, .ow⟩, none, none, none, some ⟨.str k, .sh⟩, some ⟨te, .sh⟩, none, none, none] (by simp [g1, g2]) ?_
  refine fin_seq [some ⟨nsl, .sh⟩, some ⟨s0, .ow⟩, some ⟨.int cell, .sh⟩, some ⟨be, .sh⟩, some ⟨.list tp, .ow⟩, some ⟨.list [.list (tp ++ [.tuple [.int 7]]), .list tp], .ow⟩, some ⟨.list [.list [], .list rw0], .ow⟩, some ⟨.list [], .ow⟩, some ⟨be, .sh⟩, some ⟨.list [], .ow⟩, some ⟨be, .sh⟩, some ⟨.list tw0, .ow⟩, some ⟨.list tw0, .ow⟩, none, none, some ⟨.str k, .sh⟩, some ⟨te, .sh⟩, none, none, none] (by simp [z4]) ?_
  refine fin_seq [some ⟨nsl, .sh⟩, some ⟨sd3, .ow⟩, some ⟨.int cell, .sh⟩, some ⟨be, .sh⟩, some ⟨.list tp, .ow⟩, some ⟨.list [.list (tp ++ [.tuple [.int 7]]), .list tp], .ow⟩, some ⟨.list [.list [], .list rw0], .ow⟩, some ⟨.list [], .ow⟩, some ⟨be, .sh⟩, some ⟨.list [], .ow⟩, some ⟨be, .sh⟩, some ⟨.list tw0, .ow⟩, some ⟨.list tw0, .ow⟩, some ⟨qe, .sh⟩, none, some ⟨.str k, .sh⟩, some ⟨te, .sh⟩, none, none, none] (by simp [e3']) ?_
  refine fin_seq [some ⟨nsl, .sh⟩, some ⟨sd3, .ow⟩, some ⟨.int cell, .sh⟩, some ⟨be, .sh⟩, some ⟨.list tp, .ow⟩, some ⟨.list [.list (tp ++ [.tuple [.int 7]]), .list tp], .ow⟩, some ⟨.list [.list [], .list rw0], .ow⟩, some ⟨.list [], .ow⟩, some ⟨be, .sh⟩, some ⟨.list [], .ow⟩, some ⟨be, .sh⟩, some ⟨.list tw0, .ow⟩, some ⟨.list tw0, .ow⟩, some ⟨qe, .sh⟩, some ⟨.list qw0, .ow⟩, some ⟨.str k, .sh⟩, some ⟨te, .sh⟩, none, none, none] (by simp [f1, f3]) ?_
  refine fin_seq [some ⟨nsl, .sh⟩, some ⟨sd3, .ow⟩, some ⟨.int cell, .sh⟩, some ⟨be, .sh⟩, some ⟨.list tp, .ow⟩, some ⟨.list [.list (tp ++ [.tuple [.int 7]]), .list tp], .ow⟩, some ⟨.list [.list [], .list rw0], .ow⟩, some ⟨.list [], .ow⟩, some ⟨be, .sh⟩, some ⟨.list [], .ow⟩, some ⟨be, .sh⟩, some ⟨.list tw0, .sh⟩, some ⟨.list tw0, .ow⟩, some ⟨qe, .sh⟩, some ⟨.list qw0, .ow⟩, some ⟨.str k, .sh⟩, some ⟨te, .sh⟩, none, none, none] (by simp [g3, twl, s3, s4]) ?_
  simp [f2, qwl, s1, f1, f3, s2]
end
end GM
namespace GM
open PySem L2 GS
end GM
namespace Wk20
open PySem L2 GS GM
def fs : Nat → Nat → FF
  | 0, _ => stuckF
  | k + 1, 0 => fnF 2 1 (m_is_name)
  | k + 1, 1 => fnF 2 1 (m_is_sign)
  | k + 1, 2 => fnF 1 1 (m_kids_of)
  | k + 1, 3 => fnF 5 1 (m_places (fs k 2) (fs k 3))
  | k + 1, 4 => fnF 5 2 (m_piece_at_2 (fs k 43) (fs k 2))
  | k + 1, 5 => fnF 3 1 (m_signs_of (fs k 2) (fs k 5))
  | k + 1, 6 => fnF 2 1 (m_is_key)
  | k + 1, 7 => fnF 4 1 (m_feet_of (fs k 3) (fs k 4))
  | k + 1, 8 => fnF 1 1 (m_is_graft (fs k 7))
  | k + 1, 9 => fnF 2 1 (m_name_of (fs k 7))
  | k + 1, 10 => fnF 3 1 (m_amiss_in (fs k 5) (fs k 7) (fs k 3))
  | k + 1, 11 => fnF 7 2 (m_made_book (fs k 47) (fs k 10) (fs k 46) (fs k 6) (fs k 45))
  | k + 1, 12 => fnF 1 1 (m_takes_words)
  | k + 1, 13 => fnF 3 1 (m_tree_words (fs k 13) (fs k 12))
  | k + 1, 14 => fnF 1 1 (m_tree_text (fs k 13))
  | k + 1, 15 => fnF 2 2 (m_word_at_2 (fs k 44))
  | k + 1, 16 => fnF 1 1 (m_leaf_of (fs k 0) (fs k 1))
  | k + 1, 17 => fnF 3 2 (m_take_takes (fs k 0) (fs k 15))
  | k + 1, 18 => fnF 7 2 (m_take_knot_2 (fs k 15) (fs k 19) (fs k 44) (fs k 17) (fs k 0))
  | k + 1, 19 => fnF 4 2 (m_take_tree_2 (fs k 44) (fs k 16) (fs k 18) (fs k 15))
  | k + 1, 20 => fnF 4 1 (m_read_tree_2 (fs k 44) (fs k 19))
  | k + 1, 21 => fnF 3 1 (m_book_rows (fs k 14))
  | k + 1, 22 => fnF 2 1 (m_tree_in (fs k 20))
  | k + 1, 23 => fnF 4 2 (m_row_read (fs k 48) (fs k 22))
  | k + 1, 24 => fnF 4 1 (m_read_book_2 (fs k 11) (fs k 23) (fs k 0) (fs k 48))
  | k + 1, 25 => fnF 1 1 (m_wanted)
  | k + 1, 26 => fnF 5 2 (m_takers (fs k 9) (fs k 8) (fs k 25))
  | k + 1, 27 => fnF 2 1 (m_place_word)
  | k + 1, 28 => fnF 4 1 (m_plan_words (fs k 27) (fs k 28))
  | k + 1, 29 => fnF 1 1 (m_plan_text (fs k 28))
  | k + 1, 30 => fnF 3 1 (m_place_of)
  | k + 1, 31 => fnF 2 2 (m_word_at_2 (fs k 44))
  | k + 1, 32 => fnF 8 2 (m_take_plan (fs k 31) (fs k 32) (fs k 44) (fs k 30) (fs k 6))
  | k + 1, 33 => fnF 1 1 (m_law_cell)
  | k + 1, 34 => fnF 8 2 (m_law_kid (fs k 34) (fs k 33))
  | k + 1, 35 => fnF 7 3 (m_law_footed (fs k 35))
  | k + 1, 36 => fnF 7 2 (m_law_drawn (fs k 35) (fs k 34) (fs k 33))
  | k + 1, 37 => fnF 10 3 (m_law_book (fs k 36) (fs k 33))
  | k + 1, 38 => fnF 4 2 (m_law_pieces (fs k 38))
  | k + 1, 39 => fnF 4 1 (m_law_called (fs k 38))
  | k + 1, 40 => fnF 4 2 (m_law_takers (fs k 39))
  | k + 1, 41 => fnF 11 4 (m_law_plan (fs k 38) (fs k 41) (fs k 40) (fs k 33))
  | k + 1, 42 => fnF 20 1 (m_law_k20 (fs k 29) (fs k 32) (fs k 19) (fs k 41) (fs k 14) (fs k 21) (fs k 11) (fs k 24) (fs k 38) (fs k 26) (fs k 40) (fs k 3) (fs k 37) (fs k 33))
  | k + 1, 43 => iniF (k + 1)
  | k + 1, 44 => iniF (k + 1)
  | k + 1, 45 => iniF (k + 1)
  | k + 1, 46 => iniF (k + 1)
  | k + 1, 47 => iniF (k + 1)
  | k + 1, 48 => iniF (k + 1)
  | _ + 1, _ => stuckF
end Wk20
namespace Wk20
open PySem L2 GS GM
theorem hx_NoPlace : ∀ m, 2 ≤ m → Raises (fs m 43)
  | m + 1, h => raises_ini h
theorem hx_NoText : ∀ m, 2 ≤ m → Raises (fs m 44)
  | m + 1, h => raises_ini h
theorem hx_NoKey : ∀ m, 2 ≤ m → Raises (fs m 45)
  | m + 1, h => raises_ini h
theorem hx_Twice : ∀ m, 2 ≤ m → Raises (fs m 46)
  | m + 1, h => raises_ini h
theorem hx_NoTree : ∀ m, 2 ≤ m → Raises (fs m 47)
  | m + 1, h => raises_ini h
theorem hx_NoRow : ∀ m, 2 ≤ m → Raises (fs m 48)
  | m + 1, h => raises_ini h
theorem h_m_is_name : ∀ m, 1 ≤ m → NameSp (fs m 0)
  | _ + 1, _ => fun s hs => is_name_ok s hs
theorem h_m_is_sign : ∀ m, 1 ≤ m → SignSp (fs m 1)
  | _ + 1, _ => fun s hs => is_sign_ok s hs
theorem h_m_kids_of : ∀ m, 1 ≤ m → KidsSp (fs m 2)
  | _ + 1, _ => kids_of_ok
theorem h_m_places : ∀ n m, n ≤ 1000 → n + 2 ≤ m → PlacesSp n (fs m 3)
  | _, m + 1, hn, h => places_ok (h_m_kids_of m (by omega)) hn fun k e => h_m_places k m (by omega) (by omega)
theorem h_m_piece_at_2 : ∀ m, 2 ≤ m → PieceSp (fs m 4)
  | m + 1, h => piece_at_2_ok (h_m_kids_of m (by omega))
theorem h_m_signs_of : ∀ n m, n + 2 ≤ m → SignsSp n (fs m 5)
  | _, m + 1, h => signs_of_ok (h_m_kids_of m (by omega)) fun k e => h_m_signs_of k m (by omega)
theorem h_m_is_key : ∀ m, 1 ≤ m → KeySp (fs m 6)
  | _ + 1, _ => is_key_ok
theorem h_m_feet_of : ∀ n m, n ≤ 1000 → n + 3 ≤ m → FeetSp n (fs m 7)
  | n, m + 1, hn, h => feet_of_ok (h_m_places n m hn (by omega)) (h_m_piece_at_2 m (by omega))
theorem h_m_is_graft : ∀ n m, n ≤ 1000 → n + 4 ≤ m → GraftSp n (fs m 8)
  | n, m + 1, hn, h => is_graft_ok (h_m_feet_of n m hn (by omega))
theorem h_m_name_of : ∀ n m, n ≤ 1000 → n + 4 ≤ m → NameOfSp n (fs m 9)
  | n, m + 1, hn, h => name_of_ok (h_m_feet_of n m hn (by omega))
theorem h_m_amiss_in : ∀ n m, n ≤ 1000 → n + 4 ≤ m → AmissSp n (fs m 10)
  | n, m + 1, hn, h => amiss_in_ok (h_m_signs_of n m (by omega)) (h_m_feet_of n m hn (by omega)) (h_m_places n m hn (by omega))
theorem h_m_made_book : ∀ n m, n ≤ 1000 → n + 5 ≤ m → MadeIo n (fs m 11)
  | n, m + 1, hn, h => made_book_okI (h_m_amiss_in n m hn (by omega)) (h_m_is_key m (by omega)) (hx_NoTree m (by omega)) (hx_Twice m (by omega)) (hx_NoKey m (by omega))
theorem h_m_takes_words : ∀ m, 1 ≤ m → WordsTk (fs m 12)
  | _ + 1, _ => takes_words_ok
theorem h_m_tree_words : ∀ n m, n + 2 ≤ m → WordsTr n (fs m 13)
  | _, m + 1, h => tree_words_ok (h_m_takes_words m (by omega)) fun k e => h_m_tree_words k m (by omega)
theorem h_m_tree_text : ∀ n m, n + 3 ≤ m → TextSp n (fs m 14)
  | n, m + 1, h => tree_text_ok (h_m_tree_words n m (by omega))
theorem h_m_word_at_2 : ∀ m, 3 ≤ m → WordSp (fs m 15)
  | m + 1, h => word_at_2_ok (hx_NoText m (by omega))
theorem h_m_leaf_of : ∀ m, 2 ≤ m → LeafG (fs m 16)
  | m + 1, h => leaf_of_ok2 (h_m_is_name m (by omega)) (h_m_is_sign m (by omega))
theorem h_m_take_takes : ∀ m, 4 ≤ m → TkG (fs m 17)
  | m + 1, h => take_takes_ok2 (h_m_is_name m (by omega)) (h_m_word_at_2 m (by omega))
mutual
theorem h_m_take_knot_2 : ∀ n m, 2 * n + 5 ≤ m → KnotT n (fs m 18)
  | n, m + 1, h => take_knot_ok2 (h_m_word_at_2 m (by omega)) (h_m_take_tree_2 n m (by omega)) (hx_NoText m (by omega)) (h_m_take_takes m (by omega)) (h_m_is_name m (by omega))
theorem h_m_take_tree_2 : ∀ n m, 2 * n + 4 ≤ m → TakeT n (fs m 19)
  | n, m + 1, h => take_tree_ok2 (hx_NoText m (by omega)) (h_m_leaf_of m (by omega)) (fun k e => h_m_take_knot_2 k m (by omega)) (h_m_word_at_2 m (by omega))
end
theorem h_m_read_tree_2 : ∀ n m, 2 * n + 5 ≤ m → ReadT n (fs m 20)
  | n, m + 1, h => read_tree_ok2 (hx_NoText m (by omega)) (h_m_take_tree_2 n m (by omega))
theorem h_m_book_rows : ∀ n m, n + 4 ≤ m → BookRows n (fs m 21)
  | n, m + 1, h => book_rows_ok (h_m_tree_text n m (by omega))
theorem h_m_tree_in : ∀ n m, 2 * n + 6 ≤ m → TreeInSp n (fs m 22)
  | n, m + 1, h => tree_in_ok (h_m_read_tree_2 n m (by omega))
theorem h_m_row_read : ∀ n m, 2 * n + 7 ≤ m → RowSp n (fs m 23)
  | n, m + 1, h => row_read_ok (hx_NoRow m (by omega)) (h_m_tree_in n m (by omega))
theorem h_m_read_book_2 : ∀ n m, n ≤ 1000 → 2 * n + 8 ≤ m → BookRdI n (fs m 24)
  | n, m + 1, hn, h => read_book_okI (h_m_made_book n m hn (by omega)) (h_m_row_read n m (by omega)) (h_m_is_name m (by omega))
theorem h_m_wanted : ∀ m, 1 ≤ m → WantSp (fs m 25)
  | _ + 1, _ => wanted_ok
theorem h_m_takers : ∀ n m, n ≤ 1000 → n + 5 ≤ m → TakersSp n (fs m 26)
  | n, m + 1, hn, h => takers_ok (h_m_name_of n m hn (by omega)) (h_m_is_graft n m hn (by omega)) (h_m_wanted m (by omega))
theorem h_m_place_word : ∀ m, 1 ≤ m → PlaceWSp (fs m 27)
  | _ + 1, _ => place_word_ok
theorem h_m_plan_words : ∀ n m, n + 2 ≤ m → WordsQ n (fs m 28)
  | n, m + 1, h => plan_words_ok (h_m_place_word m (by omega)) fun k e => h_m_plan_words k m (by omega)
theorem h_m_plan_text : ∀ n m, n + 3 ≤ m → TextQ n (fs m 29)
  | n, m + 1, h => plan_text_ok (h_m_plan_words n m (by omega))
theorem h_m_place_of : ∀ m, 1 ≤ m → PlaceSp (fs m 30)
  | _ + 1, _ => place_of_ok
theorem h_m_word_at_2b : ∀ m, 3 ≤ m → WordSp (fs m 31)
  | m + 1, h => word_at_2_ok (hx_NoText m (by omega))
theorem h_m_take_plan : ∀ n m, n + 4 ≤ m → TakeQ n (fs m 32)
  | n, m + 1, h => take_plan_okQ (h_m_word_at_2b m (by omega)) (fun k e => h_m_take_plan k m (by omega)) (h_m_place_of m (by omega)) (h_m_is_key m (by omega))
theorem h_m_law_cell : ∀ m, 1 ≤ m → CellSp (fs m 33)
  | _ + 1, _ => law_cell_ok
theorem h_m_law_kid : ∀ n m, n + 2 ≤ m → KidGen n (fs m 34)
  | _, m + 1, h => law_kid_ok (h_m_law_cell m (by omega)) fun k e => h_m_law_kid k m (by omega)
theorem h_m_law_footed : ∀ n m, n + 1 ≤ m → FootedSp n (fs m 35)
  | _, m + 1, h => law_footed_ok fun k e => h_m_law_footed k m (by omega)
theorem h_m_law_drawn : ∀ n m, capN n ≤ 15 → n + 3 ≤ m → DrawnGen n (fs m 36)
  | n, m + 1, hn, h => law_drawn_ok hn (h_m_law_cell m (by omega)) (h_m_law_kid n m (by omega)) (h_m_law_footed (n + 1) m (by omega))
theorem h_m_law_book : ∀ n m, capN n ≤ 15 → n + 4 ≤ m → BookGen n (fs m 37)
  | n, m + 1, hn, h => law_book_ok (h_m_law_cell m (by omega)) (h_m_law_drawn n m hn (by omega))
theorem h_m_law_pieces : ∀ n m, n + 1 ≤ m → AllP n (fs m 38)
  | _, m + 1, h => law_pieces_ok fun k e => h_m_law_pieces k m (by omega)
theorem h_m_law_called : ∀ n m, n ≤ 1000 → n + 2 ≤ m → CalledSp n (fs m 39)
  | n, m + 1, hn, h => law_called_ok hn (h_m_law_pieces n m (by omega))
theorem h_m_law_takers : ∀ n m, n ≤ 1000 → n + 3 ≤ m → LTakers n (fs m 40)
  | n, m + 1, hn, h => law_takers_ok (h_m_law_called n m hn (by omega))
theorem h_m_law_plan : ∀ n m, n + 105 ≤ m → PlanGen n (fs m 41)
  | n, m + 1, h => law_plan_ok (fun k e => h_m_law_pieces k m (by omega)) (fun k e => h_m_law_plan k m (by omega)) (fun k e => h_m_law_takers k m (by omega) (by omega)) (h_m_law_cell m (by omega))
theorem law_true (ns : List Int) (hl : ns.length ≤ 63) : ∃ outs, fs 200 42 [some ⟨.list (ns.map .int), .sh⟩] = .ok (.sh (.bool true)) outs :=
  ⟨_, (law_k20_ok (h_m_plan_text 6 199 (by omega)) (h_m_take_plan 6 199 (by omega)) (h_m_take_tree_2 60 199 (by omega)) (h_m_law_plan 4 199 (by omega)) (h_m_tree_text 3 199 (by omega)) (h_m_book_rows 3 199 (by omega)) (h_m_made_book 3 199 (by omega) (by omega)) (h_m_read_book_2 60 199 (by omega) (by omega)) (h_m_law_pieces 3 199 (by omega)) (h_m_takers 3 199 (by omega) (by omega)) (h_m_law_takers 3 199 (by omega) (by omega)) (h_m_places 3 199 (by omega) (by omega)) (h_m_law_book 2 199 (by decide) (by omega)) (h_m_law_cell 199 (by omega)) ns)⟩
end Wk20
namespace Wk20
open PySem L2 GS GM
def topS (i : Nat) : Stmt := PySem.Challenge.pw_graftsay_k20_askers_own.main.body.getD i (.Pass ⟨0, 0, 0, 0⟩)
def clsS (s : Stmt) (j : Nat) : Stmt := match s with | .ClassDef (body := body) .. => body.getD j (.Pass ⟨0, 0, 0, 0⟩) | _ => s
/-- is_name -/
abbrev s0 : Stmt := topS 14
theorem sc0 : FnScope ["text", "letter"] ["text"] (defScope s0) := ⟨rfl, rfl, rfl, by decide +kernel, rfl, by decide +kernel, by decide +kernel⟩
/-- is_sign -/
abbrev s1 : Stmt := topS 15
theorem sc1 : FnScope ["text", "letter"] ["text"] (defScope s1) := ⟨rfl, rfl, rfl, by decide +kernel, rfl, by decide +kernel, by decide +kernel⟩
/-- kids_of -/
abbrev s2 : Stmt := topS 16
theorem sc2 : FnScope ["tree"] ["tree"] (defScope s2) := ⟨rfl, rfl, rfl, by decide +kernel, rfl, by decide +kernel, by decide +kernel⟩
/-- places -/
abbrev s3 : Stmt := topS 17
theorem sc3 : FnScope ["tree", "found", "k", "kid", "place"] ["tree"] (defScope s3) := ⟨rfl, rfl, rfl, by decide +kernel, rfl, by decide +kernel, by decide +kernel⟩
/-- piece_at -/
abbrev s4 : Stmt := topS 18
theorem sc4 : FnScope ["tree", "place", "found", "number", "kids"] ["tree", "place"] (defScope s4) := ⟨rfl, rfl, rfl, by decide +kernel, rfl, by decide +kernel, by decide +kernel⟩
/-- signs_of -/
abbrev s5 : Stmt := topS 19
theorem sc5 : FnScope ["tree", "found", "kid"] ["tree"] (defScope s5) := ⟨rfl, rfl, rfl, by decide +kernel, rfl, by decide +kernel, by decide +kernel⟩
/-- is_key -/
abbrev s6 : Stmt := topS 27
theorem sc6 : FnScope ["text", "letter"] ["text"] (defScope s6) := ⟨rfl, rfl, rfl, by decide +kernel, rfl, by decide +kernel, by decide +kernel⟩
/-- feet_of -/
abbrev s7 : Stmt := topS 28
theorem sc7 : FnScope ["tree", "pieces", "place", "piece"] ["tree"] (defScope s7) := ⟨rfl, rfl, rfl, by decide +kernel, rfl, by decide +kernel, by decide +kernel⟩
/-- is_graft -/
abbrev s8 : Stmt := topS 29
theorem sc8 : FnScope ["tree"] ["tree"] (defScope s8) := ⟨rfl, rfl, rfl, by decide +kernel, rfl, by decide +kernel, by decide +kernel⟩
/-- name_of -/
abbrev s9 : Stmt := topS 30
theorem sc9 : FnScope ["tree", "feet"] ["tree"] (defScope s9) := ⟨rfl, rfl, rfl, by decide +kernel, rfl, by decide +kernel, by decide +kernel⟩
/-- amiss_in -/
abbrev s10 : Stmt := topS 31
theorem sc10 : FnScope ["tree", "found", "place"] ["tree"] (defScope s10) := ⟨rfl, rfl, rfl, by decide +kernel, rfl, by decide +kernel, by decide +kernel⟩
/-- made_book -/
abbrev s11 : Stmt := topS 32
theorem sc11 : FnScope ["top", "trees", "keys", "number", "word", "key", "tree"] ["top", "trees"] (defScope s11) := ⟨rfl, rfl, rfl, by decide +kernel, rfl, by decide +kernel, by decide +kernel⟩
/-- takes_words -/
abbrev s12 : Stmt := topS 35
theorem sc12 : FnScope ["takes"] ["takes"] (defScope s12) := ⟨rfl, rfl, rfl, by decide +kernel, rfl, by decide +kernel, by decide +kernel⟩
/-- tree_words -/
abbrev s13 : Stmt := topS 36
theorem sc13 : FnScope ["tree", "words", "kid"] ["tree"] (defScope s13) := ⟨rfl, rfl, rfl, by decide +kernel, rfl, by decide +kernel, by decide +kernel⟩
/-- tree_text -/
abbrev s14 : Stmt := topS 37
theorem sc14 : FnScope ["tree"] ["tree"] (defScope s14) := ⟨rfl, rfl, rfl, by decide +kernel, rfl, by decide +kernel, by decide +kernel⟩
/-- word_at_words -/
abbrev s15 : Stmt := topS 38
theorem sc15 : FnScope ["words", "at"] ["words", "at"] (defScope s15) := ⟨rfl, rfl, rfl, by decide +kernel, rfl, by decide +kernel, by decide +kernel⟩
/-- leaf_of -/
abbrev s16 : Stmt := topS 40
theorem sc16 : FnScope ["word"] ["word"] (defScope s16) := ⟨rfl, rfl, rfl, by decide +kernel, rfl, by decide +kernel, by decide +kernel⟩
/-- take_takes -/
abbrev s17 : Stmt := topS 41
theorem sc17 : FnScope ["words", "at", "word"] ["words", "at"] (defScope s17) := ⟨rfl, rfl, rfl, by decide +kernel, rfl, by decide +kernel, by decide +kernel⟩
/-- take_knot -/
abbrev s18 : Stmt := topS 42
theorem sc18 : FnScope ["words", "at", "name", "kids", "takes", "after", "kid"] ["words", "at"] (defScope s18) := ⟨rfl, rfl, rfl, by decide +kernel, rfl, by decide +kernel, by decide +kernel⟩
/-- take_tree -/
abbrev s19 : Stmt := topS 43
theorem sc19 : FnScope ["words", "at", "word", "leaf"] ["words", "at"] (defScope s19) := ⟨rfl, rfl, rfl, by decide +kernel, rfl, by decide +kernel, by decide +kernel⟩
/-- read_tree -/
abbrev s20 : Stmt := topS 44
theorem sc20 : FnScope ["text", "words", "tree", "after"] ["text"] (defScope s20) := ⟨rfl, rfl, rfl, by decide +kernel, rfl, by decide +kernel, by decide +kernel⟩
/-- book_rows -/
abbrev s21 : Stmt := topS 46
theorem sc21 : FnScope ["book", "key", "tree"] ["book"] (defScope s21) := ⟨rfl, rfl, rfl, by decide +kernel, rfl, by decide +kernel, by decide +kernel⟩
/-- tree_in -/
abbrev s22 : Stmt := topS 47
theorem sc22 : FnScope ["text", "tree"] ["text"] (defScope s22) := ⟨rfl, rfl, rfl, by decide +kernel, rfl, by decide +kernel, by decide +kernel⟩
/-- row_read -/
abbrev s23 : Stmt := topS 48
theorem sc23 : FnScope ["text", "number", "words", "tree"] ["text", "number"] (defScope s23) := ⟨rfl, rfl, rfl, by decide +kernel, rfl, by decide +kernel, by decide +kernel⟩
/-- read_book -/
abbrev s24 : Stmt := topS 49
theorem sc24 : FnScope ["rows", "words", "trees", "number"] ["rows"] (defScope s24) := ⟨rfl, rfl, rfl, by decide +kernel, rfl, by decide +kernel, by decide +kernel⟩
/-- wanted -/
abbrev s25 : Stmt := topS 51
theorem sc25 : FnScope ["piece"] ["piece"] (defScope s25) := ⟨rfl, rfl, rfl, by decide +kernel, rfl, by decide +kernel, by decide +kernel⟩
/-- takers -/
abbrev s26 : Stmt := topS 52
theorem sc26 : FnScope ["book", "piece", "want", "key", "tree"] ["book", "piece"] (defScope s26) := ⟨rfl, rfl, rfl, by decide +kernel, rfl, by decide +kernel, by decide +kernel⟩
/-- place_word -/
abbrev s27 : Stmt := topS 55
theorem sc27 : FnScope ["place", "number"] ["place"] (defScope s27) := ⟨rfl, rfl, rfl, by decide +kernel, rfl, by decide +kernel, by decide +kernel⟩
/-- plan_words -/
abbrev s28 : Stmt := topS 56
theorem sc28 : FnScope ["plan", "words", "place", "one"] ["plan"] (defScope s28) := ⟨rfl, rfl, rfl, by decide +kernel, rfl, by decide +kernel, by decide +kernel⟩
/-- plan_text -/
abbrev s29 : Stmt := topS 57
theorem sc29 : FnScope ["plan"] ["plan"] (defScope s29) := ⟨rfl, rfl, rfl, by decide +kernel, rfl, by decide +kernel, by decide +kernel⟩
/-- place_of -/
abbrev s30 : Stmt := topS 58
theorem sc30 : FnScope ["word", "place", "figure"] ["word"] (defScope s30) := ⟨rfl, rfl, rfl, by decide +kernel, rfl, by decide +kernel, by decide +kernel⟩
/-- word_at_plantexts -/
abbrev s31 : Stmt := topS 59
theorem sc31 : FnScope ["words", "at"] ["words", "at"] (defScope s31) := ⟨rfl, rfl, rfl, by decide +kernel, rfl, by decide +kernel, by decide +kernel⟩
/-- take_plan -/
abbrev s32 : Stmt := topS 61
theorem sc32 : FnScope ["words", "at", "key", "puts", "after", "place", "plan", "behind"] ["words", "at"] (defScope s32) := ⟨rfl, rfl, rfl, by decide +kernel, rfl, by decide +kernel, by decide +kernel⟩
/-- _law_cell -/
abbrev s33 : Stmt := topS 63
theorem sc33 : FnScope ["state"] ["state"] (defScope s33) := ⟨rfl, rfl, rfl, by decide +kernel, rfl, by decide +kernel, by decide +kernel⟩
/-- _law_kid -/
abbrev s34 : Stmt := topS 64
theorem sc34 : FnScope ["state", "left", "cell", "sign", "name", "takes", "kids", "k"] ["state", "left"] (defScope s34) := ⟨rfl, rfl, rfl, by decide +kernel, rfl, by decide +kernel, by decide +kernel⟩
/-- _law_footed -/
abbrev s35 : Stmt := topS 65
theorem sc35 : FnScope ["tree", "foot", "cell", "knots", "at", "inner", "k"] ["tree", "foot", "cell"] (defScope s35) := ⟨rfl, rfl, rfl, by decide +kernel, rfl, by decide +kernel, by decide +kernel⟩
/-- _law_drawn -/
abbrev s36 : Stmt := topS 66
theorem sc36 : FnScope ["state", "left", "cell", "takes", "kids", "k", "tree"] ["state", "left"] (defScope s36) := ⟨rfl, rfl, rfl, by decide +kernel, rfl, by decide +kernel, by decide +kernel⟩
/-- _law_book -/
abbrev s37 : Stmt := topS 67
theorem sc37 : FnScope ["state", "many", "left", "cell", "trees", "k", "name", "foot", "kids", "key"] ["state", "many", "left"] (defScope s37) := ⟨rfl, rfl, rfl, by decide +kernel, rfl, by decide +kernel, by decide +kernel⟩
/-- _law_pieces -/
abbrev s38 : Stmt := topS 68
theorem sc38 : FnScope ["tree", "place", "found", "k"] ["tree", "place"] (defScope s38) := ⟨rfl, rfl, rfl, by decide +kernel, rfl, by decide +kernel, by decide +kernel⟩
/-- _law_called -/
abbrev s39 : Stmt := topS 69
theorem sc39 : FnScope ["tree", "feet", "place", "piece"] ["tree"] (defScope s39) := ⟨rfl, rfl, rfl, by decide +kernel, rfl, by decide +kernel, by decide +kernel⟩
/-- _law_takers -/
abbrev s40 : Stmt := topS 70
theorem sc40 : FnScope ["book", "piece", "key", "tree"] ["book", "piece"] (defScope s40) := ⟨rfl, rfl, rfl, by decide +kernel, rfl, by decide +kernel, by decide +kernel⟩
/-- _law_plan -/
abbrev s41 : Stmt := topS 71
theorem sc41 : FnScope ["state", "book", "key", "left", "cell", "puts", "place", "piece", "some", "must", "one"] ["state", "book", "key", "left"] (defScope s41) := ⟨rfl, rfl, rfl, by decide +kernel, rfl, by decide +kernel, by decide +kernel⟩
/-- law -/
abbrev s42 : Stmt := topS 72
theorem sc42 : FnScope ["script", "state", "cell", "book", "wanted_places", "told", "rows", "handed", "found", "trees", "made", "words", "copy", "plan", "more", "key", "tree", "place", "piece", "some"] ["script"] (defScope s42) := ⟨rfl, rfl, rfl, by decide +kernel, rfl, by decide +kernel, by decide +kernel⟩
abbrev si_NoPlace : Stmt := clsS (topS 2) 0
theorem sci_NoPlace : FnScope ["self", "place"] ["self", "place"] (defScope si_NoPlace) := ⟨rfl, rfl, rfl, by decide +kernel, rfl, by decide +kernel, by decide +kernel⟩
abbrev si_NoText : Stmt := clsS (topS 3) 0
theorem sci_NoText : FnScope ["self", "at"] ["self", "at"] (defScope si_NoText) := ⟨rfl, rfl, rfl, by decide +kernel, rfl, by decide +kernel, by decide +kernel⟩
abbrev si_NoKey : Stmt := clsS (topS 4) 0
theorem sci_NoKey : FnScope ["self", "number"] ["self", "number"] (defScope si_NoKey) := ⟨rfl, rfl, rfl, by decide +kernel, rfl, by decide +kernel, by decide +kernel⟩
abbrev si_Twice : Stmt := clsS (topS 5) 0
theorem sci_Twice : FnScope ["self", "key"] ["self", "key"] (defScope si_Twice) := ⟨rfl, rfl, rfl, by decide +kernel, rfl, by decide +kernel, by decide +kernel⟩
abbrev si_NoTree : Stmt := clsS (topS 6) 0
theorem sci_NoTree : FnScope ["self", "key", "word"] ["self", "key", "word"] (defScope si_NoTree) := ⟨rfl, rfl, rfl, by decide +kernel, rfl, by decide +kernel, by decide +kernel⟩
abbrev si_NoRow : Stmt := clsS (topS 7) 0
theorem sci_NoRow : FnScope ["self", "row"] ["self", "row"] (defScope si_NoRow) := ⟨rfl, rfl, rfl, by decide +kernel, rfl, by decide +kernel, by decide +kernel⟩
structure Top (K : PySem.W.Frag) (mg : Str → Option Value) where
  a0 : Addr
  d0 : FuncData
  F0 : Fun K "is_name" "is_name" s0 a0 d0
  b0 : Binds K d0 ["text"] []
  g0 : mg "is_name" = some (.ref a0)
  a1 : Addr
  d1 : FuncData
  F1 : Fun K "is_sign" "is_sign" s1 a1 d1
  b1 : Binds K d1 ["text"] []
  g1 : mg "is_sign" = some (.ref a1)
  a2 : Addr
  d2 : FuncData
  F2 : Fun K "kids_of" "kids_of" s2 a2 d2
  b2 : Binds K d2 ["tree"] []
  g2 : mg "kids_of" = some (.ref a2)
  a3 : Addr
  d3 : FuncData
  F3 : Fun K "places" "places" s3 a3 d3
  b3 : Binds K d3 ["tree"] []
  g3 : mg "places" = some (.ref a3)
  a4 : Addr
  d4 : FuncData
  F4 : Fun K "piece_at" "piece_at" s4 a4 d4
  b4 : Binds K d4 ["tree", "place"] []
  g4 : mg "piece_at" = some (.ref a4)
  a5 : Addr
  d5 : FuncData
  F5 : Fun K "signs_of" "signs_of" s5 a5 d5
  b5 : Binds K d5 ["tree"] []
  g5 : mg "signs_of" = some (.ref a5)
  a6 : Addr
  d6 : FuncData
  F6 : Fun K "is_key" "is_key" s6 a6 d6
  b6 : Binds K d6 ["text"] []
  g6 : mg "is_key" = some (.ref a6)
  a7 : Addr
  d7 : FuncData
  F7 : Fun K "feet_of" "feet_of" s7 a7 d7
  b7 : Binds K d7 ["tree"] []
  g7 : mg "feet_of" = some (.ref a7)
  a8 : Addr
  d8 : FuncData
  F8 : Fun K "is_graft" "is_graft" s8 a8 d8
  b8 : Binds K d8 ["tree"] []
  g8 : mg "is_graft" = some (.ref a8)
  a9 : Addr
  d9 : FuncData
  F9 : Fun K "name_of" "name_of" s9 a9 d9
  b9 : Binds K d9 ["tree"] []
  g9 : mg "name_of" = some (.ref a9)
  a10 : Addr
  d10 : FuncData
  F10 : Fun K "amiss_in" "amiss_in" s10 a10 d10
  b10 : Binds K d10 ["tree"] []
  g10 : mg "amiss_in" = some (.ref a10)
  a11 : Addr
  d11 : FuncData
  F11 : Fun K "made_book" "made_book" s11 a11 d11
  b11 : Binds K d11 ["top", "trees"] []
  g11 : mg "made_book" = some (.ref a11)
  a12 : Addr
  d12 : FuncData
  F12 : Fun K "takes_words" "takes_words" s12 a12 d12
  b12 : Binds K d12 ["takes"] []
  g12 : mg "takes_words" = some (.ref a12)
  a13 : Addr
  d13 : FuncData
  F13 : Fun K "tree_words" "tree_words" s13 a13 d13
  b13 : Binds K d13 ["tree"] []
  g13 : mg "tree_words" = some (.ref a13)
  a14 : Addr
  d14 : FuncData
  F14 : Fun K "tree_text" "tree_text" s14 a14 d14
  b14 : Binds K d14 ["tree"] []
  g14 : mg "tree_text" = some (.ref a14)
  a15 : Addr
  d15 : FuncData
  F15 : Fun K "word_at" "word_at" s15 a15 d15
  b15 : Binds K d15 ["words", "at"] []
  g15 : mg "word_at_words" = some (.ref a15)
  a16 : Addr
  d16 : FuncData
  F16 : Fun K "leaf_of" "leaf_of" s16 a16 d16
  b16 : Binds K d16 ["word"] []
  g16 : mg "leaf_of" = some (.ref a16)
  a17 : Addr
  d17 : FuncData
  F17 : Fun K "take_takes" "take_takes" s17 a17 d17
  b17 : Binds K d17 ["words", "at"] []
  g17 : mg "take_takes" = some (.ref a17)
  a18 : Addr
  d18 : FuncData
  F18 : Fun K "take_knot" "take_knot" s18 a18 d18
  b18 : Binds K d18 ["words", "at"] []
  g18 : mg "take_knot" = some (.ref a18)
  a19 : Addr
  d19 : FuncData
  F19 : Fun K "take_tree" "take_tree" s19 a19 d19
  b19 : Binds K d19 ["words", "at"] []
  g19 : mg "take_tree" = some (.ref a19)
  a20 : Addr
  d20 : FuncData
  F20 : Fun K "read_tree" "read_tree" s20 a20 d20
  b20 : Binds K d20 ["text"] []
  g20 : mg "read_tree" = some (.ref a20)
  a21 : Addr
  d21 : FuncData
  F21 : Fun K "book_rows" "book_rows" s21 a21 d21
  b21 : Binds K d21 ["book"] []
  g21 : mg "book_rows" = some (.ref a21)
  a22 : Addr
  d22 : FuncData
  F22 : Fun K "tree_in" "tree_in" s22 a22 d22
  b22 : Binds K d22 ["text"] []
  g22 : mg "tree_in" = some (.ref a22)
  a23 : Addr
  d23 : FuncData
  F23 : Fun K "row_read" "row_read" s23 a23 d23
  b23 : Binds K d23 ["text", "number"] []
  g23 : mg "row_read" = some (.ref a23)
  a24 : Addr
  d24 : FuncData
  F24 : Fun K "read_book" "read_book" s24 a24 d24
  b24 : Binds K d24 ["rows"] []
  g24 : mg "read_book" = some (.ref a24)
  a25 : Addr
  d25 : FuncData
  F25 : Fun K "wanted" "wanted" s25 a25 d25
  b25 : Binds K d25 ["piece"] []
  g25 : mg "wanted" = some (.ref a25)
  a26 : Addr
  d26 : FuncData
  F26 : Fun K "takers" "takers" s26 a26 d26
  b26 : Binds K d26 ["book", "piece"] []
  g26 : mg "takers" = some (.ref a26)
  a27 : Addr
  d27 : FuncData
  F27 : Fun K "place_word" "place_word" s27 a27 d27
  b27 : Binds K d27 ["place"] []
  g27 : mg "place_word" = some (.ref a27)
  a28 : Addr
  d28 : FuncData
  F28 : Fun K "plan_words" "plan_words" s28 a28 d28
  b28 : Binds K d28 ["plan"] []
  g28 : mg "plan_words" = some (.ref a28)
  a29 : Addr
  d29 : FuncData
  F29 : Fun K "plan_text" "plan_text" s29 a29 d29
  b29 : Binds K d29 ["plan"] []
  g29 : mg "plan_text" = some (.ref a29)
  a30 : Addr
  d30 : FuncData
  F30 : Fun K "place_of" "place_of" s30 a30 d30
  b30 : Binds K d30 ["word"] []
  g30 : mg "place_of" = some (.ref a30)
  a31 : Addr
  d31 : FuncData
  F31 : Fun K "word_at" "word_at" s31 a31 d31
  b31 : Binds K d31 ["words", "at"] []
  g31 : mg "word_at_plantexts" = some (.ref a31)
  a32 : Addr
  d32 : FuncData
  F32 : Fun K "take_plan" "take_plan" s32 a32 d32
  b32 : Binds K d32 ["words", "at"] []
  g32 : mg "take_plan" = some (.ref a32)
  a33 : Addr
  d33 : FuncData
  F33 : Fun K "_law_cell" "_law_cell" s33 a33 d33
  b33 : Binds K d33 ["state"] []
  g33 : mg "_law_cell" = some (.ref a33)
  a34 : Addr
  d34 : FuncData
  F34 : Fun K "_law_kid" "_law_kid" s34 a34 d34
  b34 : Binds K d34 ["state", "left"] []
  g34 : mg "_law_kid" = some (.ref a34)
  a35 : Addr
  d35 : FuncData
  F35 : Fun K "_law_footed" "_law_footed" s35 a35 d35
  b35 : Binds K d35 ["tree", "foot", "cell"] []
  g35 : mg "_law_footed" = some (.ref a35)
  a36 : Addr
  d36 : FuncData
  F36 : Fun K "_law_drawn" "_law_drawn" s36 a36 d36
  b36 : Binds K d36 ["state", "left"] []
  g36 : mg "_law_drawn" = some (.ref a36)
  a37 : Addr
  d37 : FuncData
  F37 : Fun K "_law_book" "_law_book" s37 a37 d37
  b37 : Binds K d37 ["state", "many", "left"] []
  g37 : mg "_law_book" = some (.ref a37)
  a38 : Addr
  d38 : FuncData
  F38 : Fun K "_law_pieces" "_law_pieces" s38 a38 d38
  b38 : Binds K d38 ["tree", "place"] []
  g38 : mg "_law_pieces" = some (.ref a38)
  a39 : Addr
  d39 : FuncData
  F39 : Fun K "_law_called" "_law_called" s39 a39 d39
  b39 : Binds K d39 ["tree"] []
  g39 : mg "_law_called" = some (.ref a39)
  a40 : Addr
  d40 : FuncData
  F40 : Fun K "_law_takers" "_law_takers" s40 a40 d40
  b40 : Binds K d40 ["book", "piece"] []
  g40 : mg "_law_takers" = some (.ref a40)
  a41 : Addr
  d41 : FuncData
  F41 : Fun K "_law_plan" "_law_plan" s41 a41 d41
  b41 : Binds K d41 ["state", "book", "key", "left"] []
  g41 : mg "_law_plan" = some (.ref a41)
  a42 : Addr
  d42 : FuncData
  F42 : Fun K "law" "law" s42 a42 d42
  b42 : Binds K d42 ["script"] []
  g42 : mg "law" = some (.ref a42)
  c_FIGURES_trees : ∃ t, mg "FIGURES_trees" = some (Value.str (Str.ofString "0123456789") t)
  c_GREAT : ∃ t, mg "GREAT" = some (Value.str (Str.ofString "ABCDEFGHIJKLMNOPQRSTUVWXYZ") t)
  c_LONGEST_NAME : ∃ t, mg "LONGEST_NAME" = some (Value.int 24 t)
  c_SMALL_trees : ∃ t, mg "SMALL_trees" = some (Value.str (Str.ofString "abcdefghijklmnopqrstuvwxyz") t)
  c_LONGEST_SIGN : ∃ t, mg "LONGEST_SIGN" = some (Value.int 6 t)
  c_FIGURES_books : ∃ t, mg "FIGURES_books" = some (Value.str (Str.ofString "0123456789") t)
  c_SMALL_books : ∃ t, mg "SMALL_books" = some (Value.str (Str.ofString "abcdefghijklmnopqrstuvwxyz") t)
  c_LONGEST_KEY : ∃ t, mg "LONGEST_KEY" = some (Value.int 24 t)
  c_MOST_WITHIN : ∃ t, mg "MOST_WITHIN" = some (Value.int 12 t)
  c_MOST_PIECES : ∃ t, mg "MOST_PIECES" = some (Value.int 60 t)
  c_MOST_TREES : ∃ t, mg "MOST_TREES" = some (Value.int 400 t)
  c_MOST_KIDS : ∃ t, mg "MOST_KIDS" = some (Value.int 8 t)
  c_KID_FIGURES : ∃ t, mg "KID_FIGURES" = some (Value.str (Str.ofString "01234567") t)
  m_len : mg "len" = none
  m_enumerate : mg "enumerate" = none
  m_max : mg "max" = none
  m_tuple : mg "tuple" = none
  m_range : mg "range" = none
  m_str : mg "str" = none
  m_int : mg "int" = none
  m_dict : mg "dict" = none
  m_list : mg "list" = none
  xA_GraftError : Addr
  xg_GraftError : mg "GraftError" = some (.ref xA_GraftError)
  xA_NoPlace : Addr
  xg_NoPlace : mg "NoPlace" = some (.ref xA_NoPlace)
  xA_NoTree : Addr
  xg_NoTree : mg "NoTree" = some (.ref xA_NoTree)
  xA_Twice : Addr
  xg_Twice : mg "Twice" = some (.ref xA_Twice)
  xA_NoKey : Addr
  xg_NoKey : mg "NoKey" = some (.ref xA_NoKey)
  xA_NoText : Addr
  xg_NoText : mg "NoText" = some (.ref xA_NoText)
  xA_NoRow : Addr
  xg_NoRow : mg "NoRow" = some (.ref xA_NoRow)
  gi : giB K xA_GraftError = true
  xI_NoPlace : Addr
  xd_NoPlace : FuncData
  xF_NoPlace : Fun K "__init__" "NoPlace.__init__" si_NoPlace xI_NoPlace xd_NoPlace
  xb_NoPlace : Binds K xd_NoPlace ("self" :: ["place"]) []
  xT_NoPlace : OexC K xA_NoPlace
  xo_NoPlace : oeB K xA_NoPlace xI_NoPlace ["place"] = true
  xv_NoPlace : cvK K "NoPlace" = .ref xA_NoPlace
  xI_NoText : Addr
  xd_NoText : FuncData
  xF_NoText : Fun K "__init__" "NoText.__init__" si_NoText xI_NoText xd_NoText
  xb_NoText : Binds K xd_NoText ("self" :: ["at"]) []
  xT_NoText : OexC K xA_NoText
  xo_NoText : oeB K xA_NoText xI_NoText ["at"] = true
  xv_NoText : cvK K "NoText" = .ref xA_NoText
  xI_NoKey : Addr
  xd_NoKey : FuncData
  xF_NoKey : Fun K "__init__" "NoKey.__init__" si_NoKey xI_NoKey xd_NoKey
  xb_NoKey : Binds K xd_NoKey ("self" :: ["number"]) []
  xT_NoKey : OexC K xA_NoKey
  xo_NoKey : oeB K xA_NoKey xI_NoKey ["number"] = true
  xv_NoKey : cvK K "NoKey" = .ref xA_NoKey
  xI_Twice : Addr
  xd_Twice : FuncData
  xF_Twice : Fun K "__init__" "Twice.__init__" si_Twice xI_Twice xd_Twice
  xb_Twice : Binds K xd_Twice ("self" :: ["key"]) []
  xT_Twice : OexC K xA_Twice
  xo_Twice : oeB K xA_Twice xI_Twice ["key"] = true
  xv_Twice : cvK K "Twice" = .ref xA_Twice
  xI_NoTree : Addr
  xd_NoTree : FuncData
  xF_NoTree : Fun K "__init__" "NoTree.__init__" si_NoTree xI_NoTree xd_NoTree
  xb_NoTree : Binds K xd_NoTree ("self" :: ["key", "word"]) []
  xT_NoTree : OexC K xA_NoTree
  xo_NoTree : oeB K xA_NoTree xI_NoTree ["key", "word"] = true
  xv_NoTree : cvK K "NoTree" = .ref xA_NoTree
  xI_NoRow : Addr
  xd_NoRow : FuncData
  xF_NoRow : Fun K "__init__" "NoRow.__init__" si_NoRow xI_NoRow xd_NoRow
  xb_NoRow : Binds K xd_NoRow ("self" :: ["row"]) []
  xT_NoRow : OexC K xA_NoRow
  xo_NoRow : oeB K xA_NoRow xI_NoRow ["row"] = true
  xv_NoRow : cvK K "NoRow" = .ref xA_NoRow
  y0 : tryB K (.ref xA_NoText) ["NoPlace", "NoText", "NoKey", "Twice", "NoTree", "NoRow"] ["NoText"] = true
structure Lv (P : Program) (K : KW) (mg : Str → Option Value) (base : Heap) (T : Top K.fr mg) (k : Nat) : Prop where
  h0 : FnOk P K.w K.fr mg base (L2.CX P K.w) k T.a0 T.d0 ["text"] (spF K (cvK K.fr) 1 (fs k 0))
  h1 : FnOk P K.w K.fr mg base (L2.CX P K.w) k T.a1 T.d1 ["text"] (spF K (cvK K.fr) 1 (fs k 1))
  h2 : FnOk P K.w K.fr mg base (L2.CX P K.w) k T.a2 T.d2 ["tree"] (spF K (cvK K.fr) 1 (fs k 2))
  h3 : FnOk P K.w K.fr mg base (L2.CX P K.w) k T.a3 T.d3 ["tree"] (spF K (cvK K.fr) 1 (fs k 3))
  h4 : FnOk P K.w K.fr mg base (L2.CX P K.w) k T.a4 T.d4 ["tree", "place"] (spF K (cvK K.fr) 2 (fs k 4))
  h5 : FnOk P K.w K.fr mg base (L2.CX P K.w) k T.a5 T.d5 ["tree"] (spF K (cvK K.fr) 1 (fs k 5))
  h6 : FnOk P K.w K.fr mg base (L2.CX P K.w) k T.a6 T.d6 ["text"] (spF K (cvK K.fr) 1 (fs k 6))
  h7 : FnOk P K.w K.fr mg base (L2.CX P K.w) k T.a7 T.d7 ["tree"] (spF K (cvK K.fr) 1 (fs k 7))
  h8 : FnOk P K.w K.fr mg base (L2.CX P K.w) k T.a8 T.d8 ["tree"] (spF K (cvK K.fr) 1 (fs k 8))
  h9 : FnOk P K.w K.fr mg base (L2.CX P K.w) k T.a9 T.d9 ["tree"] (spF K (cvK K.fr) 1 (fs k 9))
  h10 : FnOk P K.w K.fr mg base (L2.CX P K.w) k T.a10 T.d10 ["tree"] (spF K (cvK K.fr) 1 (fs k 10))
  h11 : FnOk P K.w K.fr mg base (L2.CX P K.w) k T.a11 T.d11 ["top", "trees"] (spF K (cvK K.fr) 2 (fs k 11))
  h12 : FnOk P K.w K.fr mg base (L2.CX P K.w) k T.a12 T.d12 ["takes"] (spF K (cvK K.fr) 1 (fs k 12))
  h13 : FnOk P K.w K.fr mg base (L2.CX P K.w) k T.a13 T.d13 ["tree"] (spF K (cvK K.fr) 1 (fs k 13))
  h14 : FnOk P K.w K.fr mg base (L2.CX P K.w) k T.a14 T.d14 ["tree"] (spF K (cvK K.fr) 1 (fs k 14))
  h15 : FnOk P K.w K.fr mg base (L2.CX P K.w) k T.a15 T.d15 ["words", "at"] (spF K (cvK K.fr) 2 (fs k 15))
  h16 : FnOk P K.w K.fr mg base (L2.CX P K.w) k T.a16 T.d16 ["word"] (spF K (cvK K.fr) 1 (fs k 16))
  h17 : FnOk P K.w K.fr mg base (L2.CX P K.w) k T.a17 T.d17 ["words", "at"] (spF K (cvK K.fr) 2 (fs k 17))
  h18 : FnOk P K.w K.fr mg base (L2.CX P K.w) k T.a18 T.d18 ["words", "at"] (spF K (cvK K.fr) 2 (fs k 18))
  h19 : FnOk P K.w K.fr mg base (L2.CX P K.w) k T.a19 T.d19 ["words", "at"] (spF K (cvK K.fr) 2 (fs k 19))
  h20 : FnOk P K.w K.fr mg base (L2.CX P K.w) k T.a20 T.d20 ["text"] (spF K (cvK K.fr) 1 (fs k 20))
  h21 : FnOk P K.w K.fr mg base (L2.CX P K.w) k T.a21 T.d21 ["book"] (spF K (cvK K.fr) 1 (fs k 21))
  h22 : FnOk P K.w K.fr mg base (L2.CX P K.w) k T.a22 T.d22 ["text"] (spF K (cvK K.fr) 1 (fs k 22))
  h23 : FnOk P K.w K.fr mg base (L2.CX P K.w) k T.a23 T.d23 ["text", "number"] (spF K (cvK K.fr) 2 (fs k 23))
  h24 : FnOk P K.w K.fr mg base (L2.CX P K.w) k T.a24 T.d24 ["rows"] (spF K (cvK K.fr) 1 (fs k 24))
  h25 : FnOk P K.w K.fr mg base (L2.CX P K.w) k T.a25 T.d25 ["piece"] (spF K (cvK K.fr) 1 (fs k 25))
  h26 : FnOk P K.w K.fr mg base (L2.CX P K.w) k T.a26 T.d26 ["book", "piece"] (spF K (cvK K.fr) 2 (fs k 26))
  h27 : FnOk P K.w K.fr mg base (L2.CX P K.w) k T.a27 T.d27 ["place"] (spF K (cvK K.fr) 1 (fs k 27))
  h28 : FnOk P K.w K.fr mg base (L2.CX P K.w) k T.a28 T.d28 ["plan"] (spF K (cvK K.fr) 1 (fs k 28))
  h29 : FnOk P K.w K.fr mg base (L2.CX P K.w) k T.a29 T.d29 ["plan"] (spF K (cvK K.fr) 1 (fs k 29))
  h30 : FnOk P K.w K.fr mg base (L2.CX P K.w) k T.a30 T.d30 ["word"] (spF K (cvK K.fr) 1 (fs k 30))
  h31 : FnOk P K.w K.fr mg base (L2.CX P K.w) k T.a31 T.d31 ["words", "at"] (spF K (cvK K.fr) 2 (fs k 31))
  h32 : FnOk P K.w K.fr mg base (L2.CX P K.w) k T.a32 T.d32 ["words", "at"] (spF K (cvK K.fr) 2 (fs k 32))
  h33 : FnOk P K.w K.fr mg base (L2.CX P K.w) k T.a33 T.d33 ["state"] (spF K (cvK K.fr) 1 (fs k 33))
  h34 : FnOk P K.w K.fr mg base (L2.CX P K.w) k T.a34 T.d34 ["state", "left"] (spF K (cvK K.fr) 2 (fs k 34))
  h35 : FnOk P K.w K.fr mg base (L2.CX P K.w) k T.a35 T.d35 ["tree", "foot", "cell"] (spF K (cvK K.fr) 3 (fs k 35))
  h36 : FnOk P K.w K.fr mg base (L2.CX P K.w) k T.a36 T.d36 ["state", "left"] (spF K (cvK K.fr) 2 (fs k 36))
  h37 : FnOk P K.w K.fr mg base (L2.CX P K.w) k T.a37 T.d37 ["state", "many", "left"] (spF K (cvK K.fr) 3 (fs k 37))
  h38 : FnOk P K.w K.fr mg base (L2.CX P K.w) k T.a38 T.d38 ["tree", "place"] (spF K (cvK K.fr) 2 (fs k 38))
  h39 : FnOk P K.w K.fr mg base (L2.CX P K.w) k T.a39 T.d39 ["tree"] (spF K (cvK K.fr) 1 (fs k 39))
  h40 : FnOk P K.w K.fr mg base (L2.CX P K.w) k T.a40 T.d40 ["book", "piece"] (spF K (cvK K.fr) 2 (fs k 40))
  h41 : FnOk P K.w K.fr mg base (L2.CX P K.w) k T.a41 T.d41 ["state", "book", "key", "left"] (spF K (cvK K.fr) 4 (fs k 41))
  h42 : FnOk P K.w K.fr mg base (L2.CX P K.w) k T.a42 T.d42 ["script"] (spF K (cvK K.fr) 1 (fs k 42))
  x_NoPlace : IniOk P K.w K.fr mg base k T.xI_NoPlace T.xd_NoPlace ["place"] (fs k 43)
  x_NoText : IniOk P K.w K.fr mg base k T.xI_NoText T.xd_NoText ["at"] (fs k 44)
  x_NoKey : IniOk P K.w K.fr mg base k T.xI_NoKey T.xd_NoKey ["number"] (fs k 45)
  x_Twice : IniOk P K.w K.fr mg base k T.xI_Twice T.xd_Twice ["key"] (fs k 46)
  x_NoTree : IniOk P K.w K.fr mg base k T.xI_NoTree T.xd_NoTree ["key", "word"] (fs k 47)
  x_NoRow : IniOk P K.w K.fr mg base k T.xI_NoRow T.xd_NoRow ["row"] (fs k 48)
section
variable {P : Program} {K : KW} {mg : Str → Option Value} {base : Heap}
/-- is_name -/
theorem e0 (k : Nat) : fs (k + 1) 0 = fnF 2 1 (m_is_name) := rfl
theorem w0 {T : Top K.fr mg} {k : Nat} (L : Lv P K mg base T k) : FnOk P K.w K.fr mg base (L2.CX P K.w) (k + 1) T.a0 T.d0 ["text"] (spF K (cvK K.fr) 1 (fs (k + 1) 0)) := by
  rw [e0]
  refine fn_of' ["text", "letter"] rfl rfl T.F0 sc0 fun cdv A outer s H E hr tk po => ?_
  have nd := sc0.nd
  have hu := hr.units
  have hu2 : _ + 199 < cLine := Nat.lt_of_le_of_lt (Nat.add_le_add_left (by decide : 199 ≤ 200) _) (Nat.lt_of_le_of_lt (Nat.add_le_add_right (Nat.le_add_right _ _) _) hr.un)
  have hu5 : _ + 65 < cLine := Nat.lt_of_le_of_lt (Nat.add_le_add_left (by decide : 65 ≤ 200) _) (Nat.lt_of_le_of_lt (Nat.add_le_add_right (Nat.le_add_right _ _) _) hr.un)
  unfold m_is_name m_is_name_b1
  exact ⟨_, (sss_cons (ss_if (sw_or (st_not (st_chain ol_cmp op_le ol_cmp op_le se_int (se_cb cl_len call_len T.m_len (sa_cons (se_vb 0) sa_nil)) (se_gint T.c_LONGEST_NAME))) (sw_one (st_cmp ol_notInB (op_notInB (by exact hu5)) (se_ixA (by exact hu5) (se_vb 0) se_int) (se_gstr T.c_GREAT)))).st (sss_one (ss_end (ss_ret se_bl))) sss_nil) (sss_cons (ss_for po rfl (si_sq (se_mv 0)) (sg_name nd) (sss_kill (vs := [1]) (sss_one (ss_if (sw_and (st_cmp ol_notInB (op_notInB (by exact hu5)) (se_vb 1) (se_gstr T.c_GREAT)) (sw_one (st_cmp ol_notInB (op_notInB (by exact hu5)) (se_vb 1) (se_gstr T.c_FIGURES_trees)))).st (sss_one (ss_end (ss_ret se_bl))) sss_nil)))) (sss_one (ss_end (ss_ret se_bl)))))⟩
/-- is_sign -/
theorem e1 (k : Nat) : fs (k + 1) 1 = fnF 2 1 (m_is_sign) := rfl
theorem w1 {T : Top K.fr mg} {k : Nat} (L : Lv P K mg base T k) : FnOk P K.w K.fr mg base (L2.CX P K.w) (k + 1) T.a1 T.d1 ["text"] (spF K (cvK K.fr) 1 (fs (k + 1) 1)) := by
  rw [e1]
  refine fn_of' ["text", "letter"] rfl rfl T.F1 sc1 fun cdv A outer s H E hr tk po => ?_
  have nd := sc1.nd
  have hu := hr.units
  have hu2 : _ + 199 < cLine := Nat.lt_of_le_of_lt (Nat.add_le_add_left (by decide : 199 ≤ 200) _) (Nat.lt_of_le_of_lt (Nat.add_le_add_right (Nat.le_add_right _ _) _) hr.un)
  have hu5 : _ + 65 < cLine := Nat.lt_of_le_of_lt (Nat.add_le_add_left (by decide : 65 ≤ 200) _) (Nat.lt_of_le_of_lt (Nat.add_le_add_right (Nat.le_add_right _ _) _) hr.un)
  unfold m_is_sign m_is_sign_b1
  exact ⟨_, (sss_cons (ss_if (st_not (st_chain ol_cmp op_le ol_cmp op_le se_int (se_cb cl_len call_len T.m_len (sa_cons (se_vb 0) sa_nil)) (se_gint T.c_LONGEST_SIGN))) (sss_one (ss_end (ss_ret se_bl))) sss_nil) (sss_cons (ss_for po rfl (si_sq (se_mv 0)) (sg_name nd) (sss_kill (vs := [1]) (sss_one (ss_if (st_cmp ol_notInB (op_notInB (by exact hu5)) (se_vb 1) (se_gstr T.c_SMALL_trees)) (sss_one (ss_end (ss_ret se_bl))) sss_nil)))) (sss_one (ss_end (ss_ret se_bl)))))⟩
/-- kids_of -/
theorem e2 (k : Nat) : fs (k + 1) 2 = fnF 1 1 (m_kids_of) := rfl
theorem w2 {T : Top K.fr mg} {k : Nat} (L : Lv P K mg base T k) : FnOk P K.w K.fr mg base (L2.CX P K.w) (k + 1) T.a2 T.d2 ["tree"] (spF K (cvK K.fr) 1 (fs (k + 1) 2)) := by
  rw [e2]
  refine fn_of' ["tree"] rfl rfl T.F2 sc2 fun cdv A outer s H E hr tk po => ?_
  have nd := sc2.nd
  have hu := hr.units
  have hu2 : _ + 199 < cLine := Nat.lt_of_le_of_lt (Nat.add_le_add_left (by decide : 199 ≤ 200) _) (Nat.lt_of_le_of_lt (Nat.add_le_add_right (Nat.le_add_right _ _) _) hr.un)
  have hu5 : _ + 65 < cLine := Nat.lt_of_le_of_lt (Nat.add_le_add_left (by decide : 65 ≤ 200) _) (Nat.lt_of_le_of_lt (Nat.add_le_add_right (Nat.le_add_right _ _) _) hr.un)
  unfold m_kids_of
  exact ⟨_, (sss_one (ss_end (ss_ret (se_if (st_cmp ol_eqB (op_eqB (by exact hu2)) (se_ixA (by exact hu5) (se_vb 0) se_int) se_str) (se_ixA (by exact hu5) (se_vb 0) se_int) (se_tup sa_nil)))))⟩
/-- places -/
theorem e3 (k : Nat) : fs (k + 1) 3 = fnF 5 1 (m_places (fs k 2) (fs k 3)) := rfl
theorem w3 {T : Top K.fr mg} {k : Nat} (L : Lv P K mg base T k) : FnOk P K.w K.fr mg base (L2.CX P K.w) (k + 1) T.a3 T.d3 ["tree"] (spF K (cvK K.fr) 1 (fs (k + 1) 3)) := by
  rw [e3]
  refine fn_of' ["tree", "found", "k", "kid", "place"] rfl rfl T.F3 sc3 fun cdv A outer s H E hr tk po => ?_
  have nd := sc3.nd
  have hu := hr.units
  have hu2 : _ + 199 < cLine := Nat.lt_of_le_of_lt (Nat.add_le_add_left (by decide : 199 ≤ 200) _) (Nat.lt_of_le_of_lt (Nat.add_le_add_right (Nat.le_add_right _ _) _) hr.un)
  have hu5 : _ + 65 < cLine := Nat.lt_of_le_of_lt (Nat.add_le_add_left (by decide : 65 ≤ 200) _) (Nat.lt_of_le_of_lt (Nat.add_le_add_right (Nat.le_add_right _ _) _) hr.un)
  unfold m_places m_places_b2 m_places_b1
  exact ⟨_, (sss_cons (ss_set (i := 1) nd (se_lst (sa_cons (se_tup sa_nil) sa_nil))) (sss_cons (ss_for po rfl (si_en (se_call L.h2 hr T.g2 T.F2.kp T.b2 tk (sa_cons (se_mv 0) sa_nil) none) T.m_enumerate) (sg_tup rfl (sgs_cons (sg_name nd) (sgs_cons (sg_name nd) sgs_nil))) (sss_kill (vs := [2, 3, 4]) (sss_one (ss_for po rfl (si_sq (se_call L.h3 hr T.g3 T.F3.kp T.b3 tk (sa_cons (se_mv 3) sa_nil) none)) (sg_name nd) (sss_kill (vs := [4]) (sss_one (ss_app (i := 1) (se_bin ol_add op_addA (se_tup (sa_cons (se_mv 2) sa_nil)) (se_vb 4))))))))) (sss_one (ss_end (ss_ret (se_rv 1))))))⟩
/-- piece_at -/
theorem e4 (k : Nat) : fs (k + 1) 4 = fnF 5 2 (m_piece_at_2 (fs k 43) (fs k 2)) := rfl
theorem w4 {T : Top K.fr mg} {k : Nat} (L : Lv P K mg base T k) : FnOk P K.w K.fr mg base (L2.CX P K.w) (k + 1) T.a4 T.d4 ["tree", "place"] (spF K (cvK K.fr) 2 (fs (k + 1) 4)) := by
  rw [e4]
  refine fn_of' ["tree", "place", "found", "number", "kids"] rfl rfl T.F4 sc4 fun cdv A outer s H E hr tk po => ?_
  have nd := sc4.nd
  have hu := hr.units
  have hu2 : _ + 199 < cLine := Nat.lt_of_le_of_lt (Nat.add_le_add_left (by decide : 199 ≤ 200) _) (Nat.lt_of_le_of_lt (Nat.add_le_add_right (Nat.le_add_right _ _) _) hr.un)
  have hu5 : _ + 65 < cLine := Nat.lt_of_le_of_lt (Nat.add_le_add_left (by decide : 65 ≤ 200) _) (Nat.lt_of_le_of_lt (Nat.add_le_add_right (Nat.le_add_right _ _) _) hr.un)
  unfold m_piece_at_2 m_piece_at_2_b1
  exact ⟨_, (sss_cons (ss_set (i := 2) nd (se_mv 0)) (sss_cons (ss_for po rfl (si_sq (se_mv 1)) (sg_name nd) (sss_kill (vs := [3, 4]) (sss_cons (ss_set (i := 4) nd (se_call L.h2 hr T.g2 T.F2.kp T.b2 tk (sa_cons (se_mv 2) sa_nil) none)) (sss_cons (ss_if (st_not (st_chain ol_cmp op_le ol_ltA (op_ltA (by exact hu5)) se_int (se_vb 3) (se_cb cl_len call_len T.m_len (sa_cons (se_vb 4) sa_nil)))) (sss_one (ss_raise L.x_NoPlace T.xT_NoPlace T.xo_NoPlace T.xv_NoPlace T.xg_NoPlace T.xb_NoPlace hr tk rfl (sa_cons (se_mv 1) sa_nil))) sss_nil) (sss_one (ss_set (i := 2) nd (se_ixA (by exact hu5) (se_vb 4) (se_vb 3)))))))) (sss_one (ss_end (ss_ret (se_rv 2))))))⟩
/-- signs_of -/
theorem e5 (k : Nat) : fs (k + 1) 5 = fnF 3 1 (m_signs_of (fs k 2) (fs k 5)) := rfl
theorem w5 {T : Top K.fr mg} {k : Nat} (L : Lv P K mg base T k) : FnOk P K.w K.fr mg base (L2.CX P K.w) (k + 1) T.a5 T.d5 ["tree"] (spF K (cvK K.fr) 1 (fs (k + 1) 5)) := by
  rw [e5]
  refine fn_of' ["tree", "found", "kid"] rfl rfl T.F5 sc5 fun cdv A outer s H E hr tk po => ?_
  have nd := sc5.nd
  have hu := hr.units
  have hu2 : _ + 199 < cLine := Nat.lt_of_le_of_lt (Nat.add_le_add_left (by decide : 199 ≤ 200) _) (Nat.lt_of_le_of_lt (Nat.add_le_add_right (Nat.le_add_right _ _) _) hr.un)
  have hu5 : _ + 65 < cLine := Nat.lt_of_le_of_lt (Nat.add_le_add_left (by decide : 65 ≤ 200) _) (Nat.lt_of_le_of_lt (Nat.add_le_add_right (Nat.le_add_right _ _) _) hr.un)
  unfold m_signs_of m_signs_of_b1
  exact ⟨_, (sss_cons (ss_if (st_cmp ol_eqB (op_eqB (by exact hu2)) (se_ixA (by exact hu5) (se_vb 0) se_int) se_str) (sss_one (ss_end (ss_ret (se_tup (sa_cons (se_ixA (by exact hu5) (se_vb 0) se_int) sa_nil))))) sss_nil) (sss_cons (ss_set (i := 1) nd (se_tup sa_nil)) (sss_cons (ss_for po rfl (si_sq (se_call L.h2 hr T.g2 T.F2.kp T.b2 tk (sa_cons (se_mv 0) sa_nil) none)) (sg_name nd) (sss_kill (vs := [2]) (sss_one (ss_set (i := 1) nd (se_bin ol_add op_addA (se_vb 1) (se_call L.h5 hr T.g5 T.F5.kp T.b5 tk (sa_cons (se_mv 2) sa_nil) none)))))) (sss_one (ss_end (ss_ret (se_rv 1)))))))⟩
/-- is_key -/
theorem e6 (k : Nat) : fs (k + 1) 6 = fnF 2 1 (m_is_key) := rfl
theorem w6 {T : Top K.fr mg} {k : Nat} (L : Lv P K mg base T k) : FnOk P K.w K.fr mg base (L2.CX P K.w) (k + 1) T.a6 T.d6 ["text"] (spF K (cvK K.fr) 1 (fs (k + 1) 6)) := by
  rw [e6]
  refine fn_of' ["text", "letter"] rfl rfl T.F6 sc6 fun cdv A outer s H E hr tk po => ?_
  have nd := sc6.nd
  have hu := hr.units
  have hu2 : _ + 199 < cLine := Nat.lt_of_le_of_lt (Nat.add_le_add_left (by decide : 199 ≤ 200) _) (Nat.lt_of_le_of_lt (Nat.add_le_add_right (Nat.le_add_right _ _) _) hr.un)
  have hu5 : _ + 65 < cLine := Nat.lt_of_le_of_lt (Nat.add_le_add_left (by decide : 65 ≤ 200) _) (Nat.lt_of_le_of_lt (Nat.add_le_add_right (Nat.le_add_right _ _) _) hr.un)
  unfold m_is_key m_is_key_b1
  exact ⟨_, (sss_cons (ss_if (sw_or (st_not (st_chain ol_cmp op_le ol_cmp op_le se_int (se_cb cl_len call_len T.m_len (sa_cons (se_vb 0) sa_nil)) (se_gint T.c_LONGEST_KEY))) (sw_one (st_cmp ol_notInB (op_notInB (by exact hu5)) (se_ixA (by exact hu5) (se_vb 0) se_int) (se_gstr T.c_SMALL_books)))).st (sss_one (ss_end (ss_ret se_bl))) sss_nil) (sss_cons (ss_for po rfl (si_sq (se_mv 0)) (sg_name nd) (sss_kill (vs := [1]) (sss_one (ss_if (sw_and (st_cmp ol_notInB (op_notInB (by exact hu5)) (se_vb 1) (se_gstr T.c_SMALL_books)) (sw_one (st_cmp ol_notInB (op_notInB (by exact hu5)) (se_vb 1) (se_gstr T.c_FIGURES_books)))).st (sss_one (ss_end (ss_ret se_bl))) sss_nil)))) (sss_one (ss_end (ss_ret se_bl)))))⟩
/-- feet_of -/
theorem e7 (k : Nat) : fs (k + 1) 7 = fnF 4 1 (m_feet_of (fs k 3) (fs k 4)) := rfl
theorem w7 {T : Top K.fr mg} {k : Nat} (L : Lv P K mg base T k) : FnOk P K.w K.fr mg base (L2.CX P K.w) (k + 1) T.a7 T.d7 ["tree"] (spF K (cvK K.fr) 1 (fs (k + 1) 7)) := by
  rw [e7]
  refine fn_of' ["tree", "pieces", "place", "piece"] rfl rfl T.F7 sc7 fun cdv A outer s H E hr tk po => ?_
  have nd := sc7.nd
  have hu := hr.units
  have hu2 : _ + 199 < cLine := Nat.lt_of_le_of_lt (Nat.add_le_add_left (by decide : 199 ≤ 200) _) (Nat.lt_of_le_of_lt (Nat.add_le_add_right (Nat.le_add_right _ _) _) hr.un)
  have hu5 : _ + 65 < cLine := Nat.lt_of_le_of_lt (Nat.add_le_add_left (by decide : 65 ≤ 200) _) (Nat.lt_of_le_of_lt (Nat.add_le_add_right (Nat.le_add_right _ _) _) hr.un)
  unfold m_feet_of m_feet_of_ce3 m_feet_of_ce2 m_feet_of_ct1
  exact ⟨_, (sss_cons (ss_setLc (i := 1) (own := [(("place" : Str), 2)]) rfl nd (blkOk_by (N := ["tree", "pieces", "place", "piece"]) (sc := defScope s7) (by decide +kernel)) (si_sq (se_call L.h3 hr T.g3 T.F3.kp T.b3 tk (sa_cons (se_mv 0) sa_nil) none)) (fun _ _ _ _ _ => (sgw_name nd)) (fun _ _ _ _ _ => sp_nil) (fun _ _ _ _ _ => (se_call L.h4 (by exact hr) T.g4 T.F4.kp T.b4 takes0 (sa_cons (se_mv 0) (sa_cons (se_mv 2) sa_nil)) none)) (sw_true rfl rfl rfl (by decide +kernel))) (sss_one (ss_end (ss_ret (se_comp (own := [(("piece" : Str), 3)]) rfl nd (blkOk_by (N := ["tree", "pieces", "place", "piece"]) (sc := defScope s7) (by decide +kernel)) (si_sq (se_mv 1)) (fun _ _ _ _ _ => (sgw_name nd)) (fun _ _ _ _ _ => (sp_one (st_cmp ol_eqB (op_eqB (by exact hu2)) (se_ixA (by exact hu5) (se_vb 3) se_int) se_str))) (fun _ _ _ _ _ => (se_ixA (by exact hu5) (se_vb 3) se_int)))))))⟩
/-- is_graft -/
theorem e8 (k : Nat) : fs (k + 1) 8 = fnF 1 1 (m_is_graft (fs k 7)) := rfl
theorem w8 {T : Top K.fr mg} {k : Nat} (L : Lv P K mg base T k) : FnOk P K.w K.fr mg base (L2.CX P K.w) (k + 1) T.a8 T.d8 ["tree"] (spF K (cvK K.fr) 1 (fs (k + 1) 8)) := by
  rw [e8]
  refine fn_of' ["tree"] rfl rfl T.F8 sc8 fun cdv A outer s H E hr tk po => ?_
  have nd := sc8.nd
  have hu := hr.units
  have hu2 : _ + 199 < cLine := Nat.lt_of_le_of_lt (Nat.add_le_add_left (by decide : 199 ≤ 200) _) (Nat.lt_of_le_of_lt (Nat.add_le_add_right (Nat.le_add_right _ _) _) hr.un)
  have hu5 : _ + 65 < cLine := Nat.lt_of_le_of_lt (Nat.add_le_add_left (by decide : 65 ≤ 200) _) (Nat.lt_of_le_of_lt (Nat.add_le_add_right (Nat.le_add_right _ _) _) hr.un)
  unfold m_is_graft
  exact ⟨_, (sss_one (ss_end (ss_ret (se_cmp ol_eqB (op_eqB (by exact hu2)) (se_cb cl_len call_len T.m_len (sa_cons (se_call L.h7 hr T.g7 T.F7.kp T.b7 tk (sa_cons (se_mv 0) sa_nil) none) sa_nil)) se_int))))⟩
/-- name_of -/
theorem e9 (k : Nat) : fs (k + 1) 9 = fnF 2 1 (m_name_of (fs k 7)) := rfl
theorem w9 {T : Top K.fr mg} {k : Nat} (L : Lv P K mg base T k) : FnOk P K.w K.fr mg base (L2.CX P K.w) (k + 1) T.a9 T.d9 ["tree"] (spF K (cvK K.fr) 1 (fs (k + 1) 9)) := by
  rw [e9]
  refine fn_of' ["tree", "feet"] rfl rfl T.F9 sc9 fun cdv A outer s H E hr tk po => ?_
  have nd := sc9.nd
  have hu := hr.units
  have hu2 : _ + 199 < cLine := Nat.lt_of_le_of_lt (Nat.add_le_add_left (by decide : 199 ≤ 200) _) (Nat.lt_of_le_of_lt (Nat.add_le_add_right (Nat.le_add_right _ _) _) hr.un)
  have hu5 : _ + 65 < cLine := Nat.lt_of_le_of_lt (Nat.add_le_add_left (by decide : 65 ≤ 200) _) (Nat.lt_of_le_of_lt (Nat.add_le_add_right (Nat.le_add_right _ _) _) hr.un)
  unfold m_name_of
  exact ⟨_, (sss_cons (ss_set (i := 1) nd (se_call L.h7 hr T.g7 T.F7.kp T.b7 tk (sa_cons (se_mv 0) sa_nil) none)) (sss_one (ss_end (ss_ret (se_if (st_cmp ol_eqB (op_eqB (by exact hu2)) (se_cb cl_len call_len T.m_len (sa_cons (se_vb 1) sa_nil)) se_int) (se_ixA (by exact hu5) (se_vb 1) se_int) (se_ixA (by exact hu5) (se_vb 0) se_int))))))⟩
/-- amiss_in -/
theorem e10 (k : Nat) : fs (k + 1) 10 = fnF 3 1 (m_amiss_in (fs k 5) (fs k 7) (fs k 3)) := rfl
theorem w10 {T : Top K.fr mg} {k : Nat} (L : Lv P K mg base T k) : FnOk P K.w K.fr mg base (L2.CX P K.w) (k + 1) T.a10 T.d10 ["tree"] (spF K (cvK K.fr) 1 (fs (k + 1) 10)) := by
  rw [e10]
  refine fn_of' ["tree", "found", "place"] rfl rfl T.F10 sc10 fun cdv A outer s H E hr tk po => ?_
  have nd := sc10.nd
  have hu := hr.units
  have hu2 : _ + 199 < cLine := Nat.lt_of_le_of_lt (Nat.add_le_add_left (by decide : 199 ≤ 200) _) (Nat.lt_of_le_of_lt (Nat.add_le_add_right (Nat.le_add_right _ _) _) hr.un)
  have hu5 : _ + 65 < cLine := Nat.lt_of_le_of_lt (Nat.add_le_add_left (by decide : 65 ≤ 200) _) (Nat.lt_of_le_of_lt (Nat.add_le_add_right (Nat.le_add_right _ _) _) hr.un)
  unfold m_amiss_in m_amiss_in_ce1
  exact ⟨_, (sss_cons (ss_set (i := 1) nd (se_call L.h3 hr T.g3 T.F3.kp T.b3 tk (sa_cons (se_mv 0) sa_nil) none)) (sss_cons (ss_if (st_cmp ol_neB (op_neB (by exact hu2)) (se_ixA (by exact hu5) (se_vb 0) se_int) se_str) (sss_one (ss_end (ss_ret se_str))) sss_nil) (sss_cons (ss_if (st_cmp ol_cmp op_gt (se_cb cl_len call_len T.m_len (sa_cons (se_call L.h7 hr T.g7 T.F7.kp T.b7 tk (sa_cons (se_mv 0) sa_nil) none) sa_nil)) se_int) (sss_one (ss_end (ss_ret se_str))) sss_nil) (sss_cons (ss_if (st_cmp ol_eqB (op_eqB (by exact hu2)) (se_cb cl_len call_len T.m_len (sa_cons (se_call L.h5 hr T.g5 T.F5.kp T.b5 tk (sa_cons (se_mv 0) sa_nil) none) sa_nil)) se_int) (sss_one (ss_end (ss_ret se_str))) sss_nil) (sss_cons (ss_if (sw_or (st_cmp ol_cmp op_gt (se_cb cl_len call_len T.m_len (sa_cons (se_vb 1) sa_nil)) (se_gint T.c_MOST_PIECES)) (sw_one (st_cmp ol_cmp op_ge (se_cb cl_maxL (cr_max rfl) T.m_max (sa_cons (se_comp (own := [(("place" : Str), 2)]) rfl nd (blkOk_by (N := ["tree", "found", "place"]) (sc := defScope s10) (by decide +kernel)) (si_sq (se_mv 1)) (fun _ _ _ _ _ => (sgw_name nd)) (fun _ _ _ _ _ => sp_nil) (fun _ _ _ _ _ => (se_cb cl_len call_len T.m_len (sa_cons (se_vb 2) sa_nil)))) sa_nil)) (se_gint T.c_MOST_WITHIN)))).st (sss_one (ss_end (ss_ret se_str))) sss_nil) (sss_one (ss_end (ss_ret se_non))))))))⟩
/-- made_book -/
theorem e11 (k : Nat) : fs (k + 1) 11 = fnF 7 2 (m_made_book (fs k 47) (fs k 10) (fs k 46) (fs k 6) (fs k 45)) := rfl
theorem w11 {T : Top K.fr mg} {k : Nat} (L : Lv P K mg base T k) : FnOk P K.w K.fr mg base (L2.CX P K.w) (k + 1) T.a11 T.d11 ["top", "trees"] (spF K (cvK K.fr) 2 (fs (k + 1) 11)) := by
  rw [e11]
  refine fn_of' ["top", "trees", "keys", "number", "word", "key", "tree"] rfl rfl T.F11 sc11 fun cdv A outer s H E hr tk po => ?_
  have nd := sc11.nd
  have hu := hr.units
  have hu2 : _ + 199 < cLine := Nat.lt_of_le_of_lt (Nat.add_le_add_left (by decide : 199 ≤ 200) _) (Nat.lt_of_le_of_lt (Nat.add_le_add_right (Nat.le_add_right _ _) _) hr.un)
  have hu5 : _ + 65 < cLine := Nat.lt_of_le_of_lt (Nat.add_le_add_left (by decide : 65 ≤ 200) _) (Nat.lt_of_le_of_lt (Nat.add_le_add_right (Nat.le_add_right _ _) _) hr.un)
  unfold m_made_book m_made_book_b1
  exact ⟨_, (sss_cons (ss_if (st_cmp ol_eqB (op_eqB (by exact hu2)) (se_cb cl_len call_len T.m_len (sa_cons (se_vb 1) sa_nil)) se_int) (sss_one (ss_raise L.x_NoKey T.xT_NoKey T.xo_NoKey T.xv_NoKey T.xg_NoKey T.xb_NoKey hr tk rfl (sa_cons se_int sa_nil))) sss_nil) (sss_cons (ss_if (st_cmp ol_cmp op_gt (se_cb cl_len call_len T.m_len (sa_cons (se_vb 1) sa_nil)) (se_gint T.c_MOST_TREES)) (sss_one (ss_raise L.x_NoKey T.xT_NoKey T.xo_NoKey T.xv_NoKey T.xg_NoKey T.xb_NoKey hr tk rfl (sa_cons (se_gint T.c_MOST_TREES) sa_nil))) sss_nil) (sss_cons (ss_set (i := 2) nd (se_lst sa_nil)) (sss_cons (ss_for po rfl (si_r1 (se_cb cl_len call_len T.m_len (sa_cons (se_vb 1) sa_nil)) T.m_range) (sg_name nd) (sss_kill (vs := [3, 4, 5, 6]) (sss_cons (ss_unp (se_ixA (by exact hu5) (se_vb 1) (se_vb 3)) (sg_tup rfl (sgs_cons (sg_name nd) (sgs_cons (sg_name nd) sgs_nil)))) (sss_cons (ss_if (st_not (st_val (se_call L.h6 hr T.g6 T.F6.kp T.b6 tk (sa_cons (se_mv 5) sa_nil) none))) (sss_one (ss_raise L.x_NoKey T.xT_NoKey T.xo_NoKey T.xv_NoKey T.xg_NoKey T.xb_NoKey hr tk rfl (sa_cons (se_mv 3) sa_nil))) sss_nil) (sss_cons (ss_if (st_cmp ol_inB (op_inB (by exact hu5)) (se_vb 5) (se_vb 2)) (sss_one (ss_raise L.x_Twice T.xT_Twice T.xo_Twice T.xv_Twice T.xg_Twice T.xb_Twice hr tk rfl (sa_cons (se_mv 5) sa_nil))) sss_nil) (sss_cons (ss_set (i := 4) nd (se_call L.h10 hr T.g10 T.F10.kp T.b10 tk (sa_cons (se_mv 6) sa_nil) none)) (sss_cons (ss_if (st_cmp ol_not op_notA (se_vb 4) se_non) (sss_one (ss_raise L.x_NoTree T.xT_NoTree T.xo_NoTree T.xv_NoTree T.xg_NoTree T.xb_NoTree hr tk rfl (sa_cons (se_mv 5) (sa_cons (se_mv 4) sa_nil)))) sss_nil) (sss_one (ss_app (i := 2) (se_mv 5)))))))))) (sss_one (ss_end (ss_ret (se_tup (sa_cons (se_mv 0) (sa_cons (se_ct cl_tuple call_tupX T.m_tuple (sa_cons (se_vb 1) sa_nil)) sa_nil))))))))))⟩
/-- takes_words -/
theorem e12 (k : Nat) : fs (k + 1) 12 = fnF 1 1 (m_takes_words) := rfl
theorem w12 {T : Top K.fr mg} {k : Nat} (L : Lv P K mg base T k) : FnOk P K.w K.fr mg base (L2.CX P K.w) (k + 1) T.a12 T.d12 ["takes"] (spF K (cvK K.fr) 1 (fs (k + 1) 12)) := by
  rw [e12]
  refine fn_of' ["takes"] rfl rfl T.F12 sc12 fun cdv A outer s H E hr tk po => ?_
  have nd := sc12.nd
  have hu := hr.units
  have hu2 : _ + 199 < cLine := Nat.lt_of_le_of_lt (Nat.add_le_add_left (by decide : 199 ≤ 200) _) (Nat.lt_of_le_of_lt (Nat.add_le_add_right (Nat.le_add_right _ _) _) hr.un)
  have hu5 : _ + 65 < cLine := Nat.lt_of_le_of_lt (Nat.add_le_add_left (by decide : 65 ≤ 200) _) (Nat.lt_of_le_of_lt (Nat.add_le_add_right (Nat.le_add_right _ _) _) hr.un)
  unfold m_takes_words
  exact ⟨_, (sss_cons (ss_if (st_cmp ol_is op_isA (se_vb 0) se_non) (sss_one (ss_end (ss_ret (se_lst sa_nil)))) sss_nil) (sss_one (ss_end (ss_ret (se_if (st_val (se_ixA (by exact hu5) (se_vb 0) se_int)) (se_lst (sa_cons (se_bin ol_add op_addA se_str (se_ixA (by exact hu5) (se_vb 0) se_int)) sa_nil)) (se_lst (sa_cons (se_bin ol_add op_addA se_str (se_ixA (by exact hu5) (se_vb 0) se_int)) sa_nil)))))))⟩
/-- tree_words -/
theorem e13 (k : Nat) : fs (k + 1) 13 = fnF 3 1 (m_tree_words (fs k 13) (fs k 12)) := rfl
theorem w13 {T : Top K.fr mg} {k : Nat} (L : Lv P K mg base T k) : FnOk P K.w K.fr mg base (L2.CX P K.w) (k + 1) T.a13 T.d13 ["tree"] (spF K (cvK K.fr) 1 (fs (k + 1) 13)) := by
  rw [e13]
  refine fn_of' ["tree", "words", "kid"] rfl rfl T.F13 sc13 fun cdv A outer s H E hr tk po => ?_
  have nd := sc13.nd
  have hu := hr.units
  have hu2 : _ + 199 < cLine := Nat.lt_of_le_of_lt (Nat.add_le_add_left (by decide : 199 ≤ 200) _) (Nat.lt_of_le_of_lt (Nat.add_le_add_right (Nat.le_add_right _ _) _) hr.un)
  have hu5 : _ + 65 < cLine := Nat.lt_of_le_of_lt (Nat.add_le_add_left (by decide : 65 ≤ 200) _) (Nat.lt_of_le_of_lt (Nat.add_le_add_right (Nat.le_add_right _ _) _) hr.un)
  unfold m_tree_words m_tree_words_b1
  exact ⟨_, (sss_cons (ss_if (st_cmp ol_eqB (op_eqB (by exact hu2)) (se_ixA (by exact hu5) (se_vb 0) se_int) se_str) (sss_one (ss_end (ss_ret (se_lst (sa_cons (se_ixA (by exact hu5) (se_vb 0) se_int) sa_nil))))) sss_nil) (sss_cons (ss_if (st_cmp ol_eqB (op_eqB (by exact hu2)) (se_ixA (by exact hu5) (se_vb 0) se_int) se_str) (sss_one (ss_end (ss_ret (se_lst (sa_cons se_str sa_nil))))) sss_nil) (sss_cons (ss_if (st_cmp ol_eqB (op_eqB (by exact hu2)) (se_ixA (by exact hu5) (se_vb 0) se_int) se_str) (sss_one (ss_end (ss_ret (se_lst (sa_cons (se_bin ol_add op_addA se_str (se_ixA (by exact hu5) (se_vb 0) se_int)) sa_nil))))) sss_nil) (sss_cons (ss_if (st_cmp ol_eqB (op_eqB (by exact hu2)) (se_ixA (by exact hu5) (se_vb 0) se_int) se_str) (sss_one (ss_end (ss_ret (se_lst (sa_cons (se_bin ol_add op_addA se_str (se_ixA (by exact hu5) (se_vb 0) se_int)) sa_nil))))) sss_nil) (sss_cons (ss_set (i := 1) nd (se_bin ol_add op_addA (se_lst (sa_cons se_str (sa_cons (se_ixA (by exact hu5) (se_vb 0) se_int) sa_nil))) (se_call L.h12 hr T.g12 T.F12.kp T.b12 tk (sa_cons (se_ixA (by exact hu5) (se_vb 0) se_int) sa_nil) none))) (sss_cons (ss_for po rfl (si_sq (se_ixA (by exact hu5) (se_vb 0) se_int)) (sg_name nd) (sss_kill (vs := [2]) (sss_one (ss_set (i := 1) nd (se_bin ol_add op_addA (se_vb 1) (se_call L.h13 hr T.g13 T.F13.kp T.b13 tk (sa_cons (se_mv 2) sa_nil) none)))))) (sss_one (ss_end (ss_ret (se_bin ol_add op_addA (se_vb 1) (se_lst (sa_cons se_str sa_nil))))))))))))⟩
/-- tree_text -/
theorem e14 (k : Nat) : fs (k + 1) 14 = fnF 1 1 (m_tree_text (fs k 13)) := rfl
theorem w14 {T : Top K.fr mg} {k : Nat} (L : Lv P K mg base T k) : FnOk P K.w K.fr mg base (L2.CX P K.w) (k + 1) T.a14 T.d14 ["tree"] (spF K (cvK K.fr) 1 (fs (k + 1) 14)) := by
  rw [e14]
  refine fn_of' ["tree"] rfl rfl T.F14 sc14 fun cdv A outer s H E hr tk po => ?_
  have nd := sc14.nd
  have hu := hr.units
  have hu2 : _ + 199 < cLine := Nat.lt_of_le_of_lt (Nat.add_le_add_left (by decide : 199 ≤ 200) _) (Nat.lt_of_le_of_lt (Nat.add_le_add_right (Nat.le_add_right _ _) _) hr.un)
  have hu5 : _ + 65 < cLine := Nat.lt_of_le_of_lt (Nat.add_le_add_left (by decide : 65 ≤ 200) _) (Nat.lt_of_le_of_lt (Nat.add_le_add_right (Nat.le_add_right _ _) _) hr.un)
  unfold m_tree_text
  exact ⟨_, (sss_one (ss_end (ss_ret (se_join se_str (se_call L.h13 hr T.g13 T.F13.kp T.b13 tk (sa_cons (se_mv 0) sa_nil) none)))))⟩
/-- word_at_words -/
theorem e15 (k : Nat) : fs (k + 1) 15 = fnF 2 2 (m_word_at_2 (fs k 44)) := rfl
theorem w15 {T : Top K.fr mg} {k : Nat} (L : Lv P K mg base T k) : FnOk P K.w K.fr mg base (L2.CX P K.w) (k + 1) T.a15 T.d15 ["words", "at"] (spF K (cvK K.fr) 2 (fs (k + 1) 15)) := by
  rw [e15]
  refine fn_of' ["words", "at"] rfl rfl T.F15 sc15 fun cdv A outer s H E hr tk po => ?_
  have nd := sc15.nd
  have hu := hr.units
  have hu2 : _ + 199 < cLine := Nat.lt_of_le_of_lt (Nat.add_le_add_left (by decide : 199 ≤ 200) _) (Nat.lt_of_le_of_lt (Nat.add_le_add_right (Nat.le_add_right _ _) _) hr.un)
  have hu5 : _ + 65 < cLine := Nat.lt_of_le_of_lt (Nat.add_le_add_left (by decide : 65 ≤ 200) _) (Nat.lt_of_le_of_lt (Nat.add_le_add_right (Nat.le_add_right _ _) _) hr.un)
  unfold m_word_at_2
  exact ⟨_, (sss_cons (ss_if (st_cmp ol_eqB (op_eqB (by exact hu2)) (se_vb 1) (se_cb cl_len call_len T.m_len (sa_cons (se_vb 0) sa_nil))) (sss_one (ss_raise L.x_NoText T.xT_NoText T.xo_NoText T.xv_NoText T.xg_NoText T.xb_NoText hr tk rfl (sa_cons (se_mv 1) sa_nil))) sss_nil) (sss_one (ss_end (ss_ret (se_ixA (by exact hu5) (se_vb 0) (se_vb 1))))))⟩
/-- leaf_of -/
theorem e16 (k : Nat) : fs (k + 1) 16 = fnF 1 1 (m_leaf_of (fs k 0) (fs k 1)) := rfl
theorem w16 {T : Top K.fr mg} {k : Nat} (L : Lv P K mg base T k) : FnOk P K.w K.fr mg base (L2.CX P K.w) (k + 1) T.a16 T.d16 ["word"] (spF K (cvK K.fr) 1 (fs (k + 1) 16)) := by
  rw [e16]
  refine fn_of' ["word"] rfl rfl T.F16 sc16 fun cdv A outer s H E hr tk po => ?_
  have nd := sc16.nd
  have hu := hr.units
  have hu2 : _ + 199 < cLine := Nat.lt_of_le_of_lt (Nat.add_le_add_left (by decide : 199 ≤ 200) _) (Nat.lt_of_le_of_lt (Nat.add_le_add_right (Nat.le_add_right _ _) _) hr.un)
  have hu5 : _ + 65 < cLine := Nat.lt_of_le_of_lt (Nat.add_le_add_left (by decide : 65 ≤ 200) _) (Nat.lt_of_le_of_lt (Nat.add_le_add_right (Nat.le_add_right _ _) _) hr.un)
  unfold m_leaf_of
  exact ⟨_, (sss_cons (ss_if (st_cmp ol_eqB (op_eqB (by exact hu2)) (se_vb 0) se_str) (sss_one (ss_end (ss_ret (se_tup (sa_cons se_str sa_nil))))) sss_nil) (sss_cons (ss_if (st_val (se_call L.h1 hr T.g1 T.F1.kp T.b1 tk (sa_cons (se_mv 0) sa_nil) none)) (sss_one (ss_end (ss_ret (se_tup (sa_cons se_str (sa_cons (se_mv 0) sa_nil)))))) sss_nil) (sss_cons (ss_if (sw_and (st_cmp ol_eqB (op_eqB (by exact hu2)) (se_slice (se_vb 0) .non (.some se_int)) se_str) (sw_one (st_val (se_call L.h0 hr T.g0 T.F0.kp T.b0 tk (sa_cons (se_slice (se_vb 0) (.some se_int) .non) sa_nil) none)))).st (sss_one (ss_end (ss_ret (se_tup (sa_cons se_str (sa_cons (se_slice (se_vb 0) (.some se_int) .non) sa_nil)))))) sss_nil) (sss_cons (ss_if (sw_and (st_cmp ol_eqB (op_eqB (by exact hu2)) (se_slice (se_vb 0) .non (.some se_int)) se_str) (sw_one (st_val (se_call L.h0 hr T.g0 T.F0.kp T.b0 tk (sa_cons (se_slice (se_vb 0) (.some se_int) .non) sa_nil) none)))).st (sss_one (ss_end (ss_ret (se_tup (sa_cons se_str (sa_cons (se_slice (se_vb 0) (.some se_int) .non) sa_nil)))))) sss_nil) (sss_one (ss_ret se_non))))))⟩
/-- take_takes -/
theorem e17 (k : Nat) : fs (k + 1) 17 = fnF 3 2 (m_take_takes (fs k 0) (fs k 15)) := rfl
theorem w17 {T : Top K.fr mg} {k : Nat} (L : Lv P K mg base T k) : FnOk P K.w K.fr mg base (L2.CX P K.w) (k + 1) T.a17 T.d17 ["words", "at"] (spF K (cvK K.fr) 2 (fs (k + 1) 17)) := by
  rw [e17]
  refine fn_of' ["words", "at", "word"] rfl rfl T.F17 sc17 fun cdv A outer s H E hr tk po => ?_
  have nd := sc17.nd
  have hu := hr.units
  have hu2 : _ + 199 < cLine := Nat.lt_of_le_of_lt (Nat.add_le_add_left (by decide : 199 ≤ 200) _) (Nat.lt_of_le_of_lt (Nat.add_le_add_right (Nat.le_add_right _ _) _) hr.un)
  have hu5 : _ + 65 < cLine := Nat.lt_of_le_of_lt (Nat.add_le_add_left (by decide : 65 ≤ 200) _) (Nat.lt_of_le_of_lt (Nat.add_le_add_right (Nat.le_add_right _ _) _) hr.un)
  unfold m_take_takes
  exact ⟨_, (sss_cons (ss_set (i := 2) nd (se_call L.h15 hr T.g15 T.F15.kp T.b15 tk (sa_cons (se_mv 0) (sa_cons (se_mv 1) sa_nil)) none)) (sss_cons (ss_if (sw_and (st_cmp ol_inB (op_inB (by exact hu5)) (se_slice (se_vb 2) .non (.some se_int)) (se_tup (sa_cons se_str (sa_cons se_str sa_nil)))) (sw_one (st_val (se_call L.h0 hr T.g0 T.F0.kp T.b0 tk (sa_cons (se_slice (se_vb 2) (.some se_int) .non) sa_nil) none)))).st (sss_one (ss_end (ss_ret (se_tup (sa_cons (se_tup (sa_cons (se_slice (se_vb 2) (.some se_int) .non) (sa_cons (se_cmp ol_eqB (op_eqB (by exact hu2)) (se_ixA (by exact hu5) (se_vb 2) se_int) se_str) sa_nil))) (sa_cons (se_bin ol_add op_addA (se_vb 1) se_int) sa_nil)))))) sss_nil) (sss_one (ss_end (ss_ret (se_tup (sa_cons se_non (sa_cons (se_mv 1) sa_nil))))))))⟩
/-- take_knot -/
theorem e18 (k : Nat) : fs (k + 1) 18 = fnF 7 2 (m_take_knot_2 (fs k 15) (fs k 19) (fs k 44) (fs k 17) (fs k 0)) := rfl
theorem w18 {T : Top K.fr mg} {k : Nat} (L : Lv P K mg base T k) : FnOk P K.w K.fr mg base (L2.CX P K.w) (k + 1) T.a18 T.d18 ["words", "at"] (spF K (cvK K.fr) 2 (fs (k + 1) 18)) := by
  rw [e18]
  refine fn_of' ["words", "at", "name", "kids", "takes", "after", "kid"] rfl rfl T.F18 sc18 fun cdv A outer s H E hr tk po => ?_
  have nd := sc18.nd
  have hu := hr.units
  have hu2 : _ + 199 < cLine := Nat.lt_of_le_of_lt (Nat.add_le_add_left (by decide : 199 ≤ 200) _) (Nat.lt_of_le_of_lt (Nat.add_le_add_right (Nat.le_add_right _ _) _) hr.un)
  have hu5 : _ + 65 < cLine := Nat.lt_of_le_of_lt (Nat.add_le_add_left (by decide : 65 ≤ 200) _) (Nat.lt_of_le_of_lt (Nat.add_le_add_right (Nat.le_add_right _ _) _) hr.un)
  unfold m_take_knot_2 m_take_knot_2_b2 m_take_knot_2_t1
  exact ⟨_, (sss_cons (ss_set (i := 2) nd (se_call L.h15 hr T.g15 T.F15.kp T.b15 tk (sa_cons (se_mv 0) (sa_cons (se_bin ol_add op_addA (se_vb 1) se_int) sa_nil)) none)) (sss_cons (ss_if (st_not (st_val (se_call L.h0 hr T.g0 T.F0.kp T.b0 tk (sa_cons (se_mv 2) sa_nil) none))) (sss_one (ss_raise L.x_NoText T.xT_NoText T.xo_NoText T.xv_NoText T.xg_NoText T.xb_NoText hr tk rfl (sa_cons (se_bin ol_add op_addA (se_vb 1) se_int) sa_nil))) sss_nil) (sss_cons (ss_unp (se_call L.h17 hr T.g17 T.F17.kp T.b17 tk (sa_cons (se_mv 0) (sa_cons (se_bin ol_add op_addA (se_vb 1) se_int) sa_nil)) none) (sg_tup rfl (sgs_cons (sg_name nd) (sgs_cons (sg_name nd) sgs_nil)))) (sss_cons (ss_set (i := 3) nd (se_lst sa_nil)) (sss_cons (ss_while wFuel po (sw_or (st_cmp ol_eqB (op_eqB (by exact hu2)) (se_cb cl_len call_len T.m_len (sa_cons (se_vb 3) sa_nil)) se_int) (sw_one (st_cmp ol_neB (op_neB (by exact hu2)) (se_call L.h15 hr T.g15 T.F15.kp T.b15 tk (sa_cons (se_mv 0) (sa_cons (se_mv 5) sa_nil)) none) se_str))).st (sss_kill (vs := [6]) (sss_cons (ss_if (st_cmp ol_eqB (op_eqB (by exact hu2)) (se_cb cl_len call_len T.m_len (sa_cons (se_vb 3) sa_nil)) (se_gint T.c_MOST_KIDS)) (sss_one (ss_raise L.x_NoText T.xT_NoText T.xo_NoText T.xv_NoText T.xg_NoText T.xb_NoText hr tk rfl (sa_cons (se_mv 5) sa_nil))) sss_nil) (sss_cons (ss_unp (se_call L.h19 hr T.g19 T.F19.kp T.b19 tk (sa_cons (se_mv 0) (sa_cons (se_mv 5) sa_nil)) none) (sg_tup rfl (sgs_cons (sg_name nd) (sgs_cons (sg_name nd) sgs_nil)))) (sss_one (ss_app (i := 3) (se_mv 6))))))) (sss_one (ss_end (ss_ret (se_tup (sa_cons (se_tup (sa_cons se_str (sa_cons (se_mv 2) (sa_cons (se_mv 4) (sa_cons (se_ct cl_tuple call_tupX T.m_tuple (sa_cons (se_vb 3) sa_nil)) sa_nil))))) (sa_cons (se_bin ol_add op_addA (se_vb 5) se_int) sa_nil)))))))))))⟩
/-- take_tree -/
theorem e19 (k : Nat) : fs (k + 1) 19 = fnF 4 2 (m_take_tree_2 (fs k 44) (fs k 16) (fs k 18) (fs k 15)) := rfl
theorem w19 {T : Top K.fr mg} {k : Nat} (L : Lv P K mg base T k) : FnOk P K.w K.fr mg base (L2.CX P K.w) (k + 1) T.a19 T.d19 ["words", "at"] (spF K (cvK K.fr) 2 (fs (k + 1) 19)) := by
  rw [e19]
  refine fn_of' ["words", "at", "word", "leaf"] rfl rfl T.F19 sc19 fun cdv A outer s H E hr tk po => ?_
  have nd := sc19.nd
  have hu := hr.units
  have hu2 : _ + 199 < cLine := Nat.lt_of_le_of_lt (Nat.add_le_add_left (by decide : 199 ≤ 200) _) (Nat.lt_of_le_of_lt (Nat.add_le_add_right (Nat.le_add_right _ _) _) hr.un)
  have hu5 : _ + 65 < cLine := Nat.lt_of_le_of_lt (Nat.add_le_add_left (by decide : 65 ≤ 200) _) (Nat.lt_of_le_of_lt (Nat.add_le_add_right (Nat.le_add_right _ _) _) hr.un)
  unfold m_take_tree_2
  exact ⟨_, (sss_cons (ss_set (i := 2) nd (se_call L.h15 hr T.g15 T.F15.kp T.b15 tk (sa_cons (se_mv 0) (sa_cons (se_mv 1) sa_nil)) none)) (sss_cons (ss_if (st_cmp ol_eqB (op_eqB (by exact hu2)) (se_vb 2) se_str) (sss_one (ss_end (ss_ret (se_call L.h18 hr T.g18 T.F18.kp T.b18 tk (sa_cons (se_mv 0) (sa_cons (se_mv 1) sa_nil)) none)))) sss_nil) (sss_cons (ss_set (i := 3) nd (se_call L.h16 hr T.g16 T.F16.kp T.b16 tk (sa_cons (se_mv 2) sa_nil) none)) (sss_cons (ss_if (st_cmp ol_is op_isA (se_vb 3) se_non) (sss_one (ss_raise L.x_NoText T.xT_NoText T.xo_NoText T.xv_NoText T.xg_NoText T.xb_NoText hr tk rfl (sa_cons (se_mv 1) sa_nil))) sss_nil) (sss_one (ss_end (ss_ret (se_tup (sa_cons (se_mv 3) (sa_cons (se_bin ol_add op_addA (se_vb 1) se_int) sa_nil))))))))))⟩
/-- read_tree -/
theorem e20 (k : Nat) : fs (k + 1) 20 = fnF 4 1 (m_read_tree_2 (fs k 44) (fs k 19)) := rfl
theorem w20 {T : Top K.fr mg} {k : Nat} (L : Lv P K mg base T k) : FnOk P K.w K.fr mg base (L2.CX P K.w) (k + 1) T.a20 T.d20 ["text"] (spF K (cvK K.fr) 1 (fs (k + 1) 20)) := by
  rw [e20]
  refine fn_of' ["text", "words", "tree", "after"] rfl rfl T.F20 sc20 fun cdv A outer s H E hr tk po => ?_
  have nd := sc20.nd
  have hu := hr.units
  have hu2 : _ + 199 < cLine := Nat.lt_of_le_of_lt (Nat.add_le_add_left (by decide : 199 ≤ 200) _) (Nat.lt_of_le_of_lt (Nat.add_le_add_right (Nat.le_add_right _ _) _) hr.un)
  have hu5 : _ + 65 < cLine := Nat.lt_of_le_of_lt (Nat.add_le_add_left (by decide : 65 ≤ 200) _) (Nat.lt_of_le_of_lt (Nat.add_le_add_right (Nat.le_add_right _ _) _) hr.un)
  unfold m_read_tree_2
  exact ⟨_, (sss_cons (ss_set (i := 1) nd (se_split (se_vb 0) se_str)) (sss_cons (ss_unp (se_call L.h19 hr T.g19 T.F19.kp T.b19 tk (sa_cons (se_mv 1) (sa_cons se_int sa_nil)) none) (sg_tup rfl (sgs_cons (sg_name nd) (sgs_cons (sg_name nd) sgs_nil)))) (sss_cons (ss_if (st_cmp ol_ltA (op_ltA (by exact hu5)) (se_vb 3) (se_cb cl_len call_len T.m_len (sa_cons (se_vb 1) sa_nil))) (sss_one (ss_raise L.x_NoText T.xT_NoText T.xo_NoText T.xv_NoText T.xg_NoText T.xb_NoText hr tk rfl (sa_cons (se_mv 3) sa_nil))) sss_nil) (sss_one (ss_end (ss_ret (se_rv 2)))))))⟩
/-- book_rows -/
theorem e21 (k : Nat) : fs (k + 1) 21 = fnF 3 1 (m_book_rows (fs k 14)) := rfl
theorem w21 {T : Top K.fr mg} {k : Nat} (L : Lv P K mg base T k) : FnOk P K.w K.fr mg base (L2.CX P K.w) (k + 1) T.a21 T.d21 ["book"] (spF K (cvK K.fr) 1 (fs (k + 1) 21)) := by
  rw [e21]
  refine fn_of' ["book", "key", "tree"] rfl rfl T.F21 sc21 fun cdv A outer s H E hr tk po => ?_
  have nd := sc21.nd
  have hu := hr.units
  have hu2 : _ + 199 < cLine := Nat.lt_of_le_of_lt (Nat.add_le_add_left (by decide : 199 ≤ 200) _) (Nat.lt_of_le_of_lt (Nat.add_le_add_right (Nat.le_add_right _ _) _) hr.un)
  have hu5 : _ + 65 < cLine := Nat.lt_of_le_of_lt (Nat.add_le_add_left (by decide : 65 ≤ 200) _) (Nat.lt_of_le_of_lt (Nat.add_le_add_right (Nat.le_add_right _ _) _) hr.un)
  unfold m_book_rows m_book_rows_ce1
  exact ⟨_, (sss_one (ss_end (ss_ret (se_bin ol_add op_addA (se_lst (sa_cons (se_bin ol_add op_addA se_str (se_ixA (by exact hu5) (se_vb 0) se_int)) sa_nil)) (se_comp (own := [(("key" : Str), 1), (("tree" : Str), 2)]) rfl nd (blkOk_by (N := ["book", "key", "tree"]) (sc := defScope s21) (by decide +kernel)) (si_sq (se_ixA (by exact hu5) (se_vb 0) se_int)) (fun _ _ _ _ _ => (sgw_tup rfl (sgws_cons (sgw_name nd) (sgws_cons (sgw_name nd) sgws_nil)))) (fun _ _ _ _ _ => sp_nil) (fun _ _ _ _ _ => (se_bin ol_add op_addA (se_bin ol_add op_addA (se_vb 1) se_str) (se_call L.h14 (by exact hr) T.g14 T.F14.kp T.b14 takes0 (sa_cons (se_mv 2) sa_nil) none))))))))⟩
/-- tree_in -/
theorem e22 (k : Nat) : fs (k + 1) 22 = fnF 2 1 (m_tree_in (fs k 20)) := rfl
theorem w22 {T : Top K.fr mg} {k : Nat} (L : Lv P K mg base T k) : FnOk P K.w K.fr mg base (L2.CX P K.w) (k + 1) T.a22 T.d22 ["text"] (spF K (cvK K.fr) 1 (fs (k + 1) 22)) := by
  rw [e22]
  refine fn_of' ["text", "tree"] rfl rfl T.F22 sc22 fun cdv A outer s H E hr tk po => ?_
  have nd := sc22.nd
  have hu := hr.units
  have hu2 : _ + 199 < cLine := Nat.lt_of_le_of_lt (Nat.add_le_add_left (by decide : 199 ≤ 200) _) (Nat.lt_of_le_of_lt (Nat.add_le_add_right (Nat.le_add_right _ _) _) hr.un)
  have hu5 : _ + 65 < cLine := Nat.lt_of_le_of_lt (Nat.add_le_add_left (by decide : 65 ≤ 200) _) (Nat.lt_of_le_of_lt (Nat.add_le_add_right (Nat.le_add_right _ _) _) hr.un)
  unfold m_tree_in
  exact ⟨_, (sss_cons (ss_set (i := 1) nd se_non) (sss_cons (ss_try0 (C := ctF K (cvK K.fr) E) (ns := ["NoPlace", "NoText", "NoKey", "Twice", "NoTree", "NoRow"]) (cs := ["NoText"]) T.y0 T.xg_NoText tk (fun W pn xe tk po => ⟨_, (sss_one (ss_set (i := 1) nd (se_call (C := ⟨K, cvK K.fr, W⟩) L.h20 (by exact hr) T.g20 T.F20.kp T.b20 tk (sa_cons (se_mv 0) sa_nil) none)))⟩) (fun a pn => (sss_one (ss_set (i := 1) nd se_non)))) (sss_one (ss_end (ss_ret (se_rv 1))))))⟩
/-- row_read -/
theorem e23 (k : Nat) : fs (k + 1) 23 = fnF 4 2 (m_row_read (fs k 48) (fs k 22)) := rfl
theorem w23 {T : Top K.fr mg} {k : Nat} (L : Lv P K mg base T k) : FnOk P K.w K.fr mg base (L2.CX P K.w) (k + 1) T.a23 T.d23 ["text", "number"] (spF K (cvK K.fr) 2 (fs (k + 1) 23)) := by
  rw [e23]
  refine fn_of' ["text", "number", "words", "tree"] rfl rfl T.F23 sc23 fun cdv A outer s H E hr tk po => ?_
  have nd := sc23.nd
  have hu := hr.units
  have hu2 : _ + 199 < cLine := Nat.lt_of_le_of_lt (Nat.add_le_add_left (by decide : 199 ≤ 200) _) (Nat.lt_of_le_of_lt (Nat.add_le_add_right (Nat.le_add_right _ _) _) hr.un)
  have hu5 : _ + 65 < cLine := Nat.lt_of_le_of_lt (Nat.add_le_add_left (by decide : 65 ≤ 200) _) (Nat.lt_of_le_of_lt (Nat.add_le_add_right (Nat.le_add_right _ _) _) hr.un)
  unfold m_row_read
  exact ⟨_, (sss_cons (ss_set (i := 2) nd (se_split (se_vb 0) se_str)) (sss_cons (ss_set (i := 3) nd se_non) (sss_cons (ss_if (sw_and (st_cmp ol_cmp op_gt (se_cb cl_len call_len T.m_len (sa_cons (se_vb 2) sa_nil)) se_int) (sw_one (st_cmp ol_eqB (op_eqB (by exact hu2)) (se_ixA (by exact hu5) (se_vb 2) se_int) se_str))).st (sss_one (ss_set (i := 3) nd (se_call L.h22 hr T.g22 T.F22.kp T.b22 tk (sa_cons (se_join se_str (se_slice (se_vb 2) (.some se_int) .non)) sa_nil) none))) sss_nil) (sss_cons (ss_if (st_cmp ol_is op_isA (se_vb 3) se_non) (sss_one (ss_raise L.x_NoRow T.xT_NoRow T.xo_NoRow T.xv_NoRow T.xg_NoRow T.xb_NoRow hr tk rfl (sa_cons (se_mv 1) sa_nil))) sss_nil) (sss_one (ss_end (ss_ret (se_tup (sa_cons (se_ixA (by exact hu5) (se_vb 2) se_int) (sa_cons (se_mv 3) sa_nil))))))))))⟩
/-- read_book -/
theorem e24 (k : Nat) : fs (k + 1) 24 = fnF 4 1 (m_read_book_2 (fs k 11) (fs k 23) (fs k 0) (fs k 48)) := rfl
theorem w24 {T : Top K.fr mg} {k : Nat} (L : Lv P K mg base T k) : FnOk P K.w K.fr mg base (L2.CX P K.w) (k + 1) T.a24 T.d24 ["rows"] (spF K (cvK K.fr) 1 (fs (k + 1) 24)) := by
  rw [e24]
  refine fn_of' ["rows", "words", "trees", "number"] rfl rfl T.F24 sc24 fun cdv A outer s H E hr tk po => ?_
  have nd := sc24.nd
  have hu := hr.units
  have hu2 : _ + 199 < cLine := Nat.lt_of_le_of_lt (Nat.add_le_add_left (by decide : 199 ≤ 200) _) (Nat.lt_of_le_of_lt (Nat.add_le_add_right (Nat.le_add_right _ _) _) hr.un)
  have hu5 : _ + 65 < cLine := Nat.lt_of_le_of_lt (Nat.add_le_add_left (by decide : 65 ≤ 200) _) (Nat.lt_of_le_of_lt (Nat.add_le_add_right (Nat.le_add_right _ _) _) hr.un)
  unfold m_read_book_2 m_read_book_2_b1
  exact ⟨_, (sss_cons (ss_set (i := 1) nd (se_if (st_cmp ol_cmp op_gt (se_cb cl_len call_len T.m_len (sa_cons (se_vb 0) sa_nil)) se_int) (se_split (se_ixA (by exact hu5) (se_vb 0) se_int) se_str) (se_lst sa_nil))) (sss_cons (ss_if (sw_or (st_cmp ol_neB (op_neB (by exact hu2)) (se_cb cl_len call_len T.m_len (sa_cons (se_vb 1) sa_nil)) se_int) (sw_or (st_cmp ol_neB (op_neB (by exact hu2)) (se_ixA (by exact hu5) (se_vb 1) se_int) se_str) (sw_one (st_not (st_val (se_call L.h0 hr T.g0 T.F0.kp T.b0 tk (sa_cons (se_ixA (by exact hu5) (se_vb 1) se_int) sa_nil) none)))))).st (sss_one (ss_raise L.x_NoRow T.xT_NoRow T.xo_NoRow T.xv_NoRow T.xg_NoRow T.xb_NoRow hr tk rfl (sa_cons se_int sa_nil))) sss_nil) (sss_cons (ss_set (i := 2) nd (se_lst sa_nil)) (sss_cons (ss_for po rfl (si_r2 se_int (se_cb cl_len call_len T.m_len (sa_cons (se_vb 0) sa_nil)) T.m_range) (sg_name nd) (sss_kill (vs := [3]) (sss_one (ss_app (i := 2) (se_call L.h23 hr T.g23 T.F23.kp T.b23 tk (sa_cons (se_ixA (by exact hu5) (se_vb 0) (se_vb 3)) (sa_cons (se_mv 3) sa_nil)) none))))) (sss_one (ss_end (ss_ret (se_call L.h11 hr T.g11 T.F11.kp T.b11 tk (sa_cons (se_ixA (by exact hu5) (se_vb 1) se_int) (sa_cons (se_vb 2) sa_nil)) (some 1)))))))))⟩
/-- wanted -/
theorem e25 (k : Nat) : fs (k + 1) 25 = fnF 1 1 (m_wanted) := rfl
theorem w25 {T : Top K.fr mg} {k : Nat} (L : Lv P K mg base T k) : FnOk P K.w K.fr mg base (L2.CX P K.w) (k + 1) T.a25 T.d25 ["piece"] (spF K (cvK K.fr) 1 (fs (k + 1) 25)) := by
  rw [e25]
  refine fn_of' ["piece"] rfl rfl T.F25 sc25 fun cdv A outer s H E hr tk po => ?_
  have nd := sc25.nd
  have hu := hr.units
  have hu2 : _ + 199 < cLine := Nat.lt_of_le_of_lt (Nat.add_le_add_left (by decide : 199 ≤ 200) _) (Nat.lt_of_le_of_lt (Nat.add_le_add_right (Nat.le_add_right _ _) _) hr.un)
  have hu5 : _ + 65 < cLine := Nat.lt_of_le_of_lt (Nat.add_le_add_left (by decide : 65 ≤ 200) _) (Nat.lt_of_le_of_lt (Nat.add_le_add_right (Nat.le_add_right _ _) _) hr.un)
  unfold m_wanted
  exact ⟨_, (sss_cons (ss_if (st_cmp ol_eqB (op_eqB (by exact hu2)) (se_ixA (by exact hu5) (se_vb 0) se_int) se_str) (sss_one (ss_end (ss_ret (se_tup (sa_cons se_bl (sa_cons (se_ixA (by exact hu5) (se_vb 0) se_int) (sa_cons se_bl sa_nil))))))) sss_nil) (sss_cons (ss_if (sw_and (st_cmp ol_eqB (op_eqB (by exact hu2)) (se_ixA (by exact hu5) (se_vb 0) se_int) se_str) (sw_one (st_cmp ol_not op_notA (se_ixA (by exact hu5) (se_vb 0) se_int) se_non))).st (sss_one (ss_end (ss_ret (se_tup (sa_cons se_bl (sa_cons (se_ixA (by exact hu5) (se_ixA (by exact hu5) (se_vb 0) se_int) se_int) (sa_cons (se_ixA (by exact hu5) (se_ixA (by exact hu5) (se_vb 0) se_int) se_int) sa_nil))))))) sss_nil) (sss_one (ss_ret se_non))))⟩
/-- takers -/
theorem e26 (k : Nat) : fs (k + 1) 26 = fnF 5 2 (m_takers (fs k 9) (fs k 8) (fs k 25)) := rfl
theorem w26 {T : Top K.fr mg} {k : Nat} (L : Lv P K mg base T k) : FnOk P K.w K.fr mg base (L2.CX P K.w) (k + 1) T.a26 T.d26 ["book", "piece"] (spF K (cvK K.fr) 2 (fs (k + 1) 26)) := by
  rw [e26]
  refine fn_of' ["book", "piece", "want", "key", "tree"] rfl rfl T.F26 sc26 fun cdv A outer s H E hr tk po => ?_
  have nd := sc26.nd
  have hu := hr.units
  have hu2 : _ + 199 < cLine := Nat.lt_of_le_of_lt (Nat.add_le_add_left (by decide : 199 ≤ 200) _) (Nat.lt_of_le_of_lt (Nat.add_le_add_right (Nat.le_add_right _ _) _) hr.un)
  have hu5 : _ + 65 < cLine := Nat.lt_of_le_of_lt (Nat.add_le_add_left (by decide : 65 ≤ 200) _) (Nat.lt_of_le_of_lt (Nat.add_le_add_right (Nat.le_add_right _ _) _) hr.un)
  unfold m_takers m_takers_ce2 m_takers_ct1
  exact ⟨_, (sss_cons (ss_set (i := 2) nd (se_call L.h25 hr T.g25 T.F25.kp T.b25 tk (sa_cons (se_mv 1) sa_nil) none)) (sss_cons (ss_if (st_cmp ol_is op_isA (se_vb 2) se_non) (sss_one (ss_end (ss_ret (se_lst sa_nil)))) sss_nil) (sss_one (ss_end (ss_ret (se_comp (own := [(("key" : Str), 3), (("tree" : Str), 4)]) rfl nd (blkOk_by (N := ["book", "piece", "want", "key", "tree"]) (sc := defScope s26) (by decide +kernel)) (si_sq (se_ixA (by exact hu5) (se_vb 0) se_int)) (fun _ _ _ _ _ => (sgw_tup rfl (sgws_cons (sgw_name nd) (sgws_cons (sgw_name nd) sgws_nil)))) (fun _ _ _ _ _ => (sp_one (sw_and (st_cmp ol_eqB (op_eqB (by exact hu2)) (se_call L.h8 (by exact hr) T.g8 T.F8.kp T.b8 takes0 (sa_cons (se_mv 4) sa_nil) none) (se_ixA (by exact hu5) (se_vb 2) se_int)) (sw_one (st_cmp ol_eqB (op_eqB (by exact hu2)) (se_call L.h9 (by exact hr) T.g9 T.F9.kp T.b9 takes0 (sa_cons (se_mv 4) sa_nil) none) (se_ixA (by exact hu5) (se_vb 2) se_int)))).st)) (fun _ _ _ _ _ => (se_mv 3))))))))⟩
/-- place_word -/
theorem e27 (k : Nat) : fs (k + 1) 27 = fnF 2 1 (m_place_word) := rfl
theorem w27 {T : Top K.fr mg} {k : Nat} (L : Lv P K mg base T k) : FnOk P K.w K.fr mg base (L2.CX P K.w) (k + 1) T.a27 T.d27 ["place"] (spF K (cvK K.fr) 1 (fs (k + 1) 27)) := by
  rw [e27]
  refine fn_of' ["place", "number"] rfl rfl T.F27 sc27 fun cdv A outer s H E hr tk po => ?_
  have nd := sc27.nd
  have hu := hr.units
  have hu2 : _ + 199 < cLine := Nat.lt_of_le_of_lt (Nat.add_le_add_left (by decide : 199 ≤ 200) _) (Nat.lt_of_le_of_lt (Nat.add_le_add_right (Nat.le_add_right _ _) _) hr.un)
  have hu5 : _ + 65 < cLine := Nat.lt_of_le_of_lt (Nat.add_le_add_left (by decide : 65 ≤ 200) _) (Nat.lt_of_le_of_lt (Nat.add_le_add_right (Nat.le_add_right _ _) _) hr.un)
  unfold m_place_word m_place_word_ce1
  exact ⟨_, (sss_one (ss_end (ss_ret (se_if (st_cmp ol_eqB (op_eqB (by exact hu2)) (se_cb cl_len call_len T.m_len (sa_cons (se_vb 0) sa_nil)) se_int) se_str (se_join se_str (se_comp (own := [(("number" : Str), 1)]) rfl nd (blkOk_by (N := ["place", "number"]) (sc := defScope s27) (by decide +kernel)) (si_sq (se_mv 0)) (fun _ _ _ _ _ => (sgw_name nd)) (fun _ _ _ _ _ => sp_nil) (fun _ _ _ _ _ => (se_ct cl_str call_str_int T.m_str (sa_cons (se_vb 1) sa_nil)))))))))⟩
/-- plan_words -/
theorem e28 (k : Nat) : fs (k + 1) 28 = fnF 4 1 (m_plan_words (fs k 27) (fs k 28)) := rfl
theorem w28 {T : Top K.fr mg} {k : Nat} (L : Lv P K mg base T k) : FnOk P K.w K.fr mg base (L2.CX P K.w) (k + 1) T.a28 T.d28 ["plan"] (spF K (cvK K.fr) 1 (fs (k + 1) 28)) := by
  rw [e28]
  refine fn_of' ["plan", "words", "place", "one"] rfl rfl T.F28 sc28 fun cdv A outer s H E hr tk po => ?_
  have nd := sc28.nd
  have hu := hr.units
  have hu2 : _ + 199 < cLine := Nat.lt_of_le_of_lt (Nat.add_le_add_left (by decide : 199 ≤ 200) _) (Nat.lt_of_le_of_lt (Nat.add_le_add_right (Nat.le_add_right _ _) _) hr.un)
  have hu5 : _ + 65 < cLine := Nat.lt_of_le_of_lt (Nat.add_le_add_left (by decide : 65 ≤ 200) _) (Nat.lt_of_le_of_lt (Nat.add_le_add_right (Nat.le_add_right _ _) _) hr.un)
  unfold m_plan_words m_plan_words_b1
  exact ⟨_, (sss_cons (ss_set (i := 1) nd (se_lst (sa_cons se_str (sa_cons (se_ixA (by exact hu5) (se_vb 0) se_int) sa_nil)))) (sss_cons (ss_for po rfl (si_sq (se_ixA (by exact hu5) (se_vb 0) se_int)) (sg_tup rfl (sgs_cons (sg_name nd) (sgs_cons (sg_name nd) sgs_nil))) (sss_kill (vs := [2, 3]) (sss_one (ss_set (i := 1) nd (se_bin ol_add op_addA (se_bin ol_add op_addA (se_vb 1) (se_lst (sa_cons (se_call L.h27 hr T.g27 T.F27.kp T.b27 tk (sa_cons (se_mv 2) sa_nil) none) sa_nil))) (se_call L.h28 hr T.g28 T.F28.kp T.b28 tk (sa_cons (se_mv 3) sa_nil) none)))))) (sss_one (ss_end (ss_ret (se_bin ol_add op_addA (se_vb 1) (se_lst (sa_cons se_str sa_nil))))))))⟩
/-- plan_text -/
theorem e29 (k : Nat) : fs (k + 1) 29 = fnF 1 1 (m_plan_text (fs k 28)) := rfl
theorem w29 {T : Top K.fr mg} {k : Nat} (L : Lv P K mg base T k) : FnOk P K.w K.fr mg base (L2.CX P K.w) (k + 1) T.a29 T.d29 ["plan"] (spF K (cvK K.fr) 1 (fs (k + 1) 29)) := by
  rw [e29]
  refine fn_of' ["plan"] rfl rfl T.F29 sc29 fun cdv A outer s H E hr tk po => ?_
  have nd := sc29.nd
  have hu := hr.units
  have hu2 : _ + 199 < cLine := Nat.lt_of_le_of_lt (Nat.add_le_add_left (by decide : 199 ≤ 200) _) (Nat.lt_of_le_of_lt (Nat.add_le_add_right (Nat.le_add_right _ _) _) hr.un)
  have hu5 : _ + 65 < cLine := Nat.lt_of_le_of_lt (Nat.add_le_add_left (by decide : 65 ≤ 200) _) (Nat.lt_of_le_of_lt (Nat.add_le_add_right (Nat.le_add_right _ _) _) hr.un)
  unfold m_plan_text
  exact ⟨_, (sss_one (ss_end (ss_ret (se_join se_str (se_call L.h28 hr T.g28 T.F28.kp T.b28 tk (sa_cons (se_mv 0) sa_nil) none)))))⟩
/-- place_of -/
theorem e30 (k : Nat) : fs (k + 1) 30 = fnF 3 1 (m_place_of) := rfl
theorem w30 {T : Top K.fr mg} {k : Nat} (L : Lv P K mg base T k) : FnOk P K.w K.fr mg base (L2.CX P K.w) (k + 1) T.a30 T.d30 ["word"] (spF K (cvK K.fr) 1 (fs (k + 1) 30)) := by
  rw [e30]
  refine fn_of' ["word", "place", "figure"] rfl rfl T.F30 sc30 fun cdv A outer s H E hr tk po => ?_
  have nd := sc30.nd
  have hu := hr.units
  have hu2 : _ + 199 < cLine := Nat.lt_of_le_of_lt (Nat.add_le_add_left (by decide : 199 ≤ 200) _) (Nat.lt_of_le_of_lt (Nat.add_le_add_right (Nat.le_add_right _ _) _) hr.un)
  have hu5 : _ + 65 < cLine := Nat.lt_of_le_of_lt (Nat.add_le_add_left (by decide : 65 ≤ 200) _) (Nat.lt_of_le_of_lt (Nat.add_le_add_right (Nat.le_add_right _ _) _) hr.un)
  unfold m_place_of m_place_of_b1
  exact ⟨_, (sss_cons (ss_if (st_cmp ol_eqB (op_eqB (by exact hu2)) (se_vb 0) se_str) (sss_one (ss_end (ss_ret (se_tup sa_nil)))) sss_nil) (sss_cons (ss_set (i := 1) nd (se_lst sa_nil)) (sss_cons (ss_for po rfl (si_sq (se_split (se_vb 0) se_str)) (sg_name nd) (sss_kill (vs := [2]) (sss_cons (ss_if (sw_or (st_cmp ol_neB (op_neB (by exact hu2)) (se_cb cl_len call_len T.m_len (sa_cons (se_vb 2) sa_nil)) se_int) (sw_one (st_cmp ol_notInB (op_notInB (by exact hu5)) (se_vb 2) (se_gstr T.c_KID_FIGURES)))).st (sss_one (ss_end (ss_ret se_non))) sss_nil) (sss_one (ss_app (i := 1) (se_ct cl_int cr_int T.m_int (sa_cons (se_vb 2) sa_nil))))))) (sss_one (ss_end (ss_ret (se_ct cl_tuple call_tupX T.m_tuple (sa_cons (se_vb 1) sa_nil))))))))⟩
/-- word_at_plantexts -/
theorem e31 (k : Nat) : fs (k + 1) 31 = fnF 2 2 (m_word_at_2 (fs k 44)) := rfl
theorem w31 {T : Top K.fr mg} {k : Nat} (L : Lv P K mg base T k) : FnOk P K.w K.fr mg base (L2.CX P K.w) (k + 1) T.a31 T.d31 ["words", "at"] (spF K (cvK K.fr) 2 (fs (k + 1) 31)) := by
  rw [e31]
  refine fn_of' ["words", "at"] rfl rfl T.F31 sc31 fun cdv A outer s H E hr tk po => ?_
  have nd := sc31.nd
  have hu := hr.units
  have hu2 : _ + 199 < cLine := Nat.lt_of_le_of_lt (Nat.add_le_add_left (by decide : 199 ≤ 200) _) (Nat.lt_of_le_of_lt (Nat.add_le_add_right (Nat.le_add_right _ _) _) hr.un)
  have hu5 : _ + 65 < cLine := Nat.lt_of_le_of_lt (Nat.add_le_add_left (by decide : 65 ≤ 200) _) (Nat.lt_of_le_of_lt (Nat.add_le_add_right (Nat.le_add_right _ _) _) hr.un)
  unfold m_word_at_2
  exact ⟨_, (sss_cons (ss_if (st_cmp ol_eqB (op_eqB (by exact hu2)) (se_vb 1) (se_cb cl_len call_len T.m_len (sa_cons (se_vb 0) sa_nil))) (sss_one (ss_raise L.x_NoText T.xT_NoText T.xo_NoText T.xv_NoText T.xg_NoText T.xb_NoText hr tk rfl (sa_cons (se_mv 1) sa_nil))) sss_nil) (sss_one (ss_end (ss_ret (se_ixA (by exact hu5) (se_vb 0) (se_vb 1))))))⟩
/-- take_plan -/
theorem e32 (k : Nat) : fs (k + 1) 32 = fnF 8 2 (m_take_plan (fs k 31) (fs k 32) (fs k 44) (fs k 30) (fs k 6)) := rfl
theorem w32 {T : Top K.fr mg} {k : Nat} (L : Lv P K mg base T k) : FnOk P K.w K.fr mg base (L2.CX P K.w) (k + 1) T.a32 T.d32 ["words", "at"] (spF K (cvK K.fr) 2 (fs (k + 1) 32)) := by
  rw [e32]
  refine fn_of' ["words", "at", "key", "puts", "after", "place", "plan", "behind"] rfl rfl T.F32 sc32 fun cdv A outer s H E hr tk po => ?_
  have nd := sc32.nd
  have hu := hr.units
  have hu2 : _ + 199 < cLine := Nat.lt_of_le_of_lt (Nat.add_le_add_left (by decide : 199 ≤ 200) _) (Nat.lt_of_le_of_lt (Nat.add_le_add_right (Nat.le_add_right _ _) _) hr.un)
  have hu5 : _ + 65 < cLine := Nat.lt_of_le_of_lt (Nat.add_le_add_left (by decide : 65 ≤ 200) _) (Nat.lt_of_le_of_lt (Nat.add_le_add_right (Nat.le_add_right _ _) _) hr.un)
  unfold m_take_plan m_take_plan_b2 m_take_plan_t1
  exact ⟨_, (sss_cons (ss_if (st_cmp ol_neB (op_neB (by exact hu2)) (se_call L.h31 hr T.g31 T.F31.kp T.b31 tk (sa_cons (se_mv 0) (sa_cons (se_mv 1) sa_nil)) none) se_str) (sss_one (ss_raise L.x_NoText T.xT_NoText T.xo_NoText T.xv_NoText T.xg_NoText T.xb_NoText hr tk rfl (sa_cons (se_mv 1) sa_nil))) sss_nil) (sss_cons (ss_set (i := 2) nd (se_call L.h31 hr T.g31 T.F31.kp T.b31 tk (sa_cons (se_mv 0) (sa_cons (se_bin ol_add op_addA (se_vb 1) se_int) sa_nil)) none)) (sss_cons (ss_if (st_not (st_val (se_call L.h6 hr T.g6 T.F6.kp T.b6 tk (sa_cons (se_mv 2) sa_nil) none))) (sss_one (ss_raise L.x_NoText T.xT_NoText T.xo_NoText T.xv_NoText T.xg_NoText T.xb_NoText hr tk rfl (sa_cons (se_bin ol_add op_addA (se_vb 1) se_int) sa_nil))) sss_nil) (sss_cons (ss_set (i := 3) nd (se_lst sa_nil)) (sss_cons (ss_set (i := 4) nd (se_bin ol_add op_addA (se_vb 1) se_int)) (sss_cons (ss_while wFuel po (st_cmp ol_neB (op_neB (by exact hu2)) (se_call L.h31 hr T.g31 T.F31.kp T.b31 tk (sa_cons (se_mv 0) (sa_cons (se_mv 4) sa_nil)) none) se_str) (sss_kill (vs := [5, 6, 7]) (sss_cons (ss_set (i := 5) nd (se_call L.h30 hr T.g30 T.F30.kp T.b30 tk (sa_cons (se_ixA (by exact hu5) (se_vb 0) (se_vb 4)) sa_nil) none)) (sss_cons (ss_if (st_cmp ol_is op_isA (se_vb 5) se_non) (sss_one (ss_raise L.x_NoText T.xT_NoText T.xo_NoText T.xv_NoText T.xg_NoText T.xb_NoText hr tk rfl (sa_cons (se_mv 4) sa_nil))) sss_nil) (sss_cons (ss_unp (se_call L.h32 hr T.g32 T.F32.kp T.b32 tk (sa_cons (se_mv 0) (sa_cons (se_bin ol_add op_addA (se_vb 4) se_int) sa_nil)) none) (sg_tup rfl (sgs_cons (sg_name nd) (sgs_cons (sg_name nd) sgs_nil)))) (sss_cons (ss_app (i := 3) (se_tup (sa_cons (se_mv 5) (sa_cons (se_mv 6) sa_nil)))) (sss_one (ss_set (i := 4) nd (se_mv 7))))))))) (sss_one (ss_end (ss_ret (se_tup (sa_cons (se_tup (sa_cons (se_mv 2) (sa_cons (se_ct cl_tuple call_tupX T.m_tuple (sa_cons (se_vb 3) sa_nil)) sa_nil))) (sa_cons (se_bin ol_add op_addA (se_vb 4) se_int) sa_nil))))))))))))⟩
/-- _law_cell -/
theorem e33 (k : Nat) : fs (k + 1) 33 = fnF 1 1 (m_law_cell) := rfl
theorem w33 {T : Top K.fr mg} {k : Nat} (L : Lv P K mg base T k) : FnOk P K.w K.fr mg base (L2.CX P K.w) (k + 1) T.a33 T.d33 ["state"] (spF K (cvK K.fr) 1 (fs (k + 1) 33)) := by
  rw [e33]
  refine fn_of' ["state"] rfl rfl T.F33 sc33 fun cdv A outer s H E hr tk po => ?_
  have nd := sc33.nd
  have hu := hr.units
  have hu2 : _ + 199 < cLine := Nat.lt_of_le_of_lt (Nat.add_le_add_left (by decide : 199 ≤ 200) _) (Nat.lt_of_le_of_lt (Nat.add_le_add_right (Nat.le_add_right _ _) _) hr.un)
  have hu5 : _ + 65 < cLine := Nat.lt_of_le_of_lt (Nat.add_le_add_left (by decide : 65 ≤ 200) _) (Nat.lt_of_le_of_lt (Nat.add_le_add_right (Nat.le_add_right _ _) _) hr.un)
  unfold m_law_cell
  exact ⟨_, (sss_cons (ss_put (i := 0) (by exact hu5) se_str (se_bin ol_add op_addA (se_ixA (by exact hu5) (se_vb 0) se_str) se_int)) (sss_cons (ss_if (st_cmp ol_cmp op_gt (se_ixA (by exact hu5) (se_vb 0) se_str) (se_cb cl_len call_len T.m_len (sa_cons (se_ixA (by exact hu5) (se_vb 0) se_str) sa_nil))) (sss_one (ss_ret se_int)) sss_nil) (sss_one (ss_end (ss_ret (se_ixA (by exact hu5) (se_ixA (by exact hu5) (se_vb 0) se_str) (se_bin ol_sub op_sub (se_ixA (by exact hu5) (se_vb 0) se_str) se_int)))))))⟩
/-- _law_kid -/
theorem e34 (k : Nat) : fs (k + 1) 34 = fnF 8 2 (m_law_kid (fs k 34) (fs k 33)) := rfl
theorem w34 {T : Top K.fr mg} {k : Nat} (L : Lv P K mg base T k) : FnOk P K.w K.fr mg base (L2.CX P K.w) (k + 1) T.a34 T.d34 ["state", "left"] (spF K (cvK K.fr) 2 (fs (k + 1) 34)) := by
  rw [e34]
  refine fn_of' ["state", "left", "cell", "sign", "name", "takes", "kids", "k"] rfl rfl T.F34 sc34 fun cdv A outer s H E hr tk po => ?_
  have nd := sc34.nd
  have hu := hr.units
  have hu2 : _ + 199 < cLine := Nat.lt_of_le_of_lt (Nat.add_le_add_left (by decide : 199 ≤ 200) _) (Nat.lt_of_le_of_lt (Nat.add_le_add_right (Nat.le_add_right _ _) _) hr.un)
  have hu5 : _ + 65 < cLine := Nat.lt_of_le_of_lt (Nat.add_le_add_left (by decide : 65 ≤ 200) _) (Nat.lt_of_le_of_lt (Nat.add_le_add_right (Nat.le_add_right _ _) _) hr.un)
  unfold m_law_kid m_law_kid_b1
  exact ⟨_, (sss_cons (ss_set (i := 2) nd (se_call L.h33 hr T.g33 T.F33.kp T.b33 tk (sa_cons (se_vb 0) sa_nil) (some 0))) (sss_cons (ss_set (i := 3) nd (se_tup (sa_cons se_str (sa_cons (se_ixA (by exact hu5) (se_lst (sa_cons se_str (sa_cons se_str (sa_cons se_str sa_nil)))) (se_bin ol_mod op_mod (se_bin ol_div op_fdiv (se_vb 2) se_int) se_int)) sa_nil)))) (sss_cons (ss_set (i := 4) nd (se_ixA (by exact hu5) (se_lst (sa_cons se_str (sa_cons se_str (sa_cons se_str sa_nil)))) (se_bin ol_mod op_mod (se_bin ol_div op_fdiv (se_vb 2) se_int) se_int))) (sss_cons (ss_if (sw_or (st_cmp ol_eqB (op_eqB (by exact hu2)) (se_vb 1) se_int) (sw_one (st_cmp ol_ltA (op_ltA (by exact hu5)) (se_bin ol_mod op_mod (se_vb 2) se_int) se_int))).st (sss_one (ss_end (ss_ret (se_ixA (by exact hu5) (se_lst (sa_cons (se_mv 3) (sa_cons (se_mv 3) (sa_cons (se_tup (sa_cons se_str sa_nil)) (sa_cons (se_tup (sa_cons se_str (sa_cons (se_mv 4) sa_nil))) sa_nil))))) (se_bin ol_mod op_mod (se_bin ol_div op_fdiv (se_vb 2) se_int) se_int))))) sss_nil) (sss_cons (ss_set (i := 5) nd (se_ixA (by exact hu5) (se_lst (sa_cons se_non (sa_cons (se_tup (sa_cons (se_mv 4) (sa_cons se_bl sa_nil))) (sa_cons (se_tup (sa_cons se_str (sa_cons se_bl sa_nil))) (sa_cons (se_tup (sa_cons (se_mv 4) (sa_cons se_bl sa_nil))) sa_nil))))) (se_bin ol_mod op_mod (se_bin ol_div op_fdiv (se_vb 2) se_int) se_int))) (sss_cons (ss_set (i := 6) nd (se_lst sa_nil)) (sss_cons (ss_for po rfl (si_r1 (se_bin ol_add op_addA se_int (se_bin ol_mod op_mod (se_bin ol_div op_fdiv (se_vb 2) se_int) se_int)) T.m_range) (sg_name nd) (sss_kill (vs := [7]) (sss_one (ss_app (i := 6) (se_call L.h34 hr T.g34 T.F34.kp T.b34 tk (sa_cons (se_vb 0) (sa_cons (se_bin ol_sub op_sub (se_vb 1) se_int) sa_nil)) (some 0)))))) (sss_one (ss_end (ss_ret (se_tup (sa_cons se_str (sa_cons (se_ixA (by exact hu5) (se_lst (sa_cons se_str (sa_cons se_str (sa_cons se_str sa_nil)))) (se_bin ol_mod op_mod (se_bin ol_div op_fdiv (se_vb 2) se_int) se_int)) (sa_cons (se_mv 5) (sa_cons (se_ct cl_tuple call_tupX T.m_tuple (sa_cons (se_vb 6) sa_nil)) sa_nil)))))))))))))))⟩
/-- _law_footed -/
theorem e35 (k : Nat) : fs (k + 1) 35 = fnF 7 3 (m_law_footed (fs k 35)) := rfl
theorem w35 {T : Top K.fr mg} {k : Nat} (L : Lv P K mg base T k) : FnOk P K.w K.fr mg base (L2.CX P K.w) (k + 1) T.a35 T.d35 ["tree", "foot", "cell"] (spF K (cvK K.fr) 3 (fs (k + 1) 35)) := by
  rw [e35]
  refine fn_of' ["tree", "foot", "cell", "knots", "at", "inner", "k"] rfl rfl T.F35 sc35 fun cdv A outer s H E hr tk po => ?_
  have nd := sc35.nd
  have hu := hr.units
  have hu2 : _ + 199 < cLine := Nat.lt_of_le_of_lt (Nat.add_le_add_left (by decide : 199 ≤ 200) _) (Nat.lt_of_le_of_lt (Nat.add_le_add_right (Nat.le_add_right _ _) _) hr.un)
  have hu5 : _ + 65 < cLine := Nat.lt_of_le_of_lt (Nat.add_le_add_left (by decide : 65 ≤ 200) _) (Nat.lt_of_le_of_lt (Nat.add_le_add_right (Nat.le_add_right _ _) _) hr.un)
  unfold m_law_footed m_law_footed_ce2 m_law_footed_ct1
  exact ⟨_, (sss_cons (ss_setLc (i := 3) (own := [(("k" : Str), 6)]) rfl nd (blkOk_by (N := ["tree", "foot", "cell", "knots", "at", "inner", "k"]) (sc := defScope s35) (by decide +kernel)) (si_r1 (se_cb cl_len call_len T.m_len (sa_cons (se_ixA (by exact hu5) (se_vb 0) se_int) sa_nil)) T.m_range) (fun _ _ _ _ _ => (sgw_name nd)) (fun _ _ _ _ _ => (sp_one (st_cmp ol_eqB (op_eqB (by exact hu2)) (se_ixA (by exact hu5) (se_ixA (by exact hu5) (se_ixA (by exact hu5) (se_vb 0) se_int) (se_vb 6)) se_int) se_str))) (fun _ _ _ _ _ => (se_mv 6)) (sw_true rfl rfl rfl (by decide +kernel))) (sss_cons (ss_kill (vs := [4, 5]) (ss_if (sw_and (st_cmp ol_cmp op_gt (se_cb cl_len call_len T.m_len (sa_cons (se_vb 3) sa_nil)) se_int) (sw_one (st_cmp ol_eqB (op_eqB (by exact hu2)) (se_bin ol_mod op_mod (se_vb 2) se_int) se_int))).st (sss_cons (ss_set (i := 4) nd (se_ixA (by exact hu5) (se_vb 3) (se_bin ol_mod op_mod (se_bin ol_div op_fdiv (se_vb 2) se_int) (se_cb cl_len call_len T.m_len (sa_cons (se_vb 3) sa_nil))))) (sss_cons (ss_set (i := 5) nd (se_call L.h35 hr T.g35 T.F35.kp T.b35 tk (sa_cons (se_ixA (by exact hu5) (se_ixA (by exact hu5) (se_vb 0) se_int) (se_vb 4)) (sa_cons (se_mv 1) (sa_cons (se_bin ol_div op_fdiv (se_vb 2) se_int) sa_nil))) none)) (sss_one (ss_end (ss_ret (se_bin ol_add op_addA (se_slice (se_vb 0) .non (.some se_int)) (se_tup (sa_cons (se_bin ol_add op_addA (se_bin ol_add op_addA (se_slice (se_ixA (by exact hu5) (se_vb 0) se_int) .non (.some (se_vb 4))) (se_tup (sa_cons (se_mv 5) sa_nil))) (se_slice (se_ixA (by exact hu5) (se_vb 0) se_int) (.some (se_bin ol_add op_addA (se_vb 4) se_int)) .non)) sa_nil)))))))) sss_nil)) (sss_cons (ss_set (i := 4) nd (se_bin ol_mod op_mod (se_bin ol_div op_fdiv (se_vb 2) se_int) (se_bin ol_add op_addA (se_cb cl_len call_len T.m_len (sa_cons (se_ixA (by exact hu5) (se_vb 0) se_int) sa_nil)) se_int))) (sss_one (ss_end (ss_ret (se_bin ol_add op_addA (se_slice (se_vb 0) .non (.some se_int)) (se_tup (sa_cons (se_bin ol_add op_addA (se_bin ol_add op_addA (se_slice (se_ixA (by exact hu5) (se_vb 0) se_int) .non (.some (se_vb 4))) (se_tup (sa_cons (se_mv 1) sa_nil))) (se_slice (se_ixA (by exact hu5) (se_vb 0) se_int) (.some (se_vb 4)) .non)) sa_nil)))))))))⟩
/-- _law_drawn -/
theorem e36 (k : Nat) : fs (k + 1) 36 = fnF 7 2 (m_law_drawn (fs k 35) (fs k 34) (fs k 33)) := rfl
theorem w36 {T : Top K.fr mg} {k : Nat} (L : Lv P K mg base T k) : FnOk P K.w K.fr mg base (L2.CX P K.w) (k + 1) T.a36 T.d36 ["state", "left"] (spF K (cvK K.fr) 2 (fs (k + 1) 36)) := by
  rw [e36]
  refine fn_of' ["state", "left", "cell", "takes", "kids", "k", "tree"] rfl rfl T.F36 sc36 fun cdv A outer s H E hr tk po => ?_
  have nd := sc36.nd
  have hu := hr.units
  have hu2 : _ + 199 < cLine := Nat.lt_of_le_of_lt (Nat.add_le_add_left (by decide : 199 ≤ 200) _) (Nat.lt_of_le_of_lt (Nat.add_le_add_right (Nat.le_add_right _ _) _) hr.un)
  have hu5 : _ + 65 < cLine := Nat.lt_of_le_of_lt (Nat.add_le_add_left (by decide : 65 ≤ 200) _) (Nat.lt_of_le_of_lt (Nat.add_le_add_right (Nat.le_add_right _ _) _) hr.un)
  unfold m_law_drawn m_law_drawn_b1
  exact ⟨_, (sss_cons (ss_set (i := 2) nd (se_call L.h33 hr T.g33 T.F33.kp T.b33 tk (sa_cons (se_vb 0) sa_nil) (some 0))) (sss_cons (ss_set (i := 3) nd (se_ixA (by exact hu5) (se_lst (sa_cons se_non (sa_cons (se_tup (sa_cons se_str (sa_cons se_bl sa_nil))) (sa_cons (se_tup (sa_cons se_str (sa_cons se_bl sa_nil))) (sa_cons (se_tup (sa_cons se_str (sa_cons se_bl sa_nil))) sa_nil))))) (se_bin ol_mod op_mod (se_vb 2) se_int))) (sss_cons (ss_set (i := 4) nd (se_lst (sa_cons (se_tup (sa_cons se_str (sa_cons (se_ixA (by exact hu5) (se_lst (sa_cons se_str (sa_cons se_str sa_nil))) (se_bin ol_mod op_mod (se_bin ol_div op_fdiv (se_vb 2) se_int) se_int)) sa_nil))) sa_nil))) (sss_cons (ss_for po rfl (si_r1 (se_bin ol_mod op_mod (se_bin ol_div op_fdiv (se_vb 2) se_int) se_int) T.m_range) (sg_name nd) (sss_kill (vs := [5]) (sss_one (ss_ins (i := 4) (se_bin ol_mod op_mod (se_bin ol_div op_fdiv (se_vb 2) se_int) (se_bin ol_add op_addA (se_cb cl_len call_len T.m_len (sa_cons (se_vb 4) sa_nil)) se_int)) (se_call L.h34 hr T.g34 T.F34.kp T.b34 tk (sa_cons (se_vb 0) (sa_cons (se_mv 1) sa_nil)) (some 0)))))) (sss_cons (ss_set (i := 6) nd (se_tup (sa_cons se_str (sa_cons (se_ixA (by exact hu5) (se_lst (sa_cons se_str (sa_cons se_str (sa_cons se_str sa_nil)))) (se_bin ol_mod op_mod (se_bin ol_div op_fdiv (se_vb 2) se_int) se_int)) (sa_cons (se_mv 3) (sa_cons (se_ct cl_tuple call_tupX T.m_tuple (sa_cons (se_vb 4) sa_nil)) sa_nil)))))) (sss_cons (ss_if (st_cmp ol_eqB (op_eqB (by exact hu2)) (se_bin ol_mod op_mod (se_bin ol_div op_fdiv (se_vb 2) se_int) se_int) se_int) (sss_one (ss_end (ss_ret (se_rv 6)))) sss_nil) (sss_one (ss_end (ss_ret (se_call L.h35 hr T.g35 T.F35.kp T.b35 tk (sa_cons (se_mv 6) (sa_cons (se_tup (sa_cons se_str (sa_cons (se_ixA (by exact hu5) (se_lst (sa_cons se_str (sa_cons se_str (sa_cons se_str sa_nil)))) (se_bin ol_mod op_mod (se_bin ol_div op_fdiv (se_vb 2) se_int) se_int)) sa_nil))) (sa_cons (se_bin ol_div op_fdiv (se_vb 2) se_int) sa_nil))) none))))))))))⟩
/-- _law_book -/
theorem e37 (k : Nat) : fs (k + 1) 37 = fnF 10 3 (m_law_book (fs k 36) (fs k 33)) := rfl
theorem w37 {T : Top K.fr mg} {k : Nat} (L : Lv P K mg base T k) : FnOk P K.w K.fr mg base (L2.CX P K.w) (k + 1) T.a37 T.d37 ["state", "many", "left"] (spF K (cvK K.fr) 3 (fs (k + 1) 37)) := by
  rw [e37]
  refine fn_of' ["state", "many", "left", "cell", "trees", "k", "name", "foot", "kids", "key"] rfl rfl T.F37 sc37 fun cdv A outer s H E hr tk po => ?_
  have nd := sc37.nd
  have hu := hr.units
  have hu2 : _ + 199 < cLine := Nat.lt_of_le_of_lt (Nat.add_le_add_left (by decide : 199 ≤ 200) _) (Nat.lt_of_le_of_lt (Nat.add_le_add_right (Nat.le_add_right _ _) _) hr.un)
  have hu5 : _ + 65 < cLine := Nat.lt_of_le_of_lt (Nat.add_le_add_left (by decide : 65 ≤ 200) _) (Nat.lt_of_le_of_lt (Nat.add_le_add_right (Nat.le_add_right _ _) _) hr.un)
  unfold m_law_book m_law_book_b2 m_law_book_b1
  exact ⟨_, (sss_cons (ss_set (i := 3) nd (se_call L.h33 hr T.g33 T.F33.kp T.b33 tk (sa_cons (se_vb 0) sa_nil) (some 0))) (sss_cons (ss_set (i := 4) nd (se_lst sa_nil)) (sss_cons (ss_for po rfl (si_r1 se_int T.m_range) (sg_name nd) (sss_kill (vs := [5, 6, 7, 8]) (sss_cons (ss_set (i := 6) nd (se_ixA (by exact hu5) (se_lst (sa_cons se_str (sa_cons se_str (sa_cons se_str sa_nil)))) (se_vb 5))) (sss_cons (ss_app (i := 4) (se_tup (sa_cons (se_ixA (by exact hu5) (se_lst (sa_cons se_str (sa_cons se_str (sa_cons se_str sa_nil)))) (se_vb 5)) (sa_cons (se_tup (sa_cons se_str (sa_cons (se_mv 6) (sa_cons se_non (sa_cons (se_tup (sa_cons (se_tup (sa_cons se_str (sa_cons (se_ixA (by exact hu5) (se_lst (sa_cons se_str (sa_cons se_str (sa_cons se_str sa_nil)))) (se_vb 5)) sa_nil))) sa_nil)) sa_nil))))) sa_nil)))) (sss_cons (ss_set (i := 7) nd (se_tup (sa_cons se_str (sa_cons (se_mv 6) sa_nil)))) (sss_cons (ss_set (i := 8) nd (se_ixA (by exact hu5) (se_lst (sa_cons (se_tup (sa_cons (se_tup (sa_cons se_str (sa_cons se_str sa_nil))) (sa_cons (se_mv 7) sa_nil))) (sa_cons (se_tup (sa_cons (se_mv 7) (sa_cons (se_tup (sa_cons se_str (sa_cons se_str sa_nil))) sa_nil))) sa_nil))) (se_bin ol_mod op_mod (se_bin ol_div op_fdiv (se_vb 3) (se_bin ol_add op_addA (se_vb 5) se_int)) se_int))) (sss_one (ss_app (i := 4) (se_tup (sa_cons (se_ixA (by exact hu5) (se_lst (sa_cons se_str (sa_cons se_str (sa_cons se_str sa_nil)))) (se_vb 5)) (sa_cons (se_tup (sa_cons se_str (sa_cons (se_mv 6) (sa_cons se_non (sa_cons (se_mv 8) sa_nil))))) sa_nil))))))))))) (sss_cons (ss_for po rfl (si_r1 (se_vb 1) T.m_range) (sg_name nd) (sss_kill (vs := [5, 9]) (sss_cons (ss_set (i := 9) nd (se_ixA (by exact hu5) (se_lst (sa_cons se_str (sa_cons se_str (sa_cons se_str (sa_cons se_str (sa_cons se_str sa_nil)))))) (se_vb 5))) (sss_one (ss_ins (i := 4) (se_bin ol_mod op_mod (se_bin ol_div op_fdiv (se_vb 3) (se_bin ol_add op_addA (se_vb 5) se_int)) (se_bin ol_add op_addA (se_cb cl_len call_len T.m_len (sa_cons (se_vb 4) sa_nil)) se_int)) (se_tup (sa_cons (se_mv 9) (sa_cons (se_call L.h36 hr T.g36 T.F36.kp T.b36 tk (sa_cons (se_vb 0) (sa_cons (se_mv 2) sa_nil)) (some 0)) sa_nil)))))))) (sss_one (ss_end (ss_ret (se_tup (sa_cons (se_ixA (by exact hu5) (se_lst (sa_cons se_str (sa_cons se_str (sa_cons se_str sa_nil)))) (se_bin ol_mod op_mod (se_bin ol_div op_fdiv (se_vb 3) se_int) se_int)) (sa_cons (se_ct cl_tuple call_tupX T.m_tuple (sa_cons (se_vb 4) sa_nil)) sa_nil))))))))))⟩
/-- _law_pieces -/
theorem e38 (k : Nat) : fs (k + 1) 38 = fnF 4 2 (m_law_pieces (fs k 38)) := rfl
theorem w38 {T : Top K.fr mg} {k : Nat} (L : Lv P K mg base T k) : FnOk P K.w K.fr mg base (L2.CX P K.w) (k + 1) T.a38 T.d38 ["tree", "place"] (spF K (cvK K.fr) 2 (fs (k + 1) 38)) := by
  rw [e38]
  refine fn_of' ["tree", "place", "found", "k"] rfl rfl T.F38 sc38 fun cdv A outer s H E hr tk po => ?_
  have nd := sc38.nd
  have hu := hr.units
  have hu2 : _ + 199 < cLine := Nat.lt_of_le_of_lt (Nat.add_le_add_left (by decide : 199 ≤ 200) _) (Nat.lt_of_le_of_lt (Nat.add_le_add_right (Nat.le_add_right _ _) _) hr.un)
  have hu5 : _ + 65 < cLine := Nat.lt_of_le_of_lt (Nat.add_le_add_left (by decide : 65 ≤ 200) _) (Nat.lt_of_le_of_lt (Nat.add_le_add_right (Nat.le_add_right _ _) _) hr.un)
  unfold m_law_pieces m_law_pieces_b1
  exact ⟨_, (sss_cons (ss_set (i := 2) nd (se_lst (sa_cons (se_tup (sa_cons (se_mv 1) (sa_cons (se_mv 0) sa_nil))) sa_nil))) (sss_cons (ss_kill (vs := [3]) (ss_if (st_cmp ol_eqB (op_eqB (by exact hu2)) (se_ixA (by exact hu5) (se_vb 0) se_int) se_str) (sss_one (ss_for po rfl (si_r1 (se_cb cl_len call_len T.m_len (sa_cons (se_ixA (by exact hu5) (se_vb 0) se_int) sa_nil)) T.m_range) (sg_name nd) (sss_kill (vs := [3]) (sss_one (ss_ext (i := 2) (se_call L.h38 hr T.g38 T.F38.kp T.b38 tk (sa_cons (se_ixA (by exact hu5) (se_ixA (by exact hu5) (se_vb 0) se_int) (se_vb 3)) (sa_cons (se_bin ol_add op_addA (se_vb 1) (se_tup (sa_cons (se_mv 3) sa_nil))) sa_nil)) none)))))) sss_nil)) (sss_one (ss_end (ss_ret (se_rv 2))))))⟩
/-- _law_called -/
theorem e39 (k : Nat) : fs (k + 1) 39 = fnF 4 1 (m_law_called (fs k 38)) := rfl
theorem w39 {T : Top K.fr mg} {k : Nat} (L : Lv P K mg base T k) : FnOk P K.w K.fr mg base (L2.CX P K.w) (k + 1) T.a39 T.d39 ["tree"] (spF K (cvK K.fr) 1 (fs (k + 1) 39)) := by
  rw [e39]
  refine fn_of' ["tree", "feet", "place", "piece"] rfl rfl T.F39 sc39 fun cdv A outer s H E hr tk po => ?_
  have nd := sc39.nd
  have hu := hr.units
  have hu2 : _ + 199 < cLine := Nat.lt_of_le_of_lt (Nat.add_le_add_left (by decide : 199 ≤ 200) _) (Nat.lt_of_le_of_lt (Nat.add_le_add_right (Nat.le_add_right _ _) _) hr.un)
  have hu5 : _ + 65 < cLine := Nat.lt_of_le_of_lt (Nat.add_le_add_left (by decide : 65 ≤ 200) _) (Nat.lt_of_le_of_lt (Nat.add_le_add_right (Nat.le_add_right _ _) _) hr.un)
  unfold m_law_called m_law_called_ce2 m_law_called_ct1
  exact ⟨_, (sss_cons (ss_setLc (i := 1) (own := [(("place" : Str), 2), (("piece" : Str), 3)]) rfl nd (blkOk_by (N := ["tree", "feet", "place", "piece"]) (sc := defScope s39) (by decide +kernel)) (si_sq (se_call L.h38 hr T.g38 T.F38.kp T.b38 tk (sa_cons (se_mv 0) (sa_cons (se_tup sa_nil) sa_nil)) none)) (fun _ _ _ _ _ => (sgw_tup rfl (sgws_cons (sgw_name nd) (sgws_cons (sgw_name nd) sgws_nil)))) (fun _ _ _ _ _ => (sp_one (st_cmp ol_eqB (op_eqB (by exact hu2)) (se_ixA (by exact hu5) (se_vb 3) se_int) se_str))) (fun _ _ _ _ _ => (se_ixA (by exact hu5) (se_vb 3) se_int)) (sw_true rfl rfl rfl (by decide +kernel))) (sss_one (ss_end (ss_ret (se_if (st_cmp ol_cmp op_gt (se_cb cl_len call_len T.m_len (sa_cons (se_vb 1) sa_nil)) se_int) (se_tup (sa_cons se_bl (sa_cons (se_ixA (by exact hu5) (se_vb 1) se_int) sa_nil))) (se_tup (sa_cons se_bl (sa_cons (se_ixA (by exact hu5) (se_vb 0) se_int) sa_nil))))))))⟩
/-- _law_takers -/
theorem e40 (k : Nat) : fs (k + 1) 40 = fnF 4 2 (m_law_takers (fs k 39)) := rfl
theorem w40 {T : Top K.fr mg} {k : Nat} (L : Lv P K mg base T k) : FnOk P K.w K.fr mg base (L2.CX P K.w) (k + 1) T.a40 T.d40 ["book", "piece"] (spF K (cvK K.fr) 2 (fs (k + 1) 40)) := by
  rw [e40]
  refine fn_of' ["book", "piece", "key", "tree"] rfl rfl T.F40 sc40 fun cdv A outer s H E hr tk po => ?_
  have nd := sc40.nd
  have hu := hr.units
  have hu2 : _ + 199 < cLine := Nat.lt_of_le_of_lt (Nat.add_le_add_left (by decide : 199 ≤ 200) _) (Nat.lt_of_le_of_lt (Nat.add_le_add_right (Nat.le_add_right _ _) _) hr.un)
  have hu5 : _ + 65 < cLine := Nat.lt_of_le_of_lt (Nat.add_le_add_left (by decide : 65 ≤ 200) _) (Nat.lt_of_le_of_lt (Nat.add_le_add_right (Nat.le_add_right _ _) _) hr.un)
  unfold m_law_takers m_law_takers_ce4 m_law_takers_ct3 m_law_takers_ce2 m_law_takers_ct1
  exact ⟨_, (sss_cons (ss_if (st_cmp ol_eqB (op_eqB (by exact hu2)) (se_ixA (by exact hu5) (se_vb 1) se_int) se_str) (sss_one (ss_end (ss_ret (se_comp (own := [(("key" : Str), 2), (("tree" : Str), 3)]) rfl nd (blkOk_by (N := ["book", "piece", "key", "tree"]) (sc := defScope s40) (by decide +kernel)) (si_sq (se_ixA (by exact hu5) (se_vb 0) se_int)) (fun _ _ _ _ _ => (sgw_tup rfl (sgws_cons (sgw_name nd) (sgws_cons (sgw_name nd) sgws_nil)))) (fun _ _ _ _ _ => (sp_one (st_cmp ol_eqB (op_eqB (by exact hu2)) (se_call L.h39 (by exact hr) T.g39 T.F39.kp T.b39 takes0 (sa_cons (se_mv 3) sa_nil) none) (se_tup (sa_cons se_bl (sa_cons (se_ixA (by exact hu5) (se_vb 1) se_int) sa_nil)))))) (fun _ _ _ _ _ => (se_mv 2)))))) sss_nil) (sss_cons (ss_if (sw_and (st_cmp ol_eqB (op_eqB (by exact hu2)) (se_ixA (by exact hu5) (se_vb 1) se_int) se_str) (sw_one (st_cmp ol_not op_notA (se_ixA (by exact hu5) (se_vb 1) se_int) se_non))).st (sss_one (ss_end (ss_ret (se_comp (own := [(("key" : Str), 2), (("tree" : Str), 3)]) rfl nd (blkOk_by (N := ["book", "piece", "key", "tree"]) (sc := defScope s40) (by decide +kernel)) (si_sq (se_ixA (by exact hu5) (se_vb 0) se_int)) (fun _ _ _ _ _ => (sgw_tup rfl (sgws_cons (sgw_name nd) (sgws_cons (sgw_name nd) sgws_nil)))) (fun _ _ _ _ _ => (sp_one (st_cmp ol_eqB (op_eqB (by exact hu2)) (se_call L.h39 (by exact hr) T.g39 T.F39.kp T.b39 takes0 (sa_cons (se_mv 3) sa_nil) none) (se_tup (sa_cons se_bl (sa_cons (se_ixA (by exact hu5) (se_ixA (by exact hu5) (se_vb 1) se_int) se_int) sa_nil)))))) (fun _ _ _ _ _ => (se_mv 2)))))) sss_nil) (sss_one (ss_end (ss_ret (se_lst sa_nil))))))⟩
/-- _law_plan -/
theorem e41 (k : Nat) : fs (k + 1) 41 = fnF 11 4 (m_law_plan (fs k 38) (fs k 41) (fs k 40) (fs k 33)) := rfl
theorem w41 {T : Top K.fr mg} {k : Nat} (L : Lv P K mg base T k) : FnOk P K.w K.fr mg base (L2.CX P K.w) (k + 1) T.a41 T.d41 ["state", "book", "key", "left"] (spF K (cvK K.fr) 4 (fs (k + 1) 41)) := by
  rw [e41]
  refine fn_of' ["state", "book", "key", "left", "cell", "puts", "place", "piece", "some", "must", "one"] rfl rfl T.F41 sc41 fun cdv A outer s H E hr tk po => ?_
  have nd := sc41.nd
  have hu := hr.units
  have hu2 : _ + 199 < cLine := Nat.lt_of_le_of_lt (Nat.add_le_add_left (by decide : 199 ≤ 200) _) (Nat.lt_of_le_of_lt (Nat.add_le_add_right (Nat.le_add_right _ _) _) hr.un)
  have hu5 : _ + 65 < cLine := Nat.lt_of_le_of_lt (Nat.add_le_add_left (by decide : 65 ≤ 200) _) (Nat.lt_of_le_of_lt (Nat.add_le_add_right (Nat.le_add_right _ _) _) hr.un)
  unfold m_law_plan m_law_plan_b3 m_law_plan_ce2 m_law_plan_ct1
  exact ⟨_, (sss_cons (ss_set (i := 4) nd (se_call L.h33 hr T.g33 T.F33.kp T.b33 tk (sa_cons (se_vb 0) sa_nil) (some 0))) (sss_cons (ss_put (i := 0) (by exact hu5) se_str (se_bin ol_add op_addA (se_ixA (by exact hu5) (se_vb 0) se_str) se_int)) (sss_cons (ss_set (i := 3) nd (se_if (st_cmp ol_ltA (op_ltA (by exact hu5)) (se_ixA (by exact hu5) (se_vb 0) se_str) se_int) (se_mv 3) se_int)) (sss_cons (ss_set (i := 5) nd (se_lst sa_nil)) (sss_cons (ss_for po rfl (si_sq (se_call L.h38 hr T.g38 T.F38.kp T.b38 tk (sa_cons (se_ixA (by exact hu5) (se_ct cl_dict (call_dictX rfl (by exact hu5)) T.m_dict (sa_cons (se_ixA (by exact hu5) (se_vb 1) se_int) sa_nil)) (se_vb 2)) (sa_cons (se_tup sa_nil) sa_nil)) none)) (sg_tup rfl (sgs_cons (sg_name nd) (sgs_cons (sg_name nd) sgs_nil))) (sss_kill (vs := [6, 7, 8, 9]) (sss_cons (ss_set (i := 8) nd (se_call L.h40 hr T.g40 T.F40.kp T.b40 tk (sa_cons (se_mv 1) (sa_cons (se_mv 7) sa_nil)) none)) (sss_cons (ss_set (i := 9) nd (se_or (se_cmp ol_eqB (op_eqB (by exact hu2)) (se_ixA (by exact hu5) (se_vb 7) se_int) se_str) (se_one (se_and (se_cmp ol_eqB (op_eqB (by exact hu2)) (se_ixA (by exact hu5) (se_vb 7) se_int) se_str) (se_and (se_cmp ol_not op_notA (se_ixA (by exact hu5) (se_vb 7) se_int) se_non) (se_one (se_ixA (by exact hu5) (se_ixA (by exact hu5) (se_vb 7) se_int) se_int))))))) (sss_cons (ss_if (sw_or (st_cmp ol_eqB (op_eqB (by exact hu2)) (se_vb 3) se_int) (sw_or (st_cmp ol_eqB (op_eqB (by exact hu2)) (se_bin ol_mod op_mod (se_vb 4) se_int) se_int) (sw_one (st_cmp ol_cmp op_gt (se_ixA (by exact hu5) (se_vb 0) se_str) se_int)))).st (sss_one (ss_setLc (i := 8) (own := [(("one" : Str), 10)]) rfl nd (blkOk_by (N := ["state", "book", "key", "left", "cell", "puts", "place", "piece", "some", "must", "one"]) (sc := defScope s41) (by decide +kernel)) (si_sq (se_mv 8)) (fun _ _ _ _ _ => (sgw_name nd)) (fun _ _ _ _ _ => (sp_one (st_cmp ol_inB (op_inB (by exact hu5)) (se_vb 10) (se_tup (sa_cons se_str (sa_cons se_str (sa_cons se_str (sa_cons se_str (sa_cons se_str (sa_cons se_str sa_nil)))))))))) (fun _ _ _ _ _ => (se_mv 10)) (sw_true rfl rfl rfl (by decide +kernel)))) sss_nil) (sss_one (ss_if (sw_or (st_val (se_vb 9)) (sw_one (sw_and (st_cmp ol_cmp op_gt (se_cb cl_len call_len T.m_len (sa_cons (se_vb 8) sa_nil)) se_int) (sw_and (st_cmp ol_cmp op_gt (se_vb 3) se_int) (sw_one (st_cmp ol_cmp op_gt (se_bin ol_mod op_mod (se_bin ol_div op_fdiv (se_vb 4) se_int) se_int) se_int)))).st)).st (sss_cons (ss_app (i := 5) (se_tup (sa_cons (se_mv 6) (sa_cons (se_call L.h41 hr T.g41 T.F41.kp T.b41 tk (sa_cons (se_vb 0) (sa_cons (se_mv 1) (sa_cons (se_ixA (by exact hu5) (se_vb 8) (se_bin ol_mod op_mod (se_bin ol_div op_fdiv (se_vb 4) se_int) (se_cb cl_len call_len T.m_len (sa_cons (se_vb 8) sa_nil)))) (sa_cons (se_cb cl_max2 (call_max2 rfl) T.m_max (sa_cons se_int (sa_cons (se_bin ol_sub op_sub (se_vb 3) se_int) sa_nil))) sa_nil)))) (some 0)) sa_nil)))) (sss_one (ss_set (i := 4) nd (se_bin ol_add op_addA (se_bin ol_div op_fdiv (se_vb 4) se_int) se_int)))) sss_nil))))))) (sss_one (ss_end (ss_ret (se_tup (sa_cons (se_mv 2) (sa_cons (se_ct cl_tuple call_tupX T.m_tuple (sa_cons (se_vb 5) sa_nil)) sa_nil)))))))))))⟩
/-- law -/
theorem e42 (k : Nat) : fs (k + 1) 42 = fnF 20 1 (m_law_k20 (fs k 29) (fs k 32) (fs k 19) (fs k 41) (fs k 14) (fs k 21) (fs k 11) (fs k 24) (fs k 38) (fs k 26) (fs k 40) (fs k 3) (fs k 37) (fs k 33)) := rfl
theorem w42 {T : Top K.fr mg} {k : Nat} (L : Lv P K mg base T k) : FnOk P K.w K.fr mg base (L2.CX P K.w) (k + 1) T.a42 T.d42 ["script"] (spF K (cvK K.fr) 1 (fs (k + 1) 42)) := by
  rw [e42]
  refine fn_of' ["script", "state", "cell", "book", "wanted_places", "told", "rows", "handed", "found", "trees", "made", "words", "copy", "plan", "more", "key", "tree", "place", "piece", "some"] rfl rfl T.F42 sc42 fun cdv A outer s H E hr tk po => ?_
  have nd := sc42.nd
  have hu := hr.units
  have hu2 : _ + 199 < cLine := Nat.lt_of_le_of_lt (Nat.add_le_add_left (by decide : 199 ≤ 200) _) (Nat.lt_of_le_of_lt (Nat.add_le_add_right (Nat.le_add_right _ _) _) hr.un)
  have hu5 : _ + 65 < cLine := Nat.lt_of_le_of_lt (Nat.add_le_add_left (by decide : 65 ≤ 200) _) (Nat.lt_of_le_of_lt (Nat.add_le_add_right (Nat.le_add_right _ _) _) hr.un)
  unfold m_law_k20 m_law_k20_ce2 m_law_k20_b1
  exact ⟨_, (sss_cons (ss_set (i := 1) nd (se_dct (sd_cons se_str (se_mv 0) (sd_cons se_str se_int (sd_cons se_str se_int sd_nil))))) (sss_cons (ss_set (i := 2) nd (se_call L.h33 hr T.g33 T.F33.kp T.b33 tk (sa_cons (se_vb 1) sa_nil) (some 0))) (sss_cons (ss_set (i := 3) nd (se_call L.h37 hr T.g37 T.F37.kp T.b37 tk (sa_cons (se_vb 1) (sa_cons (se_bin ol_mod op_mod (se_vb 2) se_int) (sa_cons se_int sa_nil))) (some 0))) (sss_cons (ss_unp (se_ixA (by exact hu5) (se_ixA (by exact hu5) (se_vb 3) se_int) (se_bin ol_mod op_mod (se_bin ol_div op_fdiv (se_vb 2) se_int) (se_cb cl_len call_len T.m_len (sa_cons (se_ixA (by exact hu5) (se_vb 3) se_int) sa_nil)))) (sg_tup rfl (sgs_cons (sg_name nd) (sgs_cons (sg_name nd) sgs_nil)))) (sss_cons (ss_setLc (i := 4) (own := [(("place" : Str), 17), (("piece" : Str), 18)]) rfl nd (blkOk_by (N := ["script", "state", "cell", "book", "wanted_places", "told", "rows", "handed", "found", "trees", "made", "words", "copy", "plan", "more", "key", "tree", "place", "piece", "some"]) (sc := defScope s42) (by decide +kernel)) (si_sq (se_call L.h38 hr T.g38 T.F38.kp T.b38 tk (sa_cons (se_mv 16) (sa_cons (se_tup sa_nil) sa_nil)) none)) (fun _ _ _ _ _ => (sgw_tup rfl (sgws_cons (sgw_name nd) (sgws_cons (sgw_name nd) sgws_nil)))) (fun _ _ _ _ _ => sp_nil) (fun _ _ _ _ _ => (se_mv 17)) (sw_true rfl rfl rfl (by decide +kernel))) (sss_nest (i := 5) nd (se_call L.h3 hr T.g3 T.F3.kp T.b3 tk (sa_cons (se_mv 16) sa_nil) none) (se_call L.h3 hr T.g3 T.F3.kp T.b3 tk (sa_cons (se_mv 16) sa_nil) none) (se_tup (sa_cons se_int sa_nil)) (sss_cons (ss_if (sw_or (st_cmp ol_neB (op_neB (by exact hu2)) (se_ixA (by exact hu5) (se_vb 5) se_int) (se_vb 4)) (sw_one (st_cmp ol_neB (op_neB (by exact hu2)) (se_call L.h3 hr T.g3 T.F3.kp T.b3 tk (sa_cons (se_mv 16) sa_nil) none) (se_vb 4)))).st (sss_one (ss_end (ss_ret se_bl))) sss_nil) (sss_cons (ss_for po rfl (si_sq (se_call L.h38 hr T.g38 T.F38.kp T.b38 tk (sa_cons (se_mv 16) (sa_cons (se_tup sa_nil) sa_nil)) none)) (sg_tup rfl (sgs_cons (sg_name nd) (sgs_cons (sg_name nd) sgs_nil))) (sss_kill (vs := [17, 18, 19]) (sss_nest (i := 19) nd (se_call L.h26 hr T.g26 T.F26.kp T.b26 tk (sa_cons (se_mv 3) (sa_cons (se_mv 18) sa_nil)) none) (se_call L.h26 hr T.g26 T.F26.kp T.b26 tk (sa_cons (se_mv 3) (sa_cons (se_mv 18) sa_nil)) none) se_str (sss_one (ss_if (sw_or (st_cmp ol_neB (op_neB (by exact hu2)) (se_ixA (by exact hu5) (se_vb 19) se_int) (se_call L.h40 hr T.g40 T.F40.kp T.b40 tk (sa_cons (se_mv 3) (sa_cons (se_mv 18) sa_nil)) none)) (sw_one (st_cmp ol_neB (op_neB (by exact hu2)) (se_call L.h26 hr T.g26 T.F26.kp T.b26 tk (sa_cons (se_mv 3) (sa_cons (se_mv 18) sa_nil)) none) (se_ixA (by exact hu5) (se_vb 19) se_int)))).st (sss_one (ss_end (ss_ret se_bl))) sss_nil))))) (sss_nestC (i := 6) nd (se_call L.h21 hr T.g21 T.F21.kp T.b21 tk (sa_cons (se_mv 3) sa_nil) none) (se_call L.h21 hr T.g21 T.F21.kp T.b21 tk (sa_cons (se_mv 3) sa_nil) none) (sss_cons (ss_set (i := 7) nd (se_ct cl_list call_list_of T.m_list (sa_cons (se_ixA (by exact hu5) (se_vb 6) se_int) sa_nil))) (sss_cons (ss_set (i := 8) nd (se_call L.h24 hr T.g24 T.F24.kp T.b24 tk (sa_cons (se_vb 7) sa_nil) (some 0))) (sss_cons (ss_clr (i := 7)) (sss_cons (ss_set (i := 9) nd (se_ct cl_list call_list_of T.m_list (sa_cons (se_ixA (by exact hu5) (se_vb 3) se_int) sa_nil))) (sss_cons (ss_set (i := 10) nd (se_call L.h11 hr T.g11 T.F11.kp T.b11 tk (sa_cons (se_ixA (by exact hu5) (se_vb 3) se_int) (sa_cons (se_vb 9) sa_nil)) (some 1))) (sss_cons (ss_clr (i := 9)) (sss_cons (ss_if (sw_or (st_cmp ol_neB (op_neB (by exact hu2)) (se_vb 8) (se_vb 3)) (sw_or (st_cmp ol_neB (op_neB (by exact hu2)) (se_vb 10) (se_vb 3)) (sw_one (st_cmp ol_neB (op_neB (by exact hu2)) (se_call L.h21 hr T.g21 T.F21.kp T.b21 tk (sa_cons (se_mv 10) sa_nil) none) (se_ixA (by exact hu5) (se_vb 6) se_int))))).st (sss_one (ss_end (ss_ret se_bl))) sss_nil) (sss_cons (ss_set (i := 11) nd (se_split (se_call L.h14 hr T.g14 T.F14.kp T.b14 tk (sa_cons (se_mv 16) sa_nil) none) se_str)) (sss_cons (ss_set (i := 12) nd (se_ct cl_list call_list_of T.m_list (sa_cons (se_vb 11) sa_nil))) (sss_cons (ss_set (i := 13) nd (se_call L.h41 hr T.g41 T.F41.kp T.b41 tk (sa_cons (se_vb 1) (sa_cons (se_mv 3) (sa_cons (se_mv 15) (sa_cons se_int sa_nil)))) (some 0))) (sss_cons (ss_set (i := 14) nd (se_split (se_call L.h29 hr T.g29 T.F29.kp T.b29 tk (sa_cons (se_mv 13) sa_nil) none) se_str)) (sss_cons (ss_if (sw_or (st_cmp ol_neB (op_neB (by exact hu2)) (se_call L.h19 hr T.g19 T.F19.kp T.b19 tk (sa_cons (se_mv 11) (sa_cons se_int sa_nil)) none) (se_tup (sa_cons (se_mv 16) (sa_cons (se_cb cl_len call_len T.m_len (sa_cons (se_vb 12) sa_nil)) sa_nil)))) (sw_one (st_cmp ol_neB (op_neB (by exact hu2)) (se_vb 11) (se_vb 12)))).st (sss_one (ss_end (ss_ret se_bl))) sss_nil) (sss_one (ss_end (ss_ret (se_and (se_cmp ol_eqB (op_eqB (by exact hu2)) (se_call L.h32 hr T.g32 T.F32.kp T.b32 tk (sa_cons (se_mv 14) (sa_cons se_int sa_nil)) none) (se_tup (sa_cons (se_mv 13) (sa_cons (se_cb cl_len call_len T.m_len (sa_cons (se_vb 14) sa_nil)) sa_nil)))) (se_one (se_cmp ol_eqB (op_eqB (by exact hu2)) (se_vb 14) (se_split (se_call L.h29 hr T.g29 T.F29.kp T.b29 tk (sa_cons (se_mv 13) sa_nil) none) se_str))))))))))))))))))))))))))))⟩
theorem xw_NoPlace {T : Top K.fr mg} : ∀ k, IniOk P K.w K.fr mg base k T.xI_NoPlace T.xd_NoPlace ["place"] (fs k 43)
  | 0 => .inl rfl
  | 1 => .inl rfl
  | k + 2 => .inr ⟨k + 1, rfl, fn_init1 T.xF_NoPlace sci_NoPlace fun cdv A outer s H E => pss_cons (ps_expr (pe_ginit T.gi T.xg_GraftError (pa_cons (pe_var (i := 0) rfl (.inl rfl)) (pa_cons pe_str pa_nil)))) (pss_one (ps_ost (pe_var (i := 0) rfl (.inl rfl)) (pe_var (i := 1) rfl (.inl rfl))))⟩
theorem xw_NoText {T : Top K.fr mg} : ∀ k, IniOk P K.w K.fr mg base k T.xI_NoText T.xd_NoText ["at"] (fs k 44)
  | 0 => .inl rfl
  | 1 => .inl rfl
  | k + 2 => .inr ⟨k + 1, rfl, fn_init1 T.xF_NoText sci_NoText fun cdv A outer s H E => pss_cons (ps_expr (pe_ginit T.gi T.xg_GraftError (pa_cons (pe_var (i := 0) rfl (.inl rfl)) (pa_cons pe_str pa_nil)))) (pss_one (ps_ost (pe_var (i := 0) rfl (.inl rfl)) (pe_var (i := 1) rfl (.inl rfl))))⟩
theorem xw_NoKey {T : Top K.fr mg} : ∀ k, IniOk P K.w K.fr mg base k T.xI_NoKey T.xd_NoKey ["number"] (fs k 45)
  | 0 => .inl rfl
  | 1 => .inl rfl
  | k + 2 => .inr ⟨k + 1, rfl, fn_init1 T.xF_NoKey sci_NoKey fun cdv A outer s H E => pss_cons (ps_expr (pe_ginit T.gi T.xg_GraftError (pa_cons (pe_var (i := 0) rfl (.inl rfl)) (pa_cons pe_str pa_nil)))) (pss_one (ps_ost (pe_var (i := 0) rfl (.inl rfl)) (pe_var (i := 1) rfl (.inl rfl))))⟩
theorem xw_Twice {T : Top K.fr mg} : ∀ k, IniOk P K.w K.fr mg base k T.xI_Twice T.xd_Twice ["key"] (fs k 46)
  | 0 => .inl rfl
  | 1 => .inl rfl
  | k + 2 => .inr ⟨k + 1, rfl, fn_init1 T.xF_Twice sci_Twice fun cdv A outer s H E => pss_cons (ps_expr (pe_ginit T.gi T.xg_GraftError (pa_cons (pe_var (i := 0) rfl (.inl rfl)) (pa_cons pe_str pa_nil)))) (pss_one (ps_ost (pe_var (i := 0) rfl (.inl rfl)) (pe_var (i := 1) rfl (.inl rfl))))⟩
theorem xw_NoTree {T : Top K.fr mg} : ∀ k, IniOk P K.w K.fr mg base k T.xI_NoTree T.xd_NoTree ["key", "word"] (fs k 47)
  | 0 => .inl rfl
  | 1 => .inl rfl
  | k + 2 => .inr ⟨k + 1, rfl, fn_init2 T.xF_NoTree sci_NoTree fun cdv A outer s H E => pss_cons (ps_expr (pe_ginit T.gi T.xg_GraftError (pa_cons (pe_var (i := 0) rfl (.inl rfl)) (pa_cons pe_str pa_nil)))) (pss_cons (ps_ost (pe_var (i := 0) rfl (.inl rfl)) (pe_var (i := 1) rfl (.inl rfl))) (pss_one (ps_ost (pe_var (i := 0) rfl (.inl rfl)) (pe_var (i := 2) rfl (.inl rfl)))))⟩
theorem xw_NoRow {T : Top K.fr mg} : ∀ k, IniOk P K.w K.fr mg base k T.xI_NoRow T.xd_NoRow ["row"] (fs k 48)
  | 0 => .inl rfl
  | 1 => .inl rfl
  | k + 2 => .inr ⟨k + 1, rfl, fn_init1 T.xF_NoRow sci_NoRow fun cdv A outer s H E => pss_cons (ps_expr (pe_ginit T.gi T.xg_GraftError (pa_cons (pe_var (i := 0) rfl (.inl rfl)) (pa_cons pe_str pa_nil)))) (pss_one (ps_ost (pe_var (i := 0) rfl (.inl rfl)) (pe_var (i := 1) rfl (.inl rfl))))⟩
theorem lv (T : Top K.fr mg) : ∀ k, Lv P K mg base T k
  | 0 => ⟨fn_zero rfl, fn_zero rfl, fn_zero rfl, fn_zero rfl, fn_zero rfl, fn_zero rfl, fn_zero rfl, fn_zero rfl, fn_zero rfl, fn_zero rfl, fn_zero rfl, fn_zero rfl, fn_zero rfl, fn_zero rfl, fn_zero rfl, fn_zero rfl, fn_zero rfl, fn_zero rfl, fn_zero rfl, fn_zero rfl, fn_zero rfl, fn_zero rfl, fn_zero rfl, fn_zero rfl, fn_zero rfl, fn_zero rfl, fn_zero rfl, fn_zero rfl, fn_zero rfl, fn_zero rfl, fn_zero rfl, fn_zero rfl, fn_zero rfl, fn_zero rfl, fn_zero rfl, fn_zero rfl, fn_zero rfl, fn_zero rfl, fn_zero rfl, fn_zero rfl, fn_zero rfl, fn_zero rfl, fn_zero rfl, xw_NoPlace 0, xw_NoText 0, xw_NoKey 0, xw_Twice 0, xw_NoTree 0, xw_NoRow 0⟩
  | k + 1 => have L := lv T k; ⟨w0 L, w1 L, w2 L, w3 L, w4 L, w5 L, w6 L, w7 L, w8 L, w9 L, w10 L, w11 L, w12 L, w13 L, w14 L, w15 L, w16 L, w17 L, w18 L, w19 L, w20 L, w21 L, w22 L, w23 L, w24 L, w25 L, w26 L, w27 L, w28 L, w29 L, w30 L, w31 L, w32 L, w33 L, w34 L, w35 L, w36 L, w37 L, w38 L, w39 L, w40 L, w41 L, w42 L, xw_NoPlace (k + 1), xw_NoText (k + 1), xw_NoKey (k + 1), xw_Twice (k + 1), xw_NoTree (k + 1), xw_NoRow (k + 1)⟩
end
end Wk20
namespace Wk20
open PySem L2 GS GM
/-! ### the end -/
theorem top_mk {K : PySem.W.Frag} {h : Heap} {mg : Str → Option Value} {fa f0 f1 f2 f3 f4 f5 f6 f7 f8 f9 f10 f11 f12 f13 f14 f15 f16 f17 f18 f19 f20 f21 f22 f23 f24 f25 f26 f27 f28 f29 f30 f31 f32 f33 f34 f35 f36 f37 f38 f39 f40 f41 f42 : Addr} (X : K.In h) (G : h.Ns mainGlobals mg) (hfa : mg "law" = some (.ref fa))
    {od0 an0 od1 an1 od2 an2 od3 an3 od4 an4 od5 an5 od6 an6 od7 an7 od8 an8 od9 an9 od10 an10 od11 an11 od12 an12 od13 an13 od14 an14 od15 an15 od16 an16 od17 an17 od18 an18 od19 an19 od20 an20 od21 an21 od22 an22 od23 an23 od24 an24 od25 an25 od26 an26 od27 an27 od28 an28 od29 an29 od30 an30 od31 an31 od32 an32 od33 an33 od34 an34 od35 an35 od36 an36 od37 an37 od38 an38 od39 an39 od40 an40 od41 an41 od42 an42 : Option Addr} {sl0 sl1 sl2 sl3 sl4 sl5 sl6 sl7 sl8 sl9 sl10 sl11 sl12 sl13 sl14 sl15 sl16 sl17 sl18 sl19 sl20 sl21 sl22 sl23 sl24 sl25 sl26 sl27 sl28 sl29 sl30 sl31 sl32 sl33 sl34 sl35 sl36 sl37 sl38 sl39 sl40 sl41 sl42 : Array (Option Value)} {oc0 kV0 dc0 pm0 cd0 ct0 oc1 kV1 dc1 pm1 cd1 ct1 oc2 kV2 dc2 pm2 cd2 ct2 oc3 kV3 dc3 pm3 cd3 ct3 oc4 kV4 dc4 pm4 cd4 ct4 oc5 kV5 dc5 pm5 cd5 ct5 oc6 kV6 dc6 pm6 cd6 ct6 oc7 kV7 dc7 pm7 cd7 ct7 oc8 kV8 dc8 pm8 cd8 ct8 oc9 kV9 dc9 pm9 cd9 ct9 oc10 kV10 dc10 pm10 cd10 ct10 oc11 kV11 dc11 pm11 cd11 ct11 oc12 kV12 dc12 pm12 cd12 ct12 oc13 kV13 dc13 pm13 cd13 ct13 oc14 kV14 dc14 pm14 cd14 ct14 oc15 kV15 dc15 pm15 cd15 ct15 oc16 kV16 dc16 pm16 cd16 ct16 oc17 kV17 dc17 pm17 cd17 ct17 oc18 kV18 dc18 pm18 cd18 ct18 oc19 kV19 dc19 pm19 cd19 ct19 oc20 kV20 dc20 pm20 cd20 ct20 oc21 kV21 dc21 pm21 cd21 ct21 oc22 kV22 dc22 pm22 cd22 ct22 oc23 kV23 dc23 pm23 cd23 ct23 oc24 kV24 dc24 pm24 cd24 ct24 oc25 kV25 dc25 pm25 cd25 ct25 oc26 kV26 dc26 pm26 cd26 ct26 oc27 kV27 dc27 pm27 cd27 ct27 oc28 kV28 dc28 pm28 cd28 ct28 oc29 kV29 dc29 pm29 cd29 ct29 oc30 kV30 dc30 pm30 cd30 ct30 oc31 kV31 dc31 pm31 cd31 ct31 oc32 kV32 dc32 pm32 cd32 ct32 oc33 kV33 dc33 pm33 cd33 ct33 oc34 kV34 dc34 pm34 cd34 ct34 oc35 kV35 dc35 pm35 cd35 ct35 oc36 kV36 dc36 pm36 cd36 ct36 oc37 kV37 dc37 pm37 cd37 ct37 oc38 kV38 dc38 pm38 cd38 ct38 oc39 kV39 dc39 pm39 cd39 ct39 oc40 kV40 dc40 pm40 cd40 ct40 oc41 kV41 dc41 pm41 cd41 ct41 oc42 kV42 dc42 pm42 cd42 ct42 : Value} {tk_FIGURES_trees tk_GREAT tk_LONGEST_NAME tk_SMALL_trees tk_LONGEST_SIGN tk_FIGURES_books tk_SMALL_books tk_LONGEST_KEY tk_MOST_WITHIN tk_MOST_PIECES tk_MOST_TREES tk_MOST_KIDS tk_KID_FIGURES : Tok}
    (a0 : PySem.W.nsIn K mainGlobals "is_name" = some (some (.ref f0))) (l0 : K.lookup f0 = some ⟨oc0, od0, .func (PySem.W.fnOf "is_name" "is_name" (defArgs s0) (defBody s0) (defScope s0) .none kV0 dc0 pm0 an0 cd0 ct0), sl0⟩) (c0 : PySem.W.codeIn K cd0 "is_name" = true) (k0 : PySem.W.keepIn K (.ref f0) = true)
    (a1 : PySem.W.nsIn K mainGlobals "is_sign" = some (some (.ref f1))) (l1 : K.lookup f1 = some ⟨oc1, od1, .func (PySem.W.fnOf "is_sign" "is_sign" (defArgs s1) (defBody s1) (defScope s1) .none kV1 dc1 pm1 an1 cd1 ct1), sl1⟩) (c1 : PySem.W.codeIn K cd1 "is_sign" = true) (k1 : PySem.W.keepIn K (.ref f1) = true)
    (a2 : PySem.W.nsIn K mainGlobals "kids_of" = some (some (.ref f2))) (l2 : K.lookup f2 = some ⟨oc2, od2, .func (PySem.W.fnOf "kids_of" "kids_of" (defArgs s2) (defBody s2) (defScope s2) .none kV2 dc2 pm2 an2 cd2 ct2), sl2⟩) (c2 : PySem.W.codeIn K cd2 "kids_of" = true) (k2 : PySem.W.keepIn K (.ref f2) = true)
    (a3 : PySem.W.nsIn K mainGlobals "places" = some (some (.ref f3))) (l3 : K.lookup f3 = some ⟨oc3, od3, .func (PySem.W.fnOf "places" "places" (defArgs s3) (defBody s3) (defScope s3) .none kV3 dc3 pm3 an3 cd3 ct3), sl3⟩) (c3 : PySem.W.codeIn K cd3 "places" = true) (k3 : PySem.W.keepIn K (.ref f3) = true)
    (a4 : PySem.W.nsIn K mainGlobals "piece_at" = some (some (.ref f4))) (l4 : K.lookup f4 = some ⟨oc4, od4, .func (PySem.W.fnOf "piece_at" "piece_at" (defArgs s4) (defBody s4) (defScope s4) .none kV4 dc4 pm4 an4 cd4 ct4), sl4⟩) (c4 : PySem.W.codeIn K cd4 "piece_at" = true) (k4 : PySem.W.keepIn K (.ref f4) = true)
    (a5 : PySem.W.nsIn K mainGlobals "signs_of" = some (some (.ref f5))) (l5 : K.lookup f5 = some ⟨oc5, od5, .func (PySem.W.fnOf "signs_of" "signs_of" (defArgs s5) (defBody s5) (defScope s5) .none kV5 dc5 pm5 an5 cd5 ct5), sl5⟩) (c5 : PySem.W.codeIn K cd5 "signs_of" = true) (k5 : PySem.W.keepIn K (.ref f5) = true)
    (a6 : PySem.W.nsIn K mainGlobals "is_key" = some (some (.ref f6))) (l6 : K.lookup f6 = some ⟨oc6, od6, .func (PySem.W.fnOf "is_key" "is_key" (defArgs s6) (defBody s6) (defScope s6) .none kV6 dc6 pm6 an6 cd6 ct6), sl6⟩) (c6 : PySem.W.codeIn K cd6 "is_key" = true) (k6 : PySem.W.keepIn K (.ref f6) = true)
    (a7 : PySem.W.nsIn K mainGlobals "feet_of" = some (some (.ref f7))) (l7 : K.lookup f7 = some ⟨oc7, od7, .func (PySem.W.fnOf "feet_of" "feet_of" (defArgs s7) (defBody s7) (defScope s7) .none kV7 dc7 pm7 an7 cd7 ct7), sl7⟩) (c7 : PySem.W.codeIn K cd7 "feet_of" = true) (k7 : PySem.W.keepIn K (.ref f7) = true)
    (a8 : PySem.W.nsIn K mainGlobals "is_graft" = some (some (.ref f8))) (l8 : K.lookup f8 = some ⟨oc8, od8, .func (PySem.W.fnOf "is_graft" "is_graft" (defArgs s8) (defBody s8) (defScope s8) .none kV8 dc8 pm8 an8 cd8 ct8), sl8⟩) (c8 : PySem.W.codeIn K cd8 "is_graft" = true) (k8 : PySem.W.keepIn K (.ref f8) = true)
    (a9 : PySem.W.nsIn K mainGlobals "name_of" = some (some (.ref f9))) (l9 : K.lookup f9 = some ⟨oc9, od9, .func (PySem.W.fnOf "name_of" "name_of" (defArgs s9) (defBody s9) (defScope s9) .none kV9 dc9 pm9 an9 cd9 ct9), sl9⟩) (c9 : PySem.W.codeIn K cd9 "name_of" = true) (k9 : PySem.W.keepIn K (.ref f9) = true)
    (a10 : PySem.W.nsIn K mainGlobals "amiss_in" = some (some (.ref f10))) (l10 : K.lookup f10 = some ⟨oc10, od10, .func (PySem.W.fnOf "amiss_in" "amiss_in" (defArgs s10) (defBody s10) (defScope s10) .none kV10 dc10 pm10 an10 cd10 ct10), sl10⟩) (c10 : PySem.W.codeIn K cd10 "amiss_in" = true) (k10 : PySem.W.keepIn K (.ref f10) = true)
    (a11 : PySem.W.nsIn K mainGlobals "made_book" = some (some (.ref f11))) (l11 : K.lookup f11 = some ⟨oc11, od11, .func (PySem.W.fnOf "made_book" "made_book" (defArgs s11) (defBody s11) (defScope s11) .none kV11 dc11 pm11 an11 cd11 ct11), sl11⟩) (c11 : PySem.W.codeIn K cd11 "made_book" = true) (k11 : PySem.W.keepIn K (.ref f11) = true)
    (a12 : PySem.W.nsIn K mainGlobals "takes_words" = some (some (.ref f12))) (l12 : K.lookup f12 = some ⟨oc12, od12, .func (PySem.W.fnOf "takes_words" "takes_words" (defArgs s12) (defBody s12) (defScope s12) .none kV12 dc12 pm12 an12 cd12 ct12), sl12⟩) (c12 : PySem.W.codeIn K cd12 "takes_words" = true) (k12 : PySem.W.keepIn K (.ref f12) = true)
    (a13 : PySem.W.nsIn K mainGlobals "tree_words" = some (some (.ref f13))) (l13 : K.lookup f13 = some ⟨oc13, od13, .func (PySem.W.fnOf "tree_words" "tree_words" (defArgs s13) (defBody s13) (defScope s13) .none kV13 dc13 pm13 an13 cd13 ct13), sl13⟩) (c13 : PySem.W.codeIn K cd13 "tree_words" = true) (k13 : PySem.W.keepIn K (.ref f13) = true)
    (a14 : PySem.W.nsIn K mainGlobals "tree_text" = some (some (.ref f14))) (l14 : K.lookup f14 = some ⟨oc14, od14, .func (PySem.W.fnOf "tree_text" "tree_text" (defArgs s14) (defBody s14) (defScope s14) .none kV14 dc14 pm14 an14 cd14 ct14), sl14⟩) (c14 : PySem.W.codeIn K cd14 "tree_text" = true) (k14 : PySem.W.keepIn K (.ref f14) = true)
    (a15 : PySem.W.nsIn K mainGlobals "word_at_words" = some (some (.ref f15))) (l15 : K.lookup f15 = some ⟨oc15, od15, .func (PySem.W.fnOf "word_at" "word_at" (defArgs s15) (defBody s15) (defScope s15) .none kV15 dc15 pm15 an15 cd15 ct15), sl15⟩) (c15 : PySem.W.codeIn K cd15 "word_at" = true) (k15 : PySem.W.keepIn K (.ref f15) = true)
    (a16 : PySem.W.nsIn K mainGlobals "leaf_of" = some (some (.ref f16))) (l16 : K.lookup f16 = some ⟨oc16, od16, .func (PySem.W.fnOf "leaf_of" "leaf_of" (defArgs s16) (defBody s16) (defScope s16) .none kV16 dc16 pm16 an16 cd16 ct16), sl16⟩) (c16 : PySem.W.codeIn K cd16 "leaf_of" = true) (k16 : PySem.W.keepIn K (.ref f16) = true)
    (a17 : PySem.W.nsIn K mainGlobals "take_takes" = some (some (.ref f17))) (l17 : K.lookup f17 = some ⟨oc17, od17, .func (PySem.W.fnOf "take_takes" "take_takes" (defArgs s17) (defBody s17) (defScope s17) .none kV17 dc17 pm17 an17 cd17 ct17), sl17⟩) (c17 : PySem.W.codeIn K cd17 "take_takes" = true) (k17 : PySem.W.keepIn K (.ref f17) = true)
    (a18 : PySem.W.nsIn K mainGlobals "take_knot" = some (some (.ref f18))) (l18 : K.lookup f18 = some ⟨oc18, od18, .func (PySem.W.fnOf "take_knot" "take_knot" (defArgs s18) (defBody s18) (defScope s18) .none kV18 dc18 pm18 an18 cd18 ct18), sl18⟩) (c18 : PySem.W.codeIn K cd18 "take_knot" = true) (k18 : PySem.W.keepIn K (.ref f18) = true)
    (a19 : PySem.W.nsIn K mainGlobals "take_tree" = some (some (.ref f19))) (l19 : K.lookup f19 = some ⟨oc19, od19, .func (PySem.W.fnOf "take_tree" "take_tree" (defArgs s19) (defBody s19) (defScope s19) .none kV19 dc19 pm19 an19 cd19 ct19), sl19⟩) (c19 : PySem.W.codeIn K cd19 "take_tree" = true) (k19 : PySem.W.keepIn K (.ref f19) = true)
    (a20 : PySem.W.nsIn K mainGlobals "read_tree" = some (some (.ref f20))) (l20 : K.lookup f20 = some ⟨oc20, od20, .func (PySem.W.fnOf "read_tree" "read_tree" (defArgs s20) (defBody s20) (defScope s20) .none kV20 dc20 pm20 an20 cd20 ct20), sl20⟩) (c20 : PySem.W.codeIn K cd20 "read_tree" = true) (k20 : PySem.W.keepIn K (.ref f20) = true)
    (a21 : PySem.W.nsIn K mainGlobals "book_rows" = some (some (.ref f21))) (l21 : K.lookup f21 = some ⟨oc21, od21, .func (PySem.W.fnOf "book_rows" "book_rows" (defArgs s21) (defBody s21) (defScope s21) .none kV21 dc21 pm21 an21 cd21 ct21), sl21⟩) (c21 : PySem.W.codeIn K cd21 "book_rows" = true) (k21 : PySem.W.keepIn K (.ref f21) = true)
    (a22 : PySem.W.nsIn K mainGlobals "tree_in" = some (some (.ref f22))) (l22 : K.lookup f22 = some ⟨oc22, od22, .func (PySem.W.fnOf "tree_in" "tree_in" (defArgs s22) (defBody s22) (defScope s22) .none kV22 dc22 pm22 an22 cd22 ct22), sl22⟩) (c22 : PySem.W.codeIn K cd22 "tree_in" = true) (k22 : PySem.W.keepIn K (.ref f22) = true)
    (a23 : PySem.W.nsIn K mainGlobals "row_read" = some (some (.ref f23))) (l23 : K.lookup f23 = some ⟨oc23, od23, .func (PySem.W.fnOf "row_read" "row_read" (defArgs s23) (defBody s23) (defScope s23) .none kV23 dc23 pm23 an23 cd23 ct23), sl23⟩) (c23 : PySem.W.codeIn K cd23 "row_read" = true) (k23 : PySem.W.keepIn K (.ref f23) = true)
    (a24 : PySem.W.nsIn K mainGlobals "read_book" = some (some (.ref f24))) (l24 : K.lookup f24 = some ⟨oc24, od24, .func (PySem.W.fnOf "read_book" "read_book" (defArgs s24) (defBody s24) (defScope s24) .none kV24 dc24 pm24 an24 cd24 ct24), sl24⟩) (c24 : PySem.W.codeIn K cd24 "read_book" = true) (k24 : PySem.W.keepIn K (.ref f24) = true)
    (a25 : PySem.W.nsIn K mainGlobals "wanted" = some (some (.ref f25))) (l25 : K.lookup f25 = some ⟨oc25, od25, .func (PySem.W.fnOf "wanted" "wanted" (defArgs s25) (defBody s25) (defScope s25) .none kV25 dc25 pm25 an25 cd25 ct25), sl25⟩) (c25 : PySem.W.codeIn K cd25 "wanted" = true) (k25 : PySem.W.keepIn K (.ref f25) = true)
    (a26 : PySem.W.nsIn K mainGlobals "takers" = some (some (.ref f26))) (l26 : K.lookup f26 = some ⟨oc26, od26, .func (PySem.W.fnOf "takers" "takers" (defArgs s26) (defBody s26) (defScope s26) .none kV26 dc26 pm26 an26 cd26 ct26), sl26⟩) (c26 : PySem.W.codeIn K cd26 "takers" = true) (k26 : PySem.W.keepIn K (.ref f26) = true)
    (a27 : PySem.W.nsIn K mainGlobals "place_word" = some (some (.ref f27))) (l27 : K.lookup f27 = some ⟨oc27, od27, .func (PySem.W.fnOf "place_word" "place_word" (defArgs s27) (defBody s27) (defScope s27) .none kV27 dc27 pm27 an27 cd27 ct27), sl27⟩) (c27 : PySem.W.codeIn K cd27 "place_word" = true) (k27 : PySem.W.keepIn K (.ref f27) = true)
    (a28 : PySem.W.nsIn K mainGlobals "plan_words" = some (some (.ref f28))) (l28 : K.lookup f28 = some ⟨oc28, od28, .func (PySem.W.fnOf "plan_words" "plan_words" (defArgs s28) (defBody s28) (defScope s28) .none kV28 dc28 pm28 an28 cd28 ct28), sl28⟩) (c28 : PySem.W.codeIn K cd28 "plan_words" = true) (k28 : PySem.W.keepIn K (.ref f28) = true)
    (a29 : PySem.W.nsIn K mainGlobals "plan_text" = some (some (.ref f29))) (l29 : K.lookup f29 = some ⟨oc29, od29, .func (PySem.W.fnOf "plan_text" "plan_text" (defArgs s29) (defBody s29) (defScope s29) .none kV29 dc29 pm29 an29 cd29 ct29), sl29⟩) (c29 : PySem.W.codeIn K cd29 "plan_text" = true) (k29 : PySem.W.keepIn K (.ref f29) = true)
    (a30 : PySem.W.nsIn K mainGlobals "place_of" = some (some (.ref f30))) (l30 : K.lookup f30 = some ⟨oc30, od30, .func (PySem.W.fnOf "place_of" "place_of" (defArgs s30) (defBody s30) (defScope s30) .none kV30 dc30 pm30 an30 cd30 ct30), sl30⟩) (c30 : PySem.W.codeIn K cd30 "place_of" = true) (k30 : PySem.W.keepIn K (.ref f30) = true)
    (a31 : PySem.W.nsIn K mainGlobals "word_at_plantexts" = some (some (.ref f31))) (l31 : K.lookup f31 = some ⟨oc31, od31, .func (PySem.W.fnOf "word_at" "word_at" (defArgs s31) (defBody s31) (defScope s31) .none kV31 dc31 pm31 an31 cd31 ct31), sl31⟩) (c31 : PySem.W.codeIn K cd31 "word_at" = true) (k31 : PySem.W.keepIn K (.ref f31) = true)
    (a32 : PySem.W.nsIn K mainGlobals "take_plan" = some (some (.ref f32))) (l32 : K.lookup f32 = some ⟨oc32, od32, .func (PySem.W.fnOf "take_plan" "take_plan" (defArgs s32) (defBody s32) (defScope s32) .none kV32 dc32 pm32 an32 cd32 ct32), sl32⟩) (c32 : PySem.W.codeIn K cd32 "take_plan" = true) (k32 : PySem.W.keepIn K (.ref f32) = true)
    (a33 : PySem.W.nsIn K mainGlobals "_law_cell" = some (some (.ref f33))) (l33 : K.lookup f33 = some ⟨oc33, od33, .func (PySem.W.fnOf "_law_cell" "_law_cell" (defArgs s33) (defBody s33) (defScope s33) .none kV33 dc33 pm33 an33 cd33 ct33), sl33⟩) (c33 : PySem.W.codeIn K cd33 "_law_cell" = true) (k33 : PySem.W.keepIn K (.ref f33) = true)
    (a34 : PySem.W.nsIn K mainGlobals "_law_kid" = some (some (.ref f34))) (l34 : K.lookup f34 = some ⟨oc34, od34, .func (PySem.W.fnOf "_law_kid" "_law_kid" (defArgs s34) (defBody s34) (defScope s34) .none kV34 dc34 pm34 an34 cd34 ct34), sl34⟩) (c34 : PySem.W.codeIn K cd34 "_law_kid" = true) (k34 : PySem.W.keepIn K (.ref f34) = true)
    (a35 : PySem.W.nsIn K mainGlobals "_law_footed" = some (some (.ref f35))) (l35 : K.lookup f35 = some ⟨oc35, od35, .func (PySem.W.fnOf "_law_footed" "_law_footed" (defArgs s35) (defBody s35) (defScope s35) .none kV35 dc35 pm35 an35 cd35 ct35), sl35⟩) (c35 : PySem.W.codeIn K cd35 "_law_footed" = true) (k35 : PySem.W.keepIn K (.ref f35) = true)
    (a36 : PySem.W.nsIn K mainGlobals "_law_drawn" = some (some (.ref f36))) (l36 : K.lookup f36 = some ⟨oc36, od36, .func (PySem.W.fnOf "_law_drawn" "_law_drawn" (defArgs s36) (defBody s36) (defScope s36) .none kV36 dc36 pm36 an36 cd36 ct36), sl36⟩) (c36 : PySem.W.codeIn K cd36 "_law_drawn" = true) (k36 : PySem.W.keepIn K (.ref f36) = true)
    (a37 : PySem.W.nsIn K mainGlobals "_law_book" = some (some (.ref f37))) (l37 : K.lookup f37 = some ⟨oc37, od37, .func (PySem.W.fnOf "_law_book" "_law_book" (defArgs s37) (defBody s37) (defScope s37) .none kV37 dc37 pm37 an37 cd37 ct37), sl37⟩) (c37 : PySem.W.codeIn K cd37 "_law_book" = true) (k37 : PySem.W.keepIn K (.ref f37) = true)
    (a38 : PySem.W.nsIn K mainGlobals "_law_pieces" = some (some (.ref f38))) (l38 : K.lookup f38 = some ⟨oc38, od38, .func (PySem.W.fnOf "_law_pieces" "_law_pieces" (defArgs s38) (defBody s38) (defScope s38) .none kV38 dc38 pm38 an38 cd38 ct38), sl38⟩) (c38 : PySem.W.codeIn K cd38 "_law_pieces" = true) (k38 : PySem.W.keepIn K (.ref f38) = true)
    (a39 : PySem.W.nsIn K mainGlobals "_law_called" = some (some (.ref f39))) (l39 : K.lookup f39 = some ⟨oc39, od39, .func (PySem.W.fnOf "_law_called" "_law_called" (defArgs s39) (defBody s39) (defScope s39) .none kV39 dc39 pm39 an39 cd39 ct39), sl39⟩) (c39 : PySem.W.codeIn K cd39 "_law_called" = true) (k39 : PySem.W.keepIn K (.ref f39) = true)
    (a40 : PySem.W.nsIn K mainGlobals "_law_takers" = some (some (.ref f40))) (l40 : K.lookup f40 = some ⟨oc40, od40, .func (PySem.W.fnOf "_law_takers" "_law_takers" (defArgs s40) (defBody s40) (defScope s40) .none kV40 dc40 pm40 an40 cd40 ct40), sl40⟩) (c40 : PySem.W.codeIn K cd40 "_law_takers" = true) (k40 : PySem.W.keepIn K (.ref f40) = true)
    (a41 : PySem.W.nsIn K mainGlobals "_law_plan" = some (some (.ref f41))) (l41 : K.lookup f41 = some ⟨oc41, od41, .func (PySem.W.fnOf "_law_plan" "_law_plan" (defArgs s41) (defBody s41) (defScope s41) .none kV41 dc41 pm41 an41 cd41 ct41), sl41⟩) (c41 : PySem.W.codeIn K cd41 "_law_plan" = true) (k41 : PySem.W.keepIn K (.ref f41) = true)
    (a42 : PySem.W.nsIn K mainGlobals "law" = some (some (.ref f42))) (l42 : K.lookup f42 = some ⟨oc42, od42, .func (PySem.W.fnOf "law" "law" (defArgs s42) (defBody s42) (defScope s42) .none kV42 dc42 pm42 an42 cd42 ct42), sl42⟩) (c42 : PySem.W.codeIn K cd42 "law" = true) (k42 : PySem.W.keepIn K (.ref f42) = true)
    (q_FIGURES_trees : PySem.W.nsIn K mainGlobals "FIGURES_trees" = some (some (Value.str (Str.ofString "0123456789") tk_FIGURES_trees)))
    (q_GREAT : PySem.W.nsIn K mainGlobals "GREAT" = some (some (Value.str (Str.ofString "ABCDEFGHIJKLMNOPQRSTUVWXYZ") tk_GREAT)))
    (q_LONGEST_NAME : PySem.W.nsIn K mainGlobals "LONGEST_NAME" = some (some (Value.int 24 tk_LONGEST_NAME)))
    (q_SMALL_trees : PySem.W.nsIn K mainGlobals "SMALL_trees" = some (some (Value.str (Str.ofString "abcdefghijklmnopqrstuvwxyz") tk_SMALL_trees)))
    (q_LONGEST_SIGN : PySem.W.nsIn K mainGlobals "LONGEST_SIGN" = some (some (Value.int 6 tk_LONGEST_SIGN)))
    (q_FIGURES_books : PySem.W.nsIn K mainGlobals "FIGURES_books" = some (some (Value.str (Str.ofString "0123456789") tk_FIGURES_books)))
    (q_SMALL_books : PySem.W.nsIn K mainGlobals "SMALL_books" = some (some (Value.str (Str.ofString "abcdefghijklmnopqrstuvwxyz") tk_SMALL_books)))
    (q_LONGEST_KEY : PySem.W.nsIn K mainGlobals "LONGEST_KEY" = some (some (Value.int 24 tk_LONGEST_KEY)))
    (q_MOST_WITHIN : PySem.W.nsIn K mainGlobals "MOST_WITHIN" = some (some (Value.int 12 tk_MOST_WITHIN)))
    (q_MOST_PIECES : PySem.W.nsIn K mainGlobals "MOST_PIECES" = some (some (Value.int 60 tk_MOST_PIECES)))
    (q_MOST_TREES : PySem.W.nsIn K mainGlobals "MOST_TREES" = some (some (Value.int 400 tk_MOST_TREES)))
    (q_MOST_KIDS : PySem.W.nsIn K mainGlobals "MOST_KIDS" = some (some (Value.int 8 tk_MOST_KIDS)))
    (q_KID_FIGURES : PySem.W.nsIn K mainGlobals "KID_FIGURES" = some (some (Value.str (Str.ofString "01234567") tk_KID_FIGURES)))
    (z_len : PySem.W.nsIn K mainGlobals "len" = some none)
    (z_enumerate : PySem.W.nsIn K mainGlobals "enumerate" = some none)
    (z_max : PySem.W.nsIn K mainGlobals "max" = some none)
    (z_tuple : PySem.W.nsIn K mainGlobals "tuple" = some none)
    (z_range : PySem.W.nsIn K mainGlobals "range" = some none)
    (z_str : PySem.W.nsIn K mainGlobals "str" = some none)
    (z_int : PySem.W.nsIn K mainGlobals "int" = some none)
    (z_dict : PySem.W.nsIn K mainGlobals "dict" = some none)
    (z_list : PySem.W.nsIn K mainGlobals "list" = some none)
    {fx_GraftError : Addr} (xa_GraftError : PySem.W.nsIn K mainGlobals "GraftError" = some (some (.ref fx_GraftError)))
    {fx_NoPlace : Addr} (xa_NoPlace : PySem.W.nsIn K mainGlobals "NoPlace" = some (some (.ref fx_NoPlace)))
    {fx_NoTree : Addr} (xa_NoTree : PySem.W.nsIn K mainGlobals "NoTree" = some (some (.ref fx_NoTree)))
    {fx_Twice : Addr} (xa_Twice : PySem.W.nsIn K mainGlobals "Twice" = some (some (.ref fx_Twice)))
    {fx_NoKey : Addr} (xa_NoKey : PySem.W.nsIn K mainGlobals "NoKey" = some (some (.ref fx_NoKey)))
    {fx_NoText : Addr} (xa_NoText : PySem.W.nsIn K mainGlobals "NoText" = some (some (.ref fx_NoText)))
    {fx_NoRow : Addr} (xa_NoRow : PySem.W.nsIn K mainGlobals "NoRow" = some (some (.ref fx_NoRow)))
    (gi : giB K fx_GraftError = true)
    {fi_NoPlace : Addr} {xod_NoPlace xan_NoPlace : Option Addr} {xsl_NoPlace : Array (Option Value)} {xoc_NoPlace xkV_NoPlace xdc_NoPlace xpm_NoPlace xcd_NoPlace xct_NoPlace : Value}
    (xi_NoPlace : PySem.W.findIn K (.ref fx_NoPlace) "__init__" = some (some (.ref fi_NoPlace))) (xl_NoPlace : K.lookup fi_NoPlace = some ⟨xoc_NoPlace, xod_NoPlace, .func (PySem.W.fnOf "__init__" "NoPlace.__init__" (defArgs si_NoPlace) (defBody si_NoPlace) (defScope si_NoPlace) .none xkV_NoPlace xdc_NoPlace xpm_NoPlace xan_NoPlace xcd_NoPlace xct_NoPlace), xsl_NoPlace⟩) (xc_NoPlace : PySem.W.codeIn K xcd_NoPlace "NoPlace.__init__" = true) (xk_NoPlace : PySem.W.keepIn K (.ref fi_NoPlace) = true)
    {xn_NoPlace xq_NoPlace : Str} {xN_NoPlace : Addr} {xbs_NoPlace xbm_NoPlace : List Value} {xsn_NoPlace : List Str} {xsu_NoPlace : List Value} {xab_NoPlace : Bool} {xco_NoPlace : Option Bool} {xdd_NoPlace : Option Addr} {x0_NoPlace x1_NoPlace x2_NoPlace x3_NoPlace x5_NoPlace : Option Value}
    (xe_NoPlace : K.lookup fx_NoPlace = some (excClassObj xn_NoPlace xq_NoPlace fx_NoPlace xN_NoPlace xbs_NoPlace xbm_NoPlace true xsn_NoPlace xsu_NoPlace xab_NoPlace xco_NoPlace xdd_NoPlace x0_NoPlace x1_NoPlace x2_NoPlace x3_NoPlace x5_NoPlace "ValueError.__new__")) (xr_NoPlace : PySem.HandSPX.refsVE xbm_NoPlace = true) (xo_NoPlace : oeB K fx_NoPlace fi_NoPlace ["place"] = true) (xv_NoPlace : cvK K "NoPlace" = .ref fx_NoPlace)
    {fi_NoText : Addr} {xod_NoText xan_NoText : Option Addr} {xsl_NoText : Array (Option Value)} {xoc_NoText xkV_NoText xdc_NoText xpm_NoText xcd_NoText xct_NoText : Value}
    (xi_NoText : PySem.W.findIn K (.ref fx_NoText) "__init__" = some (some (.ref fi_NoText))) (xl_NoText : K.lookup fi_NoText = some ⟨xoc_NoText, xod_NoText, .func (PySem.W.fnOf "__init__" "NoText.__init__" (defArgs si_NoText) (defBody si_NoText) (defScope si_NoText) .none xkV_NoText xdc_NoText xpm_NoText xan_NoText xcd_NoText xct_NoText), xsl_NoText⟩) (xc_NoText : PySem.W.codeIn K xcd_NoText "NoText.__init__" = true) (xk_NoText : PySem.W.keepIn K (.ref fi_NoText) = true)
    {xn_NoText xq_NoText : Str} {xN_NoText : Addr} {xbs_NoText xbm_NoText : List Value} {xsn_NoText : List Str} {xsu_NoText : List Value} {xab_NoText : Bool} {xco_NoText : Option Bool} {xdd_NoText : Option Addr} {x0_NoText x1_NoText x2_NoText x3_NoText x5_NoText : Option Value}
    (xe_NoText : K.lookup fx_NoText = some (excClassObj xn_NoText xq_NoText fx_NoText xN_NoText xbs_NoText xbm_NoText true xsn_NoText xsu_NoText xab_NoText xco_NoText xdd_NoText x0_NoText x1_NoText x2_NoText x3_NoText x5_NoText "ValueError.__new__")) (xr_NoText : PySem.HandSPX.refsVE xbm_NoText = true) (xo_NoText : oeB K fx_NoText fi_NoText ["at"] = true) (xv_NoText : cvK K "NoText" = .ref fx_NoText)
    {fi_NoKey : Addr} {xod_NoKey xan_NoKey : Option Addr} {xsl_NoKey : Array (Option Value)} {xoc_NoKey xkV_NoKey xdc_NoKey xpm_NoKey xcd_NoKey xct_NoKey : Value}
    (xi_NoKey : PySem.W.findIn K (.ref fx_NoKey) "__init__" = some (some (.ref fi_NoKey))) (xl_NoKey : K.lookup fi_NoKey = some ⟨xoc_NoKey, xod_NoKey, .func (PySem.W.fnOf "__init__" "NoKey.__init__" (defArgs si_NoKey) (defBody si_NoKey) (defScope si_NoKey) .none xkV_NoKey xdc_NoKey xpm_NoKey xan_NoKey xcd_NoKey xct_NoKey), xsl_NoKey⟩) (xc_NoKey : PySem.W.codeIn K xcd_NoKey "NoKey.__init__" = true) (xk_NoKey : PySem.W.keepIn K (.ref fi_NoKey) = true)
    {xn_NoKey xq_NoKey : Str} {xN_NoKey : Addr} {xbs_NoKey xbm_NoKey : List Value} {xsn_NoKey : List Str} {xsu_NoKey : List Value} {xab_NoKey : Bool} {xco_NoKey : Option Bool} {xdd_NoKey : Option Addr} {x0_NoKey x1_NoKey x2_NoKey x3_NoKey x5_NoKey : Option Value}
    (xe_NoKey : K.lookup fx_NoKey = some (excClassObj xn_NoKey xq_NoKey fx_NoKey xN_NoKey xbs_NoKey xbm_NoKey true xsn_NoKey xsu_NoKey xab_NoKey xco_NoKey xdd_NoKey x0_NoKey x1_NoKey x2_NoKey x3_NoKey x5_NoKey "ValueError.__new__")) (xr_NoKey : PySem.HandSPX.refsVE xbm_NoKey = true) (xo_NoKey : oeB K fx_NoKey fi_NoKey ["number"] = true) (xv_NoKey : cvK K "NoKey" = .ref fx_NoKey)
    {fi_Twice : Addr} {xod_Twice xan_Twice : Option Addr} {xsl_Twice : Array (Option Value)} {xoc_Twice xkV_Twice xdc_Twice xpm_Twice xcd_Twice xct_Twice : Value}
    (xi_Twice : PySem.W.findIn K (.ref fx_Twice) "__init__" = some (some (.ref fi_Twice))) (xl_Twice : K.lookup fi_Twice = some ⟨xoc_Twice, xod_Twice, .func (PySem.W.fnOf "__init__" "Twice.__init__" (defArgs si_Twice) (defBody si_Twice) (defScope si_Twice) .none xkV_Twice xdc_Twice xpm_Twice xan_Twice xcd_Twice xct_Twice), xsl_Twice⟩) (xc_Twice : PySem.W.codeIn K xcd_Twice "Twice.__init__" = true) (xk_Twice : PySem.W.keepIn K (.ref fi_Twice) = true)
    {xn_Twice xq_Twice : Str} {xN_Twice : Addr} {xbs_Twice xbm_Twice : List Value} {xsn_Twice : List Str} {xsu_Twice : List Value} {xab_Twice : Bool} {xco_Twice : Option Bool} {xdd_Twice : Option Addr} {x0_Twice x1_Twice x2_Twice x3_Twice x5_Twice : Option Value}
    (xe_Twice : K.lookup fx_Twice = some (excClassObj xn_Twice xq_Twice fx_Twice xN_Twice xbs_Twice xbm_Twice true xsn_Twice xsu_Twice xab_Twice xco_Twice xdd_Twice x0_Twice x1_Twice x2_Twice x3_Twice x5_Twice "ValueError.__new__")) (xr_Twice : PySem.HandSPX.refsVE xbm_Twice = true) (xo_Twice : oeB K fx_Twice fi_Twice ["key"] = true) (xv_Twice : cvK K "Twice" = .ref fx_Twice)
    {fi_NoTree : Addr} {xod_NoTree xan_NoTree : Option Addr} {xsl_NoTree : Array (Option Value)} {xoc_NoTree xkV_NoTree xdc_NoTree xpm_NoTree xcd_NoTree xct_NoTree : Value}
    (xi_NoTree : PySem.W.findIn K (.ref fx_NoTree) "__init__" = some (some (.ref fi_NoTree))) (xl_NoTree : K.lookup fi_NoTree = some ⟨xoc_NoTree, xod_NoTree, .func (PySem.W.fnOf "__init__" "NoTree.__init__" (defArgs si_NoTree) (defBody si_NoTree) (defScope si_NoTree) .none xkV_NoTree xdc_NoTree xpm_NoTree xan_NoTree xcd_NoTree xct_NoTree), xsl_NoTree⟩) (xc_NoTree : PySem.W.codeIn K xcd_NoTree "NoTree.__init__" = true) (xk_NoTree : PySem.W.keepIn K (.ref fi_NoTree) = true)
    {xn_NoTree xq_NoTree : Str} {xN_NoTree : Addr} {xbs_NoTree xbm_NoTree : List Value} {xsn_NoTree : List Str} {xsu_NoTree : List Value} {xab_NoTree : Bool} {xco_NoTree : Option Bool} {xdd_NoTree : Option Addr} {x0_NoTree x1_NoTree x2_NoTree x3_NoTree x5_NoTree : Option Value}
    (xe_NoTree : K.lookup fx_NoTree = some (excClassObj xn_NoTree xq_NoTree fx_NoTree xN_NoTree xbs_NoTree xbm_NoTree true xsn_NoTree xsu_NoTree xab_NoTree xco_NoTree xdd_NoTree x0_NoTree x1_NoTree x2_NoTree x3_NoTree x5_NoTree "ValueError.__new__")) (xr_NoTree : PySem.HandSPX.refsVE xbm_NoTree = true) (xo_NoTree : oeB K fx_NoTree fi_NoTree ["key", "word"] = true) (xv_NoTree : cvK K "NoTree" = .ref fx_NoTree)
    {fi_NoRow : Addr} {xod_NoRow xan_NoRow : Option Addr} {xsl_NoRow : Array (Option Value)} {xoc_NoRow xkV_NoRow xdc_NoRow xpm_NoRow xcd_NoRow xct_NoRow : Value}
    (xi_NoRow : PySem.W.findIn K (.ref fx_NoRow) "__init__" = some (some (.ref fi_NoRow))) (xl_NoRow : K.lookup fi_NoRow = some ⟨xoc_NoRow, xod_NoRow, .func (PySem.W.fnOf "__init__" "NoRow.__init__" (defArgs si_NoRow) (defBody si_NoRow) (defScope si_NoRow) .none xkV_NoRow xdc_NoRow xpm_NoRow xan_NoRow xcd_NoRow xct_NoRow), xsl_NoRow⟩) (xc_NoRow : PySem.W.codeIn K xcd_NoRow "NoRow.__init__" = true) (xk_NoRow : PySem.W.keepIn K (.ref fi_NoRow) = true)
    {xn_NoRow xq_NoRow : Str} {xN_NoRow : Addr} {xbs_NoRow xbm_NoRow : List Value} {xsn_NoRow : List Str} {xsu_NoRow : List Value} {xab_NoRow : Bool} {xco_NoRow : Option Bool} {xdd_NoRow : Option Addr} {x0_NoRow x1_NoRow x2_NoRow x3_NoRow x5_NoRow : Option Value}
    (xe_NoRow : K.lookup fx_NoRow = some (excClassObj xn_NoRow xq_NoRow fx_NoRow xN_NoRow xbs_NoRow xbm_NoRow true xsn_NoRow xsu_NoRow xab_NoRow xco_NoRow xdd_NoRow x0_NoRow x1_NoRow x2_NoRow x3_NoRow x5_NoRow "ValueError.__new__")) (xr_NoRow : PySem.HandSPX.refsVE xbm_NoRow = true) (xo_NoRow : oeB K fx_NoRow fi_NoRow ["row"] = true) (xv_NoRow : cvK K "NoRow" = .ref fx_NoRow)
    (y0 : tryB K (.ref fx_NoText) ["NoPlace", "NoText", "NoKey", "Twice", "NoTree", "NoRow"] ["NoText"] = true)
    : ∃ T : Top K mg, T.a42 = fa ∧ ∀ (s : Shared) (v : Value), BindsTo s T.d42 ⟨[v], []⟩ [("script", v)] := by
  have e := hfa.symm.trans (PySem.W.mg_of X G a42)
  have e' : f42 = fa := by cases e; rfl
  have F0 := fun_mk (st := s0) l0 c0 k0
  have b0 := F0.binds (ps := ["text"]) fun _ _ _ _ _ _ us hl => match us, hl with | [_], _ => rfl
  have F1 := fun_mk (st := s1) l1 c1 k1
  have b1 := F1.binds (ps := ["text"]) fun _ _ _ _ _ _ us hl => match us, hl with | [_], _ => rfl
  have F2 := fun_mk (st := s2) l2 c2 k2
  have b2 := F2.binds (ps := ["tree"]) fun _ _ _ _ _ _ us hl => match us, hl with | [_], _ => rfl
  have F3 := fun_mk (st := s3) l3 c3 k3
  have b3 := F3.binds (ps := ["tree"]) fun _ _ _ _ _ _ us hl => match us, hl with | [_], _ => rfl
  have F4 := fun_mk (st := s4) l4 c4 k4
  have b4 := F4.binds (ps := ["tree", "place"]) fun _ _ _ _ _ _ us hl => match us, hl with | [_, _], _ => rfl
  have F5 := fun_mk (st := s5) l5 c5 k5
  have b5 := F5.binds (ps := ["tree"]) fun _ _ _ _ _ _ us hl => match us, hl with | [_], _ => rfl
  have F6 := fun_mk (st := s6) l6 c6 k6
  have b6 := F6.binds (ps := ["text"]) fun _ _ _ _ _ _ us hl => match us, hl with | [_], _ => rfl
  have F7 := fun_mk (st := s7) l7 c7 k7
  have b7 := F7.binds (ps := ["tree"]) fun _ _ _ _ _ _ us hl => match us, hl with | [_], _ => rfl
  have F8 := fun_mk (st := s8) l8 c8 k8
  have b8 := F8.binds (ps := ["tree"]) fun _ _ _ _ _ _ us hl => match us, hl with | [_], _ => rfl
  have F9 := fun_mk (st := s9) l9 c9 k9
  have b9 := F9.binds (ps := ["tree"]) fun _ _ _ _ _ _ us hl => match us, hl with | [_], _ => rfl
  have F10 := fun_mk (st := s10) l10 c10 k10
  have b10 := F10.binds (ps := ["tree"]) fun _ _ _ _ _ _ us hl => match us, hl with | [_], _ => rfl
  have F11 := fun_mk (st := s11) l11 c11 k11
  have b11 := F11.binds (ps := ["top", "trees"]) fun _ _ _ _ _ _ us hl => match us, hl with | [_, _], _ => rfl
  have F12 := fun_mk (st := s12) l12 c12 k12
  have b12 := F12.binds (ps := ["takes"]) fun _ _ _ _ _ _ us hl => match us, hl with | [_], _ => rfl
  have F13 := fun_mk (st := s13) l13 c13 k13
  have b13 := F13.binds (ps := ["tree"]) fun _ _ _ _ _ _ us hl => match us, hl with | [_], _ => rfl
  have F14 := fun_mk (st := s14) l14 c14 k14
  have b14 := F14.binds (ps := ["tree"]) fun _ _ _ _ _ _ us hl => match us, hl with | [_], _ => rfl
  have F15 := fun_mk (st := s15) l15 c15 k15
  have b15 := F15.binds (ps := ["words", "at"]) fun _ _ _ _ _ _ us hl => match us, hl with | [_, _], _ => rfl
  have F16 := fun_mk (st := s16) l16 c16 k16
  have b16 := F16.binds (ps := ["word"]) fun _ _ _ _ _ _ us hl => match us, hl with | [_], _ => rfl
  have F17 := fun_mk (st := s17) l17 c17 k17
  have b17 := F17.binds (ps := ["words", "at"]) fun _ _ _ _ _ _ us hl => match us, hl with | [_, _], _ => rfl
  have F18 := fun_mk (st := s18) l18 c18 k18
  have b18 := F18.binds (ps := ["words", "at"]) fun _ _ _ _ _ _ us hl => match us, hl with | [_, _], _ => rfl
  have F19 := fun_mk (st := s19) l19 c19 k19
  have b19 := F19.binds (ps := ["words", "at"]) fun _ _ _ _ _ _ us hl => match us, hl with | [_, _], _ => rfl
  have F20 := fun_mk (st := s20) l20 c20 k20
  have b20 := F20.binds (ps := ["text"]) fun _ _ _ _ _ _ us hl => match us, hl with | [_], _ => rfl
  have F21 := fun_mk (st := s21) l21 c21 k21
  have b21 := F21.binds (ps := ["book"]) fun _ _ _ _ _ _ us hl => match us, hl with | [_], _ => rfl
  have F22 := fun_mk (st := s22) l22 c22 k22
  have b22 := F22.binds (ps := ["text"]) fun _ _ _ _ _ _ us hl => match us, hl with | [_], _ => rfl
  have F23 := fun_mk (st := s23) l23 c23 k23
  have b23 := F23.binds (ps := ["text", "number"]) fun _ _ _ _ _ _ us hl => match us, hl with | [_, _], _ => rfl
  have F24 := fun_mk (st := s24) l24 c24 k24
  have b24 := F24.binds (ps := ["rows"]) fun _ _ _ _ _ _ us hl => match us, hl with | [_], _ => rfl
  have F25 := fun_mk (st := s25) l25 c25 k25
  have b25 := F25.binds (ps := ["piece"]) fun _ _ _ _ _ _ us hl => match us, hl with | [_], _ => rfl
  have F26 := fun_mk (st := s26) l26 c26 k26
  have b26 := F26.binds (ps := ["book", "piece"]) fun _ _ _ _ _ _ us hl => match us, hl with | [_, _], _ => rfl
  have F27 := fun_mk (st := s27) l27 c27 k27
  have b27 := F27.binds (ps := ["place"]) fun _ _ _ _ _ _ us hl => match us, hl with | [_], _ => rfl
  have F28 := fun_mk (st := s28) l28 c28 k28
  have b28 := F28.binds (ps := ["plan"]) fun _ _ _ _ _ _ us hl => match us, hl with | [_], _ => rfl
  have F29 := fun_mk (st := s29) l29 c29 k29
  have b29 := F29.binds (ps := ["plan"]) fun _ _ _ _ _ _ us hl => match us, hl with | [_], _ => rfl
  have F30 := fun_mk (st := s30) l30 c30 k30
  have b30 := F30.binds (ps := ["word"]) fun _ _ _ _ _ _ us hl => match us, hl with | [_], _ => rfl
  have F31 := fun_mk (st := s31) l31 c31 k31
  have b31 := F31.binds (ps := ["words", "at"]) fun _ _ _ _ _ _ us hl => match us, hl with | [_, _], _ => rfl
  have F32 := fun_mk (st := s32) l32 c32 k32
  have b32 := F32.binds (ps := ["words", "at"]) fun _ _ _ _ _ _ us hl => match us, hl with | [_, _], _ => rfl
  have F33 := fun_mk (st := s33) l33 c33 k33
  have b33 := F33.binds (ps := ["state"]) fun _ _ _ _ _ _ us hl => match us, hl with | [_], _ => rfl
  have F34 := fun_mk (st := s34) l34 c34 k34
  have b34 := F34.binds (ps := ["state", "left"]) fun _ _ _ _ _ _ us hl => match us, hl with | [_, _], _ => rfl
  have F35 := fun_mk (st := s35) l35 c35 k35
  have b35 := F35.binds (ps := ["tree", "foot", "cell"]) fun _ _ _ _ _ _ us hl => match us, hl with | [_, _, _], _ => rfl
  have F36 := fun_mk (st := s36) l36 c36 k36
  have b36 := F36.binds (ps := ["state", "left"]) fun _ _ _ _ _ _ us hl => match us, hl with | [_, _], _ => rfl
  have F37 := fun_mk (st := s37) l37 c37 k37
  have b37 := F37.binds (ps := ["state", "many", "left"]) fun _ _ _ _ _ _ us hl => match us, hl with | [_, _, _], _ => rfl
  have F38 := fun_mk (st := s38) l38 c38 k38
  have b38 := F38.binds (ps := ["tree", "place"]) fun _ _ _ _ _ _ us hl => match us, hl with | [_, _], _ => rfl
  have F39 := fun_mk (st := s39) l39 c39 k39
  have b39 := F39.binds (ps := ["tree"]) fun _ _ _ _ _ _ us hl => match us, hl with | [_], _ => rfl
  have F40 := fun_mk (st := s40) l40 c40 k40
  have b40 := F40.binds (ps := ["book", "piece"]) fun _ _ _ _ _ _ us hl => match us, hl with | [_, _], _ => rfl
  have F41 := fun_mk (st := s41) l41 c41 k41
  have b41 := F41.binds (ps := ["state", "book", "key", "left"]) fun _ _ _ _ _ _ us hl => match us, hl with | [_, _, _, _], _ => rfl
  have F42 := fun_mk (st := s42) l42 c42 k42
  have b42 := F42.binds (ps := ["script"]) fun _ _ _ _ _ _ us hl => match us, hl with | [_], _ => rfl
  have xF_NoPlace := fun_mk (st := si_NoPlace) xl_NoPlace xc_NoPlace xk_NoPlace
  have xb_NoPlace := xF_NoPlace.binds (ps := ["self", "place"]) fun _ _ _ _ _ _ us hl => match us, hl with | [_, _], _ => rfl
  obtain ⟨xs1_NoPlace, xs2_NoPlace, xs3_NoPlace, xs4_NoPlace, _⟩ := oeB_ok xo_NoPlace
  have xF_NoText := fun_mk (st := si_NoText) xl_NoText xc_NoText xk_NoText
  have xb_NoText := xF_NoText.binds (ps := ["self", "at"]) fun _ _ _ _ _ _ us hl => match us, hl with | [_, _], _ => rfl
  obtain ⟨xs1_NoText, xs2_NoText, xs3_NoText, xs4_NoText, _⟩ := oeB_ok xo_NoText
  have xF_NoKey := fun_mk (st := si_NoKey) xl_NoKey xc_NoKey xk_NoKey
  have xb_NoKey := xF_NoKey.binds (ps := ["self", "number"]) fun _ _ _ _ _ _ us hl => match us, hl with | [_, _], _ => rfl
  obtain ⟨xs1_NoKey, xs2_NoKey, xs3_NoKey, xs4_NoKey, _⟩ := oeB_ok xo_NoKey
  have xF_Twice := fun_mk (st := si_Twice) xl_Twice xc_Twice xk_Twice
  have xb_Twice := xF_Twice.binds (ps := ["self", "key"]) fun _ _ _ _ _ _ us hl => match us, hl with | [_, _], _ => rfl
  obtain ⟨xs1_Twice, xs2_Twice, xs3_Twice, xs4_Twice, _⟩ := oeB_ok xo_Twice
  have xF_NoTree := fun_mk (st := si_NoTree) xl_NoTree xc_NoTree xk_NoTree
  have xb_NoTree := xF_NoTree.binds (ps := ["self", "key", "word"]) fun _ _ _ _ _ _ us hl => match us, hl with | [_, _, _], _ => rfl
  obtain ⟨xs1_NoTree, xs2_NoTree, xs3_NoTree, xs4_NoTree, _⟩ := oeB_ok xo_NoTree
  have xF_NoRow := fun_mk (st := si_NoRow) xl_NoRow xc_NoRow xk_NoRow
  have xb_NoRow := xF_NoRow.binds (ps := ["self", "row"]) fun _ _ _ _ _ _ us hl => match us, hl with | [_, _], _ => rfl
  obtain ⟨xs1_NoRow, xs2_NoRow, xs3_NoRow, xs4_NoRow, _⟩ := oeB_ok xo_NoRow
  exact ⟨{ a0 := f0, d0 := _, F0 := F0, b0 := b0, g0 := PySem.W.mg_of X G a0, a1 := f1, d1 := _, F1 := F1, b1 := b1, g1 := PySem.W.mg_of X G a1, a2 := f2, d2 := _, F2 := F2, b2 := b2, g2 := PySem.W.mg_of X G a2, a3 := f3, d3 := _, F3 := F3, b3 := b3, g3 := PySem.W.mg_of X G a3, a4 := f4, d4 := _, F4 := F4, b4 := b4, g4 := PySem.W.mg_of X G a4, a5 := f5, d5 := _, F5 := F5, b5 := b5, g5 := PySem.W.mg_of X G a5, a6 := f6, d6 := _, F6 := F6, b6 := b6, g6 := PySem.W.mg_of X G a6, a7 := f7, d7 := _, F7 := F7, b7 := b7, g7 := PySem.W.mg_of X G a7, a8 := f8, d8 := _, F8 := F8, b8 := b8, g8 := PySem.W.mg_of X G a8, a9 := f9, d9 := _, F9 := F9, b9 := b9, g9 := PySem.W.mg_of X G a9, a10 := f10, d10 := _, F10 := F10, b10 := b10, g10 := PySem.W.mg_of X G a10, a11 := f11, d11 := _, F11 := F11, b11 := b11, g11 := PySem.W.mg_of X G a11, a12 := f12, d12 := _, F12 := F12, b12 := b12, g12 := PySem.W.mg_of X G a12, a13 := f13, d13 := _, F13 := F13, b13 := b13, g13 := PySem.W.mg_of X G a13, a14 := f14, d14 := _, F14 := F14, b14 := b14, g14 := PySem.W.mg_of X G a14, a15 := f15, d15 := _, F15 := F15, b15 := b15, g15 := PySem.W.mg_of X G a15, a16 := f16, d16 := _, F16 := F16, b16 := b16, g16 := PySem.W.mg_of X G a16, a17 := f17, d17 := _, F17 := F17, b17 := b17, g17 := PySem.W.mg_of X G a17, a18 := f18, d18 := _, F18 := F18, b18 := b18, g18 := PySem.W.mg_of X G a18, a19 := f19, d19 := _, F19 := F19, b19 := b19, g19 := PySem.W.mg_of X G a19, a20 := f20, d20 := _, F20 := F20, b20 := b20, g20 := PySem.W.mg_of X G a20, a21 := f21, d21 := _, F21 := F21, b21 := b21, g21 := PySem.W.mg_of X G a21, a22 := f22, d22 := _, F22 := F22, b22 := b22, g22 := PySem.W.mg_of X G a22, a23 := f23, d23 := _, F23 := F23, b23 := b23, g23 := PySem.W.mg_of X G a23, a24 := f24, d24 := _, F24 := F24, b24 := b24, g24 := PySem.W.mg_of X G a24, a25 := f25, d25 := _, F25 := F25, b25 := b25, g25 := PySem.W.mg_of X G a25, a26 := f26, d26 := _, F26 := F26, b26 := b26, g26 := PySem.W.mg_of X G a26, a27 := f27, d27 := _, F27 := F27, b27 := b27, g27 := PySem.W.mg_of X G a27, a28 := f28, d28 := _, F28 := F28, b28 := b28, g28 := PySem.W.mg_of X G a28, a29 := f29, d29 := _, F29 := F29, b29 := b29, g29 := PySem.W.mg_of X G a29, a30 := f30, d30 := _, F30 := F30, b30 := b30, g30 := PySem.W.mg_of X G a30, a31 := f31, d31 := _, F31 := F31, b31 := b31, g31 := PySem.W.mg_of X G a31, a32 := f32, d32 := _, F32 := F32, b32 := b32, g32 := PySem.W.mg_of X G a32, a33 := f33, d33 := _, F33 := F33, b33 := b33, g33 := PySem.W.mg_of X G a33, a34 := f34, d34 := _, F34 := F34, b34 := b34, g34 := PySem.W.mg_of X G a34, a35 := f35, d35 := _, F35 := F35, b35 := b35, g35 := PySem.W.mg_of X G a35, a36 := f36, d36 := _, F36 := F36, b36 := b36, g36 := PySem.W.mg_of X G a36, a37 := f37, d37 := _, F37 := F37, b37 := b37, g37 := PySem.W.mg_of X G a37, a38 := f38, d38 := _, F38 := F38, b38 := b38, g38 := PySem.W.mg_of X G a38, a39 := f39, d39 := _, F39 := F39, b39 := b39, g39 := PySem.W.mg_of X G a39, a40 := f40, d40 := _, F40 := F40, b40 := b40, g40 := PySem.W.mg_of X G a40, a41 := f41, d41 := _, F41 := F41, b41 := b41, g41 := PySem.W.mg_of X G a41, a42 := f42, d42 := _, F42 := F42, b42 := b42, g42 := PySem.W.mg_of X G a42, c_FIGURES_trees := ⟨_, PySem.W.mg_of X G q_FIGURES_trees⟩, c_GREAT := ⟨_, PySem.W.mg_of X G q_GREAT⟩, c_LONGEST_NAME := ⟨_, PySem.W.mg_of X G q_LONGEST_NAME⟩, c_SMALL_trees := ⟨_, PySem.W.mg_of X G q_SMALL_trees⟩, c_LONGEST_SIGN := ⟨_, PySem.W.mg_of X G q_LONGEST_SIGN⟩, c_FIGURES_books := ⟨_, PySem.W.mg_of X G q_FIGURES_books⟩, c_SMALL_books := ⟨_, PySem.W.mg_of X G q_SMALL_books⟩, c_LONGEST_KEY := ⟨_, PySem.W.mg_of X G q_LONGEST_KEY⟩, c_MOST_WITHIN := ⟨_, PySem.W.mg_of X G q_MOST_WITHIN⟩, c_MOST_PIECES := ⟨_, PySem.W.mg_of X G q_MOST_PIECES⟩, c_MOST_TREES := ⟨_, PySem.W.mg_of X G q_MOST_TREES⟩, c_MOST_KIDS := ⟨_, PySem.W.mg_of X G q_MOST_KIDS⟩, c_KID_FIGURES := ⟨_, PySem.W.mg_of X G q_KID_FIGURES⟩, m_len := PySem.W.mg_none_of X G z_len, m_enumerate := PySem.W.mg_none_of X G z_enumerate, m_max := PySem.W.mg_none_of X G z_max, m_tuple := PySem.W.mg_none_of X G z_tuple, m_range := PySem.W.mg_none_of X G z_range, m_str := PySem.W.mg_none_of X G z_str, m_int := PySem.W.mg_none_of X G z_int, m_dict := PySem.W.mg_none_of X G z_dict, m_list := PySem.W.mg_none_of X G z_list, xA_GraftError := fx_GraftError, xg_GraftError := PySem.W.mg_of X G xa_GraftError, xA_NoPlace := fx_NoPlace, xg_NoPlace := PySem.W.mg_of X G xa_NoPlace, xA_NoTree := fx_NoTree, xg_NoTree := PySem.W.mg_of X G xa_NoTree, xA_Twice := fx_Twice, xg_Twice := PySem.W.mg_of X G xa_Twice, xA_NoKey := fx_NoKey, xg_NoKey := PySem.W.mg_of X G xa_NoKey, xA_NoText := fx_NoText, xg_NoText := PySem.W.mg_of X G xa_NoText, xA_NoRow := fx_NoRow, xg_NoRow := PySem.W.mg_of X G xa_NoRow, gi := gi, xI_NoPlace := fi_NoPlace, xd_NoPlace := _, xF_NoPlace := xF_NoPlace, xb_NoPlace := xb_NoPlace, xo_NoPlace := xo_NoPlace, xv_NoPlace := xv_NoPlace, xT_NoPlace := ⟨⟨_, _, _, _, _, _, _, _, _, _, _, _, _, _, _, xe_NoPlace, xr_NoPlace⟩, xs1_NoPlace, xs2_NoPlace, xs3_NoPlace, xs4_NoPlace⟩, xI_NoText := fi_NoText, xd_NoText := _, xF_NoText := xF_NoText, xb_NoText := xb_NoText, xo_NoText := xo_NoText, xv_NoText := xv_NoText, xT_NoText := ⟨⟨_, _, _, _, _, _, _, _, _, _, _, _, _, _, _, xe_NoText, xr_NoText⟩, xs1_NoText, xs2_NoText, xs3_NoText, xs4_NoText⟩, xI_NoKey := fi_NoKey, xd_NoKey := _, xF_NoKey := xF_NoKey, xb_NoKey := xb_NoKey, xo_NoKey := xo_NoKey, xv_NoKey := xv_NoKey, xT_NoKey := ⟨⟨_, _, _, _, _, _, _, _, _, _, _, _, _, _, _, xe_NoKey, xr_NoKey⟩, xs1_NoKey, xs2_NoKey, xs3_NoKey, xs4_NoKey⟩, xI_Twice := fi_Twice, xd_Twice := _, xF_Twice := xF_Twice, xb_Twice := xb_Twice, xo_Twice := xo_Twice, xv_Twice := xv_Twice, xT_Twice := ⟨⟨_, _, _, _, _, _, _, _, _, _, _, _, _, _, _, xe_Twice, xr_Twice⟩, xs1_Twice, xs2_Twice, xs3_Twice, xs4_Twice⟩, xI_NoTree := fi_NoTree, xd_NoTree := _, xF_NoTree := xF_NoTree, xb_NoTree := xb_NoTree, xo_NoTree := xo_NoTree, xv_NoTree := xv_NoTree, xT_NoTree := ⟨⟨_, _, _, _, _, _, _, _, _, _, _, _, _, _, _, xe_NoTree, xr_NoTree⟩, xs1_NoTree, xs2_NoTree, xs3_NoTree, xs4_NoTree⟩, xI_NoRow := fi_NoRow, xd_NoRow := _, xF_NoRow := xF_NoRow, xb_NoRow := xb_NoRow, xo_NoRow := xo_NoRow, xv_NoRow := xv_NoRow, xT_NoRow := ⟨⟨_, _, _, _, _, _, _, _, _, _, _, _, _, _, _, xe_NoRow, xr_NoRow⟩, xs1_NoRow, xs2_NoRow, xs3_NoRow, xs4_NoRow⟩, y0 := y0 }, e', fun s v => .of_eq rfl⟩
end Wk20
open PySem PySem.W PyProof.Rows
set_option maxRecDepth 100000 in
set_option maxHeartbeats 0 in
theorem PySem.Challenge.cw_graftsay_k20_askers_own_holds : PySem.Challenge.rw_graftsay_k20_askers_own.Holds := by
  w_on; o_law; k_head; (case hw => w_witness2)
  k_fill
  refine L2.walk_of (l := PySem.Challenge.rw_graftsay_k20_askers_own) (n := 63) (k := 200) (x := "script") (CX := fun w => L2.CX PySem.Challenge.rw_graftsay_k20_askers_own.prog w) (sp := fun w => GS.spFv ⟨_, w⟩ 1 (Wk20.fs 200 42)) rfl (by decide) rfl ⟨rfl, by decide, by decide⟩ (fun w h Y => PySem.W.kIn_of Y) ?F (fun _ _ a ns hl _ hS => (Wk20.law_true ns hl).elim fun outs e => GS.law_sp hS e) (fun _ _ _ _ _ h => by obtain ⟨_, _, _, _, _, _, _, _, _, _, _, _, z⟩ := h; exact z)
  case F =>
    intro w mg fa h KX G hmg
    refine' (Wk20.top_mk KX G hmg ?a0 ?l0 ?c0 ?k0 ?a1 ?l1 ?c1 ?k1 ?a2 ?l2 ?c2 ?k2 ?a3 ?l3 ?c3 ?k3 ?a4 ?l4 ?c4 ?k4 ?a5 ?l5 ?c5 ?k5 ?a6 ?l6 ?c6 ?k6 ?a7 ?l7 ?c7 ?k7 ?a8 ?l8 ?c8 ?k8 ?a9 ?l9 ?c9 ?k9 ?a10 ?l10 ?c10 ?k10 ?a11 ?l11 ?c11 ?k11 ?a12 ?l12 ?c12 ?k12 ?a13 ?l13 ?c13 ?k13 ?a14 ?l14 ?c14 ?k14 ?a15 ?l15 ?c15 ?k15 ?a16 ?l16 ?c16 ?k16 ?a17 ?l17 ?c17 ?k17 ?a18 ?l18 ?c18 ?k18 ?a19 ?l19 ?c19 ?k19 ?a20 ?l20 ?c20 ?k20 ?a21 ?l21 ?c21 ?k21 ?a22 ?l22 ?c22 ?k22 ?a23 ?l23 ?c23 ?k23 ?a24 ?l24 ?c24 ?k24 ?a25 ?l25 ?c25 ?k25 ?a26 ?l26 ?c26 ?k26 ?a27 ?l27 ?c27 ?k27 ?a28 ?l28 ?c28 ?k28 ?a29 ?l29 ?c29 ?k29 ?a30 ?l30 ?c30 ?k30 ?a31 ?l31 ?c31 ?k31 ?a32 ?l32 ?c32 ?k32 ?a33 ?l33 ?c33 ?k33 ?a34 ?l34 ?c34 ?k34 ?a35 ?l35 ?c35 ?k35 ?a36 ?l36 ?c36 ?k36 ?a37 ?l37 ?c37 ?k37 ?a38 ?l38 ?c38 ?k38 ?a39 ?l39 ?c39 ?k39 ?a40 ?l40 ?c40 ?k40 ?a41 ?l41 ?c41 ?k41 ?a42 ?l42 ?c42 ?k42 ?q_FIGURES_trees ?q_GREAT ?q_LONGEST_NAME ?q_SMALL_trees ?q_LONGEST_SIGN ?q_FIGURES_books ?q_SMALL_books ?q_LONGEST_KEY ?q_MOST_WITHIN ?q_MOST_PIECES ?q_MOST_TREES ?q_MOST_KIDS ?q_KID_FIGURES ?z_len ?z_enumerate ?z_max ?z_tuple ?z_range ?z_str ?z_int ?z_dict ?z_list ?xa_GraftError ?xa_NoPlace ?xa_NoTree ?xa_Twice ?xa_NoKey ?xa_NoText ?xa_NoRow ?gi ?xi_NoPlace ?xl_NoPlace ?xc_NoPlace ?xk_NoPlace ?xe_NoPlace ?xr_NoPlace ?xo_NoPlace ?xv_NoPlace ?xi_NoText ?xl_NoText ?xc_NoText ?xk_NoText ?xe_NoText ?xr_NoText ?xo_NoText ?xv_NoText ?xi_NoKey ?xl_NoKey ?xc_NoKey ?xk_NoKey ?xe_NoKey ?xr_NoKey ?xo_NoKey ?xv_NoKey ?xi_Twice ?xl_Twice ?xc_Twice ?xk_Twice ?xe_Twice ?xr_Twice ?xo_Twice ?xv_Twice ?xi_NoTree ?xl_NoTree ?xc_NoTree ?xk_NoTree ?xe_NoTree ?xr_NoTree ?xo_NoTree ?xv_NoTree ?xi_NoRow ?xl_NoRow ?xc_NoRow ?xk_NoRow ?xe_NoRow ?xr_NoRow ?xo_NoRow ?xv_NoRow ?y0).elim fun T R => ?fin
    (case a0 => k_is)
    (case l0 => k_is)
    (case c0 => k_is)
    (case k0 => k_is)
    (case a1 => k_is)
    (case l1 => k_is)
    (case c1 => k_is)
    (case k1 => k_is)
    (case a2 => k_is)
    (case l2 => k_is)
    (case c2 => k_is)
    (case k2 => k_is)
    (case a3 => k_is)
    (case l3 => k_is)
    (case c3 => k_is)
    (case k3 => k_is)
    (case a4 => k_is)
    (case l4 => k_is)
    (case c4 => k_is)
    (case k4 => k_is)
    (case a5 => k_is)
    (case l5 => k_is)
    (case c5 => k_is)
    (case k5 => k_is)
    (case a6 => k_is)
    (case l6 => k_is)
    (case c6 => k_is)
    (case k6 => k_is)
    (case a7 => k_is)
    (case l7 => k_is)
    (case c7 => k_is)
    (case k7 => k_is)
    (case a8 => k_is)
    (case l8 => k_is)
    (case c8 => k_is)
    (case k8 => k_is)
    (case a9 => k_is)
    (case l9 => k_is)
    (case c9 => k_is)
    (case k9 => k_is)
    (case a10 => k_is)
    (case l10 => k_is)
    (case c10 => k_is)
    (case k10 => k_is)
    (case a11 => k_is)
    (case l11 => k_is)
    (case c11 => k_is)
    (case k11 => k_is)
    (case a12 => k_is)
    (case l12 => k_is)
    (case c12 => k_is)
    (case k12 => k_is)
    (case a13 => k_is)
    (case l13 => k_is)
    (case c13 => k_is)
    (case k13 => k_is)
    (case a14 => k_is)
    (case l14 => k_is)
    (case c14 => k_is)
    (case k14 => k_is)
    (case a15 => k_is)
    (case l15 => k_is)
    (case c15 => k_is)
    (case k15 => k_is)
    (case a16 => k_is)
    (case l16 => k_is)
    (case c16 => k_is)
    (case k16 => k_is)
    (case a17 => k_is)
    (case l17 => k_is)
    (case c17 => k_is)
    (case k17 => k_is)
    (case a18 => k_is)
    (case l18 => k_is)
    (case c18 => k_is)
    (case k18 => k_is)
    (case a19 => k_is)
    (case l19 => k_is)
    (case c19 => k_is)
    (case k19 => k_is)
    (case a20 => k_is)
    (case l20 => k_is)
    (case c20 => k_is)
    (case k20 => k_is)
    (case a21 => k_is)
    (case l21 => k_is)
    (case c21 => k_is)
    (case k21 => k_is)
    (case a22 => k_is)
    (case l22 => k_is)
    (case c22 => k_is)
    (case k22 => k_is)
    (case a23 => k_is)
    (case l23 => k_is)
    (case c23 => k_is)
    (case k23 => k_is)
    (case a24 => k_is)
    (case l24 => k_is)
    (case c24 => k_is)
    (case k24 => k_is)
    (case a25 => k_is)
    (case l25 => k_is)
    (case c25 => k_is)
    (case k25 => k_is)
    (case a26 => k_is)
    (case l26 => k_is)
    (case c26 => k_is)
    (case k26 => k_is)
    (case a27 => k_is)
    (case l27 => k_is)
    (case c27 => k_is)
    (case k27 => k_is)
    (case a28 => k_is)
    (case l28 => k_is)
    (case c28 => k_is)
    (case k28 => k_is)
    (case a29 => k_is)
    (case l29 => k_is)
    (case c29 => k_is)
    (case k29 => k_is)
    (case a30 => k_is)
    (case l30 => k_is)
    (case c30 => k_is)
    (case k30 => k_is)
    (case a31 => k_is)
    (case l31 => k_is)
    (case c31 => k_is)
    (case k31 => k_is)
    (case a32 => k_is)
    (case l32 => k_is)
    (case c32 => k_is)
    (case k32 => k_is)
    (case a33 => k_is)
    (case l33 => k_is)
    (case c33 => k_is)
    (case k33 => k_is)
    (case a34 => k_is)
    (case l34 => k_is)
    (case c34 => k_is)
    (case k34 => k_is)
    (case a35 => k_is)
    (case l35 => k_is)
    (case c35 => k_is)
    (case k35 => k_is)
    (case a36 => k_is)
    (case l36 => k_is)
    (case c36 => k_is)
    (case k36 => k_is)
    (case a37 => k_is)
    (case l37 => k_is)
    (case c37 => k_is)
    (case k37 => k_is)
    (case a38 => k_is)
    (case l38 => k_is)
    (case c38 => k_is)
    (case k38 => k_is)
    (case a39 => k_is)
    (case l39 => k_is)
    (case c39 => k_is)
    (case k39 => k_is)
    (case a40 => k_is)
    (case l40 => k_is)
    (case c40 => k_is)
    (case k40 => k_is)
    (case a41 => k_is)
    (case l41 => k_is)
    (case c41 => k_is)
    (case k41 => k_is)
    (case a42 => k_is)
    (case l42 => k_is)
    (case c42 => k_is)
    (case k42 => k_is)
    (case q_FIGURES_trees => k_is)
    (case q_GREAT => k_is)
    (case q_LONGEST_NAME => k_is)
    (case q_SMALL_trees => k_is)
    (case q_LONGEST_SIGN => k_is)
    (case q_FIGURES_books => k_is)
    (case q_SMALL_books => k_is)
    (case q_LONGEST_KEY => k_is)
    (case q_MOST_WITHIN => k_is)
    (case q_MOST_PIECES => k_is)
    (case q_MOST_TREES => k_is)
    (case q_MOST_KIDS => k_is)
    (case q_KID_FIGURES => k_is)
    (case z_len => k_is)
    (case z_enumerate => k_is)
    (case z_max => k_is)
    (case z_tuple => k_is)
    (case z_range => k_is)
    (case z_str => k_is)
    (case z_int => k_is)
    (case z_dict => k_is)
    (case z_list => k_is)
    (case xa_GraftError => k_is)
    (case xa_NoPlace => k_is)
    (case xa_NoTree => k_is)
    (case xa_Twice => k_is)
    (case xa_NoKey => k_is)
    (case xa_NoText => k_is)
    (case xa_NoRow => k_is)
    (case gi => kernel_rfl)
    (case xi_NoPlace => k_is)
    (case xl_NoPlace => k_is)
    (case xc_NoPlace => k_is)
    (case xk_NoPlace => k_is)
    (case xe_NoPlace => k_is)
    (case xr_NoPlace => kernel_rfl)
    (case xo_NoPlace => kernel_rfl)
    (case xv_NoPlace => kernel_rfl)
    (case xi_NoText => k_is)
    (case xl_NoText => k_is)
    (case xc_NoText => k_is)
    (case xk_NoText => k_is)
    (case xe_NoText => k_is)
    (case xr_NoText => kernel_rfl)
    (case xo_NoText => kernel_rfl)
    (case xv_NoText => kernel_rfl)
    (case xi_NoKey => k_is)
    (case xl_NoKey => k_is)
    (case xc_NoKey => k_is)
    (case xk_NoKey => k_is)
    (case xe_NoKey => k_is)
    (case xr_NoKey => kernel_rfl)
    (case xo_NoKey => kernel_rfl)
    (case xv_NoKey => kernel_rfl)
    (case xi_Twice => k_is)
    (case xl_Twice => k_is)
    (case xc_Twice => k_is)
    (case xk_Twice => k_is)
    (case xe_Twice => k_is)
    (case xr_Twice => kernel_rfl)
    (case xo_Twice => kernel_rfl)
    (case xv_Twice => kernel_rfl)
    (case xi_NoTree => k_is)
    (case xl_NoTree => k_is)
    (case xc_NoTree => k_is)
    (case xk_NoTree => k_is)
    (case xe_NoTree => k_is)
    (case xr_NoTree => kernel_rfl)
    (case xo_NoTree => kernel_rfl)
    (case xv_NoTree => kernel_rfl)
    (case xi_NoRow => k_is)
    (case xl_NoRow => k_is)
    (case xc_NoRow => k_is)
    (case xk_NoRow => k_is)
    (case xe_NoRow => k_is)
    (case xr_NoRow => kernel_rfl)
    (case xo_NoRow => kernel_rfl)
    (case xv_NoRow => kernel_rfl)
    (case y0 => kernel_rfl)
    case fin =>
      obtain ⟨e, hb⟩ := R
      subst e
      exact ⟨T.d42, hb, fun base _ _ => (Wk20.lv (P := PySem.Challenge.rw_graftsay_k20_askers_own.prog) (K := ⟨_, w⟩) (base := base) T 200).h42⟩
