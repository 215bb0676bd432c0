import PyProof.Rows.All
import Wide.All
import OpenK.AllK
import Wide.FinOn
import OpenK.AllK
import HandS.ForMost
import HandS.TupAny
import HandS.TupMul
import HandS.Conv
import HandS.Walk
import KE.KDictKeyed
import KE.KDictWalk
import HandS.Exc
import HandS.ExcOwn
import HandS.WordsExc
import HandS.Deep
import HandS.IsInst
import HandS.Flow
import HandS.Style
import HandS.ExcInit
import HandS.ExcField
import HandS.ExcValue
import KE.KExcIs
import HandS.NoneIn
import KE.GoesMore
import HandS.More
import HandS.SetKeys
import HandS.Strs
import HandS.TryOnly
import HandS.RaiseMore
import HandS.SortOrd
import HandS.TupLe
import HandS.NamedTupSort
import HandS.SortRule
import KE.KDictPairs
import HandS.Rev
import HandS.SortInts
import KE.KDictZip
import HandS.TupSets
import HandS.RevTup
import HandS.StrMore
import HandS.Codes
import PySem.Challenge.RW_graftsay_k80_what_is_a_walker
set_option Elab.async false
set_option linter.all false
set_option maxRecDepth 100000
set_option maxHeartbeats 4000000
namespace L2
open PySem PySem.W PySem.Calls PySem.Spec PyProof.Rows
/-- a tuple whose object has no dict -/
def XT (H : Hp) (a : Addr) (xs : List V) : Prop := ∃ o : Obj, H a = some (.frz o (.tup xs)) ∧ o.dict = none
theorem XT.sq {K : PySem.W.Frag} {H : Hp} {a : Addr} {xs : List V} (h : XT H a xs) : SqT K H a xs := by
  obtain ⟨o, e, _⟩ := h
  exact .inl (.inr ⟨o, e⟩)
theorem XT.new {H : Hp} {a : Addr} {xs : List V} {o : Obj} (h : o.dict = none) : XT (upd H a (.frz o (.tup xs))) a xs := ⟨o, upd_same, h⟩
section
variable {X : Cx} {es : List Expr} {t : TA} {pos : Pos} {pins : List (Addr × Obj)} {s : Shared} {σ : St} {H : Hp}
/-- a new tuple laid, told exactly -/
theorem laidX {ys : List V} {us : List Value} {h1 : Heap} {tk : Nat} (J : Inv X pins σ H { s with heap := h1 }) (rv : Vals ys us) (hz : ys.length ≤ sizeLine) :
    Inv X pins σ (upd H h1.objs.size (.frz { cls := .type "tuple", data := .seq us.toArray } (.tup ys))) { s with heap := h1.push { cls := .type "tuple", data := .seq us.toArray }, toks := tk } :=
  J.laid (t' := tk) (fun _ _ z => Heap.get?_push_of_some _ z) (Nat.le_refl _) ⟨Heap.get?_push_size _ rfl, hz, us, rv, IsTup.new _ _⟩
def tTupX (t : TA) : TE := fun σ H Q => t σ H fun ys H1 => ys.length ≤ sizeLine ∧ ∀ p o, H1 p = none → o.dict = none → Q (.ref p) (upd H1 p (.frz o (.tup ys)))
theorem pe_tupX {x1} (h : PA X es t) : PE X (.Tuple es x1 pos) (tTupX t) := ⟨fun pins s σ H Q I hq => by
  refine wpAny_Tuple_spliced (thn (h.run pos pins s σ H _ I hq) ?_)
  rintro us s1 ⟨ys, H1, J, rv, z, q⟩
  refine ⟨by rw [← rv.length]; exact z, .ref s1.heap.objs.size, _, laidX (s := s1) (tk := s1.toks) J rv z, rfl, q _ _ (J.hok.fresh (Nat.le_refl _)) rfl⟩⟩
/-- a slice of a tuple -/
def rSlX (K : PySem.W.Frag) : V → Option Int → Option Int → Hp → VK → Prop := fun x lo hi H Q => ∃ a ys, x = .ref a ∧ SqT K H a ys ∧
  ((HT.sIx ys.length 0 lo = 0 ∧ HT.sIx ys.length ys.length hi = ys.length) → Q (.ref a) H) ∧ (¬ (HT.sIx ys.length 0 lo = 0 ∧ HT.sIx ys.length ys.length hi = ys.length) → ∀ p o, H p = none → o.dict = none → Q (.ref p) (upd H p (.frz o (.tup (cutV ys lo hi)))))
theorem sl_tupX : SlR X (rSlX X.K) := by
  rintro pins s σ H x v vl vu lo hi sl Q J rx hs pl pu ⟨a, ys, rfl, hy, q1, q2⟩
  by_cases w : HT.sIx ys.length 0 lo = 0 ∧ HT.sIx ys.length ys.length hi = ys.length
  · exact sl_tupA pins s σ H _ v vl vu lo hi sl Q J rx hs pl pu ⟨a, ys, rfl, hy, q1, fun n => absurd w n⟩
  · cases rx
    obtain ⟨us, rv, ht, hz⟩ := J.tuple hy
    have hl : us.toArray.size = ys.length := by rw [List.size_toArray, rv.length]
    refine ⟨"tuple", _, PyProof.Rows.slot_tuple_getitem.lookup, ht.typeIs, HT.getItem_tuple_cut ht hs pl pu (by rw [hl]; exact w) ?_ (by rw [hl]; exact hz)⟩
    rw [hl]
    refine ⟨.ref s.heap.objs.size, _, laidX (ys := cutV ys lo hi) (tk := s.toks) J ?_ (Nat.le_trans (cutV_length ys lo hi) hz), rfl, q2 w _ _ (J.hok.fresh (Nat.le_refl _)) rfl⟩
    exact (rv.drop _).take _
/-- tuples joined -/
def rCatX (K : PySem.W.Frag) : R2 := fun x y H Q => ∃ a b xs ys, x = .ref a ∧ y = .ref b ∧ SqT K H a xs ∧ SqT K H b ys ∧ xs.length + ys.length ≤ sizeLine ∧
  ((xs = [] → Q (.ref b) H) ∧ (xs ≠ [] → ys = [] → Q (.ref a) H) ∧ (xs ≠ [] → ys ≠ [] → ∀ p o, H p = none → o.dict = none → Q (.ref p) (upd H p (.frz o (.tup (xs ++ ys))))))
theorem op_catX : OpR X (binaryOp .Add) (rCatX X.K) := by
  rintro pins s σ H x y v u Q J rx ry ⟨a, b, xs, ys, rfl, rfl, ha, hb, hz, q0, q1, q2⟩
  by_cases hx : xs = []
  · exact op_catA pins s σ H _ _ v u Q J rx ry ⟨a, b, xs, ys, rfl, rfl, ha, hb, hz, q0, q1, fun n => absurd hx n⟩
  · cases rx
    cases ry
    obtain ⟨us, r1, p1, _⟩ := J.tuple ha
    obtain ⟨ws, r2, p2, _⟩ := J.tuple hb
    refine HT.cat_tup p1 p2 (fun n => hx (r1.nil_iff.mp n)) (fun n => ⟨.ref a, H, J, rfl, q1 hx (r2.nil_iff.mp n)⟩) (fun n => ?_) (by rw [← r1.length, ← r2.length]; exact hz)
    exact ⟨.ref s.heap.objs.size, _, laidX (ys := xs ++ ys) (tk := s.toks) J (r1.append r2) (by rw [List.length_append]; exact hz), rfl, q2 hx (fun e => n (r2.nil_iff.mpr e)) _ _ (J.hok.fresh (Nat.le_refl _)) rfl⟩
/-- tuple(..) of a list or a tuple -/
def rTupX (K : PySem.W.Frag) : List V → Hp → VK → Prop := fun xs H Q => ∃ p ys, xs = [.ref p] ∧ ((SqL K H p ys ∧ ∀ l o, H l = none → o.dict = none → Q (.ref l) (upd H l (.frz o (.tup ys)))) ∨ (SqT K H p ys ∧ Q (.ref p) H))
theorem call_tupX : CallR X (.type "tuple") (rTupX X.K) := by
  rintro pins s σ H xs us Q J r ⟨p, ys, rfl, h⟩
  rcases h with ⟨hq, q⟩ | ⟨hq, q⟩
  · obtain ⟨u, rfl, rx⟩ := vals1 r
    cases rx
    obtain ⟨ws, rv, pl, hz⟩ := J.list hq
    have hl := rv.length
    refine call_tuple_list pl.isList (fun h1 kp => ?_) (by simp only [List.size_toArray] <;> omega)
    have J1 : Inv X pins σ H { s with heap := h1 } := J.kept (t' := s.toks) kp
    exact ⟨.ref h1.objs.size, _, laidX (tk := s.toks) J1 rv hz, rfl, q _ _ (J1.hok.fresh (Nat.le_refl _)) rfl⟩
  · exact call_tuple_of pins s σ H _ us Q J r ⟨p, ys, rfl, .inr ⟨hq, q⟩⟩
end
mutual
/-- a value that is such a key, by what is tracked -/
inductive NK (H : Hp) : V → NestedKey → Prop
  | non : NK H .non .none
  | bl (b : Bool) : NK H (.bl b) (.num (if b then 1 else 0))
  | int (i : Int) : NK H (.int i) (.num i)
  | str (x : Str) : NK H (.str x) (.text x)
  | tup {a : Addr} {xs : List V} {ks : List NestedKey} : XT H a xs → NKs H xs ks → NK H (.ref a) (.tup ks)
inductive NKs (H : Hp) : List V → List NestedKey → Prop
  | nil : NKs H [] []
  | cons {x : V} {xs : List V} {k : NestedKey} {ks : List NestedKey} : NK H x k → NKs H xs ks → NKs H (x :: xs) (k :: ks)
end
section
variable {P : Program} {w : World} {H : Hp} {h : Heap}
mutual
theorem NK.is (ok : HOk P w H h) : ∀ {v : V} {k : NestedKey} {u : Value}, NK H v k → RelV v u → NestedIs h k u
  | _, _, u, .non, r => by cases (show u = .none from r); exact .none
  | _, _, u, .bl b, r => by cases (show u = .bool b from r); exact .bool rfl
  | _, _, u, .int i, r => by obtain ⟨t, e⟩ := (show ∃ t, u = .int i t from r); subst e; exact .int _ _
  | _, _, u, .str i, r => by obtain ⟨t, e⟩ := (show ∃ t, u = .str i t from r); subst e; exact .text _ _
  | _, _, u, .tup (a := a) q qs, r => by
    cases (show u = .ref a from r)
    obtain ⟨o, e, _⟩ := q
    obtain ⟨e1, _, its, rv, o', e2, c, n, d⟩ := ok _ _ e
    exact .tup e2 c d (by simpa using NKs.is ok qs rv)
theorem NKs.is (ok : HOk P w H h) : ∀ {vs : List V} {ks : List NestedKey} {us : List Value}, NKs H vs ks → Vals vs us → NestedAll h ks us
  | _, _, _, .nil, .nil => .nil
  | _, _, _, .cons q qs, .cons r rs => .cons (NK.is ok q r) (NKs.is ok qs rs)
end
end
/-- a dict, by its object: each key, its value, what stands there -/
def dX (w : World) (a : Addr) (ep : Nat) (xs : List (NestedKey × Value × Value)) : HO := .ext fun h => ∃ o es, h.get? a = some o ∧ o.ExactDict ∧ o.data = .dict es ep ∧ es.toList = xs.map (fun x => (⟨x.1.hash w, x.2.1, x.2.2⟩ : DictEntry)) ∧
  (xs.map (·.1)).Nodup ∧ xs.length ≤ sizeLine ∧ (a == sysModules) = false
/-- keys that are tuples -/
def refK (y : NestedKey × Addr × Value) : NestedKey × Value × Value := (y.1, .ref y.2.1, y.2.2)
def KOk (H : Hp) (ys : List (NestedKey × Addr × Value)) : Prop := ∀ y ∈ ys, NK H (.ref y.2.1) y.1 ∧ y.1.depth ≤ 8
/-- keys that are ints and texts -/
def nkK : Key → NestedKey
  | .inl i => .num i
  | .inr x => .text x
theorem nkK_inj {a b : Key} (h : nkK a = nkK b) : a = b := by cases a <;> cases b <;> simp [nkK] at h <;> rw [h]
def valK (y : Key × Value × Value) : NestedKey × Value × Value := (nkK y.1, y.2.1, y.2.2)
def SOk (ys : List (Key × Value × Value)) : Prop := ∀ y ∈ ys, keyIs y.1 y.2.1 = true
def pairK (ys : List (Key × Value × Value)) : List (Key × Value) := ys.map fun y => (y.1, y.2.2)
section
variable {P : Program} {w : World} {H : Hp} {h : Heap} {a : Addr} {ep : Nat}
theorem dX_raw {xs : List (NestedKey × Value × Value)} (ok : HOk P w H h) (e : H a = some (dX w a ep xs)) : ∃ es, h.DictRaw a es ep ∧ es.toList = xs.map (fun x => (⟨x.1.hash w, x.2.1, x.2.2⟩ : DictEntry)) ∧ xs.length ≤ sizeLine ∧ (a == sysModules) = false := by
  obtain ⟨⟨o, es, h1, h2, h3, h4, h5, h6, h7⟩, _⟩ := ok _ _ e
  exact ⟨es, ⟨o, h1, h2, h3⟩, h4, h6, h7⟩
theorem dX_mk {xs : List (NestedKey × Value × Value)} {o : Obj} {es : Array DictEntry} (h1 : h.get? a = some o) (h2 : o.ExactDict) (h3 : o.data = .dict es ep) (h4 : es.toList = xs.map (fun x => (⟨x.1.hash w, x.2.1, x.2.2⟩ : DictEntry)))
    (h5 : (xs.map (·.1)).Nodup) (h6 : xs.length ≤ sizeLine) (h7 : (a == sysModules) = false) : ObjOk P w H h a (dX w a ep xs) :=
  ⟨⟨o, es, h1, h2, h3, h4, h5, h6, h7⟩, ⟨o, h1⟩, fun g1 g2 ⟨o', es', q1, q2⟩ k => ⟨o', es', k _ q1, q2⟩⟩
theorem dX_ofT {ys : List (NestedKey × Addr × Value)} (ok : HOk P w H h) (e : H a = some (dX w a ep (ys.map refK))) (hk : KOk H ys) : h.DictOfH (nestedKind P w) a ys ∧ ys.length ≤ sizeLine ∧ (a == sysModules) = false := by
  obtain ⟨⟨o, es, h1, h2, h3, h4, h5, h6, h7⟩, _⟩ := ok _ _ e
  rw [List.map_map] at h4 h5
  rw [List.length_map] at h6
  exact ⟨⟨o, es, ep, h1, h2, h3, h4, fun x m => ⟨(hk x m).1.is ok rfl, (hk x m).2⟩, h5⟩, h6, h7⟩
theorem dX_okT {ys : List (NestedKey × Addr × Value)} (hd : h.DictOfH (nestedKind P w) a ys) (hz : ys.length ≤ sizeLine) (hs : (a == sysModules) = false) : ∃ ep, ∀ H, ObjOk P w H h a (dX w a ep (ys.map refK)) := by
  obtain ⟨o, es, ep, h1, h2, h3, h4, _, h5⟩ := hd
  exact ⟨ep, fun H => dX_mk h1 h2 h3 (by rw [List.map_map]; exact h4) (by rw [List.map_map]; exact h5) (by rw [List.length_map]; exact hz) hs⟩
theorem pairs_valK (P : Program) (w : World) : ∀ {ys : List (Key × Value × Value)}, SOk ys → Pairs (mixKind P w) (ys.map fun y => (⟨(nkK y.1).hash w, y.2.1, y.2.2⟩ : DictEntry)) (pairK ys)
  | [], _ => .nil
  | y :: ys, h => .cons (h y (by simp)) rfl (pairs_valK P w fun z m => h z (by simp [m]))
theorem hash_nkK (w : World) (k : Key) : (nkK k).hash w = keyH w k := by cases k <;> rfl
theorem dX_ofS {ys : List (Key × Value × Value)} (ok : HOk P w H h) (e : H a = some (dX w a ep (ys.map valK))) (hk : SOk ys) : h.DictOf (mixKind P w) a (pairK ys) ∧ (pairK ys).length ≤ sizeLine ∧ (a == sysModules) = false := by
  obtain ⟨⟨o, es, h1, h2, h3, h4, h5, h6, h7⟩, _⟩ := ok _ _ e
  rw [List.map_map] at h4 h5
  rw [List.length_map] at h6
  have h4 : es.toList = ys.map fun y => (⟨(nkK y.1).hash w, y.2.1, y.2.2⟩ : DictEntry) := h4
  refine ⟨⟨o, es, ep, h1, h2, h3, fun x m => ?_, by rw [h4]; exact pairs_valK P w hk, ?_⟩, by unfold pairK; rw [List.length_map]; exact h6, h7⟩
  · have m' : x ∈ es.toList := by simpa using m
    rw [h4] at m'
    obtain ⟨y, my, rfl⟩ := List.mem_map.mp m'
    exact ⟨y.1, hk y my, hash_nkK w y.1⟩
  · have h5 : (ys.map fun y => nkK y.1).Nodup := h5
    unfold pairK
    rw [List.map_map]
    have h6 : ((ys.map fun y => y.1).map nkK).Nodup := by rw [List.map_map]; exact h5
    exact (List.pairwise_map.mp h6).imp fun n e => n (by rw [e])
theorem pairs_back : ∀ {es : List DictEntry} {vs : List (Key × Value)}, Pairs (mixKind P w) es vs → (∀ e ∈ es, ∃ k, keyIs k e.key = true ∧ e.hash = keyH w k) → ∃ ys, SOk ys ∧ pairK ys = vs ∧ es = ys.map fun y => (⟨(nkK y.1).hash w, y.2.1, y.2.2⟩ : DictEntry)
  | _, _, .nil, _ => ⟨[], fun _ m => (by cases m), rfl, rfl⟩
  | _, _, .cons (e := e) (kv := kv) h1 h2 t, hk => by
    obtain ⟨ys, q1, q2, q3⟩ := pairs_back t fun e m => hk e (by simp [m])
    obtain ⟨k, r1, r2⟩ := hk e (by simp)
    have ek : k = kv.1 := (mixKind P w).inj _ _ _ r1 h1
    subst ek
    refine ⟨(kv.1, e.key, kv.2) :: ys, fun y m => ?_, by simp [pairK] at q2 ⊢; exact q2, ?_⟩
    · cases m with
      | head => exact h1
      | tail _ m => exact q1 y m
    · rw [List.map_cons, ← q3]
      congr 1
      cases e
      simp only at h2 r2
      simp [hash_nkK, r2, h2]
theorem dX_okS {vs : List (Key × Value)} (hd : h.DictOf (mixKind P w) a vs) (hz : vs.length ≤ sizeLine) (hs : (a == sysModules) = false) : ∃ ep ys, SOk ys ∧ pairK ys = vs ∧ ∀ H, ObjOk P w H h a (dX w a ep (ys.map valK)) := by
  obtain ⟨o, es, ep, h1, h2, h3, hk, hp, hn⟩ := hd
  obtain ⟨ys, q1, q2, q3⟩ := pairs_back hp fun e m => hk e (by simpa using m)
  refine ⟨ep, ys, q1, q2, fun H => dX_mk h1 h2 h3 (by rw [List.map_map]; exact q3) ?_ ?_ hs⟩
  · rw [List.map_map]
    have e : ys.map ((fun x => x.1) ∘ valK) = (vs.map (·.1)).map nkK := by rw [← q2]; unfold pairK; rw [List.map_map, List.map_map]; rfl
    rw [e]
    exact List.Pairwise.map nkK (fun a b n e => n (nkK_inj e)) hn
  · rw [List.length_map]
    have : (pairK ys).length = ys.length := by simp [pairK]
    rw [← this, q2]
    exact hz
end
def look (xs : List (NestedKey × Value × Value)) (k : NestedKey) : Option Value := (xs.find? fun x => decide (x.1 = k)).map (·.2.2)
theorem look_T (ys : List (NestedKey × Addr × Value)) (k : NestedKey) : look (ys.map refK) k = valueAt (pairsH ys) k := by
  induction ys with
  | nil => rfl
  | cons y ys ih =>
    by_cases e : y.1 = k
    · simp [look, refK, pairsH, valueAt, e]
    · simpa [look, refK, pairsH, valueAt, e] using ih
theorem look_S (ys : List (Key × Value × Value)) (k : Key) : look (ys.map valK) (nkK k) = valueAt (pairK ys) k := by
  induction ys with
  | nil => rfl
  | cons y ys ih =>
    by_cases e : y.1 = k
    · simp [look, valK, pairK, valueAt, e]
    · have n : ¬ nkK y.1 = nkK k := fun q => e (nkK_inj q)
      simpa [look, valK, pairK, valueAt, e, n] using ih
/-- a key that may be asked for -/
def KeyAt (H : Hp) (v : V) (b : Addr) (k : NestedKey) : Prop := v = .ref b ∧ NK H (.ref b) k ∧ k.depth ≤ 8
/-- y asked of the dict at a -/
def LookX (w : World) (H : Hp) (a : Addr) (y : V) (r : Option Value) : Prop := ∃ ep xs k, H a = some (dX w a ep xs) ∧ r = look xs k ∧ ((∃ b ys, xs = ys.map refK ∧ KOk H ys ∧ KeyAt H y b k) ∨ (∃ ys kk, xs = ys.map valK ∧ SOk ys ∧ y = kV kk ∧ k = nkK kk))
section
variable {X : Cx}
theorem KeyAt.is {P : Program} {w : World} {H : Hp} {h : Heap} {v : V} {b : Addr} {k : NestedKey} (ok : HOk P w H h) (q : KeyAt H v b k) : (nestedKind P w).is h k b := ⟨q.2.1.is ok rfl, q.2.2⟩
theorem roomX (hu : X.A.units + 65 < cLine) : (nestedKind X.prog X.w).room X.A.in1 := by
  show X.A.units + 1 + 8 < cLine
  omega
/-- the two sorts of asking -/
theorem LookX.cases {pins : List (Addr × Obj)} {σ : St} {H : Hp} {s : Shared} {a : Addr} {y : V} {u : Value} {r : Option Value} (g : LookX X.w H a y r) (J : Inv X pins σ H s) (ry : RelV y u) :
    (a == sysModules) = false ∧ ((∃ b ys k, u = .ref b ∧ s.heap.DictOfH (nestedKind X.prog X.w) a ys ∧ (nestedKind X.prog X.w).is s.heap k b ∧ r = valueAt (pairsH ys) k) ∨ ∃ vs kk, s.heap.DictOf (mixKind X.prog X.w) a vs ∧ (mixKind X.prog X.w).is kk u = true ∧ r = valueAt vs kk) := by
  obtain ⟨ep, xs, k, e, er, g⟩ := g
  rcases g with ⟨b, ys, rfl, hk, hy⟩ | ⟨ys, kk, rfl, hk, rfl, rfl⟩
  · obtain ⟨hm, hz, hs⟩ := dX_ofT J.hok e hk
    refine ⟨hs, .inl ⟨b, ys, k, ?_, hm, hy.is J.hok, by rw [er, look_T]⟩⟩
    obtain ⟨rfl, _⟩ := hy
    exact ry
  · obtain ⟨hm, hz, hs⟩ := dX_ofS J.hok e hk
    exact ⟨hs, .inr ⟨_, kk, hm, kV_is ry, by rw [er, look_S]⟩⟩
def rXG (w : World) : R2 := fun x y H Q => ∃ a u v, x = .ref a ∧ LookX w H a y (some u) ∧ RelV v u ∧ Q v H
theorem ix_dX (hu : X.A.units + 65 < cLine) : IxR X (rXG X.w) := by
  rintro value slice pins s σ H x y v u Q I rx ry ⟨a, uu, vv, rfl, g, rv, q⟩ hs
  obtain rfl : v = Value.ref a := rx
  obtain ⟨hsm, g⟩ := g.cases I ry
  have hT : s.TypeIs (.ref a) "dict" := by
    rcases g with ⟨b, ys, k, _, hm, _⟩ | ⟨vs, kk, hm, _⟩
    · exact hm.typeIs
    · exact hm.typeIs
  unfold subscriptTail
  refine wpAny_bind ?_
  rw [getitemInPython_of_ne hT.not_modules]
  refine wpAny_bind (wpAny_specialOf hT PySem.F.slot_dict_getitem.lookup ?_)
  have fin : wpAny (model X.prog X.w) X.A (subscripted slice false (Value.ref a) u) (fun r s₃ => wpAny (model X.prog X.w) X.A (letTemporaryGo value (Value.ref a) r >>= fun _ => pure r) (EP X pins σ Q) X.xe s₃) X.xe s := by
    rw [hs]
    refine wpAny_operating (wpAny_mono (Q := EP X pins σ Q) (E := X.xe) ?_ (fun r s₃ h₃ => wpAny_bind (wpAny_letTemporaryGo (wpAny_pure h₃))) fun _ _ x => x)
    rcases g with ⟨b, ys, k, rfl, hm, hk, e⟩ | ⟨vs, kk, hm, hk, e⟩
    · exact getItem_keyed (roomX hu) hk ⟨ys, hm, rfl⟩ e.symm ⟨vv, H, I.tok _, rv, q⟩
    · exact wpAny_getItem_of hk hm.mapOf e.symm ⟨vv, H, I.tok _, rv, q⟩
  exact wpAny_pure (wpAny_bind fin)
def rXin (neg : Bool) (w : World) : R2 := fun y x H Q => ∃ a r, x = .ref a ∧ LookX w H a y r ∧ Q (.bl (neg ^^ r.isSome)) H
theorem op_Xin (hu : X.A.units + 65 < cLine) : OpR X (compareOp .In) (rXin false X.w) := by
  rintro pins s σ H y x v u Q I ry rx ⟨a, r, rfl, g, q⟩
  obtain rfl : u = Value.ref a := rx
  obtain ⟨hsm, g⟩ := g.cases I ry
  rw [Bool.false_xor] at q
  rcases g with ⟨b, ys, k, rfl, hm, hk, rfl⟩ | ⟨vs, kk, hm, hk, rfl⟩
  · exact in_keyed (roomX hu) hk hsm ⟨ys, hm, rfl⟩ ⟨.bl _, H, I.tok _, rfl, q⟩
  · exact wpAny_in_of hk hsm hm.mapOf ⟨.bl _, H, I.tok _, rfl, q⟩
theorem op_Xni (hu : X.A.units + 65 < cLine) : OpR X (compareOp .NotIn) (rXin true X.w) := by
  rintro pins s σ H y x v u Q I ry rx ⟨a, r, rfl, g, q⟩
  obtain rfl : u = Value.ref a := rx
  obtain ⟨hsm, g⟩ := g.cases I ry
  rw [Bool.true_xor] at q
  rcases g with ⟨b, ys, k, rfl, hm, hk, rfl⟩ | ⟨vs, kk, hm, hk, rfl⟩
  · exact notIn_keyed (roomX hu) hk hsm ⟨ys, hm, rfl⟩ ⟨.bl _, H, I.tok _, rfl, q⟩
  · exact wpAny_notIn_of hk hsm hm.mapOf ⟨.bl _, H, I.tok _, rfl, q⟩
/-- d[k] = v -/
def rXS (w : World) : TSet := fun o i v H Q => ∃ a ep xs, o = .ref a ∧ H a = some (dX w a ep xs) ∧ xs.length < sizeLine ∧ ((∃ b ys k, xs = ys.map refK ∧ KOk H ys ∧ KeyAt H i b k ∧ ∀ ep u, RelV v u → Q (upd H a (dX w a ep ((storedH ys k b u).map refK)))) ∨
  (∃ ys k, xs = ys.map valK ∧ SOk ys ∧ i = kV k ∧ ∀ ep u zs, RelV v u → SOk zs → pairK zs = stored (pairK ys) k u → Q (upd H a (dX w a ep (zs.map valK)))))
theorem storedH_len (xs : List (NestedKey × Addr × Value)) (k : NestedKey) (b : Addr) (u : Value) : (storedH xs k b u).length ≤ xs.length + 1 := by
  unfold storedH
  split <;> simp
theorem stored_len (xs : List (Key × Value)) (k : Key) (u : Value) : (stored xs k u).length ≤ xs.length + 1 := by
  unfold stored
  split <;> simp
theorem set_dX (hu : X.A.units + 65 < cLine) : PSet X (rXS X.w) := by
  rintro pins s σ H o i v ov iv u Q I ro ri rv ⟨a, ep, xs, rfl, e, hz, h⟩
  obtain rfl : ov = Value.ref a := ro
  have mu : Mut (H a) := by rw [e]; exact True.intro
  rcases h with ⟨b, ys, k, rfl, hk, hi, q⟩ | ⟨ys, k, rfl, hk, rfl, q⟩
  · obtain rfl : iv = Value.ref b := by obtain ⟨rfl, _⟩ := hi; exact ri
    obtain ⟨hm, _, hsm⟩ := dX_ofT I.hok e hk
    rw [List.length_map] at hz
    refine wpAny_setItem_heap (hsz := Nat.le_of_lt hz) (roomX hu) (hi.is I.hok) hm fun h' hm' hs => ?_
    obtain ⟨ep, ok⟩ := dX_okT hm' (Nat.le_trans (storedH_len ys k b u) hz) hsm
    exact ⟨_, I.write (t' := s.toks + (nestedKind X.prog X.w).draws k) mu (.inl rfl) (fun c o nc e => (hs.2 c nc).trans e) (let ⟨o, _, _, e, _⟩ := hm'; ⟨o, e⟩) (ok _), q ep u rv⟩
  · obtain ⟨hm, hz2, hsm⟩ := dX_ofS I.hok e hk
    have lz : (pairK ys).length = ys.length := by simp [pairK]
    rw [List.length_map, ← lz] at hz
    refine wpAny_setItem_pairs (hsz := hz2) (kV_is ri) hm fun h' hm' hs => ?_
    obtain ⟨ep, zs, z1, z2, ok⟩ := dX_okS hm' (Nat.le_trans (stored_len _ _ _) hz) hsm
    exact ⟨_, I.write (t' := s.toks + 1) mu (.inl rfl) (fun c o nc e => (hs.2 c nc).trans e) (let ⟨o, _, _, e, _⟩ := hm'; ⟨o, e⟩) (ok _), q ep u zs rv z1 z2⟩
end
section
variable {X : Cx} {o e f : Expr} {apos cpos : Pos} {td ty tx : TE}
end
def tRe (w : World) (t : TE) : TE := fun σ H Q => t σ H fun v H1 => ∃ p kvs, v = .ref p ∧ H1 p = some (.dK kvs) ∧ ∀ ep ys, SOk ys → KV kvs (pairK ys) → Q v (upd H1 p (dX w p ep (ys.map valK)))
theorem pe_re {X : Cx} {e : Expr} {t : TE} (h : PE X e t) : PE X e (tRe X.w t) := ⟨fun pins s σ H Q J q => by
  refine thn (h.run pins s σ H _ J q) ?_
  rintro u s1 ⟨x, H1, J1, rx, p, kvs, rfl, e, q1⟩
  obtain ⟨hz, hs, vs, rel, hd⟩ := J1.hok _ _ e
  have hz2 : vs.length ≤ sizeLine := by rw [← rel.length]; exact hz
  obtain ⟨ep, ys, y1, y2, ok⟩ := dX_okS hd hz2 hs
  refine ⟨.ref p, _, J1.write (t' := s1.toks) (by rw [e]; exact True.intro) (.inl rfl) (fun c o _ z => z) (let ⟨o, _, _, z, _⟩ := hd; ⟨o, z⟩) (ok _), rx, q1 ep ys y1 (by rw [y2]; exact rel)⟩⟩
def Itx (w : World) (d : Addr) (ep : Nat) (xs : List (NestedKey × Value × Value)) (vs : List V) : It :=
  ⟨fun i H => H d = some (dX w d ep xs) ∧ i < vs.length, fun i H x H' => H' = H ∧ vs[i]? = some x, fun i H => H d = some (dX w d ep xs) ∧ vs.length ≤ i⟩
theorem turn_dX {P : Program} {w : World} {K : PySem.W.Frag} {tg : Expr} {d : Addr} {ep : Nat} {xs : List (NestedKey × Value × Value)} {vs : List V} (it : Addr) (rv : Vals vs (xs.map (·.2.1))) :
    Turn P w K tg (Itx w d ep xs vs) [it] it (fun i h => h.IsKeyIter it d i vs.length ep) where
  mem := List.mem_singleton.mpr rfl
  obj := fun i h st b hb => by
    obtain rfl := List.mem_singleton.mp hb
    obtain ⟨oi, e, c, dd⟩ := st
    exact ⟨oi, e, fun v z => by rw [dd] at z; cases z⟩
  keep := fun i h h' st k => st.at fun oi e => k it (List.mem_singleton.mpr rfl) oi e
  item := by
    rintro X rfl rfl rfl hc i pins s σ H E J hf st ⟨hd, hi⟩
    obtain ⟨f0, f1, f2, f3, f4, f5⟩ := hf it (List.mem_singleton.mpr rfl)
    obtain ⟨es, hm, he, _, _⟩ := dX_raw J.hok hd
    have ls : es.size = vs.length := by rw [← Array.length_toList, he, List.length_map, rv.length, List.length_map]
    obtain ⟨x, hx⟩ : ∃ x, vs[i]? = some x := ⟨vs[i], List.getElem?_eq_getElem hi⟩
    obtain ⟨u, hu, ru⟩ := rv.get hx
    rw [← ls] at st hi
    refine wpAny_pyNext_keys_item_raw st hm hi fun h' st' sb => ?_
    have ek : es[i].key = u := by
      rw [List.getElem?_map] at hu
      obtain ⟨y, hy, rfl⟩ := Option.map_eq_some_iff.mp hu
      have h1 : es.toList[i]? = some es[i] := by rw [Array.getElem?_toList, Array.getElem?_eq_getElem hi]
      rw [he, List.getElem?_map, hy] at h1
      exact (congrArg DictEntry.key (Option.some.inj h1)).symm
    have J1 : Inv X pins σ H { s with heap := h' } := J.turned (t' := s.toks) (fun b ob nb e => (sb.2 b nb).trans e) f0 f1 f3 f4 f5
    obtain ⟨oi, e, c, dd⟩ := id st'
    refine ⟨_, rfl, go_of (s := { s with heap := h' }) e c dd (by decide) ⟨x, H, J1, by rw [ek]; exact ru, ⟨rfl, hx⟩, ?_, fun b hb => (hf b hb).1⟩⟩
    show h'.IsKeyIter it d (i + 1) vs.length ep
    rw [← ls]
    exact st'
  done := by
    rintro X rfl rfl rfl hc i pins s σ H E J hf st ⟨hd, hi⟩
    obtain ⟨f0, f1, f2, f3, f4, f5⟩ := hf it (List.mem_singleton.mpr rfl)
    obtain ⟨es, hm, he, _, _⟩ := dX_raw J.hok hd
    have ls : es.size = vs.length := by rw [← Array.length_toList, he, List.length_map, rv.length, List.length_map]
    rw [← ls] at st hi
    exact wpAny_pyNext_keys_end_raw (J.ok.hd hc) st hm hi fun h' eb => ⟨rfl, J.turned (t' := s.toks) (fun b ob nb e => eb b ob nb e) f0 f1 f3 f4 f5⟩
  self := fun A i s Q E st h => wpAny_pyIter_keyiter st h
theorem walk_dX {w : World} {d : Addr} {ep : Nat} {xs : List (NestedKey × Value × Value)} {vs : List V} : Walk (Itx w d ep xs vs) vs.length (fun H => H d = some (dX w d ep xs)) (YAt vs) :=
  ⟨fun i _ hi q => ⟨q, hi⟩, fun _ q => ⟨q, Nat.le_refl _⟩, fun i H v H' _ q y => y⟩
end L2
namespace GS
open PySem L2
abbrev D := PyData
/-- the written part and the world -/
structure KW where
  fr : PySem.W.Frag
  w : World
instance : CoeOut KW PySem.W.Frag := ⟨KW.fr⟩
/-- how a slot holds its datum: shared (never changed any more), owned (the slot's own list or dict), lent by the caller -/
inductive Fl where | sh | ow | io
  deriving DecidableEq
structure Cel where
  d : D
  fl : Fl
abbrev Rho := List (Option Cel)
/-- what an expression gives: a shared datum, a new list or dict that nobody else holds, what stands in a slot -/
inductive Hd where | sh (d : D) | fr (d : D) | bw (i : Nat)
/-- an exception: its class's name, its fields -/
structure Xc where
  cls : Str
  fs : List (Str × D)
inductive RE where | stuck | ok (h : Hd) (ρ : Rho) | exc (x : Xc) (ρ : Rho)
inductive RS where | stuck | nx (ρ : Rho) | rt (h : Hd) (ρ : Rho) | bk (ρ : Rho) | ct (ρ : Rho) | exc (x : Xc) (ρ : Rho)
abbrev EF := Rho → RE
abbrev SF := Rho → RS
mutual
/-- a datum as a key -/
def nkD : D → Option NestedKey
  | .none => some .none
  | .bool b => some (.num (if b then 1 else 0))
  | .int i => some (.num i)
  | .str x => some (.text x)
  | .tuple ds => (nkL ds).map .tup
  | .list _ => none
  | .dict _ => none
def nkL : List D → Option (List NestedKey)
  | [] => some []
  | d :: ds => (nkD d).bind fun k => (nkL ds).map fun ks => k :: ks
end
/-- a tuple as a key -/
def tkD (ds : List D) : Option NestedKey := (nkL ds).bind fun ks => if (NestedKey.tup ks).depth ≤ 8 then some (.tup ks) else none
def tupB : D → Bool
  | .tuple _ => true
  | _ => false
/-- what may be a key -/
def keyD : D → Option NestedKey
  | .int i => some (.num i)
  | .str x => some (.text x)
  | .tuple ds => tkD ds
  | _ => none
def kD : Key → D
  | .inl i => .int i
  | .inr x => .str x
/-- the class of that name in the written part -/
def cvK (K : PySem.W.Frag) (c : Str) : Value := match K.find? (fun p => match p.2.data with | .cls cd => cd.name == c | _ => false) with
  | some p => .ref p.1
  | none => .none
/-- an exception object -/
def exV (a : Addr) (cls : Value) (d : Option Addr) : HO := .ext fun h => ∃ (oe : Obj) (vs : Array Value), h.get? a = some oe ∧ Zc cls d oe ∧ oe.data = .fields vs
/-- what the written part says of an own exception class -/
def xcB (K : PySem.W.Frag) (cls : Value) : Bool := match cls with
  | .ref D => (PySem.W.clsIn K D).isSome && (decide (PySem.W.findIn K (.ref D) "__getattribute__" = some (some (.builtin "BaseException.__getattribute__"))) && (decide (PySem.W.findIn K (.ref D) "__getattr__" = some none) && (decide (PySem.W.subIn K (.ref D) (.type "BaseException") = some true) &&
      (PySem.W.hasDictIn K D && (decide (PySem.W.findIn K (.ref D) "__class__" = some (some (.builtin "object.__class__"))) && (decide (PySem.W.specialIn K (.builtin "object.__class__") "__get__" = some (some (.builtin "getset_descriptor.__get__"))) &&
      (decide (PySem.W.takesIn K (.builtin "object.__class__") = some true) && (decide (PySem.W.mroIn K D (.type "object") = some true) && ["tuple", "str", "bool", "int", "list", "dict"].all fun T => decide (PySem.W.kitOne K (.ref D) (.type T) = some false)))))))))
  | _ => false
/-- an exception as a datum: its class's name, its fields' names, what they hold -/
abbrev xnD (c : Str) (ns : List Str) (ds : List D) : D := .dict [(.none, .tuple (.str c :: .tuple (ns.map PyData.str) :: ds))]
def xnB : List (D × D) → Bool
  | (.none, _) :: _ => true
  | _ => false
/-- an exception's dict -/
def XdB (B : Hp) (d : Option Addr) (fs : List (Str × V)) : Prop := (d = none ∧ fs = []) ∨ ∃ dd, d = some dd ∧ B dd = some (.xd fs)
mutual
inductive Rp (K : KW) (B : Hp) : V → D → Prop
  | non : Rp K B .non .none
  | bl (b : Bool) : Rp K B (.bl b) (.bool b)
  | int (i : Int) : Rp K B (.int i) (.int i)
  | str (x : Str) : Rp K B (.str x) (.str x)
  | lst {a : Addr} {xs : List V} {ds : List D} : SqL K B a xs → RpL K B xs ds → Rp K B (.ref a) (.list ds)
  | tup {a : Addr} {xs : List V} {ds : List D} : XT B a xs → RpL K B xs ds → Rp K B (.ref a) (.tuple ds)
  | dct {a : Addr} {ep : Nat} {b : Bool} {xs : List (NestedKey × Value × Value)} {ps : List (D × D)} : B a = some (dX K.w a ep xs) → RpX K B b xs ps → Rp K B (.ref a) (.dict ps)
  | exn {a : Addr} {c : Str} {d : Option Addr} {fs : List (Str × V)} {ds : List D} : B a = some (exV a (cvK K c) d) → xcB K (cvK K c) = true → XdB B d fs → RpL K B (fs.map (·.2)) ds → Rp K B (.ref a) (xnD c (fs.map (·.1)) ds)
inductive RpL (K : KW) (B : Hp) : List V → List D → Prop
  | nil : RpL K B [] []
  | cons {v : V} {vs : List V} {d : D} {ds : List D} : Rp K B v d → RpL K B vs ds → RpL K B (v :: vs) (d :: ds)
inductive RpK (K : KW) (B : Hp) : List (Key × V) → List (D × D) → Prop
  | nil : RpK K B [] []
  | cons {k : Key} {v : V} {kvs : List (Key × V)} {d : D} {ps : List (D × D)} : Rp K B v d → RpK K B kvs ps → RpK K B ((k, v) :: kvs) ((kD k, d) :: ps)
inductive RpX (K : KW) (B : Hp) : Bool → List (NestedKey × Value × Value) → List (D × D) → Prop
  | nil {b : Bool} : RpX K B b [] []
  | cons {b : Bool} {k : NestedKey} {kv v : V} {ku u : Value} {xs : List (NestedKey × Value × Value)} {kd d : D} {ps : List (D × D)} : keyD kd = some k → tupB kd = b → Rp K B kv kd → RelV kv ku → RelV v u → Rp K B v d → RpX K B b xs ps → RpX K B b ((k, ku, u) :: xs) ((kd, d) :: ps)
end
theorem same_rd {H H' : Hp} {a : Addr} {u : HO} (e : Same H H') (h : Rd H a u) : Rd H' a u := by
  rcases h with h | ⟨o, h⟩
  · exact .inl (e _ _ h)
  · exact .inr ⟨o, e _ _ h⟩
theorem same_l {K : KW} {H H' : Hp} {a : Addr} {xs : List V} (e : Same H H') (h : SqL K H a xs) : SqL K H' a xs := h.elim (fun h => .inl (same_rd e h)) .inr
theorem same_t {K : KW} {H H' : Hp} {a : Addr} {xs : List V} (e : Same H H') (h : SqT K H a xs) : SqT K H' a xs := h.elim (fun h => .inl (same_rd e h)) .inr
theorem same_x {H H' : Hp} {a : Addr} {xs : List V} (e : Same H H') (h : XT H a xs) : XT H' a xs := let ⟨o, h1, h2⟩ := h; ⟨o, e _ _ h1, h2⟩
theorem XdB.mono {B B' : Hp} {d : Option Addr} {fs : List (Str × V)} (e : Same B B') (h : XdB B d fs) : XdB B' d fs := h.imp id fun ⟨dd, e1, e2⟩ => ⟨dd, e1, e _ _ e2⟩
section
variable {K : KW} {B B' : Hp}
mutual
theorem Rp.mono (e : Same B B') : ∀ {v : V} {d : D}, Rp K B v d → Rp K B' v d
  | _, _, .non => .non
  | _, _, .bl b => .bl b
  | _, _, .int i => .int i
  | _, _, .str x => .str x
  | _, _, .lst h t => .lst (same_l e h) (RpL.mono e t)
  | _, _, .tup h t => .tup (same_x e h) (RpL.mono e t)
  | _, _, .dct h t => .dct (e _ _ h) (RpX.mono e t)
  | _, _, .exn h q x t => .exn (e _ _ h) q (x.mono e) (RpL.mono e t)
theorem RpL.mono (e : Same B B') : ∀ {v : List V} {d : List D}, RpL K B v d → RpL K B' v d
  | _, _, .nil => .nil
  | _, _, .cons h t => .cons (Rp.mono e h) (RpL.mono e t)
theorem RpK.mono (e : Same B B') : ∀ {v : List (Key × V)} {d : List (D × D)}, RpK K B v d → RpK K B' v d
  | _, _, .nil => .nil
  | _, _, .cons h t => .cons (Rp.mono e h) (RpK.mono e t)
theorem RpX.mono (e : Same B B') : ∀ {b : Bool} {v : List (NestedKey × Value × Value)} {d : List (D × D)}, RpX K B b v d → RpX K B' b v d
  | _, _, _, .nil => .nil
  | _, _, _, .cons h1 h2 h3 h4 h5 h6 m => .cons h1 h2 (Rp.mono e h3) h4 h5 (Rp.mono e h6) (RpX.mono e m)
end
theorem RpL.length : ∀ {vs : List V} {ds : List D}, RpL K B vs ds → vs.length = ds.length
  | _, _, .nil => rfl
  | _, _, .cons _ t => by rw [List.length_cons, List.length_cons, RpL.length t]
theorem RpL.get : ∀ {vs : List V} {ds : List D} {i : Nat} {d : D}, RpL K B vs ds → ds[i]? = some d → ∃ v, vs[i]? = some v ∧ Rp K B v d
  | _, _, _, _, .nil, e => by simp at e
  | _, _, 0, _, .cons h _, e => by simp at e; subst e; exact ⟨_, rfl, h⟩
  | _, _, i + 1, d, .cons _ t, e => by
    obtain ⟨v, h1, h2⟩ := RpL.get (i := i) (d := d) t (by simpa using e)
    exact ⟨v, by simpa using h1, h2⟩
theorem RpL.getV : ∀ {vs : List V} {ds : List D} {i : Nat} {v : V}, RpL K B vs ds → vs[i]? = some v → ∃ d, ds[i]? = some d ∧ Rp K B v d
  | _, _, _, _, .nil, e => by simp at e
  | _, _, 0, _, .cons h _, e => by simp at e; subst e; exact ⟨_, rfl, h⟩
  | _, _, i + 1, d, .cons _ t, e => by
    obtain ⟨v, h1, h2⟩ := RpL.getV (i := i) (v := d) t (by simpa using e)
    exact ⟨v, by simpa using h1, h2⟩
theorem RpL.append : ∀ {vs ws : List V} {ds es : List D}, RpL K B vs ds → RpL K B ws es → RpL K B (vs ++ ws) (ds ++ es)
  | _, _, _, _, .nil, s => s
  | _, _, _, _, .cons h t, s => .cons h (RpL.append t s)
theorem RpL.take : ∀ {vs : List V} {ds : List D} (n : Nat), RpL K B vs ds → RpL K B (vs.take n) (ds.take n)
  | _, _, 0, _ => .nil
  | _, _, _ + 1, .nil => .nil
  | _, _, n + 1, .cons h t => .cons h (RpL.take n t)
theorem RpL.drop : ∀ {vs : List V} {ds : List D} (n : Nat), RpL K B vs ds → RpL K B (vs.drop n) (ds.drop n)
  | _, _, 0, r => r
  | _, _, _ + 1, .nil => .nil
  | _, _, n + 1, .cons _ t => RpL.drop n t
theorem RpL.set {x : V} {e : D} (r : Rp K B x e) : ∀ {vs : List V} {ds : List D} (i : Nat), RpL K B vs ds → RpL K B (vs.set i x) (ds.set i e)
  | _, _, _, .nil => .nil
  | _, _, 0, .cons _ t => .cons r t
  | _, _, i + 1, .cons q t => .cons q (RpL.set r i t)
theorem RpL.reverse {vs : List V} {ds : List D} (h : RpL K B vs ds) : RpL K B vs.reverse ds.reverse := by
  induction vs generalizing ds with
  | nil => cases h; exact .nil
  | cons v vs ih =>
    cases h with
    | cons h1 h2 =>
      rw [List.reverse_cons, List.reverse_cons]
      exact (ih h2).append (.cons h1 .nil)
mutual
def plain : D → Bool
  | .none => true
  | .bool _ => true
  | .int _ => true
  | .str _ => true
  | .list ds => plainL ds
  | .tuple ds => plainL ds
  | .dict _ => false
def plainL : List D → Bool
  | [] => true
  | d :: ds => plain d && plainL ds
end
mutual
theorem Rp.dp : ∀ {v : V} (d : D), Rp K B v d → plain d = true → Dp K B v d
  | _, .none, .non, _ => .non
  | _, .bool _, .bl b, _ => .bl b
  | _, .int _, .int i, _ => .int i
  | _, .str _, .str x, _ => .str x
  | _, .list ds, .lst h t, e => .lst h (RpL.dp ds t (by unfold plain at e; exact e))
  | _, .tuple ds, .tup h t, e => .tup h.sq (RpL.dp ds t (by unfold plain at e; exact e))
  | _, .dict _, .dct h t, e => by unfold plain at e; cases e
  | _, .dict _, .exn _ _ _ _, e => by unfold plain at e; cases e
theorem RpL.dp : ∀ {vs : List V} (ds : List D), RpL K B vs ds → plainL ds = true → DpAll K B vs ds
  | _, [], .nil, _ => .nil
  | _, d :: ds, .cons h t, e => by
    unfold plainL at e
    rw [Bool.and_eq_true] at e
    exact .cons (Rp.dp d h e.1) (RpL.dp ds t e.2)
end
end
/-- the object of an owned slot -/
def Ow (K : KW) (B : Hp) (a : Addr) (o : Option HO) : D → Prop
  | .list ds => ∃ vs, o = some (.lst vs) ∧ RpL K B vs ds
  | .dict ps => ∃ ep b xs, o = some (dX K.w a ep xs) ∧ RpX K B b xs ps
  | _ => False
theorem Ow.mono {K : KW} {B B' : Hp} {a : Addr} {o : Option HO} (e : Same B B') : ∀ {d : D}, Ow K B a o d → Ow K B' a o d
  | .list _, ⟨vs, h1, h2⟩ => ⟨vs, h1, h2.mono e⟩
  | .dict _, ⟨ep, b, xs, h1, h2⟩ => ⟨ep, b, xs, h1, h2.mono e⟩
theorem Ow.some {K : KW} {B : Hp} {a : Addr} {o : Option HO} : ∀ {d : D}, Ow K B a o d → ∃ u, o = Option.some u
  | .list _, ⟨vs, h1, _⟩ => ⟨_, h1⟩
  | .dict _, ⟨_, _, _, h1, _⟩ => ⟨_, h1⟩
/-- slot i holds v by c -/
def COk (K : KW) (B H : Hp) (c : Cel) (v : V) : Prop :=
  (c.fl = .sh ∧ Rp K B v c.d) ∨ (c.fl ≠ .sh ∧ ∃ a, v = .ref a ∧ B a = none ∧ Ow K B a (H a) c.d)
def OwnA (ρ : Rho) (σ : St) (a : Addr) : Prop := ∃ (i : Nat) (c : Cel), ρ[i]? = some (some c) ∧ c.fl ≠ .sh ∧ σ[i]? = some (some (.ref a))
structure Sim (K : KW) (ρ : Rho) (σ : St) (B H : Hp) : Prop where
  bh : Same B H
  len : ρ.length = σ.length
  sl : ∀ (i : Nat) (c : Cel), ρ[i]? = some (some c) → ∃ v, σ[i]? = some (some v) ∧ COk K B H c v
  dj : ∀ (i j : Nat) (ci cj : Cel) (a : Addr), ρ[i]? = some (some ci) → ρ[j]? = some (some cj) → ci.fl ≠ .sh → cj.fl ≠ .sh → σ[i]? = some (some (.ref a)) → σ[j]? = some (some (.ref a)) → i = j
/-- what may become shared or owned: a new address, or an owned one -/
def New (ρ : Rho) (σ : St) (H : Hp) (a : Addr) : Prop := H a = none ∨ OwnA ρ σ a
/-- from one state to a later one: what is shared stays and grows by new objects (and owned ones that are given up); what was neither shared nor owned stays -/
structure Ext (ρ : Rho) (σ : St) (B H : Hp) (ρ' : Rho) (σ' : St) (B' H' : Hp) : Prop where
  bb : Same B B'
  nw : ∀ a o, B' a = some o → B a = some o ∨ New ρ σ H a
  kp : ∀ a o, H a = some o → ¬ OwnA ρ σ a → H' a = some o
  sub : ∀ a, OwnA ρ' σ' a → New ρ σ H a
  io : ∀ (i : Nat) (c : Cel), ρ[i]? = some (some c) → c.fl = .io → σ'[i]? = σ[i]? ∧ ∃ c', ρ'[i]? = some (some c') ∧ c'.fl = .io
  oi : ∀ (i : Nat) (c : Cel), ρ'[i]? = some (some c) → c.fl = .io → ∃ c', ρ[i]? = some (some c') ∧ c'.fl = .io
section
variable {K : KW} {ρ ρ1 ρ2 : Rho} {σ σ1 σ2 : St} {B B1 B2 H H1 H2 : Hp}
theorem Ext.refl : Ext ρ σ B H ρ σ B H :=
  ⟨Same.refl B, fun _ _ h => .inl h, fun _ _ h _ => h, fun _ h => .inr h, fun i c h1 h2 => ⟨rfl, c, h1, h2⟩, fun i c h1 h2 => ⟨c, h1, h2⟩⟩
/-- what is new later is new from the start -/
theorem Ext.back (a : Ext ρ σ B H ρ1 σ1 B1 H1) {x : Addr} (h : New ρ1 σ1 H1 x) : New ρ σ H x := by
  rcases h with h | h
  · by_cases ho : OwnA ρ σ x
    · exact .inr ho
    · cases e : H x with
      | none => exact .inl e
      | some u =>
        rw [a.kp x u e ho] at h
        cases h
  · exact a.sub x h
theorem Ext.trans (a : Ext ρ σ B H ρ1 σ1 B1 H1) (b : Ext ρ1 σ1 B1 H1 ρ2 σ2 B2 H2) : Ext ρ σ B H ρ2 σ2 B2 H2 where
  bb := a.bb.trans b.bb
  nw := fun x o h => (b.nw x o h).elim (fun h => a.nw x o h) fun h => .inr (a.back h)
  kp := fun x o h n => b.kp x o (a.kp x o h n) fun q => (a.sub x q).elim (fun z => by rw [h] at z; cases z) n
  sub := fun x h => a.back (b.sub x h)
  io := fun i c h1 h2 => by
    obtain ⟨e1, c1, q1, q2⟩ := a.io i c h1 h2
    obtain ⟨e2, c2, q3, q4⟩ := b.io i c1 q1 q2
    exact ⟨e2.trans e1, c2, q3, q4⟩
  oi := fun i c h1 h2 => by
    obtain ⟨c1, q1, q2⟩ := b.oi i c h1 h2
    exact a.oi i c1 q1 q2
/-- an address that is tracked, not shared and nobody's stays so -/
theorem Ext.keepN (a : Ext ρ σ B H ρ1 σ1 B1 H1) {x : Addr} {o : HO} (h : H x = some o) (hb : B x = none) (n : ¬ OwnA ρ σ x) : H1 x = some o ∧ B1 x = none ∧ ¬ OwnA ρ1 σ1 x := by
  have nn : ¬ New ρ σ H x := fun q => q.elim (fun z => by rw [h] at z; cases z) n
  refine ⟨a.kp x o h n, ?_, fun q => nn (a.sub x q)⟩
  cases e : B1 x with
  | none => rfl
  | some u =>
    rcases a.nw x u e with q | q
    · rw [hb] at q; cases q
    · exact absurd q nn
theorem Sim.ownH (S : Sim K ρ σ B H) {a : Addr} (h : OwnA ρ σ a) : B a = none ∧ ∃ o, H a = some o := by
  obtain ⟨i, c, h1, h2, h3⟩ := h
  obtain ⟨v, e, q⟩ := S.sl i c h1
  rw [h3] at e
  cases e
  rcases q with ⟨z, _⟩ | ⟨_, b, e, q1, q2⟩
  · exact absurd z h2
  · cases e
    exact ⟨q1, q2.some⟩
theorem Sim.free (S : Sim K ρ σ B H) {p : Addr} (h : H p = none) : B p = none ∧ ¬ OwnA ρ σ p :=
  ⟨S.bh.free h, fun q => by obtain ⟨_, o, e⟩ := S.ownH q; rw [h] at e; cases e⟩
theorem COk.mono {c : Cel} {v : V} (h : COk K B H c v) (e : Same B B1) (hf : ∀ a, v = .ref a → B a = none → (∃ o, H a = some o) → c.fl ≠ .sh → B1 a = none ∧ H1 a = H a) : COk K B1 H1 c v := by
  rcases h with ⟨h1, h2⟩ | ⟨h1, a, rfl, h2, h3⟩
  · exact .inl ⟨h1, h2.mono e⟩
  · obtain ⟨q1, q2⟩ := hf a rfl h2 h3.some h1
    exact .inr ⟨h1, a, rfl, q1, by rw [q2]; exact h3.mono e⟩
/-- a new object, shared -/
theorem Sim.newB (S : Sim K ρ σ B H) {p : Addr} (hp : H p = none) (o : HO) : Sim K ρ σ (upd B p o) (upd H p o) ∧ Ext ρ σ B H ρ σ (upd B p o) (upd H p o) := by
  obtain ⟨bp, np⟩ := S.free hp
  have sB : Same B (upd B p o) := fun b u e => by rw [upd_ne (ne_of_none e bp)]; exact e
  have sH : Same H (upd H p o) := fun b u e => by rw [upd_ne (ne_of_none e hp)]; exact e
  refine ⟨⟨fun b u e => ?_, S.len, fun i c h => ?_, S.dj⟩, ⟨sB, fun a u e => ?_, fun a u e _ => sH a u e, fun _ h => .inr h, fun i c h1 h2 => ⟨rfl, c, h1, h2⟩, fun i c h1 h2 => ⟨c, h1, h2⟩⟩⟩
  · by_cases hb : b = p
    · subst hb; rw [upd_same] at e ⊢; exact e
    · rw [upd_ne hb] at e ⊢; exact S.bh _ _ e
  · obtain ⟨v, e, q⟩ := S.sl i c h
    refine ⟨v, e, q.mono sB fun a hv ha ho hf => ?_⟩
    have ne : a ≠ p := fun z => by subst z; obtain ⟨_, w⟩ := ho; rw [hp] at w; cases w
    exact ⟨by rw [upd_ne ne]; exact ha, by rw [upd_ne ne]⟩
  · by_cases hb : a = p
    · subst hb; exact .inr (.inl hp)
    · rw [upd_ne hb] at e; exact .inl e
/-- a new object that nobody holds yet -/
theorem Sim.newH (S : Sim K ρ σ B H) {p : Addr} (hp : H p = none) (o : HO) : Sim K ρ σ B (upd H p o) ∧ Ext ρ σ B H ρ σ B (upd H p o) := by
  obtain ⟨bp, np⟩ := S.free hp
  have sH : Same H (upd H p o) := fun b u e => by rw [upd_ne (ne_of_none e hp)]; exact e
  refine ⟨⟨S.bh.trans sH, S.len, fun i c h => ?_, S.dj⟩, ⟨Same.refl B, fun a u e => .inl e, fun a u e _ => sH a u e, fun _ h => .inr h, fun i c h1 h2 => ⟨rfl, c, h1, h2⟩, fun i c h1 h2 => ⟨c, h1, h2⟩⟩⟩
  obtain ⟨v, e, q⟩ := S.sl i c h
  refine ⟨v, e, q.mono (Same.refl B) fun a hv ha ho hf => ?_⟩
  have ne : a ≠ p := fun z => by subst z; obtain ⟨_, w⟩ := ho; rw [hp] at w; cases w
  exact ⟨ha, by rw [upd_ne ne]⟩
/-- an object that nobody holds becomes shared -/
theorem Sim.share (S : Sim K ρ σ B H) {p : Addr} {o : HO} (hb : B p = none) (hp : H p = some o) (n : ¬ OwnA ρ σ p) : Sim K ρ σ (upd B p o) H := by
  have sB : Same B (upd B p o) := fun b u e => by rw [upd_ne (ne_of_none e hb)]; exact e
  refine ⟨fun b u e => ?_, S.len, fun i c h => ?_, S.dj⟩
  · by_cases h : b = p
    · subst h; rw [upd_same] at e; cases e; exact hp
    · rw [upd_ne h] at e; exact S.bh _ _ e
  · obtain ⟨v, e, q⟩ := S.sl i c h
    refine ⟨v, e, q.mono sB fun a hv ha ho hf => ⟨?_, rfl⟩⟩
    have ne : a ≠ p := fun z => by subst z; subst hv; exact n ⟨i, c, h, hf, e⟩
    rw [upd_ne ne]; exact ha
end
end GS
namespace GS
open PySem L2
def HdOk (K : KW) (N : Addr → Prop) (ρ : Rho) (σ : St) (B H : Hp) (v : V) : Hd → Prop
  | .sh d => Rp K B v d
  | .fr d => ∃ a, v = .ref a ∧ B a = none ∧ Ow K B a (H a) d ∧ ¬ OwnA ρ σ a ∧ N a
  | .bw i => σ[i]? = some (some v)
/-- the context of a reading: the written part, the classes' values by name, what is wanted of an exception -/
structure Ct where
  K : KW
  cv : Str → Value
  W : WX
def XcOk (C : Ct) (B : Hp) (x : Xc) (cls : Value) (dct : Option Addr) : Prop :=
  cls = C.cv x.cls ∧ ((x.fs = [] ∧ dct = none) ∨ ∃ a fs, dct = some a ∧ B a = some (.xd fs) ∧ fs.map (·.1) = x.fs.map (·.1) ∧ RpL C.K B (fs.map (·.2)) (x.fs.map (·.2)))
def GoodE (C : Ct) (ρ : Rho) (σ : St) (B H : Hp) (Q : VK) : RE → Prop
  | .stuck => False
  | .ok h ρ' => ∀ v B' H', Sim C.K ρ' σ B' H' → Ext ρ σ B H ρ' σ B' H' → HdOk C.K (New ρ σ H) ρ' σ B' H' v h → Q v H'
  | .exc x ρ' => ∀ cls dct B' H', Sim C.K ρ' σ B' H' → Ext ρ σ B H ρ' σ B' H' → XcOk C B' x cls dct → C.W cls dct σ H'
def LkE (C : Ct) (t : TE) (f : EF) : Prop := ∀ ρ σ B H Q, Sim C.K ρ σ B H → GoodE C ρ σ B H Q (f ρ) → t σ H Q
structure SE (X : Cx) (C : Ct) (e : Expr) (t : TE) (f : EF) : Prop where
  pe : PE X e t
  lk : LkE C t f
def bindE (r : RE) (k : Hd → Rho → RE) : RE := match r with
  | .stuck => .stuck
  | .ok h ρ => k h ρ
  | .exc x ρ => .exc x ρ
/-- what a slot holds -/
def slot (ρ : Rho) (i : Nat) : Option Cel := match ρ[i]? with
  | some (some c) => some c
  | _ => none
theorem slot_some {ρ : Rho} {i : Nat} {c : Cel} (h : slot ρ i = some c) : ρ[i]? = some (some c) := by
  unfold slot at h
  split at h
  · rename_i c' e; cases h; exact e
  · cases h
def getH (ρ : Rho) : Hd → Option D
  | .sh d => some d
  | .fr d => some d
  | .bw i => (slot ρ i).map (·.d)
def capH (ρ : Rho) : Hd → Option D
  | .sh d => some d
  | .fr d => some d
  | .bw i => match slot ρ i with
    | some ⟨d, .sh⟩ => some d
    | _ => none
def setl : Hd → Hd
  | .fr d => .sh d
  | h => h
/-- captured: a shared datum -/
def eCap (f : EF) : EF := fun ρ => bindE (f ρ) fun h ρ' => match capH ρ' h with
  | some d => .ok (.sh d) ρ'
  | none => .stuck
/-- looked at: what is new is shared -/
def eSet (f : EF) : EF := fun ρ => bindE (f ρ) fun h ρ' => .ok (setl h) ρ'
section
variable {C : Ct} {ρ ρ' ρ1 : Rho} {σ : St} {B B' H H' B1 H1 : Hp} {Q : VK} {t ta tb : TE} {f fa fb : EF} {N N' : Addr → Prop} {v : V}
theorem HdOk.mono {K : KW} (k : ∀ a, N a → N' a) : ∀ {h : Hd}, HdOk K N ρ σ B H v h → HdOk K N' ρ σ B H v h
  | .sh _, q => q
  | .fr _, ⟨a, h1, h2, h3, h4, h5⟩ => ⟨a, h1, h2, h3, h4, k a h5⟩
  | .bw _, q => q
/-- a step in the middle: what is good behind is good ahead -/
theorem GoodE.ext (e : Ext ρ σ B H ρ1 σ B1 H1) : ∀ {r : RE}, GoodE C ρ σ B H Q r → GoodE C ρ1 σ B1 H1 Q r
  | .stuck, h => h
  | .ok _ _, h => fun v B' H' s x y => h v B' H' s (e.trans x) (y.mono fun _ z => e.back z)
  | .exc _ _, h => fun c d B' H' s x => h c d B' H' s (e.trans x)
theorem GoodE.imp {Q' : VK} (k : ∀ v H, Q v H → Q' v H) : ∀ {r : RE}, GoodE C ρ σ B H Q r → GoodE C ρ σ B H Q' r
  | .stuck, h => h
  | .ok _ _, h => fun v B' H' s x y => k _ _ (h v B' H' s x y)
  | .exc _ _, h => h
/-- THE RULE: an expression, then what follows -/
theorem LkE.bind (l : LkE C t f) (S : Sim C.K ρ σ B H) {k : Hd → Rho → RE} {Q' : VK} (g : GoodE C ρ σ B H Q (bindE (f ρ) k))
    (h : ∀ hd ρ1 v B1 H1, Sim C.K ρ1 σ B1 H1 → Ext ρ σ B H ρ1 σ B1 H1 → HdOk C.K (New ρ σ H) ρ1 σ B1 H1 v hd → GoodE C ρ σ B H Q (k hd ρ1) → Q' v H1) : t σ H Q' := by
  refine l ρ σ B H Q' S ?_
  cases e : f ρ with
  | stuck => rw [e] at g; exact g
  | ok hd ρ1 =>
    rw [e] at g
    exact fun v B1 H1 s x y => h hd ρ1 v B1 H1 s x y g
  | exc x ρ1 =>
    rw [e] at g
    exact g
/-- a new datum that nobody holds is shared from here on -/
theorem Sim.cap (S : Sim C.K ρ1 σ B1 H1) (x : Ext ρ σ B H ρ1 σ B1 H1) {d : D} (h : HdOk C.K (New ρ σ H) ρ1 σ B1 H1 v (.fr d)) : ∃ B2, Sim C.K ρ1 σ B2 H1 ∧ Ext ρ σ B H ρ1 σ B2 H1 ∧ Rp C.K B2 v d := by
  obtain ⟨a, rfl, hb, ho, hn, hN⟩ := h
  obtain ⟨o, e⟩ := ho.some
  have sB : Same B1 (upd B1 a o) := fun b u e => by rw [upd_ne (ne_of_none e hb)]; exact e
  refine ⟨upd B1 a o, S.share hb e hn, ⟨x.bb.trans sB, fun b u e => ?_, x.kp, x.sub, x.io, x.oi⟩, ?_⟩
  · by_cases hb : b = a
    · subst hb; exact .inr hN
    · rw [upd_ne hb] at e; exact x.nw b u e
  · rw [e] at ho
    have ho := ho.mono sB
    cases d with
    | list ds =>
      obtain ⟨vs, e1, e2⟩ := ho
      cases e1
      exact .lst (.inl (.inl upd_same)) e2
    | dict ps =>
      obtain ⟨ep, b, xs, e1, e2⟩ := ho
      cases e1
      exact .dct upd_same e2
    | _ => exact ho.elim
theorem LkE.cap (l : LkE C t f) : LkE C t (eCap f) := fun ρ σ B H Q S g => by
  refine l.bind S g fun hd ρ1 v B1 H1 S1 x y g => ?_
  cases hd with
  | sh d => exact g v B1 H1 S1 x y
  | fr d =>
    obtain ⟨B2, S2, x2, r⟩ := S1.cap x y
    exact g v B2 H1 S2 x2 r
  | bw i =>
    unfold capH at g
    dsimp only at g
    split at g
    · rename_i d e
      split at e
      · rename_i d' e'
        cases e
        have e' := slot_some e'
        obtain ⟨v', q1, q2⟩ := S1.sl i _ e'
        have y' : σ[i]? = some (some v) := y
        rw [y'] at q1
        cases q1
        rcases q2 with ⟨_, q2⟩ | ⟨q, _⟩
        · exact g v B1 H1 S1 x q2
        · exact absurd rfl q
      · cases e
    · exact g.elim
theorem LkE.set (l : LkE C t f) : LkE C t (eSet f) := fun ρ σ B H Q S g => by
  refine l.bind S g fun hd ρ1 v B1 H1 S1 x y g => ?_
  cases hd with
  | sh d => exact g v B1 H1 S1 x y
  | fr d =>
    obtain ⟨B2, S2, x2, r⟩ := S1.cap x y
    exact g v B2 H1 S2 x2 r
  | bw i => exact g v B1 H1 S1 x y
theorem SE.cap {X : Cx} {e : Expr} (h : SE X C e t f) : SE X C e t (eCap f) := ⟨h.pe, h.lk.cap⟩
theorem SE.set {X : Cx} {e : Expr} (h : SE X C e t f) : SE X C e t (eSet f) := ⟨h.pe, h.lk.set⟩
def Tp (K : KW) (B H : Hp) (v : V) : D → Prop
  | .list ds => ∃ a vs, v = .ref a ∧ SqL K H a vs ∧ RpL K B vs ds
  | .dict ps => (∃ a ep b xs, v = .ref a ∧ H a = some (dX K.w a ep xs) ∧ RpX K B b xs ps) ∨ (xnB ps = true ∧ Rp K B v (.dict ps))
  | d => Rp K B v d
theorem Tp.of {K : KW} (s : Same B H) : ∀ {d : D}, Rp K B v d → Tp K B H v d
  | .list _, .lst h t => ⟨_, _, rfl, same_l s h, t⟩
  | .dict _, .dct h t => .inl ⟨_, _, _, _, rfl, s _ _ h, t⟩
  | .dict _, .exn h q x t => .inr ⟨rfl, .exn h q x t⟩
  | .none, h => h
  | .bool _, h => h
  | .int _, h => h
  | .str _, h => h
  | .tuple _, h => h
theorem Tp.rp {K : KW} (s : Same B H) : ∀ {d : D}, Tp K B H v d → Rp K H v d
  | .list _, ⟨_, _, e, h, t⟩ => by subst e; exact .lst h (t.mono s)
  | .dict _, .inl ⟨_, _, _, _, e, h, t⟩ => by subst e; exact .dct h (t.mono s)
  | .dict _, .inr ⟨_, h⟩ => Rp.mono s h
  | .none, h => Rp.mono s h
  | .bool _, h => Rp.mono s h
  | .int _, h => Rp.mono s h
  | .str _, h => Rp.mono s h
  | .tuple _, h => Rp.mono s h
theorem Sim.tp (S : Sim C.K ρ σ B H) {h : Hd} {d : D} (y : HdOk C.K N ρ σ B H v h) (g : getH ρ h = some d) : Tp C.K B H v d := by
  cases h with
  | sh e =>
    cases g
    exact Tp.of S.bh y
  | fr e =>
    cases g
    obtain ⟨a, rfl, hb, ho, _⟩ := y
    cases d with
    | list ds =>
      obtain ⟨vs, e1, e2⟩ := ho
      exact ⟨a, vs, rfl, .inl (.inl e1), e2⟩
    | dict ds =>
      obtain ⟨ep, b, xs, e1, e2⟩ := ho
      exact .inl ⟨a, ep, b, xs, rfl, e1, e2⟩
    | _ => exact ho.elim
  | bw i =>
    replace g : (slot ρ i).map (·.d) = some d := g
    cases e : slot ρ i with
    | none => rw [e] at g; cases g
    | some c =>
      rw [e] at g
      cases g
      obtain ⟨v', q1, q2⟩ := S.sl i c (slot_some e)
      have y' : σ[i]? = some (some v) := y
      rw [y'] at q1
      cases q1
      rcases q2 with ⟨_, q2⟩ | ⟨_, a, rfl, hb, ho⟩
      · exact Tp.of S.bh q2
      · obtain ⟨d, fl⟩ := c
        cases d with
        | list ds =>
          obtain ⟨vs, e1, e2⟩ := ho
          exact ⟨a, vs, rfl, .inl (.inl e1), e2⟩
        | dict ds =>
          obtain ⟨ep, b, xs, e1, e2⟩ := ho
          exact .inl ⟨a, ep, b, xs, rfl, e1, e2⟩
        | _ => exact ho.elim
/-- a looked-at operand stays good -/
theorem HdOk.ext (x : Ext ρ σ B H ρ1 σ B1 H1) {h : Hd} (y : HdOk C.K N ρ σ B H v (setl h)) : HdOk C.K N' ρ1 σ B1 H1 v (setl h) := by
  cases h with
  | sh d => exact Rp.mono x.bb y
  | fr d => exact Rp.mono x.bb y
  | bw i => exact y
def OpL (K : KW) (r : R2) (o : D → D → Option Hd) : Prop := ∀ ρ σ B H x y dx dy h Q, Sim K ρ σ B H → Tp K B H x dx → Tp K B H y dy → o dx dy = some h →
  (∀ v B' H', Sim K ρ σ B' H' → Ext ρ σ B H ρ σ B' H' → HdOk K (New ρ σ H) ρ σ B' H' v h → Q v H') → r x y H Q
def eBin (o : D → D → Option Hd) (fa fb : EF) : EF := fun ρ => bindE (eSet fa ρ) fun ha ρ1 => bindE (eSet fb ρ1) fun hb ρ2 => match getH ρ2 ha, getH ρ2 hb with
  | some da, some db => match o da db with
    | some h => .ok h ρ2
    | none => .stuck
  | _, _ => .stuck
theorem LkE.setBind (l : LkE C t f) (S : Sim C.K ρ σ B H) {k : Hd → Rho → RE} {Q' : VK} (g : GoodE C ρ σ B H Q (bindE (eSet f ρ) k))
    (h : ∀ hd ρ1 v B1 H1, Sim C.K ρ1 σ B1 H1 → Ext ρ σ B H ρ1 σ B1 H1 → HdOk C.K (New ρ σ H) ρ1 σ B1 H1 v (setl hd) → GoodE C ρ1 σ B1 H1 Q (k (setl hd) ρ1) → Q' v H1) : t σ H Q' := by
  refine l.set ρ σ B H Q' S ?_
  unfold eSet at g ⊢
  cases e : f ρ with
  | stuck => rw [e] at g; exact g
  | ok hd ρ1 =>
    rw [e] at g
    exact fun v B1 H1 s x y => h hd ρ1 v B1 H1 s x y (GoodE.ext x g)
  | exc x ρ1 =>
    rw [e] at g
    exact g
theorem lk_op {r : R2} {o : D → D → Option Hd} (hr : OpL C.K r o) (la : LkE C ta fa) (lb : LkE C tb fb) : LkE C (tOp r ta tb) (eBin o fa fb) := fun ρ σ B H Q S g => by
  refine la.setBind S g fun ha ρ1 x B1 H1 S1 e1 y1 g1 => ?_
  refine lb.setBind S1 g1 fun hb ρ2 y B2 H2 S2 e2 y2 g2 => ?_
  split at g2
  · rename_i da db ea eb
    split at g2
    · rename_i h eh
      exact hr ρ2 σ B2 H2 x y da db h Q S2 (S2.tp (N := fun _ => True) (HdOk.ext e2 y1) ea) (S2.tp y2 eb) eh g2
    · exact g2.elim
  · exact g2.elim
theorem se_bin {X : Cx} {r : R2} {o : D → D → Option Hd} {op : Operator} {a b : Expr} {pos : Pos} (hr : OpL C.K r o) (ho : OpR X (binaryOp op) r) (la : SE X C a ta fa) (lb : SE X C b tb fb) : SE X C (.BinOp a op b pos) (tOp r ta tb) (eBin o fa fb) :=
  ⟨pe_op ho la.pe lb.pe, lk_op hr la.lk lb.lk⟩
/-- two ways of one operator -/
def orO (o o' : D → D → Option Hd) : D → D → Option Hd := fun x y => match o x y with
  | some h => some h
  | none => o' x y
theorem OpL.or {K : KW} {r r' : R2} {o o' : D → D → Option Hd} (a : OpL K r o) (b : OpL K r' o') : OpL K (fun x y H Q => r x y H Q ∨ r' x y H Q) (orO o o') := fun ρ σ B H x y dx dy h Q S tx ty e k => by
  unfold orO at e
  cases q : o dx dy with
  | some h' =>
    rw [q] at e
    cases e
    exact .inl (a ρ σ B H x y dx dy _ Q S tx ty q k)
  | none =>
    rw [q] at e
    exact .inr (b ρ σ B H x y dx dy _ Q S tx ty e k)
end
end GS
namespace GS
open PySem L2 PySem.Calls
section
variable {K : KW} {ρ : Rho} {σ : St} {B H : Hp} {v x y : V} {Q : VK}
theorem Tp.int {i : Int} (h : Tp K B H v (.int i)) : v = .int i := by cases h; rfl
theorem Tp.str {i : Str} (h : Tp K B H v (.str i)) : v = .str i := by cases h; rfl
theorem Tp.bl {i : Bool} (h : Tp K B H v (.bool i)) : v = .bl i := by cases h; rfl
theorem Tp.non (h : Tp K B H v .none) : v = .non := by cases h; rfl
theorem Rp.tupE {ds : List D} (h : Rp K B v (.tuple ds)) : ∃ a vs, v = .ref a ∧ SqT K B a vs ∧ RpL K B vs ds := by
  cases h with
  | tup h t => exact ⟨_, _, rfl, h.sq, t⟩
theorem Rp.tupX {ds : List D} (h : Rp K B v (.tuple ds)) : ∃ a vs, v = .ref a ∧ XT B a vs ∧ RpL K B vs ds := by
  cases h with
  | tup h t => exact ⟨_, _, rfl, h, t⟩
theorem Rp.lstE {ds : List D} (h : Rp K B v (.list ds)) : ∃ a vs, v = .ref a ∧ SqL K B a vs ∧ RpL K B vs ds := by
  cases h with
  | lst h t => exact ⟨_, _, rfl, h, t⟩
theorem Tp.tup {ds : List D} (h : Tp K B H v (.tuple ds)) : ∃ a vs, v = .ref a ∧ SqT K B a vs ∧ RpL K B vs ds := Rp.tupE h
theorem Tp.tupX {ds : List D} (h : Tp K B H v (.tuple ds)) : ∃ a vs, v = .ref a ∧ XT B a vs ∧ RpL K B vs ds := Rp.tupX h
/-- the state as it is, a shared value -/
theorem now (S : Sim K ρ σ B H) {d : D} (h : Rp K B v d) (k : ∀ v B' H', Sim K ρ σ B' H' → Ext ρ σ B H ρ σ B' H' → HdOk K (New ρ σ H) ρ σ B' H' v (.sh d) → Q v H') : Q v H := k v B H S Ext.refl h
/-- a new tuple, shared -/
theorem newT (S : Sim K ρ σ B H) {vs : List V} {ds : List D} (h : RpL K B vs ds) (k : ∀ v B' H', Sim K ρ σ B' H' → Ext ρ σ B H ρ σ B' H' → HdOk K (New ρ σ H) ρ σ B' H' v (.sh (.tuple ds)) → Q v H') :
    ∀ p o, H p = none → o.dict = none → Q (.ref p) (upd H p (.frz o (.tup vs))) := fun p o hp ho => by
  obtain ⟨S', x⟩ := S.newB hp (.frz o (.tup vs))
  exact k _ _ _ S' x (.tup (XT.new ho) (h.mono x.bb))
/-- a new list that nobody holds -/
theorem newL (S : Sim K ρ σ B H) {vs : List V} {ds : List D} (h : RpL K B vs ds) (k : ∀ v B' H', Sim K ρ σ B' H' → Ext ρ σ B H ρ σ B' H' → HdOk K (New ρ σ H) ρ σ B' H' v (.fr (.list ds)) → Q v H') :
    ∀ p, H p = none → Q (.ref p) (upd H p (.lst vs)) := fun p hp => by
  obtain ⟨S', x⟩ := S.newH hp (.lst vs)
  obtain ⟨b, n⟩ := S.free hp
  exact k _ _ _ S' x ⟨p, rfl, b, ⟨vs, upd_same, h⟩, n, .inl hp⟩
end
section
variable {X : Cx}
def rCatL (K : PySem.W.Frag) : R2 := fun x y H Q => ∃ l b xs zs, x = .ref l ∧ y = .ref b ∧ SqL K H l xs ∧ SqL K H b zs ∧ xs.length + zs.length ≤ sizeLine ∧ ∀ p, H p = none → Q (.ref p) (upd H p (.lst (xs ++ zs)))
theorem op_catL : OpR X (binaryOp .Add) (rCatL X.K) := by
  intro pins s σ H x y v u Q I rx ry h
  obtain ⟨l, b, xs, zs, rfl, rfl, hH, hB, hz, q⟩ := h
  cases rx
  cases ry
  obtain ⟨its, r, p1, _⟩ := I.list hH
  obtain ⟨its2, r2, p2, _⟩ := I.list hB
  have l1 := r.length
  have l2 := r2.length
  obtain ⟨⟨cls, dd, data, sl⟩, ho, hc, n, hd⟩ := p1.isList
  obtain ⟨⟨cls2, dd2, data2, sl2⟩, ho2, hc2, n2, hd2⟩ := p2.isList
  simp only at hc hd hc2 hd2
  subst hc hd hc2 hd2
  refine concat_meets ⟨_, ho, rfl⟩ ⟨_, ho2, rfl⟩ noFill_list_add seq_list_add PySem.F.slot_list_add PySem.F.entry_list_add (PySem.F.args_list_add_2 _ _) (PyProof.Rows.list_addW l b its.toArray its2.toArray n n2 dd dd2 sl sl2 (by simp; omega)) ⟨ho, ho2, ?_⟩
  have e : its.toArray ++ its2.toArray = (its ++ its2).toArray := by simp
  rw [e]
  exact ⟨.ref _, _, I.lnew (t' := s.toks) (r.append r2) (by rw [List.length_append]; omega), rfl, q _ I.fresh⟩
end
theorem if_some {c : Prop} [Decidable c] {α : Type} {a h : α} (e : (if c then some a else none) = some h) : c ∧ a = h := by
  split at e
  · cases e; exact ⟨by assumption, rfl⟩
  · cases e
/-- + -/
def addD : D → D → Option Hd
  | .int i, .int j => some (.sh (.int (i + j)))
  | .str i, .str j => if i.length + j.length ≤ sizeLine then some (.sh (.str (i ++ j))) else none
  | .tuple xs, .tuple ys => if xs.length + ys.length ≤ sizeLine then some (.sh (.tuple (xs ++ ys))) else none
  | .list xs, .list ys => if xs.length + ys.length ≤ sizeLine then some (.fr (.list (xs ++ ys))) else none
  | _, _ => none
def rAddA (K : PySem.W.Frag) : R2 := fun x y H Q => (rI0 fun i j => .int (i + j)) x y H Q ∨ ((∃ i j, x = .str i ∧ y = .str j ∧ i.length + j.length ≤ sizeLine ∧ Q (.str (i ++ j)) H) ∨ (rCatX K x y H Q ∨ rCatL K x y H Q))
theorem op_addA {X : Cx} : OpR X (binaryOp .Add) (rAddA X.K) := OpR.or op_add (OpR.or op_add_str (OpR.or op_catX op_catL))
theorem ol_add {K : KW} : OpL K (rAddA K) addD := fun ρ σ B H x y dx dy h Q S tx ty e k => by
  cases dx <;> cases dy <;> first | (cases (show none = some h from e); done) | skip
  · cases e
    rw [tx.int, ty.int]
    exact .inl ⟨_, _, rfl, rfl, now S (.int _) k⟩
  · obtain ⟨c, rfl⟩ := if_some e
    rw [tx.str, ty.str]
    exact .inr (.inl ⟨_, _, rfl, rfl, c, now S (.str _) k⟩)
  · obtain ⟨c, rfl⟩ := if_some e
    obtain ⟨a, vs, rfl, ha, ra⟩ := tx
    obtain ⟨b, ws, rfl, hb, rb⟩ := ty
    exact .inr (.inr (.inr ⟨a, b, vs, ws, rfl, rfl, ha, hb, by rw [ra.length, rb.length]; exact c, newL S (ra.append rb) k⟩))
  · obtain ⟨c, rfl⟩ := if_some e
    obtain ⟨a, vs, rfl, ha, ra⟩ := tx.tupX
    obtain ⟨b, ws, rfl, hb, rb⟩ := ty.tupX
    have l1 := ra.length
    have l2 := rb.length
    refine .inr (.inr (.inl ⟨a, b, vs, ws, rfl, rfl, (same_x S.bh ha).sq, (same_x S.bh hb).sq, by omega, fun e => ?_, fun _ e => ?_, fun _ _ => newT S (ra.append rb) k⟩))
    · subst e
      cases ra
      exact now S (.tup hb rb) k
    · subst e
      cases rb
      rw [List.append_nil] at k
      exact now S (.tup ha ra) k
/-- int operators -/
def intD (c : Int → Int → Bool) (f : Int → Int → D) : D → D → Option Hd
  | .int i, .int j => if c i j then some (.sh (f i j)) else none
  | _, _ => none
theorem ol_int {K : KW} {c : Int → Int → Bool} {P : Int → Int → Prop} {f : Int → Int → D} {g : Int → Int → V} (hc : ∀ i j, c i j = true → P i j) (hg : ∀ B i j, Rp K B (g i j) (f i j)) : OpL K (rI P g) (intD c f) := fun ρ σ B H x y dx dy h Q S tx ty e k => by
  cases dx <;> cases dy <;> first | (cases (show none = some h from e); done) | skip
  obtain ⟨c, rfl⟩ := if_some e
  rw [tx.int, ty.int]
  exact ⟨_, _, rfl, rfl, hc _ _ c, now S (hg B _ _) k⟩
theorem ol_int0 {K : KW} {f : Int → Int → D} {g : Int → Int → V} (hg : ∀ B i j, Rp K B (g i j) (f i j)) : OpL K (rI0 g) (intD (fun _ _ => true) f) := fun ρ σ B H x y dx dy h Q S tx ty e k => by
  cases dx <;> cases dy <;> first | (cases (show none = some h from e); done) | skip
  cases e
  rw [tx.int, ty.int]
  exact ⟨_, _, rfl, rfl, now S (hg B _ _) k⟩
def subD : D → D → Option Hd := intD (fun _ _ => true) fun i j => .int (i - j)
theorem e64 : (2 : Int) ^ 64 = 18446744073709551616 := by decide +kernel
theorem e64n : (2 : Nat) ^ 64 = 18446744073709551616 := by decide +kernel
def cMul (i j : Int) : Bool := Nat.ble i.natAbs 18446744073709551615 || Nat.ble j.natAbs 18446744073709551615
def mulD : D → D → Option Hd := intD cMul fun i j => .int (i * j)
def divD : D → D → Option Hd := intD (fun _ j => decide (0 < j) && Nat.ble j.natAbs 1073741823) fun i j => .int (i / j)
def modD : D → D → Option Hd := intD (fun _ j => decide (0 < j)) fun i j => .int (i % j)
def powD : D → D → Option Hd := intD (fun i j => decide (0 ≤ j) && Nat.ble j.natAbs 1000000 && Nat.ble i.natAbs 18446744073709551615) fun i j => .int (i ^ j.toNat)
theorem ol_sub {K : KW} : OpL K (rI0 fun i j => .int (i - j)) subD := ol_int0 fun _ _ _ => .int _
theorem ol_mul {K : KW} : OpL K (rI CMul fun i j => .int (i * j)) mulD := ol_int (fun i j h => by
  unfold CMul
  rw [e64]
  unfold cMul at h
  rw [Bool.or_eq_true] at h
  rcases h with h | h
  · have := Nat.le_of_ble_eq_true h; exact .inl ⟨by omega, by omega⟩
  · have := Nat.le_of_ble_eq_true h; exact .inr ⟨by omega, by omega⟩) fun _ _ _ => .int _
theorem ol_div {K : KW} : OpL K (rI CDiv fun i j => .int (i / j)) divD := ol_int (fun i j h => by
  simp only [Bool.and_eq_true, decide_eq_true_eq] at h
  have := Nat.le_of_ble_eq_true h.2
  exact ⟨h.1, by omega⟩) fun _ _ _ => .int _
theorem ol_mod {K : KW} : OpL K (rI (fun _ j => 0 < j) fun i j => .int (i % j)) modD := ol_int (fun i j h => by simpa using h) fun _ _ _ => .int _
theorem ol_pow {K : KW} : OpL K (rI CPow fun i j => .int (i ^ j.toNat)) powD := ol_int (fun i j h => by
  unfold CPow
  rw [e64n]
  simp only [Bool.and_eq_true, decide_eq_true_eq] at h
  have h1 := Nat.le_of_ble_eq_true h.1.2
  have h2 := Nat.le_of_ble_eq_true h.2
  exact ⟨h.1.1, by omega, by omega⟩) fun _ _ _ => .int _
def intsT : List D → Option (List Int)
  | [] => some []
  | .int i :: r => (intsT r).map fun l => i :: l
  | _ => none
/-- < of ints, and of tuples of ints -/
def ltI (f : Int → Int → Bool) : D → D → Option Hd
  | .int i, .int j => some (.sh (.bool (f i j)))
  | .tuple xs, .tuple ys => if f 0 1 && !f 0 0 then (intsT xs).bind fun a => (intsT ys).map fun b => .sh (.bool (HT.lexLt a b)) else none
  | _, _ => none
theorem intsT_ok {K : KW} {B : Hp} : ∀ {vs : List V} {ds : List D} {ns : List Int}, RpL K B vs ds → intsT ds = some ns → vs = ns.map V.int
  | _, [], _, .nil, e => by cases e; rfl
  | _, d :: ds, ns, .cons h t, e => by
    match d, h, e with
    | .int i, h, e =>
      obtain ⟨l, e1, rfl⟩ := Option.map_eq_some_iff.mp (show (intsT ds).map (fun l => i :: l) = some ns from e)
      cases h
      rw [intsT_ok t e1, List.map_cons]
theorem ol_cmp {K : KW} {f : Int → Int → Bool} (hf : (f 0 1 && !f 0 0) = false := by rfl) : OpL K (rI0 fun i j => .bl (f i j)) (ltI f) := fun ρ σ B H x y dx dy h Q S tx ty e k => by
  cases dx <;> cases dy <;> first | (cases (show none = some h from e); done) | skip
  · cases e
    rw [tx.int, ty.int]
    exact ⟨_, _, rfl, rfl, now S (.bl _) k⟩
  · rename_i xs ys
    have e : (if f 0 1 && !f 0 0 then (intsT xs).bind fun a => (intsT ys).map fun b => Hd.sh (.bool (HT.lexLt a b)) else none) = some h := e
    rw [hf] at e
    cases e
def rLtA (K : PySem.W.Frag) : R2 := fun x y H Q => (rI0 fun i j => .bl (decide (i < j))) x y H Q ∨ rLtT K x y H Q
theorem op_ltA {X : Cx} (hu : X.A.units + 65 < cLine) : OpR X (compareOp .Lt) (rLtA X.K) := OpR.or op_lt (op_ltT (by omega))
theorem ol_ltA {K : KW} : OpL K (rLtA K) (ltI fun i j => decide (i < j)) := fun ρ σ B H x y dx dy h Q S tx ty e k => by
  cases dx <;> cases dy <;> first | (cases (show none = some h from e); done) | skip
  · cases e
    rw [tx.int, ty.int]
    exact .inl ⟨_, _, rfl, rfl, now S (.bl _) k⟩
  · rename_i xs ys
    have e : ((intsT xs).bind fun a => (intsT ys).map fun b => Hd.sh (.bool (HT.lexLt a b))) = some h := e
    obtain ⟨as, e1, e2⟩ := Option.bind_eq_some_iff.mp e
    obtain ⟨bs, e3, rfl⟩ := Option.map_eq_some_iff.mp e2
    obtain ⟨a, vs, rfl, ha, ra⟩ := tx.tup
    obtain ⟨b, ws, rfl, hb, rb⟩ := ty.tup
    have ea := intsT_ok ra e1
    have eb := intsT_ok rb e3
    subst ea eb
    exact .inr ⟨a, b, as, bs, rfl, rfl, same_t S.bh ha, same_t S.bh hb, now S (.bl _) k⟩
/-- == of data without dicts, at most 64 deep -/
def okEq (d : D) : Bool := plain d && SeqAt.shaped d
def flatD : D → Bool
  | .none => true
  | .bool _ => true
  | .int _ => true
  | .str _ => true
  | _ => false
def inD (neg : Bool) : D → D → Option Hd
  | .str x, .str z => match x.cps.toList with
    | [c] => some (.sh (.bool (neg ^^ decide (c ∈ z.cps.toList))))
    | _ => none
  | d, .tuple ds => if flatD d && ds.all flatD then some (.sh (.bool (neg ^^ ds.any fun z => PyData.eqv z d))) else none
  | d, .list ds => if okEq d && okEq (.list ds) then some (.sh (.bool (neg ^^ ds.any fun z => PyData.eqv z d))) else none
  | _, _ => none
end GS
namespace GS
open PySem L2
def rInA (K : PySem.W.Frag) : R2 := fun x y H Q => (∃ (c : Nat) (z : Str), x = .str ⟨#[c]⟩ ∧ y = .str z ∧ Q (.bl (decide (c ∈ z.cps.toList))) H) ∨ (rIn K false x y H Q ∨ rInD K x y H Q)
def rNotInA (K : PySem.W.Frag) : R2 := fun x y H Q => (∃ (c : Nat) (z : Str), x = .str ⟨#[c]⟩ ∧ y = .str z ∧ Q (.bl (!decide (c ∈ z.cps.toList))) H) ∨ (rIn K true x y H Q ∨ rNotInD K x y H Q)
theorem op_inA {X : Cx} (hu : X.A.units + 65 < cLine) : OpR X (compareOp .In) (rInA X.K) := OpR.or op_in_sign (OpR.or op_in_seq (op_inD hu))
theorem op_notInA {X : Cx} (hu : X.A.units + 65 < cLine) : OpR X (compareOp .NotIn) (rNotInA X.K) := OpR.or op_notIn_sign (OpR.or op_notIn_seq (op_notInD hu))
section
variable {K : KW} {ρ : Rho} {σ : St} {B H : Hp} {v x y : V} {Q : VK}
theorem flat_of {d : D} (h : Rp K B v d) (f : flatD d = true) : flatV v = true := by
  cases h <;> first | rfl | cases f
theorem eqV_of {d e : D} (h : Rp K B x d) (g : Rp K B y e) (f : flatD d = true) (k : flatD e = true) : eqV x y = PyData.eqv d e := by
  cases h <;> first | (cases f; done) | (cases g <;> first | (cases k; done) | rfl | (simp [eqV, PyData.eqv]))
theorem any_of {e : D} (g : Rp K B y e) (k : flatD e = true) : ∀ {vs : List V} {ds : List D}, RpL K B vs ds → ds.all flatD = true → vs.all flatV = true ∧ inV y vs = ds.any fun z => PyData.eqv z e
  | _, _, .nil, _ => ⟨rfl, rfl⟩
  | _, _, .cons h t, a => by
    rw [List.all_cons, Bool.and_eq_true] at a
    obtain ⟨q1, q2⟩ := any_of g k t a.2
    refine ⟨by rw [List.all_cons, Bool.and_eq_true]; exact ⟨flat_of h a.1, q1⟩, ?_⟩
    show ((eqV _ y) || inV y _) = _
    rw [q2, eqV_of h g a.1 k, List.any_cons]
theorem str1 {x : Str} {c : Nat} (h : x.cps.toList = [c]) : x = ⟨#[c]⟩ := by
  obtain ⟨a⟩ := x
  congr
  exact Array.ext' (by simpa using h)
theorem ol_in : OpL K (rInA K) (inD false) := fun ρ σ B H x y dx dy h Q S tx ty e k => by
  cases dy with
  | str z =>
    cases dx with
    | str w =>
      replace e : (match w.cps.toList with | [c] => some (Hd.sh (.bool (false ^^ decide (c ∈ z.cps.toList)))) | _ => none) = some h := e
      split at e
      · rename_i c ec
        cases e
        rw [tx.str, ty.str, str1 ec]
        refine .inl ⟨c, z, rfl, rfl, ?_⟩
        have := now (v := .bl (false ^^ decide (c ∈ z.cps.toList))) S (.bl _) k
        rwa [Bool.false_xor] at this
      · cases e
    | _ => cases e
  | tuple ds =>
    have e' : (if flatD dx && ds.all flatD then some (.sh (.bool (false ^^ ds.any fun z => PyData.eqv z dx))) else none) = some h := by cases dx <;> exact e
    obtain ⟨c, rfl⟩ := if_some e'
    rw [Bool.and_eq_true] at c
    obtain ⟨a, vs, rfl, ha, ra⟩ := ty.tup
    have tx' : Rp K B x dx := by cases dx <;> first | exact tx | (cases c.1; done)
    obtain ⟨q1, q2⟩ := any_of tx' c.1 ra c.2
    refine .inr (.inl ⟨a, vs, rfl, .inr (same_t S.bh ha), flat_of tx' c.1, q1, ?_⟩)
    rw [if_neg Bool.false_ne_true, q2]
    have := now (v := .bl (false ^^ ds.any fun z => PyData.eqv z dx)) S (.bl _) k
    rwa [Bool.false_xor] at this
  | list ds =>
    have e' : (if okEq dx && okEq (.list ds) then some (.sh (.bool (false ^^ ds.any fun z => PyData.eqv z dx))) else none) = some h := by cases dx <;> exact e
    obtain ⟨c, rfl⟩ := if_some e'
    unfold okEq at c
    simp only [Bool.and_eq_true] at c
    refine .inr (.inr ⟨dx, ds, (tx.rp S.bh).dp _ c.1.1, (ty.rp S.bh).dp _ c.2.1, c.1.2, c.2.2, ?_⟩)
    have := now (v := .bl (false ^^ ds.any fun z => PyData.eqv z dx)) S (.bl _) k
    rwa [Bool.false_xor] at this
  | _ => cases dx <;> cases (show none = some h from e)
theorem ol_notIn : OpL K (rNotInA K) (inD true) := fun ρ σ B H x y dx dy h Q S tx ty e k => by
  cases dy with
  | str z =>
    cases dx with
    | str w =>
      replace e : (match w.cps.toList with | [c] => some (Hd.sh (.bool (true ^^ decide (c ∈ z.cps.toList)))) | _ => none) = some h := e
      split at e
      · rename_i c ec
        cases e
        rw [tx.str, ty.str, str1 ec]
        refine .inl ⟨c, z, rfl, rfl, ?_⟩
        have := now (v := .bl (true ^^ decide (c ∈ z.cps.toList))) S (.bl _) k
        rwa [Bool.true_xor] at this
      · cases e
    | _ => cases e
  | tuple ds =>
    have e' : (if flatD dx && ds.all flatD then some (.sh (.bool (true ^^ ds.any fun z => PyData.eqv z dx))) else none) = some h := by cases dx <;> exact e
    obtain ⟨c, rfl⟩ := if_some e'
    rw [Bool.and_eq_true] at c
    obtain ⟨a, vs, rfl, ha, ra⟩ := ty.tup
    have tx' : Rp K B x dx := by cases dx <;> first | exact tx | (cases c.1; done)
    obtain ⟨q1, q2⟩ := any_of tx' c.1 ra c.2
    refine .inr (.inl ⟨a, vs, rfl, .inr (same_t S.bh ha), flat_of tx' c.1, q1, ?_⟩)
    rw [if_pos rfl, q2]
    have := now (v := .bl (true ^^ ds.any fun z => PyData.eqv z dx)) S (.bl _) k
    rwa [Bool.true_xor] at this
  | list ds =>
    have e' : (if okEq dx && okEq (.list ds) then some (.sh (.bool (true ^^ ds.any fun z => PyData.eqv z dx))) else none) = some h := by cases dx <;> exact e
    obtain ⟨c, rfl⟩ := if_some e'
    unfold okEq at c
    simp only [Bool.and_eq_true] at c
    refine .inr (.inr ⟨dx, ds, (tx.rp S.bh).dp _ c.1.1, (ty.rp S.bh).dp _ c.2.1, c.1.2, c.2.2, ?_⟩)
    have := now (v := .bl (true ^^ ds.any fun z => PyData.eqv z dx)) S (.bl _) k
    rwa [Bool.true_xor] at this
  | _ => cases dx <;> cases (show none = some h from e)
def ixD : D → D → Option Hd
  | .list ds, .int i => (atI ds i).map Hd.sh
  | .tuple ds, .int i => (atI ds i).map Hd.sh
  | .str z, .int i => if z.length ≤ sizeLine then (atI z.cps.toList i).map fun c => Hd.sh (.str ⟨#[c]⟩) else none
  | _, _ => none
theorem RpL.atI {vs : List V} {ds : List D} (h : RpL K B vs ds) {i : Int} {d : D} (e : atI ds i = some d) : ∃ v, atI vs i = some v ∧ Rp K B v d := by
  unfold L2.atI at e ⊢
  rw [h.length]
  cases q : ixN ds.length i with
  | none => rw [q] at e; cases e
  | some j =>
    rw [q] at e
    exact h.get e
theorem ol_ix : OpL K (rIx K) ixD := fun ρ σ B H x y dx dy h Q S tx ty e k => by
  cases dy with
  | int i =>
    rw [ty.int]
    cases dx with
    | list ds =>
      obtain ⟨d, e1, rfl⟩ := Option.map_eq_some_iff.mp e
      obtain ⟨a, vs, rfl, ha, ra⟩ := tx
      obtain ⟨v, q1, q2⟩ := ra.atI e1
      exact .inl ⟨a, vs, i, v, rfl, rfl, ha, q1, now S q2 k⟩
    | tuple ds =>
      obtain ⟨d, e1, rfl⟩ := Option.map_eq_some_iff.mp e
      obtain ⟨a, vs, rfl, ha, ra⟩ := tx.tup
      obtain ⟨v, q1, q2⟩ := ra.atI e1
      exact .inr (.inl ⟨a, vs, i, v, rfl, rfl, same_t S.bh ha, q1, now S q2 k⟩)
    | str z =>
      have e' : (if z.length ≤ sizeLine then (L2.atI z.cps.toList i).map fun c => Hd.sh (.str ⟨#[c]⟩) else none) = some h := e
      split at e'
      · obtain ⟨c, e1, rfl⟩ := Option.map_eq_some_iff.mp e'
        rw [tx.str]
        exact .inr (.inr ⟨z, i, c, rfl, rfl, by assumption, e1, now S (.str _) k⟩)
      · cases e'
    | _ => cases e
  | _ => cases dx <;> cases (show none = some h from e)
end
section
variable {X : Cx} {C : Ct} {a b c e : Expr} {ta tb tc te : TE} {fa fb fc fe : EF} {pos p2 : Pos}
def cutD (ds : List D) (lo hi : Option Int) : List D := (ds.drop (HT.sIx ds.length 0 lo)).take (HT.sIx ds.length ds.length hi - HT.sIx ds.length 0 lo)
def slD (lo hi : Option Int) : D → Option Hd
  | .list ds => some (.fr (.list (cutD ds lo hi)))
  | .tuple ds => some (.sh (.tuple (cutD ds lo hi)))
  | .str z => if z.length ≤ sizeLine then some (.sh (.str (cutS z lo hi))) else none
  | _ => none
def rSlAll (K : PySem.W.Frag) : V → Option Int → Option Int → Hp → VK → Prop := fun x lo hi H Q => rSlL K x lo hi H Q ∨ (rSlX K x lo hi H Q ∨ rSlS x lo hi H Q)
theorem sl_all : SlR X (rSlAll X.K) := SlR.or sl_list (SlR.or sl_tupX sl_str)
theorem RpL.cut {K : KW} {B : Hp} {vs : List V} {ds : List D} (h : RpL K B vs ds) (lo hi : Option Int) : RpL K B (cutV vs lo hi) (cutD ds lo hi) := by
  unfold cutV cutD
  rw [h.length]
  exact (h.drop _).take _
theorem ls_all {K : KW} {ρ : Rho} {σ : St} {B H : Hp} {x : V} {Q : VK} {d : D} {h : Hd} {lo hi : Option Int} (S : Sim K ρ σ B H) (tx : Tp K B H x d) (e : slD lo hi d = some h)
    (k : ∀ v B' H', Sim K ρ σ B' H' → Ext ρ σ B H ρ σ B' H' → HdOk K (New ρ σ H) ρ σ B' H' v h → Q v H') : rSlAll K x lo hi H Q := by
  cases d with
  | list ds =>
    cases e
    obtain ⟨a, vs, rfl, ha, ra⟩ := tx
    exact .inl ⟨a, vs, rfl, ha, newL S (ra.cut lo hi) k⟩
  | tuple ds =>
    cases e
    obtain ⟨a, vs, rfl, ha, ra⟩ := tx.tupX
    refine .inr (.inl ⟨a, vs, rfl, (same_x S.bh ha).sq, fun w => ?_, fun _ => newT S (ra.cut lo hi) k⟩)
    have ec : cutD ds lo hi = ds := by
      unfold cutD
      rw [← ra.length, w.1, w.2, List.drop_zero, Nat.sub_zero, ra.length, List.take_length]
    rw [ec] at k
    exact now S (.tup ha ra) k
  | str z =>
    obtain ⟨c, rfl⟩ := if_some e
    rw [tx.str]
    exact .inr (.inr ⟨z, rfl, c, now S (.str _) k⟩)
  | _ => cases e
/-- a part of a slice: nothing, or an int -/
inductive PartOk (X : Cx) (C : Ct) : Option Expr → TO → Option EF → Prop
  | non : PartOk X C none tNoPart none
  | some {e : Expr} {t : TE} {f : EF} : SE X C e t f → PartOk X C (some e) (tPart t) (some f)
def ePart (f : Option EF) (ρ : Rho) (k : Option Int → Rho → RE) : RE := match f with
  | none => k none ρ
  | some g => bindE (eSet g ρ) fun h ρ1 => match getH ρ1 h with
    | some (.int i) => k (some i) ρ1
    | _ => .stuck
def eSl (fe : EF) (fl fh : Option EF) : EF := fun ρ => bindE (eSet fe ρ) fun h ρ1 => ePart fl ρ1 fun lo ρ2 => ePart fh ρ2 fun hi ρ3 => match (getH ρ3 h).bind (slD lo hi) with
  | some r => .ok r ρ3
  | none => .stuck
theorem PartOk.pe {o : Option Expr} {t : TO} {f : Option EF} (h : PartOk X C o t f) : PO X o t := by
  cases h with
  | non => exact po_none
  | some s => exact po_some s.pe
theorem PartOk.bind {o : Option Expr} {t : TO} {f : Option EF} (h : PartOk X C o t f) {ρ : Rho} {σ : St} {B H : Hp} {Q : VK} (S : Sim C.K ρ σ B H) {k : Option Int → Rho → RE} {Q' : Option Int → Hp → Prop} (g : GoodE C ρ σ B H Q (ePart f ρ k))
    (q : ∀ i ρ1 B1 H1, Sim C.K ρ1 σ B1 H1 → Ext ρ σ B H ρ1 σ B1 H1 → GoodE C ρ1 σ B1 H1 Q (k i ρ1) → Q' i H1) : t σ H Q' := by
  cases h with
  | non => exact q none ρ B H S Ext.refl g
  | some s =>
    refine s.lk.setBind S g fun hd ρ1 x B1 H1 S1 e1 y1 g1 => ?_
    split at g1
    · rename_i i ei
      exact ⟨i, (S1.tp y1 ei).int, q (Option.some i) ρ1 B1 H1 S1 e1 g1⟩
    · exact g1.elim
theorem se_slice {lo hi : Option Expr} {tl th : TO} {fl fh : Option EF} (le : SE X C e te fe) (hl : PartOk X C lo tl fl) (hh : PartOk X C hi th fh) (hk : X.K = C.K := by rfl) :
    SE X C (.Subscript e (.Slice lo hi none p2) pos) (tSl (rSlAll C.K) te tl th) (eSl fe fl fh) := by
  refine ⟨by rw [← hk]; exact pe_slice sl_all le.pe hl.pe hh.pe, fun ρ σ B H Q S g => ?_⟩
  refine le.lk.setBind S g fun hd ρ1 x B1 H1 S1 e1 y1 g1 => ?_
  refine hl.bind S1 g1 fun i ρ2 B2 H2 S2 e2 g2 => ?_
  refine hh.bind S2 g2 fun j ρ3 B3 H3 S3 e3 g3 => ?_
  split at g3
  · rename_i r er
    obtain ⟨d, ed, es⟩ := Option.bind_eq_some_iff.mp er
    exact ls_all S3 (S3.tp (N := fun _ => True) (HdOk.ext (e2.trans e3) y1) ed) es g3
  · exact g3.elim
def GoodT (C : Ct) (ρ : Rho) (σ : St) (B H : Hp) (Q : Bool → Hp → Prop) : RE → Prop
  | .ok (.sh (.bool b)) ρ' => ∀ B' H', Sim C.K ρ' σ B' H' → Ext ρ σ B H ρ' σ B' H' → Q b H'
  | .exc x ρ' => ∀ cls dct B' H', Sim C.K ρ' σ B' H' → Ext ρ σ B H ρ' σ B' H' → XcOk C B' x cls dct → C.W cls dct σ H'
  | _ => False
def LkT (C : Ct) (t : TT) (f : EF) : Prop := ∀ ρ σ B H Q, Sim C.K ρ σ B H → GoodT C ρ σ B H Q (f ρ) → t σ H Q
structure ST (X : Cx) (C : Ct) (e : Expr) (t : TT) (f : EF) : Prop where
  pt : PT X e t
  lk : LkT C t f
structure SW (X : Cx) (C : Ct) (e : Expr) (t : TT) (f : EF) : Prop where
  pw : PW X e t
  lk : LkT C t f
theorem SW.st {t : TT} {f : EF} (h : SW X C e t f) : ST X C e t f := ⟨h.pw.pt, h.lk⟩
theorem GoodT.ext {ρ ρ1 : Rho} {σ : St} {B H B1 H1 : Hp} {Q : Bool → Hp → Prop} (x : Ext ρ σ B H ρ1 σ B1 H1) : ∀ {r : RE}, GoodT C ρ σ B H Q r → GoodT C ρ1 σ B1 H1 Q r := fun {r} g => by
  cases r with
  | stuck => exact g
  | exc c ρ2 => exact fun cls dct B' H' s y => g cls dct B' H' s (x.trans y)
  | ok h ρ2 =>
    cases h with
    | sh d =>
      cases d with
      | bool b => exact fun B' H' s y => g B' H' s (x.trans y)
      | _ => exact g
    | _ => exact g
/-- a bool: looked at -/
def eB (f : EF) : EF := fun ρ => bindE (eSet f ρ) fun h ρ1 => match getH ρ1 h with
  | some (.bool b) => .ok (.sh (.bool b)) ρ1
  | _ => .stuck
theorem lk_B {t : TE} {f : EF} (l : LkE C t f) : LkT C (tB t) (eB f) := fun ρ σ B H Q S g => by
  refine l.set ρ σ B H _ S ?_
  unfold eB at g
  cases e : eSet f ρ with
  | stuck => rw [e] at g; exact g
  | exc c ρ1 => rw [e] at g; exact g
  | ok h ρ1 =>
    rw [e] at g
    replace g : GoodT C ρ σ B H Q (match getH ρ1 h with | some (.bool b) => .ok (.sh (.bool b)) ρ1 | _ => .stuck) := g
    intro v B1 H1 S1 x y
    split at g
    · rename_i b eb
      exact ⟨b, (S1.tp y eb).bl, g B1 H1 S1 x⟩
    · exact g.elim
theorem st_val {t : TE} {f : EF} (h : SE X C e t f) (he : ∀ whole, isTrue e X.env whole = (do let v ← whole; standAt e.pos; holding [v] (truthy v)) := by intro _; rfl) : ST X C e (tB t) (eB f) := ⟨pt_val h.pe he, lk_B h.lk⟩
theorem se_cmp {op : CmpOp} {r : R2} {o : D → D → Option Hd} (hr : OpL C.K r o) (ho : OpR X (compareOp op) r) (la : SE X C a ta fa) (lb : SE X C b tb fb) (hm : behindInMarks op b = false := by first | exact nomark _ | rfl) : SE X C (.Compare a [op] [b] pos) (tOp r ta tb) (eBin o fa fb) :=
  ⟨pe_cmpR ho la.pe lb.pe hm, lk_op hr la.lk lb.lk⟩
theorem st_cmp {op : CmpOp} {r : R2} {o : D → D → Option Hd} (hr : OpL C.K r o) (ho : OpR X (compareOp op) r) (la : SE X C a ta fa) (lb : SE X C b tb fb) (hm : behindInMarks op b = false := by first | exact nomark _ | rfl) : ST X C (.Compare a [op] [b] pos) (tTest (tOp r ta tb)) (eB (eBin o fa fb)) :=
  ⟨pt_cmpR ho la.pe lb.pe hm, lk_B (lk_op hr la.lk lb.lk)⟩
/-- a test, then what follows -/
theorem LkT.bind {t : TT} {f : EF} (l : LkT C t f) {ρ : Rho} {σ : St} {B H : Hp} (S : Sim C.K ρ σ B H) {Q' : Bool → Hp → Prop}
    (hx : ∀ x ρ1, f ρ = .exc x ρ1 → ∀ cls dct B' H', Sim C.K ρ1 σ B' H' → Ext ρ σ B H ρ1 σ B' H' → XcOk C B' x cls dct → C.W cls dct σ H')
    (h : ∀ b ρ1, f ρ = .ok (.sh (.bool b)) ρ1 → ∀ B1 H1, Sim C.K ρ1 σ B1 H1 → Ext ρ σ B H ρ1 σ B1 H1 → Q' b H1) (hs : (∃ b ρ1, f ρ = .ok (.sh (.bool b)) ρ1) ∨ ∃ x ρ1, f ρ = .exc x ρ1) : t σ H Q' := by
  refine l ρ σ B H Q' S ?_
  rcases hs with ⟨b, ρ1, e⟩ | ⟨x, ρ1, e⟩
  · rw [e]; exact h b ρ1 e
  · rw [e]; exact hx x ρ1 e
def bindB (r : RE) (k : Bool → Rho → RE) : RE := match r with
  | .ok (.sh (.bool b)) ρ => k b ρ
  | .exc x ρ => .exc x ρ
  | _ => .stuck
theorem LkT.bindE {t : TT} {f : EF} (l : LkT C t f) {ρ : Rho} {σ : St} {B H : Hp} (S : Sim C.K ρ σ B H) {Q : VK} {k : Bool → Rho → RE} {Q' : Bool → Hp → Prop} (g : GoodE C ρ σ B H Q (bindB (f ρ) k))
    (h : ∀ b ρ1 B1 H1, Sim C.K ρ1 σ B1 H1 → Ext ρ σ B H ρ1 σ B1 H1 → GoodE C ρ1 σ B1 H1 Q (k b ρ1) → Q' b H1) : t σ H Q' := by
  refine l ρ σ B H Q' S ?_
  cases e : f ρ with
  | stuck => rw [e] at g; exact g
  | exc x ρ1 => rw [e] at g; exact g
  | ok hd ρ1 =>
    rw [e] at g
    cases hd with
    | sh d =>
      cases d with
      | bool b => exact fun B1 H1 s x => h b ρ1 B1 H1 s x (GoodE.ext x g)
      | _ => exact g
    | _ => exact g
theorem LkT.bindT {t : TT} {f : EF} (l : LkT C t f) {ρ : Rho} {σ : St} {B H : Hp} (S : Sim C.K ρ σ B H) {Q : Bool → Hp → Prop} {k : Bool → Rho → RE} {Q' : Bool → Hp → Prop} (g : GoodT C ρ σ B H Q (bindB (f ρ) k))
    (h : ∀ b ρ1 B1 H1, Sim C.K ρ1 σ B1 H1 → Ext ρ σ B H ρ1 σ B1 H1 → GoodT C ρ1 σ B1 H1 Q (k b ρ1) → Q' b H1) : t σ H Q' := by
  refine l ρ σ B H Q' S ?_
  cases e : f ρ with
  | stuck => rw [e] at g; exact g
  | exc x ρ1 => rw [e] at g; exact g
  | ok hd ρ1 =>
    rw [e] at g
    cases hd with
    | sh d =>
      cases d with
      | bool b => exact fun B1 H1 s x => h b ρ1 B1 H1 s x (GoodT.ext x g)
      | _ => exact g
    | _ => exact g
def eNot (f : EF) : EF := fun ρ => bindB (f ρ) fun b ρ1 => .ok (.sh (.bool (!b))) ρ1
def eAnd (f g : EF) : EF := fun ρ => bindB (f ρ) fun b ρ1 => if b then g ρ1 else .ok (.sh (.bool false)) ρ1
def eOr (f g : EF) : EF := fun ρ => bindB (f ρ) fun b ρ1 => if b then .ok (.sh (.bool true)) ρ1 else g ρ1
def eIf (f g h : EF) : EF := fun ρ => bindB (f ρ) fun b ρ1 => if b then g ρ1 else h ρ1
variable {t u w : TT} {f g h : EF}
theorem st_not (l : ST X C a t f) : ST X C (.UnaryOp .Not a pos) (tNot t) (eNot f) := ⟨pt_not l.pt, fun ρ σ B H Q S g => l.lk.bindT S g fun b ρ1 B1 H1 S1 e1 g1 => g1 B1 H1 S1 Ext.refl⟩
theorem sw_one {op : BoolOp} (l : ST X C a t f) : SW X C (.BoolOp op [a] pos) t f := by
  cases op
  · exact ⟨pw_and1 l.pt, l.lk⟩
  · exact ⟨pw_or1 l.pt, l.lk⟩
theorem sw_and {rest : List Expr} (l : ST X C a t f) (m : SW X C (.BoolOp .And (b :: rest) pos) u g) : SW X C (.BoolOp .And (a :: b :: rest) pos) (tAnd t u) (eAnd f g) :=
  ⟨pw_and l.pt m.pw, fun ρ σ B H Q S gd => l.lk.bindT S gd fun b ρ1 B1 H1 S1 e1 g1 => by
    cases b with
    | true => exact m.lk ρ1 σ B1 H1 Q S1 g1
    | false => exact g1 B1 H1 S1 Ext.refl⟩
theorem sw_or {rest : List Expr} (l : ST X C a t f) (m : SW X C (.BoolOp .Or (b :: rest) pos) u g) : SW X C (.BoolOp .Or (a :: b :: rest) pos) (tOr t u) (eOr f g) :=
  ⟨pw_or l.pt m.pw, fun ρ σ B H Q S gd => l.lk.bindT S gd fun b ρ1 B1 H1 S1 e1 g1 => by
    cases b with
    | false => exact m.lk ρ1 σ B1 H1 Q S1 g1
    | true => exact g1 B1 H1 S1 Ext.refl⟩
theorem se_not (l : SE X C a ta fa) : SE X C (.UnaryOp .Not a pos) (tNotV ta) (eNot (eB fa)) := ⟨pe_not l.pe, fun ρ σ B H Q S g => by
  have q : tB ta σ H fun b H1 => Q (.bl (!b)) H1 := (lk_B l.lk).bindE S g fun b ρ1 B1 H1 S1 e1 g1 => g1 (.bl (!b)) B1 H1 S1 Ext.refl (.bl _)
  exact q⟩
theorem se_one {op : BoolOp} (l : SE X C a ta fa) : SE X C (.BoolOp op [a] pos) ta fa := ⟨pe_one l.pe, l.lk⟩
theorem se_and {rest : List Expr} (l : SE X C a ta fa) (m : SE X C (.BoolOp .And (b :: rest) pos) tb fb) : SE X C (.BoolOp .And (a :: b :: rest) pos) (tAndV ta tb) (eAnd (eB fa) fb) := ⟨pe_and l.pe m.pe, fun ρ σ B H Q S g => by
  have q : tB ta σ H fun b H1 => if b = true then tb σ H1 Q else Q (.bl false) H1 := (lk_B l.lk).bindE S g fun b ρ1 B1 H1 S1 e1 g1 => by
    cases b with
    | true => exact m.lk ρ1 σ B1 H1 Q S1 g1
    | false => exact g1 (.bl false) B1 H1 S1 Ext.refl (.bl _)
  exact q⟩
theorem se_if (l : ST X C c t f) (la : SE X C a ta fa) (lb : SE X C b tb fb) : SE X C (.IfExp c a b pos) (tIf t ta tb) (eIf f fa fb) := ⟨pe_ifExp l.pt la.pe lb.pe, fun ρ σ B H Q S g => l.lk.bindE S g fun b ρ1 B1 H1 S1 e1 g1 => by
  cases b with
  | true => exact la.lk ρ1 σ B1 H1 Q S1 g1
  | false => exact lb.lk ρ1 σ B1 H1 Q S1 g1⟩
def eChain (o o' : D → D → Option Hd) (fa fb fc : EF) : EF := fun ρ => bindE (eSet fa ρ) fun ha ρ1 => bindE (eSet fb ρ1) fun hb ρ2 => match getH ρ2 ha, getH ρ2 hb with
  | some da, some db => match o da db with
    | some (.sh (.bool b)) => if b then bindE (eSet fc ρ2) (fun hc ρ3 => match getH ρ3 hb, getH ρ3 hc with
      | some db', some dc => match o' db' dc with
        | some h => .ok h ρ3
        | none => .stuck
      | _, _ => .stuck) else .ok (.sh (.bool false)) ρ2
    | _ => .stuck
  | _, _ => .stuck
theorem lk_chain {r r' : R2} {o o' : D → D → Option Hd} (hr : OpL C.K r o) (hr' : OpL C.K r' o') (la : LkE C ta fa) (lb : LkE C tb fb) (lc : LkE C tc fc) : LkE C (tChain r r' ta tb tc) (eChain o o' fa fb fc) := fun ρ σ B H Q S g => by
  refine la.setBind S g fun ha ρ1 x B1 H1 S1 e1 y1 g1 => ?_
  refine lb.setBind S1 g1 fun hb ρ2 y B2 H2 S2 e2 y2 g2 => ?_
  split at g2
  · rename_i da db ea eb
    split at g2
    · rename_i b eh
      refine hr ρ2 σ B2 H2 x y da db _ _ S2 (S2.tp (N := fun _ => True) (HdOk.ext e2 y1) ea) (S2.tp y2 eb) eh fun v B3 H3 S3 e3 y3 => ?_
      cases (show Rp C.K B3 v (.bool b) from y3)
      refine ⟨b, rfl, ?_⟩
      cases b with
      | true =>
        rw [if_pos rfl] at g2 ⊢
        refine lc.setBind S3 (GoodE.ext e3 g2) fun hc ρ4 z B4 H4 S4 e4 y4 g4 => ?_
        split at g4
        · rename_i db' dc eb' ec
          split at g4
          · rename_i h eh'
            exact hr' ρ4 σ B4 H4 y z db' dc h Q S4 (S4.tp (N := fun _ => True) (HdOk.ext (e3.trans e4) y2) eb') (S4.tp y4 ec) eh' g4
          · exact g4.elim
        · exact g4.elim
      | false =>
        rw [if_neg Bool.false_ne_true] at g2 ⊢
        exact g2 (.bl false) B3 H3 S3 e3 (.bl _)
    · exact g2.elim
  · exact g2.elim
theorem se_chain {op op' : CmpOp} {r r' : R2} {o o' : D → D → Option Hd} (hr : OpL C.K r o) (ho : OpR X (compareOp op) r) (hr' : OpL C.K r' o') (ho' : OpR X (compareOp op') r') (la : SE X C a ta fa) (lb : SE X C b tb fb) (lc : SE X C c tc fc)
    (hm : lastMarks [op, op'] [b, c] = false := by with_unfolding_all rfl) : SE X C (.Compare a [op, op'] [b, c] pos) (tChain r r' ta tb tc) (eChain o o' fa fb fc) := ⟨pe_chain ho ho' la.pe lb.pe lc.pe hm, lk_chain hr hr' la.lk lb.lk lc.lk⟩
theorem st_chain {op op' : CmpOp} {r r' : R2} {o o' : D → D → Option Hd} (hr : OpL C.K r o) (ho : OpR X (compareOp op) r) (hr' : OpL C.K r' o') (ho' : OpR X (compareOp op') r') (la : SE X C a ta fa) (lb : SE X C b tb fb) (lc : SE X C c tc fc)
    (hm : lastMarks [op, op'] [b, c] = false := by with_unfolding_all rfl) : ST X C (.Compare a [op, op'] [b, c] pos) (tTest (tChain r r' ta tb tc)) (eB (eChain o o' fa fb fc)) := ⟨pt_chain ho ho' la.pe lb.pe lc.pe hm, lk_B (lk_chain hr hr' la.lk lb.lk lc.lk)⟩
end
end GS
namespace GS
open PySem L2
section
variable {X : Cx} {C : Ct} {e : Expr} {es : List Expr} {te : TE} {fe : EF} {pos : Pos}
/-- a name, looked at -/
def eVb (i : Nat) : EF := fun ρ => match slot ρ i with
  | some _ => .ok (.bw i) ρ
  | none => .stuck
/-- a name whose datum is shared from here on -/
def eMv (i : Nat) : EF := fun ρ => match slot ρ i with
  | some ⟨d, .sh⟩ => .ok (.sh d) ρ
  | some ⟨d, .ow⟩ => .ok (.sh d) (ρ.set i (some ⟨d, .sh⟩))
  | _ => .stuck
def eC (d : D) : EF := fun ρ => .ok (.sh d) ρ
theorem lk_vb {i : Nat} : LkE C (tVar i) (eVb i) := fun ρ σ B H Q S g => by
  unfold eVb at g
  cases h : slot ρ i with
  | none => rw [h] at g; exact g.elim
  | some c =>
    rw [h] at g
    obtain ⟨v, e, q⟩ := S.sl i c (slot_some h)
    exact ⟨v, e, g v B H S Ext.refl e⟩
theorem set_get {ρ : Rho} {i j : Nat} {c : Option Cel} {x : Option Cel} (h : (ρ.set i c)[j]? = some x) : (i = j ∧ x = c) ∨ (i ≠ j ∧ ρ[j]? = some x) := by
  rw [List.getElem?_set] at h
  by_cases e : i = j
  · rw [if_pos e] at h
    split at h
    · cases h; exact .inl ⟨e, rfl⟩
    · cases h
  · rw [if_neg e] at h
    exact .inr ⟨e, h⟩
theorem set_at {ρ : Rho} {i : Nat} {c : Option Cel} (h : i < ρ.length) : (ρ.set i c)[i]? = some c := by
  rw [List.getElem?_set, if_pos rfl, if_pos h]
theorem set_other {ρ : Rho} {i j : Nat} {c : Option Cel} (h : i ≠ j) : (ρ.set i c)[j]? = ρ[j]? := by
  rw [List.getElem?_set, if_neg h]
theorem lt_of {ρ : Rho} {i : Nat} {x : Option Cel} (h : ρ[i]? = some x) : i < ρ.length := (List.getElem?_eq_some_iff.mp h).1
/-- an owned slot is given up: the datum is shared from here on -/
theorem Sim.freeze {K : KW} {ρ : Rho} {σ : St} {B H : Hp} (S : Sim K ρ σ B H) {i : Nat} {d : D} (hi : ρ[i]? = some (some ⟨d, .ow⟩)) :
    ∃ v B1, σ[i]? = some (some v) ∧ Sim K (ρ.set i (some ⟨d, .sh⟩)) σ B1 H ∧ Ext ρ σ B H (ρ.set i (some ⟨d, .sh⟩)) σ B1 H ∧ Rp K B1 v d := by
  obtain ⟨v, e, q⟩ := S.sl i _ hi
  rcases q with ⟨q, _⟩ | ⟨_, a, rfl, hb, ho⟩
  · cases q
  obtain ⟨o, eo⟩ := ho.some
  have own : OwnA ρ σ a := ⟨i, _, hi, by simp, e⟩
  have sB : Same B (upd B a o) := fun b u e => by rw [upd_ne (ne_of_none e hb)]; exact e
  have rp : Rp K (upd B a o) (.ref a) d := by
    rw [eo] at ho
    have ho := ho.mono sB
    cases d with
    | list ds =>
      obtain ⟨vs, e1, e2⟩ := ho
      cases e1
      exact .lst (.inl (.inl upd_same)) e2
    | dict ps =>
      obtain ⟨ep, b, xs, e1, e2⟩ := ho
      cases e1
      exact .dct upd_same e2
    | _ => exact ho.elim
  refine ⟨.ref a, upd B a o, e, ⟨fun b u z => ?_, by rw [List.length_set]; exact S.len, fun j c hj => ?_, fun j k cj ck b hj hk nj nk ej ek => ?_⟩, ⟨sB, fun b u z => ?_, fun b u z _ => z, fun b z => ?_, fun j c hj hc => ?_, fun j c hj hc => ?_⟩, rp⟩
  · by_cases h : b = a
    · subst h; rw [upd_same] at z; cases z; exact eo
    · rw [upd_ne h] at z; exact S.bh _ _ z
  · rcases set_get hj with ⟨rfl, ec⟩ | ⟨ne, hj⟩
    · cases ec
      exact ⟨.ref a, e, .inl ⟨rfl, rp⟩⟩
    · obtain ⟨v, ev, q⟩ := S.sl j c hj
      refine ⟨v, ev, q.mono sB fun b hv hb' ho' hf => ⟨?_, rfl⟩⟩
      have nb : b ≠ a := fun z => by
        subst z hv
        exact ne (S.dj i j _ c b hi hj (by simp) hf e ev)
      rw [upd_ne nb]; exact hb'
  · rcases set_get hj with ⟨rfl, ec⟩ | ⟨_, hj⟩
    · cases ec; exact absurd rfl nj
    · rcases set_get hk with ⟨rfl, ec⟩ | ⟨_, hk⟩
      · cases ec; exact absurd rfl nk
      · exact S.dj j k cj ck b hj hk nj nk ej ek
  · by_cases h : b = a
    · subst h; exact .inr (.inr own)
    · rw [upd_ne h] at z; exact .inl z
  · obtain ⟨j, c, hj, hc, ej⟩ := z
    rcases set_get hj with ⟨rfl, ec⟩ | ⟨_, hj⟩
    · cases ec; exact absurd rfl hc
    · exact .inr ⟨j, c, hj, hc, ej⟩
  · have ne : i ≠ j := fun z => by
      subst z
      rw [hi] at hj
      cases hj
      cases hc
    exact ⟨rfl, c, by rw [set_other ne]; exact hj, hc⟩
  · rcases set_get hj with ⟨rfl, ec⟩ | ⟨_, hj⟩
    · cases ec; cases hc
    · exact ⟨c, hj, hc⟩
/-- .. it is nobody's from here on -/
theorem Sim.give {K : KW} {ρ : Rho} {σ : St} {B H : Hp} (S : Sim K ρ σ B H) {i : Nat} {d : D} (hi : ρ[i]? = some (some ⟨d, .ow⟩)) :
    ∃ a, σ[i]? = some (some (.ref a)) ∧ Sim K (ρ.set i none) σ B H ∧ Ext ρ σ B H (ρ.set i none) σ B H ∧ HdOk K (New ρ σ H) (ρ.set i none) σ B H (.ref a) (.fr d) := by
  obtain ⟨v, e, q⟩ := S.sl i _ hi
  rcases q with ⟨q, _⟩ | ⟨_, a, rfl, hb, ho⟩
  · cases q
  have own : OwnA ρ σ a := ⟨i, _, hi, by simp, e⟩
  refine ⟨a, e, ⟨S.bh, by rw [List.length_set]; exact S.len, fun j c hj => ?_, fun j k cj ck b hj hk nj nk ej ek => ?_⟩, ⟨Same.refl B, fun b u z => .inl z, fun b u z _ => z, fun b z => ?_, fun j c hj hc => ?_, fun j c hj hc => ?_⟩, a, rfl, hb, ho, fun z => ?_, .inr own⟩
  · rcases set_get hj with ⟨rfl, ec⟩ | ⟨ne, hj⟩
    · cases ec
    · exact S.sl j c hj
  · rcases set_get hj with ⟨rfl, ec⟩ | ⟨_, hj⟩
    · cases ec
    · rcases set_get hk with ⟨rfl, ec⟩ | ⟨_, hk⟩
      · cases ec
      · exact S.dj j k cj ck b hj hk nj nk ej ek
  · obtain ⟨j, c, hj, hc, ej⟩ := z
    rcases set_get hj with ⟨rfl, ec⟩ | ⟨_, hj⟩
    · cases ec
    · exact .inr ⟨j, c, hj, hc, ej⟩
  · have ne : i ≠ j := fun z => by
      subst z
      rw [hi] at hj
      cases hj
      cases hc
    exact ⟨rfl, c, by rw [set_other ne]; exact hj, hc⟩
  · rcases set_get hj with ⟨rfl, ec⟩ | ⟨_, hj⟩
    · cases ec
    · exact ⟨c, hj, hc⟩
  · obtain ⟨j, c, hj, hc, ej⟩ := z
    rcases set_get hj with ⟨rfl, ec⟩ | ⟨ne, hj⟩
    · cases ec
    · exact ne (S.dj i j _ c a hi hj (by simp) hc e ej)
theorem lk_mv {i : Nat} : LkE C (tVar i) (eMv i) := fun ρ σ B H Q S g => by
  unfold eMv at g
  cases h : slot ρ i with
  | none => rw [h] at g; exact g.elim
  | some c =>
    rw [h] at g
    obtain ⟨d, fl⟩ := c
    have hi := slot_some h
    cases fl with
    | sh =>
      obtain ⟨v, e, q⟩ := S.sl i _ hi
      rcases q with ⟨_, q⟩ | ⟨q, _⟩
      · exact ⟨v, e, g v B H S Ext.refl q⟩
      · exact absurd rfl q
    | ow =>
      obtain ⟨v, B1, e, S1, x1, r⟩ := S.freeze hi
      exact ⟨v, e, g v B1 H S1 x1 r⟩
    | io => exact g.elim
theorem se_vb (i : Nat) {x : Str} (hN : X.N[i]? = some x := by rfl) (hv : Vis X.env.scope x := by first | exact Or.inl rfl | exact Or.inr (Or.inl rfl) | exact Or.inr (Or.inr rfl)) (hd : (x == ("__debug__" : Str)) = false := by decide)
    (hcd : (x == ("__classdict__" : Str)) = false := by decide) : SE X C (.Name x pos) (tVar i) (eVb i) := ⟨pe_var hN hv hd hcd, lk_vb⟩
theorem se_mv (i : Nat) {x : Str} (hN : X.N[i]? = some x := by rfl) (hv : Vis X.env.scope x := by first | exact Or.inl rfl | exact Or.inr (Or.inl rfl) | exact Or.inr (Or.inr rfl)) (hd : (x == ("__debug__" : Str)) = false := by decide)
    (hcd : (x == ("__classdict__" : Str)) = false := by decide) : SE X C (.Name x pos) (tVar i) (eMv i) := ⟨pe_var hN hv hd hcd, lk_mv⟩
theorem lk_c {v : V} {d : D} (h : ∀ B, Rp C.K B v d) : LkE C (tC v) (eC d) := fun ρ σ B H Q S g => g v B H S Ext.refl (h B)
theorem se_int {i : Int} {j : Nat} : SE X C (.Constant (.int i) j pos) (tC (.int i)) (eC (.int i)) := ⟨pe_int, lk_c fun _ => .int i⟩
theorem se_str {i : Str} {j : Nat} : SE X C (.Constant (.str i) j pos) (tC (.str i)) (eC (.str i)) := ⟨pe_str, lk_c fun _ => .str i⟩
theorem se_bl {i : Bool} {j : Nat} : SE X C (.Constant (.bool i) j pos) (tC (.bl i)) (eC (.bool i)) := ⟨pe_bl, lk_c fun _ => .bl i⟩
theorem se_non {j : Nat} : SE X C (.Constant .none j pos) (tC .non) (eC .none) := ⟨pe_non, lk_c fun _ => .non⟩
/-- a module's constant -/
theorem se_glob {x : Str} {v : V} {u : Value} {d : D} (hm : X.mg x = some u) (r : RelV v u) (h : ∀ B, Rp C.K B v d) (hg : Gl X x := by rfl) (hd : (x == ("__debug__" : Str)) = false := by decide) : SE X C (.Name x pos) (tC v) (eC d) := ⟨pe_glob hg hm r hd, lk_c h⟩
def eNeg (f : EF) : EF := fun ρ => bindE (eSet f ρ) fun h ρ1 => match getH ρ1 h with
  | some (.int i) => .ok (.sh (.int (-i))) ρ1
  | _ => .stuck
theorem se_neg (l : SE X C e te fe) : SE X C (.UnaryOp .USub e pos) (tUn (rU fun i => .int (-i)) te) (eNeg fe) := ⟨pe_un un_neg l.pe, fun ρ σ B H Q S g => by
  refine l.lk.setBind S g fun hd ρ1 x B1 H1 S1 e1 y1 g1 => ?_
  split at g1
  · rename_i i ei
    exact ⟨i, (S1.tp y1 ei).int, g1 _ B1 H1 S1 Ext.refl (.int _)⟩
  · exact g1.elim⟩
inductive RA where | stuck | ok (hs : List Hd) (ρ : Rho) | exc (x : Xc) (ρ : Rho)
abbrev AF := Rho → RA
def HsOk (K : KW) (σ : St) (B : Hp) (v : V) : Hd → Prop
  | .sh d => Rp K B v d
  | .fr _ => False
  | .bw i => σ[i]? = some (some v)
inductive HdL (K : KW) (σ : St) (B : Hp) : List V → List Hd → Prop
  | nil : HdL K σ B [] []
  | cons {v : V} {vs : List V} {h : Hd} {hs : List Hd} : HsOk K σ B v h → HdL K σ B vs hs → HdL K σ B (v :: vs) (h :: hs)
theorem HsOk.mono {K : KW} {σ : St} {B B1 : Hp} (e : Same B B1) {v : V} : ∀ {h : Hd}, HsOk K σ B v h → HsOk K σ B1 v h
  | .sh _, q => Rp.mono e q
  | .fr _, q => q
  | .bw _, q => q
theorem HdL.mono {K : KW} {σ : St} {B B1 : Hp} (e : Same B B1) : ∀ {vs : List V} {hs : List Hd}, HdL K σ B vs hs → HdL K σ B1 vs hs
  | _, _, .nil => .nil
  | _, _, .cons h t => .cons (h.mono e) (HdL.mono e t)
theorem HdL.length {K : KW} {σ : St} {B : Hp} : ∀ {vs : List V} {hs : List Hd}, HdL K σ B vs hs → vs.length = hs.length
  | _, _, .nil => rfl
  | _, _, .cons h t => by rw [List.length_cons, List.length_cons, HdL.length t]
def GoodA (C : Ct) (ρ : Rho) (σ : St) (B H : Hp) (Q : List V → Hp → Prop) : RA → Prop
  | .stuck => False
  | .ok hs ρ' => ∀ vs B' H', Sim C.K ρ' σ B' H' → Ext ρ σ B H ρ' σ B' H' → HdL C.K σ B' vs hs → Q vs H'
  | .exc x ρ' => ∀ cls dct B' H', Sim C.K ρ' σ B' H' → Ext ρ σ B H ρ' σ B' H' → XcOk C B' x cls dct → C.W cls dct σ H'
def LkA (C : Ct) (t : TA) (f : AF) : Prop := ∀ ρ σ B H Q, Sim C.K ρ σ B H → GoodA C ρ σ B H Q (f ρ) → t σ H Q
structure SA (X : Cx) (C : Ct) (es : List Expr) (t : TA) (f : AF) : Prop where
  pa : PA X es t
  lk : LkA C t f
def aNil : AF := fun ρ => .ok [] ρ
def aCons (f : EF) (g : AF) : AF := fun ρ => match eSet f ρ with
  | .stuck => .stuck
  | .exc x ρ1 => .exc x ρ1
  | .ok h ρ1 => match g ρ1 with
    | .stuck => .stuck
    | .exc x ρ2 => .exc x ρ2
    | .ok hs ρ2 => .ok (h :: hs) ρ2
theorem GoodA.ext {ρ ρ1 : Rho} {σ : St} {B H B1 H1 : Hp} {Q : List V → Hp → Prop} (x : Ext ρ σ B H ρ1 σ B1 H1) : ∀ {r : RA}, GoodA C ρ σ B H Q r → GoodA C ρ1 σ B1 H1 Q r
  | .stuck, g => g
  | .ok _ _, g => fun vs B' H' s y z => g vs B' H' s (x.trans y) z
  | .exc _ _, g => fun c d B' H' s y z => g c d B' H' s (x.trans y) z
theorem hs_of {K : KW} {N : Addr → Prop} {ρ : Rho} {σ : St} {B H : Hp} {v : V} {h : Hd} (y : HdOk K N ρ σ B H v (setl h)) : HsOk K σ B v (setl h) := by
  cases h <;> exact y
theorem sa_nil : SA X C [] tNil aNil := ⟨pa_nil, fun ρ σ B H Q S g => g [] B H S Ext.refl .nil⟩
theorem sa_cons {t : TA} {g : AF} (l : SE X C e te fe) (m : SA X C es t g) (hs : starEach (e :: es) X.env = (false, eval e X.env) :: starEach es X.env := by rfl) : SA X C (e :: es) (tCons te t) (aCons fe g) := ⟨pa_cons l.pe m.pa hs, fun ρ σ B H Q S gd => by
  refine l.lk.set ρ σ B H _ S ?_
  unfold aCons at gd
  cases e : eSet fe ρ with
  | stuck => rw [e] at gd; exact gd
  | exc x ρ1 => rw [e] at gd; exact gd
  | ok h ρ1 =>
    rw [e] at gd
    intro v B1 H1 S1 x1 y1
    have y2 : HsOk C.K σ B1 v h := by
      unfold eSet bindE at e
      split at e
      · cases e
      · rename_i h' ρ' e'
        cases e
        exact hs_of y1
      · cases e
    refine m.lk ρ1 σ B1 H1 _ S1 ?_
    cases e2 : g ρ1 with
    | stuck => simp only [e2] at gd; exact gd
    | exc x ρ2 => simp only [e2] at gd; exact GoodA.ext x1 (r := .exc x ρ2) gd
    | ok hs ρ2 =>
      simp only [e2] at gd
      exact fun vs B2 H2 S2 x2 y3 => gd (v :: vs) B2 H2 S2 (x1.trans x2) (.cons (y2.mono x2.bb) y3)⟩
def bindA (r : RA) (k : List Hd → Rho → RE) : RE := match r with
  | .stuck => .stuck
  | .ok hs ρ => k hs ρ
  | .exc x ρ => .exc x ρ
theorem LkA.bind {t : TA} {f : AF} (l : LkA C t f) {ρ : Rho} {σ : St} {B H : Hp} (S : Sim C.K ρ σ B H) {Q : VK} {k : List Hd → Rho → RE} {Q' : List V → Hp → Prop} (g : GoodE C ρ σ B H Q (bindA (f ρ) k))
    (h : ∀ hs ρ1 vs B1 H1, Sim C.K ρ1 σ B1 H1 → Ext ρ σ B H ρ1 σ B1 H1 → HdL C.K σ B1 vs hs → GoodE C ρ1 σ B1 H1 Q (k hs ρ1) → Q' vs H1) : t σ H Q' := by
  refine l ρ σ B H Q' S ?_
  cases e : f ρ with
  | stuck => rw [e] at g; exact g
  | exc x ρ1 => rw [e] at g; exact g
  | ok hs ρ1 =>
    rw [e] at g
    exact fun vs B1 H1 s x y => h hs ρ1 vs B1 H1 s x y (GoodE.ext x g)
/-- all are data of their own -/
def shs : List Hd → Option (List D)
  | [] => some []
  | .sh d :: hs => (shs hs).map (d :: ·)
  | _ :: _ => none
theorem shs_ok {K : KW} {σ : St} {B : Hp} : ∀ {vs : List V} {hs : List Hd} {ds : List D}, HdL K σ B vs hs → shs hs = some ds → RpL K B vs ds
  | _, _, _, .nil, e => by cases e; exact .nil
  | _, .sh d :: hs, _, .cons h t, e => by
    obtain ⟨r, er, rfl⟩ := Option.map_eq_some_iff.mp (show (shs hs).map (d :: ·) = some _ from e)
    exact .cons h (shs_ok t er)
/-- what they are, looked at -/
def gets (ρ : Rho) : List Hd → Option (List D)
  | [] => some []
  | h :: hs => match getH ρ h, gets ρ hs with
    | some d, some ds => some (d :: ds)
    | _, _ => none
inductive TpL (K : KW) (B H : Hp) : List V → List D → Prop
  | nil : TpL K B H [] []
  | cons {v : V} {vs : List V} {d : D} {ds : List D} : Tp K B H v d → TpL K B H vs ds → TpL K B H (v :: vs) (d :: ds)
theorem hd_hs {K : KW} {N : Addr → Prop} {ρ : Rho} {σ : St} {B H : Hp} {v : V} : ∀ {h : Hd}, HsOk K σ B v h → HdOk K N ρ σ B H v h
  | .sh _, q => q
  | .bw _, q => q
theorem gets_ok {ρ : Rho} {σ : St} {B H : Hp} (S : Sim C.K ρ σ B H) : ∀ {vs : List V} {hs : List Hd} {ds : List D}, HdL C.K σ B vs hs → gets ρ hs = some ds → TpL C.K B H vs ds
  | _, _, _, .nil, e => by cases e; exact .nil
  | _, h :: hs, _, .cons y t, e => by
    unfold gets at e
    split at e
    · rename_i d ds e1 e2
      cases e
      exact .cons (S.tp (N := fun _ => True) (hd_hs y) e1) (gets_ok S t e2)
    · cases e
def eTup (f : AF) : EF := fun ρ => bindA (f ρ) fun hs ρ1 => match shs hs with
  | some ds => if ds.length ≤ 1000 then .ok (.sh (.tuple ds)) ρ1 else .stuck
  | none => .stuck
def eLst (f : AF) : EF := fun ρ => bindA (f ρ) fun hs ρ1 => match shs hs with
  | some ds => if ds.length ≤ 1000 then .ok (.fr (.list ds)) ρ1 else .stuck
  | none => .stuck
theorem small {n : Nat} (h : n ≤ 1000) : n ≤ sizeLine := Nat.le_of_lt (small1000 h)
theorem se_tup {t : TA} {f : AF} {k : Nat} (l : SA X C es t f) : SE X C (.Tuple es k pos) (tTupX t) (eTup f) := ⟨pe_tupX l.pa, fun ρ σ B H Q S g => by
  refine l.lk.bind S g fun hs ρ1 vs B1 H1 S1 x1 y1 g1 => ?_
  split at g1
  · rename_i ds e
    split at g1
    · have r := shs_ok y1 e
      exact ⟨by rw [r.length]; exact small (by assumption), newT S1 r g1⟩
    · exact g1.elim
  · exact g1.elim⟩
theorem se_lst {t : TA} {f : AF} (l : SA X C es t f) : SE X C (.List es pos) (tLst t) (eLst f) := ⟨pe_lst l.pa, fun ρ σ B H Q S g => by
  refine l.lk.bind S g fun hs ρ1 vs B1 H1 S1 x1 y1 g1 => ?_
  split at g1
  · rename_i ds e
    split at g1
    · have r := shs_ok y1 e
      exact ⟨by rw [r.length]; exact small (by assumption), newL S1 r g1⟩
    · exact g1.elim
  · exact g1.elim⟩
def CalL (K : KW) (r : List V → Hp → VK → Prop) (o : List D → Option Hd) : Prop := ∀ ρ σ B H xs ds h Q, Sim K ρ σ B H → TpL K B H xs ds → o ds = some h →
  (∀ v B' H', Sim K ρ σ B' H' → Ext ρ σ B H ρ σ B' H' → HdOk K (New ρ σ H) ρ σ B' H' v h → Q v H') → r xs H Q
def eCB (o : List D → Option Hd) (f : AF) : EF := fun ρ => bindA (f ρ) fun hs ρ1 => match (gets ρ1 hs).bind o with
  | some h => .ok h ρ1
  | none => .stuck
theorem lk_cb {t : TA} {f : AF} {r : List V → Hp → VK → Prop} {o : List D → Option Hd} (hr : CalL C.K r o) (l : LkA C t f) : LkE C (tCB r t) (eCB o f) := fun ρ σ B H Q S g => by
  refine l.bind S g fun hs ρ1 vs B1 H1 S1 x1 y1 g1 => ?_
  split at g1
  · rename_i h e
    obtain ⟨ds, e1, e2⟩ := Option.bind_eq_some_iff.mp e
    exact hr ρ1 σ B1 H1 vs ds h Q S1 (gets_ok S1 y1 e1) e2 g1
  · exact g1.elim
theorem se_cb {x : Str} {id : String} {p : Pos} {t : TA} {f : AF} {r : List V → Hp → VK → Prop} {o : List D → Option Hd} (hr : CalL C.K r o) (hc : CallR X (.builtin id) r) (hm : X.mg x = none) (l : SA X C (e :: es) t f) (hv : bootBuiltins x = some (.builtin id) := by decide +kernel) (hg : Gl X x := by rfl)
    (hn : x ≠ "__name__" := by decide) (hdb : (x == ("__debug__" : Str)) = false := by decide) (he : starEach (e :: es) X.env = (false, eval e X.env) :: starEach es X.env := by rfl) (hpl : (backTo pos (starEach es X.env)).any (·.1) = false := by rfl) :
    SE X C (.Call (.Name x p) (e :: es) [] pos) (tCB r t) (eCB o f) := ⟨pe_callB hc hg hm hv l.pa hn hdb he hpl, lk_cb hr l.lk⟩
theorem se_ct {x : Str} {T : String} {p : Pos} {t : TA} {f : AF} {r : List V → Hp → VK → Prop} {o : List D → Option Hd} (hr : CalL C.K r o) (hc : CallR X (.type T) r) (hm : X.mg x = none) (l : SA X C (e :: es) t f) (hv : bootBuiltins x = some (.type T) := by decide +kernel) (hg : Gl X x := by rfl)
    (hn : x ≠ "__name__" := by decide) (hdb : (x == ("__debug__" : Str)) = false := by decide) (he : starEach (e :: es) X.env = (false, eval e X.env) :: starEach es X.env := by rfl) (hpl : (backTo pos (starEach es X.env)).any (·.1) = false := by rfl) :
    SE X C (.Call (.Name x p) (e :: es) [] pos) (tCB r t) (eCB o f) := ⟨pe_callTy hc hg hm hv l.pa hn hdb he hpl, lk_cb hr l.lk⟩
end
section
variable {K : KW}
/-- one argument, two -/
def un1 (o : D → Option Hd) : List D → Option Hd
  | [d] => o d
  | _ => none
def un2 (o : D → D → Option Hd) : List D → Option Hd
  | [d, e] => o d e
  | _ => none
theorem CalL.one {r : List V → Hp → VK → Prop} {o : D → Option Hd} (k : ∀ ρ σ B H x d h Q, Sim K ρ σ B H → Tp K B H x d → o d = some h →
    (∀ v B' H', Sim K ρ σ B' H' → Ext ρ σ B H ρ σ B' H' → HdOk K (New ρ σ H) ρ σ B' H' v h → Q v H') → r [x] H Q) : CalL K r (un1 o) := fun ρ σ B H xs ds h Q S y e q => by
  cases y with
  | nil => cases e
  | cons t u =>
    cases u with
    | nil => exact k ρ σ B H _ _ h Q S t e q
    | cons _ _ => cases e
theorem CalL.two {r : List V → Hp → VK → Prop} {o : D → D → Option Hd} (k : ∀ ρ σ B H x y d d' h Q, Sim K ρ σ B H → Tp K B H x d → Tp K B H y d' → o d d' = some h →
    (∀ v B' H', Sim K ρ σ B' H' → Ext ρ σ B H ρ σ B' H' → HdOk K (New ρ σ H) ρ σ B' H' v h → Q v H') → r [x, y] H Q) : CalL K r (un2 o) := fun ρ σ B H xs ds h Q S y e q => by
  cases y with
  | nil => cases e
  | cons t u =>
    cases u with
    | nil => cases e
    | cons u w =>
      cases w with
      | nil => exact k ρ σ B H _ _ _ _ h Q S t u e q
      | cons _ _ => cases e
def lenD : D → Option Hd
  | .list ds => some (.sh (.int ds.length))
  | .tuple ds => some (.sh (.int ds.length))
  | .str z => if z.length ≤ sizeLine then some (.sh (.int z.length)) else none
  | _ => none
def rLen (K : PySem.W.Frag) : List V → Hp → VK → Prop := fun xs H Q => ∃ x n, xs = [x] ∧ LenV K x H n ∧ Q (.int n) H
theorem cl_len : CalL K (rLen K) (un1 lenD) := CalL.one fun ρ σ B H x d h Q S t e k => by
  cases d with
  | list ds =>
    cases e
    obtain ⟨a, vs, rfl, ha, ra⟩ := t
    refine ⟨_, vs.length, rfl, .inl ⟨vs, ha, rfl⟩, ?_⟩
    rw [ra.length]
    exact now S (.int _) k
  | tuple ds =>
    cases e
    obtain ⟨a, vs, rfl, ha, ra⟩ := Tp.tup t
    refine ⟨_, vs.length, rfl, .inr ⟨vs, same_t S.bh ha, rfl⟩, ?_⟩
    rw [ra.length]
    exact now S (.int _) k
  | str z =>
    obtain ⟨c, rfl⟩ := if_some e
    rw [Tp.str t]
    exact ⟨_, z.length, rfl, ⟨c, rfl⟩, now S (.int _) k⟩
  | _ => cases e
def listD : D → Option Hd
  | .list ds => some (.fr (.list ds))
  | .tuple ds => some (.fr (.list ds))
  | _ => none
def rListA (K : PySem.W.Frag) : List V → Hp → VK → Prop := fun xs H Q => ∃ p ys, xs = [.ref p] ∧ (SqL K H p ys ∨ SqT K H p ys) ∧ ∀ l, H l = none → Q (.ref l) (upd H l (.lst ys))
theorem cl_list : CalL K (rListA K) (un1 listD) := CalL.one fun ρ σ B H x d h Q S t e k => by
  cases d with
  | list ds =>
    cases e
    obtain ⟨a, vs, rfl, ha, ra⟩ := t
    exact ⟨a, vs, rfl, .inl ha, newL S ra k⟩
  | tuple ds =>
    cases e
    obtain ⟨a, vs, rfl, ha, ra⟩ := Tp.tup t
    exact ⟨a, vs, rfl, .inr (same_t S.bh ha), newL S ra k⟩
  | _ => cases e
def tupleD : D → Option Hd
  | .list ds => some (.sh (.tuple ds))
  | .tuple ds => some (.sh (.tuple ds))
  | _ => none
abbrev rTupleA := rTupX
theorem cl_tuple : CalL K (rTupleA K) (un1 tupleD) := CalL.one fun ρ σ B H x d h Q S t e k => by
  cases d with
  | list ds =>
    cases e
    obtain ⟨a, vs, rfl, ha, ra⟩ := t
    exact ⟨a, vs, rfl, .inl ⟨ha, newT S ra k⟩⟩
  | tuple ds =>
    cases e
    obtain ⟨a, vs, rfl, ha, ra⟩ := Tp.tupX t
    exact ⟨a, vs, rfl, .inr ⟨(same_x S.bh ha).sq, now S (.tup ha ra) k⟩⟩
  | _ => cases e
/-- isinstance of a built-in type -/
def tyOf : D → String
  | .none => "NoneType"
  | .bool _ => "bool"
  | .int _ => "int"
  | .str _ => "str"
  | .list _ => "list"
  | .tuple _ => "tuple"
  | .dict ps => if xnB ps then "Exception" else "dict"
def isXn : D → Bool | .dict ps => xnB ps | _ => false
theorem tyX {B H : Hp} (s : Same B H) {v : V} {d : D} (h : Tp K B H v d) (hx : isXn d = false) : TyX K H v (.type (tyOf d)) ∨ ∃ a w ep xs, v = .ref a ∧ H a = some (dX w a ep xs) ∧ tyOf d = "dict" := by
  cases d with
  | none => rw [h.non]; exact .inl (.base .non)
  | bool b => rw [h.bl]; exact .inl (.base (.bl b))
  | int i => rw [h.int]; exact .inl (.base (.int i))
  | str z => rw [h.str]; exact .inl (.base (.str z))
  | list ds =>
    obtain ⟨a, vs, rfl, ha, _⟩ := h
    rcases ha with (ha | ⟨o, ha⟩) | ⟨o, its, n, e, c, _⟩
    · exact .inl (.base (.lst ha))
    · exact .inl (.base (.frz ha))
    · exact .inl (.kList e c)
  | tuple ds =>
    obtain ⟨a, vs, rfl, ha, _⟩ := h.tup
    rcases same_t s ha with (ha | ⟨o, ha⟩) | ⟨o, its, n, e, c, _⟩
    · exact .inl (.base (.tup ha))
    · exact .inl (.fTuple ha)
    · exact .inl (.kTuple e c)
  | dict ps =>
    have hx : xnB ps = false := hx
    have et : tyOf (.dict ps) = "dict" := by show (if xnB ps then "Exception" else "dict") = _; rw [hx]; rfl
    rcases h with ⟨a, ep, b, xs, rfl, ha, _⟩ | ⟨z, _⟩
    · exact .inr ⟨a, K.w, ep, xs, rfl, ha, et⟩
    · rw [hx] at z; cases z
end
theorem xcB_ok {K : PySem.W.Frag} {cls : Value} (h : xcB K cls = true) : ∃ D, cls = .ref D ∧ (PySem.W.clsIn K D).isSome = true ∧ PySem.W.findIn K (.ref D) "__getattribute__" = some (some (.builtin "BaseException.__getattribute__")) ∧ PySem.W.findIn K (.ref D) "__getattr__" = some none ∧
    PySem.W.subIn K (.ref D) (.type "BaseException") = some true ∧ PySem.W.hasDictIn K D = true ∧ PySem.W.findIn K (.ref D) "__class__" = some (some (.builtin "object.__class__")) ∧ PySem.W.specialIn K (.builtin "object.__class__") "__get__" = some (some (.builtin "getset_descriptor.__get__")) ∧
    PySem.W.takesIn K (.builtin "object.__class__") = some true ∧ PySem.W.mroIn K D (.type "object") = some true ∧ ∀ T ∈ ["tuple", "str", "bool", "int", "list", "dict"], PySem.W.kitOne K (.ref D) (.type T) = some false := by
  unfold xcB at h
  split at h
  · rename_i D
    simp only [Bool.and_eq_true, decide_eq_true_eq] at h
    obtain ⟨h1, h2, h3, h4, h5, h6, h7, h8, h9, h10⟩ := h
    exact ⟨D, rfl, h1, h2, h3, h4, h5, h6, h7, h8, h9, fun T hT => of_decide_eq_true (List.all_eq_true.mp h10 T hT)⟩
  · cases h
theorem exV_at {P : Program} {w : World} {H : Hp} {h : Heap} {a : Addr} {cls : Value} {d : Option Addr} (hok : HOk P w H h) (e : H a = some (exV a cls d)) : ∃ (oe : Obj) (vs : Array Value), h.get? a = some oe ∧ Zc cls d oe ∧ oe.data = .fields vs := by
  have x : ObjOk P w H h a (.ext fun h => ∃ (oe : Obj) (vs : Array Value), h.get? a = some oe ∧ Zc cls d oe ∧ oe.data = .fields vs) := hok a _ e
  exact x.1
theorem exV_inst {X : Cx} {pins : List (Addr × Obj)} {σ : St} {H : Hp} {s : Shared} {a D : Addr} {d : Option Addr} {fs : List (Str × V)} (I : Inv X pins σ H s) (e : H a = some (exV a (.ref D) d)) (x : XdB H d fs) :
    ∃ (oe : Obj) (od : Option Obj), PySem.W.InstAt s.heap a oe D od := by
  obtain ⟨oe, vs, ha, hz, hd⟩ := exV_at I.hok e
  rcases x with ⟨rfl, _⟩ | ⟨dd, rfl, ed⟩
  · exact ⟨oe, none, ha, hz.1, by unfold PySem.W.notCls; rw [hd] <;> rfl, by rw [hz.2]; trivial⟩
  · have hx : ObjOk X.prog X.w H s.heap dd (.xd fs) := I.hok dd _ ed
    obtain ⟨mA, hns, hr⟩ := hx
    obtain ⟨od, ho, hl⟩ := lookIn_ns hns
    exact ⟨oe, some od, ha, hz.1, by unfold PySem.W.notCls; rw [hd] <;> rfl, by rw [hz.2]; exact ho⟩
def rIsX (K : PySem.W.Frag) : List V → Hp → VK → Prop := fun xs H Q => ∃ (a : Addr) (c : V) (D : Addr) (d : Option Addr) (fs : List (Str × V)) (u : Value) (b : Bool), xs = [.ref a, c] ∧ ClsV c u ∧ H a = some (exV a (.ref D) d) ∧ XdB H d fs ∧ xcB K (.ref D) = true ∧ PySem.W.kitOne K (.ref D) u = some b ∧ Q (.bl b) H
theorem call_isX {X : Cx} : CallR X (.builtin "isinstance") (rIsX X.K) := by
  intro pins s σ H xs us Q I r h
  obtain ⟨a, c, D, d, fs, u, b, rfl, k, ea, xd, xb, e, q⟩ := h
  obtain ⟨u1, u2, rfl, r1, r2⟩ := vals2 r
  have e2 := k.eq r2
  subst e2
  obtain rfl : u1 = Value.ref a := r1
  obtain ⟨oe, od, J⟩ := exV_inst I ea xd
  obtain ⟨D', eD, h1, h2, h3, h4, h5, h6, h7, h8, h9, _⟩ := xcB_ok xb
  cases eD
  exact PySem.W.kia_one (PySem.W.kitx_exc h1 h2 h3 h4 h6 h7 h8 h9) I.kIn J e (fun z => nomatch z) fun tk => ⟨.bl b, H, I.tok tk, rfl, q⟩
/-- of a dict whose keys are tuples -/
def rIsD (K : PySem.W.Frag) : List V → Hp → VK → Prop := fun xs H Q => ∃ (a : Addr) (c : V) (w : World) (ep : Nat) (es : List (NestedKey × Value × Value)) (u : Value) (b : Bool), xs = [.ref a, c] ∧ ClsV c u ∧ H a = some (dX w a ep es) ∧ PySem.W.kitOne K (.type "dict") u = some b ∧ Q (.bl b) H
theorem call_isD {X : Cx} : CallR X (.builtin "isinstance") (rIsD X.K) := by
  rintro pins s σ H xs us Q I r ⟨a, c, w, ep, es, u, b, rfl, k, ea, e, q⟩
  obtain ⟨u1, u2, rfl, r1, r2⟩ := vals2 r
  obtain rfl := k.eq r2
  obtain rfl : u1 = Value.ref a := r1
  obtain ⟨⟨o, _, h1, h2, _⟩, _⟩ := I.hok a _ ea
  exact PySem.W.kia_one PySem.W.kitx_dict I.kIn ⟨o, h1, h2.1⟩ e (fun z => nomatch z) fun tk => ⟨.bl b, H, I.tok tk, rfl, q⟩
def rIsiA (K : PySem.W.Frag) : List V → Hp → VK → Prop := fun xs H Q => rIsi K xs H Q ∨ (rIsX K xs H Q ∨ rIsD K xs H Q)
theorem call_isiA {X : Cx} : CallR X (.builtin "isinstance") (rIsiA X.K) := by
  intro pins s σ H xs us Q I r h
  rcases h with h | h | h
  · exact call_isi pins s σ H xs us Q I r h
  · exact call_isX pins s σ H xs us Q I r h
  · exact call_isD pins s σ H xs us Q I r h
/-- what is kept of an exception's datum -/
theorem Tp.xn {K : KW} {B H : Hp} {v : V} {d : D} (s : Same B H) (h : Tp K B H v d) (hx : isXn d = true) : ∃ (a : Addr) (c : Str) (dd : Option Addr) (fs : List (Str × V)) (ds : List D), v = .ref a ∧ d = xnD c (fs.map (·.1)) ds ∧ H a = some (exV a (cvK K c) dd) ∧ xcB K (cvK K c) = true ∧ XdB H dd fs ∧ RpL K B (fs.map (·.2)) ds := by
  cases d with
  | dict ps =>
    have hx : xnB ps = true := hx
    have no : ∀ {b xs}, RpX K B b xs ps → False := fun r => by
      cases r with
      | nil => cases hx
      | @cons _ _ _ _ _ _ _ kd _ _ h1 _ _ _ _ _ _ =>
        cases kd <;> first | (cases hx; done) | cases h1
    rcases h with ⟨_, _, _, _, _, _, r⟩ | ⟨_, h⟩
    · exact (no r).elim
    · cases h with
      | dct _ r => exact (no r).elim
      | exn h1 h2 h3 h4 => exact ⟨_, _, _, _, _, rfl, rfl, s _ _ h1, h2, h3.mono s, h4⟩
  | _ => cases hx
section
variable {X : Cx} {C : Ct} {e : Expr} {te : TE} {fe : EF} {pos : Pos}
def eIsi (p : D → Bool) (f : EF) : EF := fun ρ => bindE (eSet f ρ) fun h ρ1 => match getH ρ1 h with
  | some d => .ok (.sh (.bool (p d))) ρ1
  | none => .stuck
theorem lk_isi {T : String} {p : D → Bool} (hp : ∀ d, kitB (tyOf d) T = some (p d)) (hT : T ∈ ["tuple", "str", "bool", "int", "list", "dict"]) (hTx : kitB "Exception" T = some false) (l : LkE C te fe) : LkE C (tCB (rIsiA C.K) (tCons te (tCons (tC (.ty T)) tNil))) (eIsi p fe) := fun ρ σ B H Q S g => by
  refine l.setBind S g fun hd ρ1 x B1 H1 S1 e1 y1 g1 => ?_
  split at g1
  · rename_i d ed
    cases hx : isXn d with
    | false =>
      rcases tyX S1.bh (S1.tp y1 ed) hx with ty | ⟨a, w, ep, es, rfl, ha, et⟩
      · refine .inl ⟨x, .ty T, _, _, _, rfl,   .ty T, ty, kit_ty (hp d), ?_⟩
        exact g1 _ B1 H1 S1 Ext.refl (.bl _)
      · refine .inr (.inr ⟨a, .ty T, w, ep, es, _, _, rfl, .ty T, ha, kit_ty (by have := hp d; rw [et] at this; exact this), ?_⟩)
        exact g1 _ B1 H1 S1 Ext.refl (.bl _)
    | true =>
      obtain ⟨a, c, dd, fs, ds, rfl, rfl, h1, h2, h3, h4⟩ := (S1.tp y1 ed).xn S1.bh hx
      obtain ⟨D, eD, _, _, _, _, _, _, _, _, _, hk⟩ := xcB_ok h2
      rw [eD] at h1 h2
      refine .inr (.inl ⟨a, .ty T, D, dd, fs, _, _, rfl, .ty T, h1, h3, h2, hk T hT, ?_⟩)
      have e : p (xnD c (fs.map (·.1)) ds) = false := by
        have z := hp (xnD c (fs.map (·.1)) ds)
        rw [show tyOf (xnD c (fs.map (·.1)) ds) = "Exception" from rfl, hTx] at z
        exact (Option.some.inj z).symm
      rw [e] at g1
      exact g1 _ B1 H1 S1 Ext.refl (.bl _)
  · exact g1.elim
theorem se_isi {x : Str} {T : String} {p : D → Bool} {q1 q2 : Pos} (hp : ∀ d, kitB (tyOf d) T = some (p d)) (hm : X.mg "isinstance" = none) (hmT : X.mg x = none) (l : SE X C e te fe) (hvT : bootBuiltins x = some (.type T) := by decide +kernel) (hT : T ∈ ["tuple", "str", "bool", "int", "list", "dict"] := by decide) (hTx : kitB "Exception" T = some false := by decide +kernel) (hk : X.K = C.K := by rfl) (hg : Gl X "isinstance" := by rfl) (hgT : Gl X x := by rfl)
    (hnT : x ≠ "__name__" := by decide) (hdT : (x == ("__debug__" : Str)) = false := by decide)
    (he : starEach (e :: [.Name x q2]) X.env = (false, eval e X.env) :: starEach [.Name x q2] X.env := by rfl) :
    SE X C (.Call (.Name "isinstance" q1) [e, .Name x q2] [] pos) (tCB (rIsiA C.K) (tCons te (tCons (tC (.ty T)) tNil))) (eIsi p fe) :=
  ⟨by rw [← hk]; exact pe_callB call_isiA hg hm (by decide +kernel) (pa_cons l.pe (pa_cons (pe_bltn hgT hmT hvT rfl hnT hdT) pa_nil) he) (by decide) (by decide) he, lk_isi hp hT hTx l.lk⟩
def isTup : D → Bool | .tuple _ => true | _ => false
def isStr : D → Bool | .str _ => true | _ => false
def isBool : D → Bool | .bool _ => true | _ => false
def isInt : D → Bool | .int _ => true | .bool _ => true | _ => false
theorem kit_tup : ∀ d, kitB (tyOf d) "tuple" = some (isTup d)
  | .none => by show kitB "NoneType" "tuple" = some false; decide +kernel
  | .tuple _ => by show kitB "tuple" "tuple" = some true; decide +kernel
  | .bool _ => by show kitB "bool" "tuple" = some false; decide +kernel
  | .int _ => by show kitB "int" "tuple" = some false; decide +kernel
  | .str _ => by show kitB "str" "tuple" = some false; decide +kernel
  | .list _ => by show kitB "list" "tuple" = some false; decide +kernel
  | .dict ps => by
    show kitB (if xnB ps then "Exception" else "dict") "tuple" = some false
    cases xnB ps <;> decide +kernel
theorem kit_str : ∀ d, kitB (tyOf d) "str" = some (isStr d)
  | .none => by show kitB "NoneType" "str" = some false; decide +kernel
  | .tuple _ => by show kitB "tuple" "str" = some false; decide +kernel
  | .bool _ => by show kitB "bool" "str" = some false; decide +kernel
  | .int _ => by show kitB "int" "str" = some false; decide +kernel
  | .str _ => by show kitB "str" "str" = some true; decide +kernel
  | .list _ => by show kitB "list" "str" = some false; decide +kernel
  | .dict ps => by
    show kitB (if xnB ps then "Exception" else "dict") "str" = some false
    cases xnB ps <;> decide +kernel
theorem kit_bool : ∀ d, kitB (tyOf d) "bool" = some (isBool d)
  | .none => by show kitB "NoneType" "bool" = some false; decide +kernel
  | .tuple _ => by show kitB "tuple" "bool" = some false; decide +kernel
  | .bool _ => by show kitB "bool" "bool" = some true; decide +kernel
  | .int _ => by show kitB "int" "bool" = some false; decide +kernel
  | .str _ => by show kitB "str" "bool" = some false; decide +kernel
  | .list _ => by show kitB "list" "bool" = some false; decide +kernel
  | .dict ps => by
    show kitB (if xnB ps then "Exception" else "dict") "bool" = some false
    cases xnB ps <;> decide +kernel
theorem kit_int : ∀ d, kitB (tyOf d) "int" = some (isInt d)
  | .none => by show kitB "NoneType" "int" = some false; decide +kernel
  | .tuple _ => by show kitB "tuple" "int" = some false; decide +kernel
  | .bool _ => by show kitB "bool" "int" = some true; decide +kernel
  | .int _ => by show kitB "int" "int" = some true; decide +kernel
  | .str _ => by show kitB "str" "int" = some false; decide +kernel
  | .list _ => by show kitB "list" "int" = some false; decide +kernel
  | .dict ps => by
    show kitB (if xnB ps then "Exception" else "dict") "int" = some false
    cases xnB ps <;> decide +kernel
end
end GS
namespace GS
open PySem L2
/-- what a def does: of its parameters' cells what comes back, and the lent cell behind -/
abbrev FF := Rho → RE
def spF (K : KW) (cv : Str → Value) (n : Nat) (F : FF) : Sp := fun vs H Q E => ∃ ρ B, ρ.length = n ∧ Sim K ρ (vs.map some) B H ∧
  GoodE ⟨K, cv, fun cls d _ H' => E cls d H'⟩ ρ (vs.map some) B H Q (F ρ)
def argC (ρ : Rho) (io : Bool) : Hd → Option Cel
  | .sh d => if io then none else some ⟨d, .sh⟩
  | .bw i => if io then (match slot ρ i with
    | some ⟨d, .ow⟩ => some ⟨d, .io⟩
    | some ⟨d, .io⟩ => some ⟨d, .io⟩
    | _ => none) else none
  | .fr _ => none
/-- the callee's cells; io: the place of the lent argument -/
def args (ρ : Rho) (io : Option Nat) : Nat → List Hd → Option Rho
  | _, [] => some []
  | k, h :: hs => match argC ρ (decide (io = some k)) h, args ρ io (k + 1) hs with
    | some c, some r => some (some c :: r)
    | _, _ => none
def putB (ρ : Rho) (io : Option Nat) (hs : List Hd) (outs : Rho) : Option Rho := match io with
  | none => some ρ
  | some j => match hs[j]? with
    | some (.bw i) => match slot ρ i, slot outs j with
      | some c, some c' => some (ρ.set i (some ⟨c'.d, c.fl⟩))
      | _, _ => none
    | _ => none
def eCall (n : Nat) (io : Option Nat) (F : FF) (fs : AF) : EF := fun ρ => bindA (fs ρ) fun hs ρ1 => match args ρ1 io 0 hs with
  | none => .stuck
  | some ρ0 => if ρ0.length ≠ n then .stuck else match F ρ0 with
    | .stuck => .stuck
    | .ok h outs => match h, putB ρ1 io hs outs with
      | .bw _, _ => .stuck
      | _, none => .stuck
      | _, some ρ2 => .ok h ρ2
    | .exc x outs => match putB ρ1 io hs outs with
      | none => .stuck
      | some ρ2 => .exc x ρ2
theorem argC_sh {ρ : Rho} {b : Bool} {d : D} {c : Cel} (h : argC ρ b (.sh d) = some c) : b = false ∧ c = ⟨d, .sh⟩ := by
  cases b
  · cases h; exact ⟨rfl, rfl⟩
  · cases h
theorem argC_bw {ρ : Rho} {b : Bool} {i : Nat} {c : Cel} (h : argC ρ b (.bw i) = some c) : b = true ∧ ∃ d fl, ρ[i]? = some (some ⟨d, fl⟩) ∧ fl ≠ .sh ∧ c = ⟨d, .io⟩ := by
  cases b
  · cases h
  · refine ⟨rfl, ?_⟩
    replace h : (match slot ρ i with | some ⟨d, .ow⟩ => some ⟨d, .io⟩ | some ⟨d, .io⟩ => some ⟨d, .io⟩ | _ => none) = some c := h
    split at h
    · rename_i d es
      cases h
      exact ⟨d, .ow, slot_some es, by simp, rfl⟩
    · rename_i d es
      cases h
      exact ⟨d, .io, slot_some es, by simp, rfl⟩
    · cases h
theorem args_at {ρ : Rho} {io : Option Nat} : ∀ {k : Nat} {hs : List Hd} {r : Rho}, args ρ io k hs = some r → r.length = hs.length ∧ ∀ (j : Nat) (c : Cel), r[j]? = some (some c) → ∃ h, hs[j]? = some h ∧ argC ρ (decide (io = some (k + j))) h = some c
  | _, [], _, e => by cases e; exact ⟨rfl, fun j c h => by simp at h⟩
  | k, h :: hs, r, e => by
    unfold args at e
    split at e
    · rename_i c r' e1 e2
      cases e
      obtain ⟨l, q⟩ := args_at e2
      refine ⟨by rw [List.length_cons, List.length_cons, l], fun j c' hj => ?_⟩
      cases j with
      | zero => simp at hj; subst hj; exact ⟨h, rfl, e1⟩
      | succ j =>
        obtain ⟨h', q1, q2⟩ := q j c' (by simpa using hj)
        exact ⟨h', by simpa using q1, by rw [show k + (j + 1) = k + 1 + j by omega]; exact q2⟩
    · cases e
theorem args_has {ρ : Rho} {io : Option Nat} : ∀ {k : Nat} {hs : List Hd} {r : Rho} {j : Nat} {h : Hd}, args ρ io k hs = some r → hs[j]? = some h → ∃ c, r[j]? = some (some c)
  | _, [], _, _, _, _, h => by simp at h
  | k, h :: hs, r, j, h', e, hj => by
    unfold args at e
    split at e
    · rename_i c r' e1 e2
      cases e
      cases j with
      | zero => exact ⟨c, rfl⟩
      | succ j =>
        obtain ⟨c', q⟩ := args_has (j := j) e2 (by simpa using hj)
        exact ⟨c', by simpa using q⟩
    · cases e
theorem HdL.get {K : KW} {σ : St} {B : Hp} : ∀ {vs : List V} {hs : List Hd} {j : Nat} {h : Hd}, HdL K σ B vs hs → hs[j]? = some h → ∃ v, vs[j]? = some v ∧ HsOk K σ B v h
  | _, _, _, _, .nil, e => by simp at e
  | _, _, 0, _, .cons h _, e => by simp at e; subst e; exact ⟨_, rfl, h⟩
  | _, _, j + 1, h, .cons _ t, e => by
    obtain ⟨v, q1, q2⟩ := HdL.get (j := j) (h := h) t (by simpa using e)
    exact ⟨v, by simpa using q1, q2⟩
section
variable {K : KW} {ρ ρ0 ρ0' ρ2 : Rho} {σ : St} {B H B' H' : Hp} {io : Option Nat} {hs : List Hd} {vs : List V}
/-- the callee's cell j that is lent is the caller's slot i -/
theorem args_own (e : args ρ io 0 hs = some ρ0) {j : Nat} {c : Cel} (hc : ρ0[j]? = some (some c)) (nf : c.fl ≠ .sh) : io = some j ∧ ∃ i d fl, hs[j]? = some (.bw i) ∧ ρ[i]? = some (some ⟨d, fl⟩) ∧ fl ≠ .sh ∧ c = ⟨d, .io⟩ := by
  obtain ⟨_, q⟩ := args_at e
  obtain ⟨h, h1, h2⟩ := q j c hc
  rw [Nat.zero_add] at h2
  cases h with
  | sh d =>
    obtain ⟨_, rfl⟩ := argC_sh h2
    exact absurd rfl nf
  | fr d => cases h2
  | bw i =>
    obtain ⟨b, d, fl, q1, q2, q3⟩ := argC_bw h2
    exact ⟨of_decide_eq_true b, i, d, fl, h1, q1, q2, q3⟩
theorem args_sim (S : Sim K ρ σ B H) (y : HdL K σ B vs hs) (e : args ρ io 0 hs = some ρ0) : Sim K ρ0 (vs.map some) B H := by
  obtain ⟨l, q⟩ := args_at e
  refine ⟨S.bh, by rw [l, List.length_map, y.length], fun j c hj => ?_, fun i j ci cj a hi hj ni nj _ _ => ?_⟩
  · obtain ⟨h, h1, h2⟩ := q j c hj
    obtain ⟨v, hv, ok⟩ := y.get h1
    refine ⟨v, by rw [List.getElem?_map, hv]; rfl, ?_⟩
    by_cases nf : c.fl = .sh
    · refine .inl ⟨nf, ?_⟩
      cases h with
      | sh d =>
        obtain ⟨_, rfl⟩ := argC_sh h2
        exact ok
      | fr d => cases h2
      | bw i =>
        obtain ⟨_, d, fl, _, _, rfl⟩ := argC_bw h2
        cases nf
    · obtain ⟨_, i, d, fl, h3, h4, h5, rfl⟩ := args_own e hj nf
      rw [h1] at h3
      cases h3
      obtain ⟨v', e1, cok⟩ := S.sl i _ h4
      have ok' : σ[i]? = some (some v) := ok
      rw [ok'] at e1
      cases e1
      rcases cok with ⟨z, _⟩ | ⟨_, z⟩
      · exact absurd z h5
      · exact .inr ⟨by simp, z⟩
  · obtain ⟨e1, _⟩ := args_own e hi ni
    obtain ⟨e2, _⟩ := args_own e hj nj
    rw [e1] at e2
    cases e2
    rfl
theorem args_ownA (y : HdL K σ B vs hs) (e : args ρ io 0 hs = some ρ0) {a : Addr} (h : OwnA ρ0 (vs.map some) a) : OwnA ρ σ a := by
  obtain ⟨j, c, h1, h2, h3⟩ := h
  obtain ⟨_, i, d, fl, q1, q2, q3, _⟩ := args_own e h1 h2
  obtain ⟨v, hv, ok⟩ := y.get q1
  rw [List.getElem?_map, hv] at h3
  cases h3
  exact ⟨i, _, q2, q3, ok⟩
/-- behind the call -/
theorem back_sim (S : Sim K ρ σ B H) (y : HdL K σ B vs hs) (e : args ρ io 0 hs = some ρ0) (S' : Sim K ρ0' (vs.map some) B' H') (x : Ext ρ0 (vs.map some) B H ρ0' (vs.map some) B' H') (p : putB ρ io hs ρ0' = some ρ2) :
    Sim K ρ2 σ B' H' ∧ Ext ρ σ B H ρ2 σ B' H' ∧ (∀ a, New ρ0 (vs.map some) H a → New ρ σ H a) ∧ ∀ a, ¬ OwnA ρ0' (vs.map some) a → New ρ0 (vs.map some) H a → ¬ OwnA ρ2 σ a := by
  -- a slot of the caller that is not lent
  have sub0 : ∀ a, OwnA ρ0 (vs.map some) a → OwnA ρ σ a := fun a h => args_ownA y e h
  have newN : ∀ a, New ρ0 (vs.map some) H a → New ρ σ H a := fun a h => h.elim .inl fun h => .inr (sub0 a h)
  -- what ρ2 is
  have key : (∀ (k : Nat) (c : Cel), ρ2[k]? = some (some c) → (ρ[k]? = some (some c) ∧ ∀ j, io = some j → hs[j]? ≠ some (.bw k)) ∨ ∃ j c0 c', io = some j ∧ hs[j]? = some (.bw k) ∧ ρ[k]? = some (some c0) ∧ ρ0'[j]? = some (some c') ∧ c = ⟨c'.d, c0.fl⟩) ∧
      ρ2.length = ρ.length ∧ (∀ (k : Nat) (c : Cel), ρ[k]? = some (some c) → ∃ c2, ρ2[k]? = some (some c2) ∧ c2.fl = c.fl) := by
    unfold putB at p
    split at p
    · cases p
      exact ⟨fun k c h => .inl ⟨h, fun j z => nomatch z⟩, rfl, fun k c h => ⟨c, h, rfl⟩⟩
    · rename_i j
      split at p
      · rename_i i hi
        split at p
        · rename_i c0 c' e1 e2
          cases p
          have e1 := slot_some e1
          have e2 := slot_some e2
          refine ⟨fun k c h => ?_, by rw [List.length_set], fun k c h => ?_⟩
          · rcases set_get h with ⟨rfl, ec⟩ | ⟨ne, h⟩
            · cases ec
              exact .inr ⟨j, c0, c', rfl, hi, e1, e2, rfl⟩
            · refine .inl ⟨h, fun j' z w => ?_⟩
              cases z
              rw [hi] at w
              cases w
              exact ne rfl
          · by_cases hk : i = k
            · subst hk
              rw [e1] at h
              cases h
              exact ⟨_, set_at (lt_of e1), rfl⟩
            · exact ⟨c, by rw [set_other hk]; exact h, rfl⟩
        · cases p
      · cases p
  obtain ⟨k1, k2, k3⟩ := key
  -- an owned slot that is not lent keeps its object
  have keep : ∀ (k : Nat) (c : Cel) (a : Addr), ρ[k]? = some (some c) → c.fl ≠ .sh → σ[k]? = some (some (.ref a)) → (∀ j, io = some j → hs[j]? ≠ some (.bw k)) → ¬ OwnA ρ0 (vs.map some) a := fun k c a hk hf hs' hn ho => by
    obtain ⟨j, c0, h1, h2, h3⟩ := ho
    obtain ⟨q0, i, d, fl, q1, q2, q3, _⟩ := args_own e h1 h2
    obtain ⟨v, hv, ok⟩ := y.get q1
    rw [List.getElem?_map, hv] at h3
    cases h3
    have := S.dj i k _ c a q2 hk q3 hf ok hs'
    subst this
    exact hn j q0 q1
  have ownBack : ∀ a, OwnA ρ2 σ a → OwnA ρ σ a := fun a ⟨k, c, h1, h2, h3⟩ => by
    rcases k1 k c h1 with ⟨h, _⟩ | ⟨j, c0, c', _, _, h, _, rfl⟩
    · exact ⟨k, c, h, h2, h3⟩
    · exact ⟨k, c0, h, h2, h3⟩
  refine ⟨⟨S'.bh, by rw [k2]; exact S.len, fun k c hk => ?_, fun i j ci cj a hi hj ni nj ei ej => ?_⟩, ⟨x.bb, fun a o h => (x.nw a o h).imp id (newN a), fun a o h n => x.kp a o h fun z => n (sub0 a z), fun a h => .inr (ownBack a h), fun k c hk hf => ?_, fun k c hk hf => ?_⟩, newN, fun a n1 n2 ho => ?_⟩
  · rcases k1 k c hk with ⟨h, hn⟩ | ⟨j, c0, c', hj, q1, h, q2, rfl⟩
    · obtain ⟨v, ev, ok⟩ := S.sl k c h
      refine ⟨v, ev, ok.mono x.bb fun a hv hb ho hf => ?_⟩
      subst hv
      obtain ⟨o, eo⟩ := ho
      obtain ⟨r1, r2, _⟩ := x.keepN eo hb (keep k c a h hf ev hn)
      exact ⟨r2, by rw [r1, eo]⟩
    · obtain ⟨v, ev, ok⟩ := y.get q1
      have ok' : σ[k]? = some (some v) := ok
      refine ⟨v, ok', ?_⟩
      -- the lent cell is lent at the start, so it is behind
      obtain ⟨cs, hcs⟩ := args_has e q1
      by_cases hsh : cs.fl = .sh
      · exfalso
        obtain ⟨_, qq⟩ := args_at e
        obtain ⟨h', w1, w2⟩ := qq j cs hcs
        rw [q1] at w1
        cases w1
        obtain ⟨_, d, fl, _, _, rfl⟩ := argC_bw w2
        cases hsh
      · obtain ⟨_, i, d, fl, r1, r2, r3, rfl⟩ := args_own e hcs hsh
        rw [q1] at r1
        cases r1
        rw [h] at r2
        cases r2
        obtain ⟨_, c2, w1, w2⟩ := x.io j _ hcs rfl
        rw [q2] at w1
        cases w1
        obtain ⟨v', e1, cok⟩ := S'.sl j c' q2
        rw [List.getElem?_map, ev] at e1
        cases e1
        rcases cok with ⟨z, _⟩ | ⟨_, z⟩
        · rw [w2] at z; cases z
        · exact .inr ⟨r3, z⟩
  · have f1 : ∃ c1, ρ[i]? = some (some c1) ∧ c1.fl ≠ .sh := by
      rcases k1 i ci hi with ⟨h, _⟩ | ⟨_, c0, _, _, _, h, _, rfl⟩
      · exact ⟨ci, h, ni⟩
      · exact ⟨c0, h, ni⟩
    have f2 : ∃ c1, ρ[j]? = some (some c1) ∧ c1.fl ≠ .sh := by
      rcases k1 j cj hj with ⟨h, _⟩ | ⟨_, c0, _, _, _, h, _, rfl⟩
      · exact ⟨cj, h, nj⟩
      · exact ⟨c0, h, nj⟩
    obtain ⟨c1, a1, a2⟩ := f1
    obtain ⟨c2, b1, b2⟩ := f2
    exact S.dj i j c1 c2 a a1 b1 a2 b2 ei ej
  · obtain ⟨c2, h1, h2⟩ := k3 k c hk
    exact ⟨rfl, c2, h1, by rw [h2, hf]⟩
  · rcases k1 k c hk with ⟨h, _⟩ | ⟨_, c0, _, _, _, h, _, rfl⟩
    · exact ⟨c, h, hf⟩
    · exact ⟨c0, h, hf⟩
  · obtain ⟨k, c, h1, h2, h3⟩ := ho
    rcases k1 k c h1 with ⟨h, hn⟩ | ⟨j, c0, c', hj, q1, h, q2, rfl⟩
    · have n0 := keep k c a h h2 h3 hn
      have := S.ownH ⟨k, c, h, h2, h3⟩
      obtain ⟨_, o, eo⟩ := this
      rcases n2 with z | z
      · rw [eo] at z; cases z
      · exact n0 z
    · obtain ⟨v, ev, ok⟩ := y.get q1
      have ok' : σ[k]? = some (some v) := ok
      rw [h3] at ok'
      cases ok'
      obtain ⟨cs, hcs⟩ := args_has e q1
      by_cases hsh : cs.fl = .sh
      · obtain ⟨_, qq⟩ := args_at e
        obtain ⟨h', w1, w2⟩ := qq j cs hcs
        rw [q1] at w1
        cases w1
        obtain ⟨_, d, fl, _, _, rfl⟩ := argC_bw w2
        cases hsh
      · obtain ⟨_, i, d, fl, r1, r2, r3, rfl⟩ := args_own e hcs hsh
        obtain ⟨_, c2, w1, w2⟩ := x.io j _ hcs rfl
        rw [q2] at w1
        cases w1
        exact n1 ⟨j, c', q2, by rw [w2]; simp, by rw [List.getElem?_map, ev]; rfl⟩
end
section
variable {X : Cx} {C : Ct} {e : Expr} {es : List Expr} {pos p : Pos} {x : Str} {k n : Nat} {f : Addr} {fd : FuncData} {ps : List Str} {io : Option Nat} {F : FF} {t : TA} {g : AF}
theorem lk_call (l : LkA C t g) : LkE C (tCallS (spF C.K C.cv n F) (WE C.W) t) (eCall n io F g) := fun ρ σ B H Q S gd => by
  refine l.bind S gd fun hs ρ1 vs B1 H1 S1 x1 y1 g1 => ?_
  split at g1
  · exact g1.elim
  · rename_i ρ0 ea
    split at g1
    · exact g1.elim
    · rename_i hl
      have hl : ρ0.length = n := Classical.not_not.mp hl
      refine ⟨ρ0, B1, hl, args_sim S1 y1 ea, ?_⟩
      cases ef : F ρ0 with
      | stuck => rw [ef] at g1; exact g1
      | exc c outs =>
        rw [ef] at g1
        dsimp only at g1
        split at g1
        · exact g1.elim
        · rename_i ρ2 ep
          intro cls dct B2 H2 S2 x2 ok
          obtain ⟨S3, x3, _, _⟩ := back_sim S1 y1 ea S2 x2 ep
          exact g1 cls dct B2 H2 S3 x3 ok
      | ok h outs =>
        rw [ef] at g1
        dsimp only at g1
        intro v B2 H2 S2 x2 y2
        cases ep : putB ρ1 io hs outs with
        | none => rw [ep] at g1; cases h <;> exact g1.elim
        | some ρ2 =>
          rw [ep] at g1
          obtain ⟨S3, x3, n1, n2⟩ := back_sim S1 y1 ea S2 x2 ep
          cases h with
          | sh d => exact g1 v B2 H2 S3 x3 y2
          | fr d =>
            obtain ⟨a, r1, r2, r3, r4, r5⟩ := y2
            exact g1 v B2 H2 S3 x3 ⟨a, r1, r2, r3, n2 a r4 r5, n1 a r5⟩
          | bw i => exact g1.elim
theorem se_call (FO : FnOk X.prog X.w X.K X.mg X.base (L2.CX X.prog X.w) k f fd ps (spF C.K C.cv n F)) (hr : Room k X.A) (hm : X.mg x = some (.ref f)) (hkp : PySem.W.keepIn X.K (.ref f) = true) (hb : Binds X.K fd ps []) (tk : Takes X C.W)
    (l : SA X C (e :: es) t g) (io : Option Nat) (hg : Gl X x := by rfl) (hdb : (x == ("__debug__" : Str)) = false := by decide) (he : starEach (e :: es) X.env = (false, eval e X.env) :: starEach es X.env := by rfl)
    (hpl : (backTo pos (starEach es X.env)).any (·.1) = false := by rfl) : SE X C (.Call (.Name x p) (e :: es) [] pos) (tCallS (spF C.K C.cv n F) (WE C.W) t) (eCall n io F g) :=
  ⟨pe_callS FO hr hg hm hkp hb (fun σ => passAt tk σ) l.pa hdb he hpl, lk_call l.lk⟩
end
end GS
namespace GS
open PySem L2
def GoodS (C : Ct) (ρ : Rho) (σ : St) (B H : Hp) (D : Ends) : RS → Prop
  | .stuck => False
  | .nx ρ' => ∀ σ' B' H', Sim C.K ρ' σ' B' H' → Ext ρ σ B H ρ' σ' B' H' → D.nx σ' H'
  | .bk ρ' => ∀ σ' B' H', Sim C.K ρ' σ' B' H' → Ext ρ σ B H ρ' σ' B' H' → D.bk σ' H'
  | .ct ρ' => ∀ σ' B' H', Sim C.K ρ' σ' B' H' → Ext ρ σ B H ρ' σ' B' H' → D.ct σ' H'
  | .rt h ρ' => ∀ v σ' B' H', Sim C.K ρ' σ' B' H' → Ext ρ σ B H ρ' σ' B' H' → HdOk C.K (New ρ σ H) ρ' σ' B' H' v h → D.rt v H'
  | .exc x ρ' => ∀ cls dct σ' B' H', Sim C.K ρ' σ' B' H' → Ext ρ σ B H ρ' σ' B' H' → XcOk C B' x cls dct → C.W cls dct σ' H'
def LkS (C : Ct) (t : TS) (g : SF) : Prop := ∀ ρ σ B H D, Sim C.K ρ σ B H → GoodS C ρ σ B H D (g ρ) → t D σ H
structure SS (X : Cx) (C : Ct) (st : Stmt) (t : TS) (g : SF) : Prop where
  ps : PS X st t
  lk : LkS C t g
structure SSs (X : Cx) (C : Ct) (st : List Stmt) (t : TS) (g : SF) : Prop where
  ps : PSs X st t
  lk : LkS C t g
section
variable {X : Cx} {C : Ct} {ρ ρ1 : Rho} {σ σ1 : St} {B H B1 H1 : Hp} {Ed : Ends} {t u : TS} {f g : SF} {st : Stmt} {rest : List Stmt} {pos : Pos}
theorem GoodS.ext (e : Ext ρ σ B H ρ1 σ1 B1 H1) : ∀ {r : RS}, GoodS C ρ σ B H Ed r → GoodS C ρ1 σ1 B1 H1 Ed r
  | .stuck, h => h
  | .nx _, h => fun σ' B' H' s x => h σ' B' H' s (e.trans x)
  | .bk _, h => fun σ' B' H' s x => h σ' B' H' s (e.trans x)
  | .ct _, h => fun σ' B' H' s x => h σ' B' H' s (e.trans x)
  | .rt _ _, h => fun v σ' B' H' s x y => h v σ' B' H' s (e.trans x) (y.mono fun _ z => e.back z)
  | .exc _ _, h => fun c d σ' B' H' s x => h c d σ' B' H' s (e.trans x)
def sNil : SF := fun ρ => .nx ρ
def bindS (r : RS) (k : Rho → RS) : RS := match r with
  | .nx ρ => k ρ
  | r => r
def sSeq (f g : SF) : SF := fun ρ => bindS (f ρ) g
theorem lk_seq (lf : LkS C t f) (lg : LkS C u g) : LkS C (tSeq t u) (sSeq f g) := fun ρ σ B H D S gd => by
  refine lf ρ σ B H _ S ?_
  unfold sSeq bindS at gd
  cases e : f ρ with
  | nx ρ1 =>
    rw [e] at gd
    exact fun σ' B' H' s x => lg ρ1 σ' B' H' D s (GoodS.ext x gd)
  | stuck => rw [e] at gd; exact gd
  | bk _ => rw [e] at gd; exact gd
  | ct _ => rw [e] at gd; exact gd
  | rt _ _ => rw [e] at gd; exact gd
  | exc _ _ => rw [e] at gd; exact gd
theorem sss_nil : SSs X C [] tNext sNil := ⟨pss_nil, fun ρ σ B H D S g => g σ B H S Ext.refl⟩
theorem sss_cons (a : SS X C st t f) (b : SSs X C rest u g) : SSs X C (st :: rest) (tSeq t u) (sSeq f g) := ⟨pss_cons a.ps b.ps, lk_seq a.lk b.lk⟩
theorem sss_one (a : SS X C st t f) : SSs X C [st] t f := ⟨pss_one a.ps, a.lk⟩
def bindES (r : RE) (k : Hd → Rho → RS) : RS := match r with
  | .stuck => .stuck
  | .ok h ρ => k h ρ
  | .exc x ρ => .exc x ρ
theorem LkE.bindS {te : TE} {fe : EF} (l : LkE C te fe) (S : Sim C.K ρ σ B H) {k : Hd → Rho → RS} {Q' : VK} (g : GoodS C ρ σ B H Ed (bindES (fe ρ) k))
    (h : ∀ hd ρ1 v B1 H1, Sim C.K ρ1 σ B1 H1 → Ext ρ σ B H ρ1 σ B1 H1 → HdOk C.K (New ρ σ H) ρ1 σ B1 H1 v hd → GoodS C ρ σ B H Ed (k hd ρ1) → Q' v H1) : te σ H Q' := by
  refine l ρ σ B H Q' S ?_
  cases e : fe ρ with
  | stuck => rw [e] at g; exact g
  | ok hd ρ1 => rw [e] at g; exact fun v B1 H1 s x y => h hd ρ1 v B1 H1 s x y g
  | exc x ρ1 => rw [e] at g; exact fun c d B' H' s x => g c d σ B' H' s x
variable {e : Expr} {te : TE} {fe : EF}
def sRet (fe : EF) : SF := fun ρ => bindES (fe ρ) fun h ρ1 => match h with
  | .bw i => match capH ρ1 (.bw i) with
    | some d => .rt (.sh d) ρ1
    | none => .stuck
  | h => .rt h ρ1
theorem cap_bw (S : Sim C.K ρ σ B H) {i : Nat} {d : D} {v : V} (y : σ[i]? = some (some v)) (e : capH ρ (.bw i) = some d) : Rp C.K B v d := by
  replace e : (match slot ρ i with | some ⟨d, .sh⟩ => some d | _ => none) = some d := e
  split at e
  · rename_i d' e'
    cases e
    obtain ⟨v', q1, q2⟩ := S.sl i _ (slot_some e')
    rw [y] at q1
    cases q1
    rcases q2 with ⟨_, q2⟩ | ⟨q, _⟩
    · exact q2
    · exact absurd rfl q
  · cases e
theorem ss_ret (l : SE X C e te fe) : SS X C (.Return (some e) pos) (tRet te) (sRet fe) := ⟨ps_ret l.pe, fun ρ σ B H D S g => by
  refine l.lk.bindS S g fun hd ρ1 v B1 H1 S1 x1 y1 g1 => ?_
  cases hd with
  | sh d => exact g1 v σ B1 H1 S1 x1 y1
  | fr d => exact g1 v σ B1 H1 S1 x1 y1
  | bw i =>
    dsimp only at g1
    split at g1
    · rename_i d ed
      exact g1 v σ B1 H1 S1 x1 (cap_bw S1 y1 ed)
    · exact g1.elim⟩
def bindBS (r : RE) (k : Bool → Rho → RS) : RS := match r with
  | .ok (.sh (.bool b)) ρ => k b ρ
  | .exc x ρ => .exc x ρ
  | _ => .stuck
theorem LkT.bindS {tt : TT} {ft : EF} (l : LkT C tt ft) (S : Sim C.K ρ σ B H) {k : Bool → Rho → RS} {Q' : Bool → Hp → Prop} (g : GoodS C ρ σ B H Ed (bindBS (ft ρ) k))
    (h : ∀ b ρ1 B1 H1, Sim C.K ρ1 σ B1 H1 → Ext ρ σ B H ρ1 σ B1 H1 → GoodS C ρ1 σ B1 H1 Ed (k b ρ1) → Q' b H1) : tt σ H Q' := by
  refine l ρ σ B H Q' S ?_
  cases e : ft ρ with
  | stuck => rw [e] at g; exact g
  | exc x ρ1 => rw [e] at g; exact fun c d B' H' s x => g c d σ B' H' s x
  | ok hd ρ1 =>
    rw [e] at g
    cases hd with
    | sh d =>
      cases d with
      | bool b => exact fun B1 H1 s x => h b ρ1 B1 H1 s x (GoodS.ext x g)
      | _ => exact g
    | _ => exact g
def sIf (ft : EF) (f g : SF) : SF := fun ρ => bindBS (ft ρ) fun b ρ1 => if b then f ρ1 else g ρ1
theorem ss_if {c : Expr} {a b : List Stmt} {tt : TT} {ft : EF} (l : ST X C c tt ft) (la : SSs X C a t f) (lb : SSs X C b u g) : SS X C (.If c a b pos) (tIfS tt t u) (sIf ft f g) := ⟨ps_if l.pt la.ps lb.ps, fun ρ σ B H D S gd =>
  l.lk.bindS S gd fun b ρ1 B1 H1 S1 x1 g1 => by
    cases b with
    | true => exact la.lk ρ1 σ B1 H1 D S1 g1
    | false => exact lb.lk ρ1 σ B1 H1 D S1 g1⟩
def ioAt (ρ : Rho) (i : Nat) : Bool := match slot ρ i with
  | some ⟨_, .io⟩ => true
  | _ => false
theorem not_io {i : Nat} (h : ioAt ρ i = false) {c : Cel} (e : ρ[i]? = some (some c)) : c.fl ≠ .io := fun z => by
  unfold ioAt slot at h
  rw [e] at h
  obtain ⟨d, fl⟩ := c
  cases z
  cases h
/-- what may be put into slot i of the state behind -/
theorem store_ok {K : KW} (S : Sim K ρ1 σ B1 H1) (x : Ext ρ σ B H ρ1 σ B1 H1) {i : Nat} {c : Cel} {v : V} (hi : i < ρ1.length) (hn : ioAt ρ1 i = false) (hf : c.fl ≠ .io) (ok : COk K B1 H1 c v)
    (hnew : c.fl ≠ .sh → ∀ a, v = .ref a → New ρ σ H a ∧ ∀ j cj, i ≠ j → ρ1[j]? = some (some cj) → cj.fl ≠ .sh → σ[j]? ≠ some (some (.ref a))) :
    Sim K (ρ1.set i (some c)) (σ.set i (some v)) B1 H1 ∧ Ext ρ σ B H (ρ1.set i (some c)) (σ.set i (some v)) B1 H1 := by
  have hl := S.len
  have ats : (σ.set i (some v))[i]? = some (some v) := by rw [List.getElem?_set, if_pos rfl, if_pos (by omega)]
  have oth : ∀ j, i ≠ j → (σ.set i (some v))[j]? = σ[j]? := fun j h => by rw [List.getElem?_set, if_neg h]
  refine ⟨⟨S.bh, by rw [List.length_set, List.length_set]; exact hl, fun j cj hj => ?_, fun j k cj ck a hj hk nj nk ej ek => ?_⟩, ⟨x.bb, x.nw, x.kp, fun a ha => ?_, fun j cj hj hjf => ?_, fun j cj hj hjf => ?_⟩⟩
  · rcases set_get hj with ⟨rfl, ec⟩ | ⟨ne, hj⟩
    · cases ec; exact ⟨v, ats, ok⟩
    · rw [oth j ne]; exact S.sl j cj hj
  · rcases set_get hj with ⟨rfl, ec⟩ | ⟨ne, hj⟩
    · rcases set_get hk with ⟨rfl, _⟩ | ⟨ne', hk⟩
      · rfl
      · cases ec
        rw [ats] at ej
        cases ej
        rw [oth k ne'] at ek
        exact absurd ek ((hnew nj a rfl).2 k ck ne' hk nk)
    · rcases set_get hk with ⟨rfl, ec⟩ | ⟨ne', hk⟩
      · cases ec
        rw [ats] at ek
        cases ek
        rw [oth j ne] at ej
        exact absurd ej ((hnew nk a rfl).2 j cj ne hj nj)
      · rw [oth j ne] at ej
        rw [oth k ne'] at ek
        exact S.dj j k cj ck a hj hk nj nk ej ek
  · obtain ⟨j, cj, hj, nj, ej⟩ := ha
    rcases set_get hj with ⟨rfl, ec⟩ | ⟨ne, hj⟩
    · cases ec
      rw [ats] at ej
      cases ej
      exact (hnew nj a rfl).1
    · rw [oth j ne] at ej
      exact x.sub a ⟨j, cj, hj, nj, ej⟩
  · obtain ⟨e1, c1, q1, q2⟩ := x.io j cj hj hjf
    have ne : i ≠ j := fun z => by subst z; exact not_io hn q1 q2
    exact ⟨(oth j ne).trans e1, c1, (set_other ne).trans q1, q2⟩
  · rcases set_get hj with ⟨rfl, ec⟩ | ⟨ne, hj⟩
    · cases ec; exact absurd hjf hf
    · exact x.oi j cj hj hjf
def setR (ρ : Rho) (i : Nat) (c : Cel) : RS := if i < ρ.length && !ioAt ρ i then .nx (ρ.set i (some c)) else .stuck
def setHd (ρ1 : Rho) (i : Nat) : Hd → RS
  | .sh d => setR ρ1 i ⟨d, .sh⟩
  | .fr d => setR ρ1 i ⟨d, .ow⟩
  | .bw j => match capH ρ1 (.bw j) with
    | some d => setR ρ1 i ⟨d, .sh⟩
    | none => .stuck
def sSet (i : Nat) (fe : EF) : SF := fun ρ => bindES (fe ρ) fun h ρ1 => setHd ρ1 i h
theorem setR_ok {i : Nat} {c : Cel} (g : GoodS C ρ σ B H Ed (setR ρ1 i c)) : i < ρ1.length ∧ ioAt ρ1 i = false ∧ ∀ σ' B' H', Sim C.K (ρ1.set i (some c)) σ' B' H' → Ext ρ σ B H (ρ1.set i (some c)) σ' B' H' → Ed.nx σ' H' := by
  unfold setR at g
  split at g
  · rename_i h
    simp only [Bool.and_eq_true, decide_eq_true_eq, Bool.not_eq_true'] at h
    exact ⟨h.1, h.2, g⟩
  · exact g.elim
/-- storing what an expression gave -/
theorem put_hd (S1 : Sim C.K ρ1 σ B1 H1) (x1 : Ext ρ σ B H ρ1 σ B1 H1) {hd : Hd} {v : V} (y1 : HdOk C.K (New ρ σ H) ρ1 σ B1 H1 v hd) {i : Nat} (g : GoodS C ρ σ B H Ed (setHd ρ1 i hd)) : Ed.nx (σ.set i (some v)) H1 := by
  cases hd with
  | sh d =>
    obtain ⟨h1, h2, h3⟩ := setR_ok g
    obtain ⟨S2, x2⟩ := store_ok S1 x1 (c := ⟨d, .sh⟩) h1 h2 (by simp) (.inl ⟨rfl, y1⟩) fun z => absurd rfl z
    exact h3 _ _ _ S2 x2
  | fr d =>
    obtain ⟨h1, h2, h3⟩ := setR_ok g
    obtain ⟨a, rfl, q1, q2, q3, q4⟩ := y1
    obtain ⟨S2, x2⟩ := store_ok S1 x1 (c := ⟨d, .ow⟩) h1 h2 (by simp) (.inr ⟨by simp, a, rfl, q1, q2⟩) fun _ b e => by
      cases e
      exact ⟨q4, fun j cj _ hj nj ej => q3 ⟨j, cj, hj, nj, ej⟩⟩
    exact h3 _ _ _ S2 x2
  | bw j =>
    unfold setHd at g
    dsimp only at g
    split at g
    · rename_i d ed
      obtain ⟨h1, h2, h3⟩ := setR_ok g
      obtain ⟨S2, x2⟩ := store_ok S1 x1 (c := ⟨d, .sh⟩) h1 h2 (by simp) (.inl ⟨rfl, cap_bw S1 y1 ed⟩) fun z => absurd rfl z
      exact h3 _ _ _ S2 x2
    · exact g.elim
theorem lk_set {i : Nat} (l : LkE C te fe) : LkS C (tAsg te (gName i)) (sSet i fe) := fun ρ σ B H D S g =>
  l.bindS S g fun hd ρ1 v B1 H1 S1 x1 y1 g1 => put_hd S1 x1 y1 g1
theorem ss_set {i : Nat} {x : Str} {pos' : Pos} (hN : X.N.Nodup) (l : SE X C e te fe) (hi : X.N[i]? = some x := by rfl) (hx : Loc X.env.scope x := by first | exact Or.inl rfl | exact Or.inr rfl) (hs : swapsWith e (some (.Name x pos')) pos.line X.env = pure false := by rfl)
    (hf : X.fn x = true ∨ X.env.scope.names.lookup x = some .local := by first | exact .inl rfl | exact .inr rfl | assumption) : SS X C (.Assign [.Name x pos'] e pos) (tAsg te (gName i)) (sSet i fe) := ⟨ps_set hN hi hx l.pe hs hf, lk_set l.lk⟩
def LkG (C : Ct) (g : TG) (f : D → Rho → Option Rho) : Prop := ∀ ρ σ B H v d ρ' Q, Sim C.K ρ σ B H → Rp C.K B v d → f d ρ = some ρ' → (∀ σ' B' H', Sim C.K ρ' σ' B' H' → Ext ρ σ B H ρ' σ' B' H' → Q σ' H') → g v σ H Q
def LkGs (C : Ct) (g : TGs) (f : List D → Rho → Option Rho) : Prop := ∀ ρ σ B H vs ds ρ' Q, Sim C.K ρ σ B H → RpL C.K B vs ds → f ds ρ = some ρ' → (∀ σ' B' H', Sim C.K ρ' σ' B' H' → Ext ρ σ B H ρ' σ' B' H' → Q σ' H') → g vs σ H Q
structure SG (X : Cx) (C : Ct) (tg : Expr) (t : TG) (f : D → Rho → Option Rho) : Prop where
  pg : PG X tg t
  lk : LkG C t f
structure SGs (X : Cx) (C : Ct) (tg : List Expr) (t : TGs) (f : List D → Rho → Option Rho) : Prop where
  pg : PGs X tg t
  lk : LkGs C t f
def gN (i : Nat) : D → Rho → Option Rho := fun d ρ => if i < ρ.length && !ioAt ρ i then some (ρ.set i (some ⟨d, .sh⟩)) else none
theorem lk_gN {i : Nat} : LkG C (gName i) (gN i) := fun ρ σ B H v d ρ' Q S r e k => by
  unfold gN at e
  obtain ⟨h, rfl⟩ := if_some e
  simp only [Bool.and_eq_true, decide_eq_true_eq, Bool.not_eq_true'] at h
  obtain ⟨S2, x2⟩ := store_ok S Ext.refl (c := ⟨d, .sh⟩) h.1 h.2 (by simp) (.inl ⟨rfl, r⟩) fun z => absurd rfl z
  exact k _ _ _ S2 x2
def gsN : List D → Rho → Option Rho := fun ds ρ => match ds with
  | [] => some ρ
  | _ => none
def gsC (f : D → Rho → Option Rho) (g : List D → Rho → Option Rho) : List D → Rho → Option Rho := fun ds ρ => match ds with
  | d :: ds => (f d ρ).bind (g ds)
  | [] => none
def gT (n : Nat) (f : List D → Rho → Option Rho) : D → Rho → Option Rho := fun d ρ => match d with
  | .tuple ds => if ds.length = n then f ds ρ else none
  | .list ds => if ds.length = n then f ds ρ else none
  | _ => none
/-- a tuple or a list taken apart -/
def gTL (K : PySem.W.Frag) (n : Nat) (t : TGs) : TG := fun v σ H Q => gTup K n t v σ H Q ∨ gUnl K n t v σ H Q
theorem pg_tl {es : List Expr} {k : Nat} {t : TGs} {n : Nat} (hc : X.calm = true) (h : PGs X es t) (hn : (assignEach es X.env).length = n) (hst : (assignEach es X.env).findIdx? (·.1) = none) : PG X (.Tuple es k pos) (gTL X.K n t) :=
  ⟨fun pins s σ H v u Q I r hw => hw.elim ((pg_tup hc h hn hst).run pins s σ H v u Q I r) ((pg_unl hc h hn hst).run pins s σ H v u Q I r)⟩
theorem sg_name {i : Nat} {x : Str} (hN : X.N.Nodup) (hi : X.N[i]? = some x := by rfl) (hx : Loc X.env.scope x := by first | exact Or.inl rfl | exact Or.inr rfl)
    (hf : X.fn x = true ∨ X.env.scope.names.lookup x = some .local := by first | exact .inl rfl | exact .inr rfl | assumption) : SG X C (.Name x pos) (gName i) (gN i) := ⟨pg_name hN hi hx hf, lk_gN⟩
theorem sgs_nil : SGs X C [] gNil gsN := ⟨pgs_nil, fun ρ σ B H vs ds ρ' Q S r e k => by
  cases r with
  | nil => cases e; exact ⟨rfl, k _ _ _ S Ext.refl⟩
  | cons _ _ => cases e⟩
theorem lk_gC {tg : TG} {tgs : TGs} {f : D → Rho → Option Rho} {g : List D → Rho → Option Rho} (a : LkG C tg f) (b : LkGs C tgs g) : LkGs C (gCons tg tgs) (gsC f g) := fun ρ σ B H vs ds ρ' Q S r e k => by
  cases r with
  | nil => cases e
  | cons h t =>
    obtain ⟨ρ1, e1, e2⟩ := Option.bind_eq_some_iff.mp (show (f _ ρ).bind (g _) = some ρ' from e)
    refine ⟨_, _, rfl, a ρ σ B H _ _ ρ1 _ S h e1 fun σ1 B1 H1 S1 x1 => ?_⟩
    exact b ρ1 σ1 B1 H1 _ _ ρ' Q S1 (t.mono x1.bb) e2 fun σ2 B2 H2 S2 x2 => k _ _ _ S2 (x1.trans x2)
theorem sgs_cons {a : Expr} {as : List Expr} {tg : TG} {tgs : TGs} {f : D → Rho → Option Rho} {g : List D → Rho → Option Rho} (h : SG X C a tg f) (t : SGs X C as tgs g) (hs : (assignEach (a :: as) X.env).map (·.2) = assign a X.env :: (assignEach as X.env).map (·.2) := by rfl) : SGs X C (a :: as) (gCons tg tgs) (gsC f g) := ⟨pgs_cons h.pg t.pg hs, lk_gC h.lk t.lk⟩
theorem lk_gT {tgs : TGs} {n : Nat} {g : List D → Rho → Option Rho} (b : LkGs C tgs g) : LkG C (gTL C.K n tgs) (gT n g) := fun ρ σ B H v d ρ' Q S r e k => by
  cases d with
  | tuple ds =>
    replace e : (if ds.length = n then g ds ρ else none) = some ρ' := e
    split at e
    · obtain ⟨a, vs, rfl, ha, ra⟩ := r.tupE
      exact .inl ⟨a, vs, rfl, same_t S.bh ha, by rw [ra.length]; assumption, b ρ σ B H vs ds ρ' Q S ra e k⟩
    · cases e
  | list ds =>
    replace e : (if ds.length = n then g ds ρ else none) = some ρ' := e
    split at e
    · cases r with
      | lst ha ra => exact .inr ⟨_, _, rfl, same_l S.bh ha, by rw [ra.length]; assumption, b ρ σ B H _ ds ρ' Q S ra e k⟩
    · cases e
  | _ => cases e
theorem sg_tup {as : List Expr} {tgs : TGs} {n k : Nat} {g : List D → Rho → Option Rho} (hc : X.calm = true) (t : SGs X C as tgs g) (hk : X.K = C.K := by rfl) (hn : (assignEach as X.env).length = n := by rfl) (hst : (assignEach as X.env).findIdx? (·.1) = none := by rfl) : SG X C (.Tuple as k pos) (gTL C.K n tgs) (gT n g) := ⟨by rw [← hk]; exact pg_tl hc t.pg hn hst, lk_gT t.lk⟩
/-- a, b = e -/
def sUnp (f : D → Rho → Option Rho) (fe : EF) : SF := fun ρ => bindES (eCap fe ρ) fun h ρ1 => match h with
  | .sh d => match f d ρ1 with
    | some ρ2 => .nx ρ2
    | none => .stuck
  | _ => .stuck
theorem lk_unp {tg : TG} {f : D → Rho → Option Rho} (l : LkE C te fe) (lg : LkG C tg f) : LkS C (tAsg te tg) (sUnp f fe) := fun ρ σ B H E S g =>
  l.cap.bindS S g fun hd ρ1 v B1 H1 S1 x1 y1 g1 => by
    cases hd with
    | sh d =>
      dsimp only at g1
      split at g1
      · rename_i ρ2 e2
        exact lg ρ1 σ B1 H1 v d ρ2 _ S1 y1 e2 fun σ2 B2 H2 S2 x2 => g1 σ2 B2 H2 S2 (x1.trans x2)
      · exact g1.elim
    | _ => exact g1.elim
theorem ss_unp {tgt : Expr} {tg : TG} {f : D → Rho → Option Rho} (l : SE X C e te fe) (lg : SG X C tgt tg f) (hs : swapsWithSole [tgt] e pos.line X.env = pure false := by rfl) (hw : swappedStores [tgt] e X.env = pure none := by rfl)
    (h1 : (assignEach [tgt] X.env).map (·.2) = [assign tgt X.env] := by rfl) : SS X C (.Assign [tgt] e pos) (tAsg te tg) (sUnp f fe) := ⟨ps_asg l.pe lg.pg hs hw h1, lk_unp l.lk lg.lk⟩
end
end GS
namespace GS
open PySem L2
/-- a list, a tuple, a text: whichever comes -/
def iSeq (K : PySem.W.Frag) (w : World) (te : TE) : TI := fun σ H R => te σ H fun x H1 =>
  (∃ a, x = .ref a ∧ (∃ xs, SqL K H1 a xs) ∧ R (Itl K a) H1) ∨ (∃ a, x = .ref a ∧ (∃ xs, SqT K H1 a xs) ∧ R (Itt K a) H1) ∨ (∃ z, x = .str z ∧ R (Its z) H1) ∨ ∃ a ep xs vs, x = .ref a ∧ H1 a = some (dX w a ep xs) ∧ Vals vs (xs.map (·.2.1)) ∧ R (Itx w a ep xs vs) H1
theorem pi_seq {X : Cx} {tg e : Expr} {te : TE} (he : PE X e te) : PI X tg e (iSeq X.K X.w te) := by
  refine ⟨fun pins s σ H R I h => ?_⟩
  refine thn (he.run pins s σ H _ I h) fun v s1 ⟨x, H1, I1, r1, q1⟩ => ?_
  rcases q1 with ⟨a, e, ⟨xs, hq⟩, q⟩ | ⟨a, e, ⟨xs, hq⟩, q⟩ | ⟨x, ex, q⟩ | ⟨d, ep, xs, vs, ex, hd, rv, q⟩
  · subst e
    cases r1
    obtain ⟨its, rv, p, hz⟩ := I1.list hq
    refine wpAny_pyIter_list p.isList ?_
    exact pi_one (tk := s1.toks) I1 _ (turn_list a _) ⟨_, Heap.get?_push_size _ rfl, rfl, rfl⟩ q
  · subst e
    cases r1
    obtain ⟨its, rv, p, hz⟩ := I1.tuple hq
    refine wpAny_pyIter_tuple (show s1.heap.IsTuple a its.toArray from p) ?_
    exact pi_one (tk := s1.toks) I1 _ (turn_tuple a _) ⟨_, Heap.get?_push_size _ rfl, rfl, rfl⟩ q
  · subst ex
    obtain ⟨t, rfl⟩ := r1
    cases ha : x.cps.all (· < 128)
    · exact wpAny_pyIter_wide ha (pi_one (tk := s1.toks) I1 _ (turn_str _ x t "str_iterator" (.inr rfl)) ⟨_, Heap.get?_push_size _ rfl, rfl, rfl⟩ q)
    · exact wpAny_pyIter_ascii ha (pi_one (tk := s1.toks) I1 _ (turn_str _ x t "str_ascii_iterator" (.inl rfl)) ⟨_, Heap.get?_push_size _ rfl, rfl, rfl⟩ q)
  · subst ex
    obtain rfl : v = Value.ref d := r1
    obtain ⟨es, hm, he, _, hs⟩ := dX_raw I1.hok hd
    have ls : es.size = vs.length := by rw [← Array.length_toList, he, List.length_map, rv.length, List.length_map]
    refine wpAny_pyIter_dict_raw hs hm (pi_one (tk := s1.toks) I1 _ (turn_dX _ rv) ⟨_, Heap.get?_push_size _ rfl, rfl, ?_⟩ q)
    rw [ls] <;> rfl
/-- what the i-th turn gives -/
def YOk (K : KW) (B : Hp) (ds : List D) : Nat → Hp → V → Hp → Prop := fun i H x H' => ∃ d, ds[i]? = some d ∧
  ((H' = H ∧ Rp K B x d) ∨ ∃ T o vs es, x = .ref T ∧ H T = none ∧ o.dict = none ∧ H' = upd H T (.frz o (.tup vs)) ∧ d = .tuple es ∧ RpL K B vs es)
def ItOk (K : KW) (B : Hp) (ds : List D) (J : It) : Prop := Walk J ds.length (fun H => Same B H) (YOk K B ds)
inductive RI where | stuck | ok (ds : List D) (ρ : Rho) | exc (x : Xc) (ρ : Rho)
abbrev IF := Rho → RI
def GoodI (C : Ct) (ρ : Rho) (σ : St) (B H : Hp) (R : It → Hp → Prop) : RI → Prop
  | .stuck => False
  | .ok ds ρ' => ∀ J B' H', Sim C.K ρ' σ B' H' → Ext ρ σ B H ρ' σ B' H' → ItOk C.K B' ds J → R J H'
  | .exc x ρ' => ∀ cls dct B' H', Sim C.K ρ' σ B' H' → Ext ρ σ B H ρ' σ B' H' → XcOk C B' x cls dct → C.W cls dct σ H'
def LkI (C : Ct) (w : TI) (f : IF) : Prop := ∀ ρ σ B H R, Sim C.K ρ σ B H → GoodI C ρ σ B H R (f ρ) → w σ H R
structure SI (X : Cx) (C : Ct) (tg it : Expr) (w : TI) (f : IF) : Prop where
  pi : PI X tg it w
  lk : LkI C w f
def bindEI (r : RE) (k : Hd → Rho → RI) : RI := match r with
  | .stuck => .stuck
  | .ok h ρ => k h ρ
  | .exc x ρ => .exc x ρ
def items : D → Option (List D)
  | .list ds => some ds
  | .tuple ds => some ds
  | .str z => some (z.cps.toList.map fun c => .str ⟨#[c]⟩)
  | .dict ps => if xnB ps then none else some (ps.map (·.1))
  | _ => none
/-- for over a list, a tuple or a text that is shared -/
def iSq (fe : EF) : IF := fun ρ => bindEI (eCap fe ρ) fun h ρ1 => match h with
  | .sh d => match items d with
    | some ds => .ok ds ρ1
    | none => .stuck
  | _ => .stuck
section
variable {X : Cx} {C : Ct} {ρ ρ1 : Rho} {σ σ1 : St} {B H B1 H1 : Hp} {e tg : Expr} {te : TE} {fe : EF} {pos p : Pos}
theorem LkE.bindI (l : LkE C te fe) (S : Sim C.K ρ σ B H) {k : Hd → Rho → RI} {R : It → Hp → Prop} {Q' : VK} (g : GoodI C ρ σ B H R (bindEI (fe ρ) k))
    (h : ∀ hd ρ1 v B1 H1, Sim C.K ρ1 σ B1 H1 → Ext ρ σ B H ρ1 σ B1 H1 → HdOk C.K (New ρ σ H) ρ1 σ B1 H1 v hd → GoodI C ρ σ B H R (k hd ρ1) → Q' v H1) : te σ H Q' := by
  refine l ρ σ B H Q' S ?_
  cases e : fe ρ with
  | stuck => rw [e] at g; exact g
  | ok hd ρ1 => rw [e] at g; exact fun v B1 H1 s x y => h hd ρ1 v B1 H1 s x y g
  | exc x ρ1 => rw [e] at g; exact g
theorem it_list {K : KW} {a : Addr} {vs : List V} {ds : List D} (h : SqL K B a vs) (r : RpL K B vs ds) : ItOk K B ds (Itl K a) := by
  unfold ItOk
  rw [← r.length]
  refine (walk_list (K := K) (a := a) (xs := vs)).mono (fun H s => same_l s h) fun i H x H' hi s y => ?_
  obtain ⟨rfl, hv⟩ := y
  obtain ⟨d, q1, q2⟩ := r.getV hv
  exact ⟨d, q1, .inl ⟨rfl, q2⟩⟩
theorem it_tup {K : KW} {a : Addr} {vs : List V} {ds : List D} (h : SqT K B a vs) (r : RpL K B vs ds) : ItOk K B ds (Itt K a) := by
  unfold ItOk
  rw [← r.length]
  refine (walk_tup (K := K) (a := a) (xs := vs)).mono (fun H s => same_t s h) fun i H x H' hi s y => ?_
  obtain ⟨rfl, hv⟩ := y
  obtain ⟨d, q1, q2⟩ := r.getV hv
  exact ⟨d, q1, .inl ⟨rfl, q2⟩⟩
theorem it_str {K : KW} {z : Str} : ItOk K B (z.cps.toList.map fun c => .str ⟨#[c]⟩) (Its z) := by
  unfold ItOk
  rw [List.length_map, Array.length_toList]
  refine (walk_str (z := z)).mono (fun H _ => trivial) fun i H x H' hi s y => ?_
  obtain ⟨rfl, c, hc, rfl⟩ := y
  refine ⟨.str ⟨#[c]⟩, ?_, .inl ⟨rfl, .str _⟩⟩
  rw [List.getElem?_map, Array.getElem?_toList, hc]
  rfl
theorem rpx_keys {K : KW} {b : Bool} : ∀ {xs : List (NestedKey × Value × Value)} {ps : List (D × D)}, RpX K B b xs ps → ∃ vs, Vals vs (xs.map (·.2.1)) ∧ RpL K B vs (ps.map (·.1))
  | _, _, .nil => ⟨[], .nil, .nil⟩
  | _, _, .cons (kv := kv) _ _ h3 h4 _ _ h7 => by
    obtain ⟨vs, q1, q2⟩ := rpx_keys h7
    exact ⟨kv :: vs, .cons h4 q1, .cons h3 q2⟩
theorem it_dct {K : KW} {a : Addr} {ep : Nat} {xs : List (NestedKey × Value × Value)} {vs : List V} {ds : List D} (h : B a = some (dX K.w a ep xs)) (r : RpL K B vs ds) : ItOk K B ds (Itx K.w a ep xs vs) := by
  unfold ItOk
  rw [← r.length]
  refine walk_dX.mono (fun H s => s _ _ h) fun i H x H' hi s y => ?_
  obtain ⟨rfl, hv⟩ := y
  obtain ⟨d, q1, q2⟩ := r.getV hv
  exact ⟨d, q1, .inl ⟨rfl, q2⟩⟩
theorem lk_sq (l : LkE C te fe) : LkI C (iSeq C.K C.K.w te) (iSq fe) := fun ρ σ B H R S g => by
  refine l.cap.bindI S g fun hd ρ1 v B1 H1 S1 x1 y1 g1 => ?_
  cases hd with
  | sh d =>
    dsimp only at g1
    split at g1
    · rename_i ds ed
      cases d with
      | list es =>
        cases ed
        obtain ⟨a, vs, rfl, ha, ra⟩ := Rp.lstE y1
        exact .inl ⟨a, rfl, ⟨vs, same_l S1.bh ha⟩, g1 _ _ _ S1 x1 (it_list ha ra)⟩
      | tuple es =>
        cases ed
        obtain ⟨a, vs, rfl, ha, ra⟩ := Rp.tupE y1
        exact .inr (.inl ⟨a, rfl, ⟨vs, same_t S1.bh ha⟩, g1 _ _ _ S1 x1 (it_tup ha ra)⟩)
      | str z =>
        cases ed
        cases (show Rp C.K B1 v (.str z) from y1)
        exact .inr (.inr (.inl ⟨z, rfl, g1 _ _ _ S1 x1 it_str⟩))
      | dict ps =>
        obtain ⟨c, rfl⟩ : xnB ps = false ∧ ds = ps.map (·.1) := by
          replace ed : (if xnB ps then none else some (ps.map (·.1))) = some ds := ed
          split at ed
          · cases ed
          · rename_i c
            exact ⟨by simpa using c, (Option.some.inj ed).symm⟩
        cases (show Rp C.K B1 v (.dict ps) from y1) with
        | dct h r =>
          obtain ⟨vs, q1, q2⟩ := rpx_keys r
          exact .inr (.inr (.inr ⟨_, _, _, vs, rfl, S1.bh _ _ h, q1, g1 _ _ _ S1 x1 (it_dct h q2)⟩))
        | exn _ _ _ _ => cases c
      | _ => cases ed
    · exact g1.elim
  | _ => exact g1.elim
theorem si_sq (l : SE X C e te fe) (hk : X.K = C.K := by rfl) (hw : X.w = C.K.w := by rfl) : SI X C tg e (iSeq C.K C.K.w te) (iSq fe) := ⟨by rw [← hk, ← hw]; exact pi_seq l.pe, lk_sq l.lk⟩
def rgD (lo : Int) (n : Nat) : List D := (List.range n).map fun (i : Nat) => PyData.int (lo + (i : Int))
theorem it_range {K : KW} {lo : Int} {n : Nat} : ItOk K B (rgD lo n) (Itr lo n) := by
  unfold ItOk rgD
  rw [List.length_map, List.length_range]
  refine (walk_range (lo := lo) (n := n)).mono (fun H _ => trivial) fun i H x H' hi s y => ?_
  obtain ⟨rfl, rfl⟩ := y
  refine ⟨.int (lo + i), ?_, .inl ⟨rfl, .int _⟩⟩
  rw [List.getElem?_map, List.getElem?_range hi]
  rfl
def okR (i : Int) : Bool := Nat.ble i.natAbs 1000000000
def iR1 (fe : EF) : IF := fun ρ => bindEI (eSet fe ρ) fun h ρ1 => match getH ρ1 h with
  | some (.int j) => if okR j then .ok (rgD 0 j.toNat) ρ1 else .stuck
  | _ => .stuck
theorem e62 : (2 : Int) ^ 62 = 4611686018427387904 := by decide +kernel
theorem okR_ok {i : Int} (h : okR i = true) : -(2 ^ 62) ≤ i ∧ i < 2 ^ 62 := by
  have := Nat.le_of_ble_eq_true h
  rw [e62]
  omega
theorem si_r1 (l : SE X C e te fe) (hm : X.mg "range" = none) (hg : Gl X "range" := by rfl) (hs : starEach [e] X.env = [(false, eval e X.env)] := by rfl) : SI X C tg (.Call (.Name "range" p) [e] [] pos) (iRng1 (tCons te tNil)) (iR1 fe) := ⟨pi_range1 hg hm (pa_cons l.pe pa_nil hs) hs, fun ρ σ B H R S g => by
  refine l.lk.set.bindI S g fun hd ρ1 v B1 H1 S1 x1 y1 g1 => ?_
  split at g1
  · rename_i j ej
    split at g1
    · rename_i ok
      obtain ⟨h1, h2⟩ := okR_ok ok
      exact ⟨j, by rw [(S1.tp y1 ej).int], h1, h2, g1 _ _ _ S1 x1 it_range⟩
    · exact g1.elim
  · exact g1.elim⟩
theorem GoodI.ext (x : Ext ρ σ B H ρ1 σ B1 H1) {R : It → Hp → Prop} : ∀ {r : RI}, GoodI C ρ σ B H R r → GoodI C ρ1 σ B1 H1 R r
  | .stuck, g => g
  | .ok _ _, g => fun J B' H' s y z => g J B' H' s (x.trans y) z
  | .exc _ _, g => fun c d B' H' s y z => g c d B' H' s (x.trans y) z
def forL (g : D → Rho → Option Rho) (b : SF) : List D → Rho → RS
  | [], ρ => .nx ρ
  | d :: ds, ρ => match g d ρ with
    | none => .stuck
    | some ρ1 => match b ρ1 with
      | .nx ρ2 => forL g b ds ρ2
      | .ct ρ2 => forL g b ds ρ2
      | .bk ρ2 => .nx ρ2
      | r => r
def sFor (fi : IF) (g : D → Rho → Option Rho) (b : SF) : SF := fun ρ => match fi ρ with
  | .stuck => .stuck
  | .exc x ρ1 => .exc x ρ1
  | .ok ds ρ1 => forL g b ds ρ1
theorem lk_for {w : TI} {tgt : TG} {tb : TS} {fi : IF} {g : D → Rho → Option Rho} {b : SF} (li : LkI C w fi) (lg : LkG C tgt g) (lb : LkS C tb b) : LkS C (tFor w tgt tb) (sFor fi g b) := fun ρ σ B H E S gd => by
  refine li ρ σ B H _ S ?_
  unfold sFor at gd
  cases e : fi ρ with
  | stuck => rw [e] at gd; exact gd
  | exc x ρ1 => rw [e] at gd; exact fun c d B' H' s x => gd c d σ B' H' s x
  | ok ds ρ1 =>
    rw [e] at gd
    replace gd : GoodS C ρ σ B H E (forL g b ds ρ1) := gd
    intro J B1 H1 S1 x1 ok
    refine for_it ok (fun i σ' H' => ∃ ρ' B', Sim C.K ρ' σ' B' H' ∧ Ext ρ σ B H ρ' σ' B' H' ∧ Same B1 B' ∧ GoodS C ρ σ B H E (forL g b (ds.drop i) ρ')) ⟨ρ1, B1, S1, x1, Same.refl _, gd⟩ (fun i σ' H' _ ⟨ρ', B', S', _, s', _⟩ => s'.trans S'.bh) ?_ ?_
    · rintro i v σ' H' H2 hi ⟨ρ', B', S', x', s', g'⟩ ⟨d, ed, y⟩
      have hd : ds.drop i = d :: ds.drop (i + 1) := by
        have := List.drop_eq_getElem_cons hi
        rw [this]
        congr 1
        exact Option.some.inj ((List.getElem?_eq_getElem hi).symm.trans ed)
      rw [hd] at g'
      have step : ∃ B2, Sim C.K ρ' σ' B2 H2 ∧ Ext ρ σ B H ρ' σ' B2 H2 ∧ Same B1 B2 ∧ Rp C.K B2 v d := by
        rcases y with ⟨rfl, r⟩ | ⟨T, o, vs, es, rfl, hT, ho, rfl, rfl, r⟩
        · exact ⟨B', S', x', s', r.mono s'⟩
        · obtain ⟨S2, x2⟩ := S'.newB hT (.frz o (.tup vs))
          exact ⟨_, S2, x'.trans x2, s'.trans x2.bb, .tup (XT.new ho) (r.mono (s'.trans x2.bb))⟩
      obtain ⟨B2, S2, x2, s2, r2⟩ := step
      unfold forL at g'
      cases eg : g d ρ' with
      | none => rw [eg] at g'; exact g'.elim
      | some ρ3 =>
        rw [eg] at g'
        refine lg ρ' σ' B2 H2 v d ρ3 _ S2 r2 eg fun σ3 B3 H3 S3 x3 => ?_
        refine lb ρ3 σ3 B3 H3 _ S3 ?_
        have x3' := x2.trans x3
        cases eb : b ρ3 with
        | stuck => simp only [eb] at g'; exact g'
        | nx ρ4 => simp only [eb] at g'; exact fun σ4 B4 H4 S4 x4 => ⟨ρ4, B4, S4, x3'.trans x4, (s2.trans x3.bb).trans x4.bb, g'⟩
        | ct ρ4 => simp only [eb] at g'; exact fun σ4 B4 H4 S4 x4 => ⟨ρ4, B4, S4, x3'.trans x4, (s2.trans x3.bb).trans x4.bb, g'⟩
        | bk ρ4 => simp only [eb] at g'; exact fun σ4 B4 H4 S4 x4 => g' σ4 B4 H4 S4 (x3'.trans x4)
        | rt h ρ4 => simp only [eb] at g'; exact GoodS.ext (r := .rt h ρ4) x3' g'
        | exc c ρ4 => simp only [eb] at g'; exact GoodS.ext (r := .exc c ρ4) x3' g'
    · rintro σ' H' ⟨ρ', B', S', x', _, g'⟩
      rw [List.drop_length] at g'
      exact g' σ' B' H' S' x'
theorem ss_for {it : Expr} {body : List Stmt} {w : TI} {tgt : TG} {tb : TS} {fi : IF} {g : D → Rho → Option Rho} {b : SF} (hp : PassesOwn (model X.prog X.w) X.A X.env X.xe) (hc : X.calm = true) (li : SI X C tg it w fi) (lg : SG X C tg tgt g) (lb : SSs X C body tb b)
    (hs : ∀ x, foldedSetIterable it X.env x = pure x := by intro _; rfl) : SS X C (.For tg it body [] pos) (tFor w tgt tb) (sFor fi g b) := ⟨ps_for hp hc li.pi lg.pg lb.ps hs, lk_for li.lk lg.lk lb.lk⟩
def wipeR (ρ : Rho) : List Nat → Rho
  | [] => ρ
  | v :: vs => (wipeR ρ vs).set v none
/-- the turns: acc what is made so far -/
def lcL (vs : List Nat) (g : D → Rho → Option Rho) (ft fe : EF) : List D → List D → Rho → RE
  | [], acc, ρ => .ok (.fr (.list acc)) ρ
  | d :: ds, acc, ρ => match g d ρ with
    | none => .stuck
    | some ρ1 => bindB (ft ρ1) fun c ρ2 => if c then bindE (eCap fe ρ2) fun h ρ3 => match h with
        | .sh y => if acc.length < sizeLine then lcL vs g ft fe ds (acc ++ [y]) (wipeR ρ3 vs) else .stuck
        | _ => .stuck
      else lcL vs g ft fe ds acc (wipeR ρ2 vs)
def eLc (vs : List Nat) (fi : IF) (g : D → Rho → Option Rho) (ft fe : EF) : EF := fun ρ => match fi ρ with
  | .stuck => .stuck
  | .exc x ρ1 => .exc x ρ1
  | .ok ds ρ1 => if vs.all fun i => !ioAt ρ1 i then lcL vs g ft fe ds [] (wipeR ρ1 vs) else .stuck
theorem wipeR_len (ρ : Rho) : ∀ vs : List Nat, (wipeR ρ vs).length = ρ.length
  | [] => rfl
  | v :: vs => by unfold wipeR; rw [List.length_set, wipeR_len ρ vs]
theorem wipeR_some {ρ : Rho} {i : Nat} {c : Cel} : ∀ {vs : List Nat}, (wipeR ρ vs)[i]? = some (some c) → ρ[i]? = some (some c) ∧ i ∉ vs
  | [], h => ⟨h, by simp⟩
  | v :: vs, h => by
    unfold wipeR at h
    rcases set_get h with ⟨_, ec⟩ | ⟨ne, h⟩
    · cases ec
    · obtain ⟨h1, h2⟩ := wipeR_some h
      exact ⟨h1, by simp only [List.mem_cons, not_or]; exact ⟨fun e => ne e.symm, h2⟩⟩
theorem wipeR_keep {ρ : Rho} {i : Nat} : ∀ {vs : List Nat}, i ∉ vs → (wipeR ρ vs)[i]? = ρ[i]?
  | [], _ => rfl
  | v :: vs, h => by
    simp only [List.mem_cons, not_or] at h
    unfold wipeR
    rw [set_other (fun e => h.1 e.symm)]
    exact wipeR_keep h.2
theorem wipe_keep {σ : St} {i : Nat} : ∀ {vs : List Nat}, i ∉ vs → (wipe σ vs)[i]? = σ[i]?
  | [], _ => rfl
  | v :: vs, h => by
    simp only [List.mem_cons, not_or] at h
    unfold wipe
    rw [List.getElem?_set, if_neg (fun e => h.1 e.symm)]
    exact wipe_keep h.2
/-- slots are forgotten on both sides -/
theorem Sim.wipe {K : KW} {σ' : St} (S : Sim K ρ σ B H) (vs : List Nat) (hl : σ'.length = σ.length) (he : ∀ i, i ∉ vs → σ'[i]? = σ[i]?) : Sim K (wipeR ρ vs) σ' B H := by
  refine ⟨S.bh, by rw [wipeR_len, hl]; exact S.len, fun i c h => ?_, fun i j ci cj a hi hj ni nj ei ej => ?_⟩
  · obtain ⟨h1, h2⟩ := wipeR_some h
    rw [he i h2]
    exact S.sl i c h1
  · obtain ⟨h1, h2⟩ := wipeR_some hi
    obtain ⟨h3, h4⟩ := wipeR_some hj
    rw [he i h2] at ei
    rw [he j h4] at ej
    exact S.dj i j ci cj a h1 h3 ni nj ei ej
theorem Ext.wipe {σ' : St} (x : Ext ρ σ B H ρ1 σ1 B1 H1) (vs : List Nat) (hn : ∀ i ∈ vs, ∀ c, ρ[i]? = some (some c) → c.fl ≠ .io) (he : ∀ i, i ∉ vs → σ'[i]? = σ1[i]?) : Ext ρ σ B H (wipeR ρ1 vs) σ' B1 H1 := by
  refine ⟨x.bb, x.nw, x.kp, fun a ⟨i, c, h1, h2, h3⟩ => ?_, fun i c h1 h2 => ?_, fun i c h1 h2 => ?_⟩
  · obtain ⟨q1, q2⟩ := wipeR_some h1
    rw [he i q2] at h3
    exact x.sub a ⟨i, c, q1, h2, h3⟩
  · have ni : i ∉ vs := fun z => hn i z c h1 h2
    obtain ⟨e1, c1, q1, q2⟩ := x.io i c h1 h2
    exact ⟨(he i ni).trans e1, c1, (wipeR_keep ni).trans q1, q2⟩
  · obtain ⟨q1, _⟩ := wipeR_some h1
    exact x.oi i c q1 h2
end
end GS
namespace GS
open PySem L2
section
variable {X : Cx} {C : Ct} {ρ ρ1 : Rho} {σ σ1 σ' : St} {B H B1 H1 : Hp} {e tg : Expr} {te : TE} {fe : EF} {pos p : Pos} {vs : List Nat} {K : KW}
theorem wipe_get (σ : St) (j : Nat) : ∀ vs : List Nat, (wipe σ vs)[j]? = if j ∈ vs then (if j < σ.length then some none else none) else σ[j]?
  | [] => by simp [wipe]
  | v :: vs => by
    unfold wipe
    rw [List.getElem?_set, wipe_get σ j vs, wipe_length]
    by_cases h : v = j
    · subst h; simp
    · have h' : ¬ j = v := fun z => h z.symm
      simp [h, h']
theorem wipe_set {i : Nat} {x : Option V} (h : i ∈ vs) : wipe (σ.set i x) vs = wipe σ vs := by
  apply List.ext_getElem?
  intro j
  rw [wipe_get, wipe_get, List.length_set]
  by_cases hj : j ∈ vs
  · simp [hj]
  · rw [if_neg hj, if_neg hj, List.getElem?_set, if_neg (fun (z : i = j) => hj (z ▸ h))]
theorem of_wipe (h : wipe σ1 vs = wipe σ vs) : σ1.length = σ.length ∧ ∀ i, i ∉ vs → σ1[i]? = σ[i]? := by
  refine ⟨by rw [← wipe_length σ1 vs, h, wipe_length], fun i hi => ?_⟩
  rw [← wipe_keep hi, h, wipe_keep hi]
/-- targets of a comprehension -/
def LkGw (C : Ct) (vs : List Nat) (g : TG) (f : D → Rho → Option Rho) : Prop := ∀ ρ σ B H v d ρ' Q, Sim C.K ρ σ B H → Rp C.K B v d → f d ρ = some ρ' → (∀ σ' B' H', Sim C.K ρ' σ' B' H' → Ext ρ σ B H ρ' σ' B' H' → wipe σ' vs = wipe σ vs → Q σ' H') → g v σ H Q
theorem lkw_N {i : Nat} (hi : i ∈ vs) : LkGw C vs (gName i) (gN i) := fun ρ σ B H v d ρ' Q S r e k => by
  unfold gN at e
  obtain ⟨h, rfl⟩ := if_some e
  simp only [Bool.and_eq_true, decide_eq_true_eq, Bool.not_eq_true'] at h
  obtain ⟨S2, x2⟩ := store_ok S Ext.refl (c := ⟨d, .sh⟩) h.1 h.2 (by simp) (.inl ⟨rfl, r⟩) fun z => absurd rfl z
  exact k _ _ _ S2 x2 (wipe_set hi)
/-- without exceptions -/
def eNox (f : EF) : EF := fun ρ => match f ρ with
  | .exc _ _ => .stuck
  | r => r
abbrev Ct.nox (C : Ct) : Ct := { C with W := fun _ _ _ _ => False }
theorem LkE.ofNox {t : TE} {f : EF} (l : LkE C.nox t f) : LkE C t (eNox f) := fun ρ σ B H Q S g => by
  refine l ρ σ B H Q S ?_
  unfold eNox at g
  cases e : f ρ with
  | stuck => rw [e] at g; exact g
  | ok h ρ1 => rw [e] at g; exact g
  | exc x ρ1 => rw [e] at g; exact g.elim
theorem LkT.ofNox {t : TT} {f : EF} (l : LkT C.nox t f) : LkT C t (eNox f) := fun ρ σ B H Q S g => by
  refine l ρ σ B H Q S ?_
  unfold eNox at g
  cases e : f ρ with
  | stuck => rw [e] at g; exact g
  | ok h ρ1 =>
    rw [e] at g
    cases h with
    | sh d => cases d <;> exact g
    | _ => exact g
  | exc x ρ1 => rw [e] at g; exact g.elim
theorem eNox_ne (f : EF) (ρ : Rho) {x : Xc} {ρ1 : Rho} : eNox f ρ ≠ .exc x ρ1 := fun h => by
  unfold eNox at h
  split at h
  · cases h
  · rename_i z; exact z _ _ h
theorem cap_nox_ne (f : EF) (ρ : Rho) {x : Xc} {ρ1 : Rho} : eCap (eNox f) ρ ≠ .exc x ρ1 := fun h => by
  unfold eCap bindE at h
  split at h
  · cases h
  · dsimp only at h
    split at h <;> cases h
  · rename_i e; exact eNox_ne _ _ e
def NoV (ρ : Rho) (vs : List Nat) : Prop := ∀ (i : Nat) (c : Cel), ρ[i]? = some (some c) → i ∉ vs
theorem noV_wipe : NoV (wipeR ρ vs) vs := fun i c h => (wipeR_some h).2
theorem Sim.swap (S : Sim K ρ σ B H) (n : NoV ρ vs) (hl : σ'.length = σ.length) (he : ∀ i, i ∉ vs → σ'[i]? = σ[i]?) : Sim K ρ σ' B H := by
  refine ⟨S.bh, by rw [hl]; exact S.len, fun i c h => ?_, fun i j ci cj a hi hj ni nj ei ej => ?_⟩
  · rw [he i (n i c h)]; exact S.sl i c h
  · rw [he i (n i ci hi)] at ei
    rw [he j (n j cj hj)] at ej
    exact S.dj i j ci cj a hi hj ni nj ei ej
theorem Sim.tweak (S : Sim K ρ σ B H) {q : Addr} {o : HO} (hb : B q = none) (hn : ¬ OwnA ρ σ q) : Sim K ρ σ B (upd H q o) := by
  refine ⟨fun b u z => ?_, S.len, fun i c h => ?_, S.dj⟩
  · rw [upd_ne (ne_of_none z hb)]; exact S.bh _ _ z
  · obtain ⟨v, ev, ok⟩ := S.sl i c h
    refine ⟨v, ev, ok.mono (Same.refl B) fun a hv ha ho hf => ⟨ha, ?_⟩⟩
    have ne : a ≠ q := fun z => by subst z hv; exact hn ⟨i, c, h, hf, ev⟩
    rw [upd_ne ne]
theorem Ext.tweak (x : Ext ρ σ B H ρ1 σ1 B1 H1) {q : Addr} {o : HO} (hn : New ρ σ H q) : Ext ρ σ B H ρ1 σ1 B1 (upd H1 q o) := by
  refine ⟨x.bb, x.nw, fun a u h n => ?_, x.sub, x.io, x.oi⟩
  have ne : a ≠ q := fun z => by
    subst z
    rcases hn with z | z
    · rw [h] at z; cases z
    · exact n z
  rw [upd_ne ne]
  exact x.kp a u h n
theorem OwnA.swap {a : Addr} (n : NoV ρ vs) (he : ∀ i, i ∉ vs → σ'[i]? = σ[i]?) (h : OwnA ρ σ' a) : OwnA ρ σ a := by
  obtain ⟨i, c, h1, h2, h3⟩ := h
  exact ⟨i, c, h1, h2, (he i (n i c h1)).symm.trans h3⟩
theorem Ext.swapL (x : Ext ρ σ' B H ρ1 σ1 B1 H1) (n : NoV ρ vs) (he : ∀ i, i ∉ vs → σ'[i]? = σ[i]?) (ho : ∀ (i : Nat) c, ρ[i]? = some (some c) → c.fl = .io → σ1[i]? = σ[i]?) : Ext ρ σ B H ρ1 σ1 B1 H1 := by
  have own : ∀ a, OwnA ρ σ' a → OwnA ρ σ a := fun a h => h.swap n he
  have own' : ∀ a, OwnA ρ σ a → OwnA ρ σ' a := fun a h => h.swap n fun i hi => (he i hi).symm
  exact ⟨x.bb, fun a o h => (x.nw a o h).imp id fun z => z.elim .inl fun z => .inr (own a z), fun a o h z => x.kp a o h fun w => z (own a w), fun a h => (x.sub a h).elim .inl fun z => .inr (own a z),
    fun i c h1 h2 => ⟨ho i c h1 h2, (x.io i c h1 h2).2⟩, x.oi⟩
theorem lk_lc {w : TI} {tgt : TG} {tt : TT} {fi : IF} {g : D → Rho → Option Rho} {ft : EF} (li : LkI C w fi) (lg : LkGw C vs tgt g) (lt : LkT C.nox tt ft) (le : LkE C.nox te fe) : LkE C (tLc w tgt tt te vs) (eLc vs fi g (eNox ft) (eNox fe)) := fun ρ σ B H Q S gd => by
  have lt' := lt.ofNox
  have le' := le.ofNox
  refine li ρ σ B H _ S ?_
  unfold eLc at gd
  cases e : fi ρ with
  | stuck => rw [e] at gd; exact gd
  | exc x ρ1 => rw [e] at gd; exact gd
  | ok ds ρ1 =>
    rw [e] at gd
    replace gd : GoodE C ρ σ B H Q (if vs.all fun i => !ioAt ρ1 i then lcL vs g (eNox ft) (eNox fe) ds [] (wipeR ρ1 vs) else .stuck) := gd
    by_cases hio : (vs.all fun i => !ioAt ρ1 i) = true
    case neg => rw [if_neg hio] at gd; exact gd.elim
    rw [if_pos hio] at gd
    intro J B1 H1 S1 x1 ok Dd hD
    have hio' : ∀ i ∈ vs, ∀ c, ρ1[i]? = some (some c) → c.fl ≠ .io := fun i hi c hc => by
      have := List.all_eq_true.mp hio i hi
      exact not_io (by simpa using this) hc
    have hio0 : ∀ i ∈ vs, ∀ c, ρ[i]? = some (some c) → c.fl ≠ .io := fun i hi c hc hf => by
      obtain ⟨_, c', q1, q2⟩ := x1.io i c hc hf
      exact hio' i hi c' q1 q2
    obtain ⟨bD, nD⟩ := S1.free hD
    have newD : New ρ σ H Dd := x1.back (.inl hD)
    have wk : ∀ i, i ∉ vs → (wipe σ vs)[i]? = σ[i]? := fun i hi => wipe_keep hi
    have wl : (wipe σ vs).length = σ.length := wipe_length σ vs
    -- the start
    have S0 : Sim C.K (wipeR ρ1 vs) σ B1 (upd H1 Dd (.lst [])) := (S1.wipe vs rfl fun _ _ => rfl).tweak bD fun ⟨i, c, h1, h2, h3⟩ => nD ⟨i, c, (wipeR_some h1).1, h2, h3⟩
    have x0 : Ext ρ σ B H (wipeR ρ1 vs) σ B1 (upd H1 Dd (.lst [])) := (x1.wipe vs hio0 fun _ _ => rfl).tweak newD
    refine lc_it ok (fun i Hc => ∃ ρ' B' vacc acc, Sim C.K ρ' σ B' Hc ∧ NoV ρ' vs ∧ Ext ρ σ B H ρ' σ B' Hc ∧ Same B1 B' ∧ Hc Dd = some (.lst vacc) ∧ B' Dd = none ∧ ¬ OwnA ρ' σ Dd ∧ RpL C.K B' vacc acc ∧ GoodE C ρ σ B H Q (lcL vs g (eNox ft) (eNox fe) (ds.drop i) acc ρ'))
      ⟨wipeR ρ1 vs, B1, [], [], S0, noV_wipe, x0, Same.refl _, upd_same, bD, fun ⟨i, c, h1, h2, h3⟩ => nD ⟨i, c, (wipeR_some h1).1, h2, h3⟩, .nil, gd⟩ (fun i Hc _ ⟨ρ', B', _, _, S', _, _, s', _⟩ => s'.trans S'.bh) ?_ ?_
    · rintro i v Hc H2 hi ⟨ρ', B', vacc, acc, S', nv, x', s', hacc, bacc, nacc, racc, g'⟩ ⟨d, ed, y⟩
      have hd : ds.drop i = d :: ds.drop (i + 1) := by
        have := List.drop_eq_getElem_cons hi
        rw [this]
        congr 1
        exact Option.some.inj ((List.getElem?_eq_getElem hi).symm.trans ed)
      rw [hd] at g'
      -- the turn's item
      have step : ∃ B2, Sim C.K ρ' σ B2 H2 ∧ Ext ρ σ B H ρ' σ B2 H2 ∧ Same B1 B2 ∧ Rp C.K B2 v d ∧ H2 Dd = some (.lst vacc) ∧ B2 Dd = none ∧ RpL C.K B2 vacc acc := by
        rcases y with ⟨rfl, r⟩ | ⟨T, o, ws, es, rfl, hT, ho, rfl, rfl, r⟩
        · exact ⟨B', S', x', s', r.mono s', hacc, bacc, racc⟩
        · obtain ⟨S2, x2⟩ := S'.newB hT (.frz o (.tup ws))
          have ne : Dd ≠ T := ne_of_none hacc hT
          exact ⟨_, S2, x'.trans x2, s'.trans x2.bb, .tup (XT.new ho) (r.mono (s'.trans x2.bb)), by rw [upd_ne ne]; exact hacc, by rw [upd_ne ne]; exact bacc, racc.mono x2.bb⟩
      obtain ⟨B2, S2, x2, s2, r2, hacc2, bacc2, racc2⟩ := step
      unfold lcL at g'
      cases eg : g d ρ' with
      | none => rw [eg] at g'; exact g'.elim
      | some ρ3 =>
        rw [eg] at g'
        have S2w : Sim C.K ρ' (wipe σ vs) B2 H2 := S2.swap nv wl wk
        refine lg ρ' (wipe σ vs) B2 H2 v d ρ3 _ S2w r2 eg fun σ3 B3 H3 S3 x3 w3 => ?_
        have w3' : wipe σ3 vs = wipe σ vs := by
          rw [w3]
          apply List.ext_getElem?
          intro j
          rw [wipe_get, wl, wipe_get]
          by_cases hj : j ∈ vs <;> simp [hj]
        obtain ⟨l3, k3⟩ := of_wipe w3'
        refine ⟨w3', ?_⟩
        have nacc' : ¬ OwnA ρ' (wipe σ vs) Dd := fun z => nacc (z.swap nv wk)
        obtain ⟨hacc3, bacc3, nacc3⟩ := x3.keepN hacc2 bacc2 nacc'
        -- from the start to here, at σ3
        have x3s : Ext ρ σ B H ρ3 σ3 B3 H3 := x2.trans (x3.swapL nv wk fun j c h1 h2 => k3 j (nv j c h1))
        dsimp only at g'
        refine lt' ρ3 σ3 B3 H3 _ S3 ?_
        cases et : eNox ft ρ3 with
        | stuck => rw [et] at g'; exact g'.elim
        | exc c ρ4 => exact absurd et (eNox_ne _ _)
        | ok h ρ4 =>
          rw [et] at g'
          cases h with
          | fr _ => exact g'.elim
          | bw _ => exact g'.elim
          | sh dd =>
            cases dd with
            | bool b =>
              replace g' : GoodE C ρ σ B H Q (if b then bindE (eCap (eNox fe) ρ4) fun h ρ3 => match h with
                | .sh y => if acc.length < sizeLine then lcL vs g (eNox ft) (eNox fe) (ds.drop (i + 1)) (acc ++ [y]) (wipeR ρ3 vs) else .stuck
                | _ => .stuck
                else lcL vs g (eNox ft) (eNox fe) (ds.drop (i + 1)) acc (wipeR ρ4 vs)) := g'
              intro B4 H4 S4 x4
              obtain ⟨hacc4, bacc4, nacc4⟩ := x4.keepN hacc3 bacc3 nacc3
              have x4s : Ext ρ σ B H ρ4 σ3 B4 H4 := x3s.trans x4
              have racc4 := (racc2.mono x3.bb).mono x4.bb
              have s4 : Same B1 B4 := (s2.trans x3.bb).trans x4.bb
              cases b with
              | false =>
                rw [if_neg Bool.false_ne_true] at g' ⊢
                exact ⟨wipeR ρ4 vs, B4, vacc, acc, S4.wipe vs l3.symm fun j hj => (k3 j hj).symm, noV_wipe, x4s.wipe vs hio0 fun j hj => (k3 j hj).symm, s4, hacc4, bacc4,
                  fun ⟨j, c, h1, h2, h3⟩ => nacc4 ⟨j, c, (wipeR_some h1).1, h2, (k3 j (wipeR_some h1).2).trans h3⟩, racc4, g'⟩
              | true =>
                rw [if_pos rfl] at g' ⊢
                refine le'.cap ρ4 σ3 B4 H4 _ S4 ?_
                cases ee : eCap (eNox fe) ρ4 with
                | stuck => rw [ee] at g'; exact g'.elim
                | exc c ρ5 => exact absurd ee (cap_nox_ne _ _)
                | ok h ρ5 =>
                  rw [ee] at g'
                  cases h with
                  | fr _ => exact g'.elim
                  | bw _ => exact g'.elim
                  | sh y =>
                    replace g' : GoodE C ρ σ B H Q (if acc.length < sizeLine then lcL vs g (eNox ft) (eNox fe) (ds.drop (i + 1)) (acc ++ [y]) (wipeR ρ5 vs) else .stuck) := g'
                    intro u B5 H5 S5 x5 y5
                    obtain ⟨hacc5, bacc5, nacc5⟩ := x5.keepN hacc4 bacc4 nacc4
                    by_cases hsz : acc.length < sizeLine
                    case neg => rw [if_neg hsz] at g'; exact g'.elim
                    rw [if_pos hsz] at g'
                    have nown : ¬ OwnA (wipeR ρ5 vs) σ Dd := fun ⟨j, c, h1, h2, h3⟩ => nacc5 ⟨j, c, (wipeR_some h1).1, h2, (k3 j (wipeR_some h1).2).trans h3⟩
                    refine ⟨vacc, hacc5, by rw [racc.length]; exact hsz, wipeR ρ5 vs, B5, vacc ++ [u], acc ++ [y], (S5.wipe vs l3.symm fun j hj => (k3 j hj).symm).tweak bacc5 nown, noV_wipe,
                      ((x4s.trans x5).wipe vs hio0 fun j hj => (k3 j hj).symm).tweak newD, s4.trans x5.bb, upd_same, bacc5, nown, (racc4.mono x5.bb).append (.cons y5 .nil), g'⟩
            | _ => exact g'.elim
    · rintro Hc ⟨ρ', B', vacc, acc, S', nv, x', s', hacc, bacc, nacc, racc, g'⟩
      rw [List.drop_length] at g'
      exact g' _ B' Hc S' x' ⟨Dd, rfl, bacc, ⟨vacc, hacc, racc⟩, nacc, newD⟩
/-- a comprehension with one for -/
theorem se_lc {elt it : Expr} {ifs : List Expr} {scope : Scope} {own : List (Str × Nat)} {w : TI} {tgt : TG} {tt : TT} {fi : IF} {g : D → Rho → Option Rho} {ft : EF} (hc : X.calm = true) (hN : X.N.Nodup) (li : SI X C tg it w fi) (ok : BlkOk X.N X.env.scope scope own)
    (hg : ∀ (s : Shared) (H : Hp) (c : Addr) (cl : List (Str × Addr)) (fp : List Addr), PG (X.blk s H scope (compEnvC scope cl c X.env) fp) tg tgt) (lg : LkGw C (own.map (·.2)) tgt g)
    (ht : ∀ (s : Shared) (H : Hp) (c : Addr) (cl : List (Str × Addr)) (fp : List Addr), PTs (X.blk s H scope (compEnvC scope cl c X.env) fp) ifs tt) (lt : LkT C.nox tt ft)
    (he : ∀ (s : Shared) (H : Hp) (c : Addr) (cl : List (Str × Addr)) (fp : List Addr), PE (X.blk s H scope (compEnvC scope cl c X.env) fp) elt te) (le : LkE C.nox te fe)
    (hs : ∀ x, foldedSetIterable it X.env x = pure x := by intro _; rfl) : SE X C (.ListComp elt [⟨tg, it, ifs, 0⟩] scope pos) (tLc w tgt tt te (own.map (·.2))) (eLc (own.map (·.2)) fi g (eNox ft) (eNox fe)) :=
  ⟨pe_lc hc hN li.pi ok hg ht he hs, lk_lc li.lk lg lt le⟩
end
end GS
namespace GS
open PySem L2
section
variable {X : Cx} {C : Ct} {ρ ρ1 : Rho} {σ σ1 σ' : St} {B H B1 H1 : Hp} {e tg : Expr} {te : TE} {fe : EF} {pos p : Pos} {vs : List Nat} {K : KW}
theorem Sim.mut (S : Sim K ρ σ B H) {i : Nat} {c : Cel} {a : Addr} {o : HO} {d : D} (hi : ρ[i]? = some (some c)) (hf : c.fl ≠ .sh) (ha : σ[i]? = some (some (.ref a))) (ow : Ow K B a (some o) d) :
    Sim K (ρ.set i (some ⟨d, c.fl⟩)) σ B (upd H a o) ∧ Ext ρ σ B H (ρ.set i (some ⟨d, c.fl⟩)) σ B (upd H a o) := by
  obtain ⟨v, ev, ok⟩ := S.sl i c hi
  rw [ha] at ev
  cases ev
  rcases ok with ⟨z, _⟩ | ⟨_, b, eb, hb, _⟩
  · exact absurd z hf
  cases eb
  refine ⟨⟨fun b u z => ?_, by rw [List.length_set]; exact S.len, fun j cj hj => ?_, fun j k cj ck b hj hk nj nk ej ek => ?_⟩, ⟨Same.refl B, fun b u z => .inl z, fun b u z n => ?_, fun b z => ?_, fun j cj hj hjf => ?_, fun j cj hj hjf => ?_⟩⟩
  · rw [upd_ne (ne_of_none z hb)]; exact S.bh _ _ z
  · rcases set_get hj with ⟨rfl, ec⟩ | ⟨ne, hj⟩
    · cases ec
      exact ⟨.ref a, ha, .inr ⟨hf, a, rfl, hb, by rw [upd_same]; exact ow⟩⟩
    · obtain ⟨v, ev, ok⟩ := S.sl j cj hj
      refine ⟨v, ev, ok.mono (Same.refl B) fun b hv hb' ho' hf' => ⟨hb', ?_⟩⟩
      have nb : b ≠ a := fun z => by
        subst z hv
        exact ne (S.dj i j c cj b hi hj hf hf' ha ev)
      rw [upd_ne nb]
  · have f1 : ∃ c1, ρ[j]? = some (some c1) ∧ c1.fl ≠ .sh := by
      rcases set_get hj with ⟨rfl, ec⟩ | ⟨_, hj⟩
      · cases ec; exact ⟨c, hi, hf⟩
      · exact ⟨cj, hj, nj⟩
    have f2 : ∃ c1, ρ[k]? = some (some c1) ∧ c1.fl ≠ .sh := by
      rcases set_get hk with ⟨rfl, ec⟩ | ⟨_, hk⟩
      · cases ec; exact ⟨c, hi, hf⟩
      · exact ⟨ck, hk, nk⟩
    obtain ⟨c1, a1, a2⟩ := f1
    obtain ⟨c2, b1, b2⟩ := f2
    exact S.dj j k c1 c2 b a1 b1 a2 b2 ej ek
  · have nb : b ≠ a := fun q => by subst q; exact n ⟨i, c, hi, hf, ha⟩
    rw [upd_ne nb]; exact z
  · obtain ⟨j, cj, hj, nj, ej⟩ := z
    rcases set_get hj with ⟨rfl, ec⟩ | ⟨_, hj⟩
    · cases ec; exact .inr ⟨i, c, hi, hf, ej⟩
    · exact .inr ⟨j, cj, hj, nj, ej⟩
  · by_cases hij : i = j
    · subst hij
      rw [hi] at hj
      cases hj
      exact ⟨rfl, _, set_at (lt_of hi), hjf⟩
    · exact ⟨rfl, cj, by rw [set_other hij]; exact hj, hjf⟩
  · rcases set_get hj with ⟨rfl, ec⟩ | ⟨_, hj⟩
    · cases ec; exact ⟨c, hi, hjf⟩
    · exact ⟨cj, hj, hjf⟩
/-- the object of an owned slot -/
theorem Sim.own (S : Sim K ρ σ B H) {i : Nat} {c : Cel} (hi : ρ[i]? = some (some c)) (hf : c.fl ≠ .sh) : ∃ a, σ[i]? = some (some (.ref a)) ∧ B a = none ∧ Ow K B a (H a) c.d := by
  obtain ⟨v, ev, ok⟩ := S.sl i c hi
  rcases ok with ⟨z, _⟩ | ⟨_, b, rfl, hb, ho⟩
  · exact absurd z hf
  · exact ⟨b, ev, hb, ho⟩
/-- a slot that may be changed -/
def mutS (ρ : Rho) (i : Nat) (k : D → Option D) : RS := match slot ρ i with
  | some ⟨d, .ow⟩ => match k d with
    | some d' => .nx (ρ.set i (some ⟨d', .ow⟩))
    | none => .stuck
  | some ⟨d, .io⟩ => match k d with
    | some d' => .nx (ρ.set i (some ⟨d', .io⟩))
    | none => .stuck
  | _ => .stuck
theorem mutS_ok {E : Ends} {i : Nat} {k : D → Option D} (g : GoodS C ρ σ B H E (mutS ρ1 i k)) : ∃ c d', ρ1[i]? = some (some c) ∧ c.fl ≠ .sh ∧ k c.d = some d' ∧ GoodS C ρ σ B H E (.nx (ρ1.set i (some ⟨d', c.fl⟩))) := by
  unfold mutS at g
  split at g
  · rename_i d es
    split at g
    · rename_i d' ek
      exact ⟨_, d', slot_some es, by simp, ek, g⟩
    · exact g.elim
  · rename_i d es
    split at g
    · rename_i d' ek
      exact ⟨_, d', slot_some es, by simp, ek, g⟩
    · exact g.elim
  · exact g.elim
def appD (y : D) : D → Option D
  | .list ds => if ds.length < sizeLine then some (.list (ds ++ [y])) else none
  | _ => none
def isL (ρ : Rho) (i : Nat) : Bool := match slot ρ i with
  | some ⟨.list _, _⟩ => true
  | _ => false
def sApp (i : Nat) (fe : EF) : SF := fun ρ => if isL ρ i then bindES (eCap fe ρ) fun h ρ1 => match h with
  | .sh y => mutS ρ1 i (appD y)
  | _ => .stuck else .stuck
theorem isL_ok (S : Sim K ρ σ B H) {i : Nat} (h : isL ρ i = true) : ∃ a vs, σ[i]? = some (some (.ref a)) ∧ SqL K H a vs := by
  unfold isL at h
  split at h
  · rename_i ds fl es
    obtain ⟨v, ev, ok⟩ := S.sl i _ (slot_some es)
    rcases ok with ⟨_, q⟩ | ⟨_, a, rfl, _, vs, q, _⟩
    · obtain ⟨a, vs, rfl, ha, _⟩ := Rp.lstE q
      exact ⟨a, vs, ev, same_l S.bh ha⟩
    · exact ⟨a, vs, ev, .inl (.inl q)⟩
  · cases h
theorem tyL {a : Addr} {vs : List V} (h : SqL K H a vs) : tyV K "list" (.ref a) H := .inl ⟨rfl, _, h⟩
theorem ss_app {i : Nat} {x : Str} {q1 q2 q3 : Pos} (l : SE X C e te fe) (hN : X.N[i]? = some x := by rfl) (hv : Vis X.env.scope x := by first | exact Or.inl rfl | exact Or.inr (Or.inl rfl) | exact Or.inr (Or.inr rfl)) (hd : (x == ("__debug__" : Str)) = false := by decide)
    (hcd : (x == ("__classdict__" : Str)) = false := by decide) (hk : X.K = C.K := by rfl) (hs : starEach [e] X.env = (false, eval e X.env) :: starEach [] X.env := by rfl)
    (hfew : ((backTo q3 (starEach [e] X.env)).all (fun x => !x.1) && (backToKw q3 (keywordEach [] X.env)).all (fun x => x.1.isSome) && decide ([e].length + ([] : List Keyword).length + (if ([] : List Keyword).isEmpty then 0 else 1) < 30)) = true := by rfl)
    (hline : (q2.endLine == q3.line) = true := by rfl) :
    SS X C (.Expr (.Call (.Attribute (.Name x q1) "append" q2) [e] [] q3) pos) (tDrop (tBM C.K "list" rAppend (tVar i) (tCons te tNil))) (sApp i fe) := by
  refine ⟨by rw [← hk]; exact ps_expr (pe_bm PySem.F.plainAttrs_list PySem.F.slot_list_append PySem.F.type_list_append mt_append (pe_var hN hv hd hcd) (pa_cons l.pe pa_nil hs) rfl hfew hline hs), fun ρ σ B H E S g => ?_⟩
  unfold sApp at g
  by_cases hl : isL ρ i = true
  case neg => rw [if_neg hl] at g; exact g.elim
  rw [if_pos hl] at g
  obtain ⟨a, vs, ea, sq⟩ := isL_ok S hl
  refine ⟨.ref a, ea, tyL sq, ?_⟩
  refine l.lk.cap.bindS S g fun hd ρ1 v B1 H1 S1 x1 y1 g1 => ?_
  cases hd with
  | sh y =>
    obtain ⟨c, d', h1, h2, h3, h4⟩ := mutS_ok g1
    obtain ⟨a', ea', hb, ow⟩ := S1.own h1 h2
    rw [ea] at ea'
    cases ea'
    obtain ⟨d, fl⟩ := c
    cases d with
    | list ds =>
      obtain ⟨hc, rfl⟩ := if_some (show (if ds.length < sizeLine then some (.list (ds ++ [y])) else none) = some d' from h3)
      obtain ⟨ws, ew, rw'⟩ := ow
      have ow' : Ow C.K B1 a (some (.lst (ws ++ [v]))) (.list (ds ++ [y])) := ⟨_, rfl, rw'.append (.cons y1 .nil)⟩
      obtain ⟨S2, x2⟩ := S1.mut h1 h2 ea ow'
      exact ⟨a, ws, v, rfl, rfl, ew, by rw [rw'.length]; exact hc, h4 _ _ _ S2 (x1.trans x2)⟩
    | _ => cases h3
  | _ => exact g1.elim
end
def ioC : Option Cel → Option Cel
  | some ⟨d, .io⟩ => some ⟨d, .io⟩
  | _ => none
def outR (ρ : Rho) (n : Nat) : Rho := (List.range n).map fun i => ioC (slot ρ i)
def fnF (m n : Nat) (g : SF) : FF := fun ρ => match g (ρ ++ List.replicate (m - n) none) with
  | .rt (.bw _) _ => .stuck
  | .rt h ρ1 => .ok h (outR ρ1 n)
  | .nx ρ1 => .ok (.sh .none) (outR ρ1 n)
  | .exc x ρ1 => .exc x (outR ρ1 n)
  | _ => .stuck
theorem ioC_some {o : Option Cel} {c : Cel} (h : ioC o = some c) : o = some c ∧ c.fl = .io := by
  unfold ioC at h
  split at h
  · cases h; exact ⟨rfl, rfl⟩
  · cases h
theorem outR_at {ρ : Rho} {n i : Nat} {c : Cel} (h : (outR ρ n)[i]? = some (some c)) : i < n ∧ ρ[i]? = some (some c) ∧ c.fl = .io := by
  unfold outR at h
  rw [List.getElem?_map] at h
  by_cases hi : i < n
  · rw [List.getElem?_range hi] at h
    obtain ⟨q1, q2⟩ := ioC_some (Option.some.inj h)
    exact ⟨hi, slot_some q1, q2⟩
  · rw [List.getElem?_eq_none (by rw [List.length_range]; omega)] at h
    cases h
theorem slot_of {ρ : Rho} {i : Nat} {c : Cel} (h : ρ[i]? = some (some c)) : slot ρ i = some c := by
  unfold slot
  rw [h]
theorem outR_has {ρ : Rho} {n i : Nat} {c : Cel} (hi : i < n) (h : ρ[i]? = some (some c)) (hf : c.fl = .io) : (outR ρ n)[i]? = some (some c) := by
  unfold outR
  rw [List.getElem?_map, List.getElem?_range hi]
  show some (ioC (slot ρ i)) = _
  rw [slot_of h]
  obtain ⟨d, fl⟩ := c
  cases hf
  rfl
section
variable {K : KW} {ρ ρ1 : Rho} {σ1 : St} {B H B1 H1 : Hp} {N : List Str} {vs : List V} {n : Nat}
theorem start_get {i : Nat} (h : i < vs.length) : (L2.start N vs)[i]? = (vs.map some)[i]? := by
  unfold L2.start
  rw [List.getElem?_append_left (by simpa using h)]
theorem ap_get {m : Nat} {i : Nat} {c : Cel} (h : (ρ ++ List.replicate m none)[i]? = some (some c)) : i < ρ.length ∧ ρ[i]? = some (some c) := by
  by_cases hi : i < ρ.length
  · rw [List.getElem?_append_left hi] at h; exact ⟨hi, h⟩
  · rw [List.getElem?_append_right (by omega), List.getElem?_replicate] at h
    split at h <;> cases h
theorem ap_of {m : Nat} {i : Nat} {c : Cel} (h : ρ[i]? = some (some c)) : (ρ ++ List.replicate m none)[i]? = some (some c) := by
  rw [List.getElem?_append_left (lt_of h)]; exact h
theorem entry_own {m : Nat} (hl : ρ.length = vs.length) {a : Addr} : OwnA (ρ ++ List.replicate m none) (L2.start N vs) a ↔ OwnA ρ (vs.map some) a := by
  constructor
  · rintro ⟨i, c, h1, h2, h3⟩
    obtain ⟨q1, q2⟩ := ap_get h1
    exact ⟨i, c, q2, h2, by rw [← start_get (by omega)]; exact h3⟩
  · rintro ⟨i, c, h1, h2, h3⟩
    exact ⟨i, c, ap_of h1, h2, by rw [start_get (by have := lt_of h1; omega)]; exact h3⟩
theorem entry_sim (S : Sim K ρ (vs.map some) B H) (hN : vs.length ≤ N.length) : Sim K (ρ ++ List.replicate (N.length - vs.length) none) (L2.start N vs) B H := by
  have hl : ρ.length = vs.length := by rw [S.len, List.length_map]
  refine ⟨S.bh, ?_, fun i c h => ?_, fun i j ci cj a hi hj ni nj ei ej => ?_⟩
  · unfold L2.start
    rw [List.length_append, List.length_append, List.length_replicate, List.length_replicate, List.length_map, hl]
  · obtain ⟨q1, q2⟩ := ap_get h
    obtain ⟨v, ev, ok⟩ := S.sl i c q2
    exact ⟨v, by rw [start_get (by omega)]; exact ev, ok⟩
  · obtain ⟨q1, q2⟩ := ap_get hi
    obtain ⟨q3, q4⟩ := ap_get hj
    rw [start_get (by omega)] at ei ej
    exact S.dj i j ci cj a q2 q4 ni nj ei ej
/-- the body's end as the caller sees it -/
theorem exit_sim {m : Nat} (S : Sim K ρ (vs.map some) B H) (hn : ρ.length = n) (S1 : Sim K ρ1 σ1 B1 H1) (x : Ext (ρ ++ List.replicate m none) (L2.start N vs) B H ρ1 σ1 B1 H1) :
    Sim K (outR ρ1 n) (vs.map some) B1 H1 ∧ Ext ρ (vs.map some) B H (outR ρ1 n) (vs.map some) B1 H1 ∧ (∀ a, OwnA (outR ρ1 n) (vs.map some) a → OwnA ρ1 σ1 a) ∧ ∀ a, New (ρ ++ List.replicate m none) (L2.start N vs) H a → New ρ (vs.map some) H a := by
  have hl : ρ.length = vs.length := by rw [S.len, List.length_map]
  have hnew : ∀ a, New (ρ ++ List.replicate m none) (L2.start N vs) H a → New ρ (vs.map some) H a := fun a h => h.imp id (entry_own hl).mp
  -- a lent slot stands as at the entry
  have same : ∀ (i : Nat) (c : Cel), (outR ρ1 n)[i]? = some (some c) → i < vs.length ∧ ρ1[i]? = some (some c) ∧ c.fl = .io ∧ σ1[i]? = (vs.map some)[i]? := fun i c h => by
    obtain ⟨q1, q2, q3⟩ := outR_at h
    obtain ⟨c', r1, r2⟩ := x.oi i c q2 q3
    obtain ⟨w1, _⟩ := ap_get r1
    have e := (x.io i c' r1 r2).1
    rw [start_get (by omega)] at e
    exact ⟨by omega, q2, q3, e⟩
  have own : ∀ a, OwnA (outR ρ1 n) (vs.map some) a → OwnA ρ1 σ1 a := fun a ⟨i, c, h1, h2, h3⟩ => by
    obtain ⟨_, q2, _, q4⟩ := same i c h1
    exact ⟨i, c, q2, h2, q4.trans h3⟩
  refine ⟨⟨S1.bh, ?_, fun i c h => ?_, fun i j ci cj a hi hj ni nj ei ej => ?_⟩, ⟨x.bb, fun a o h => (x.nw a o h).imp id (hnew a), fun a o h z => x.kp a o h fun w => z ((entry_own hl).mp w), fun a h => hnew a (x.sub a (own a h)), fun i c h1 h2 => ?_, fun i c h1 h2 => ?_⟩, own, hnew⟩
  · unfold outR
    rw [List.length_map, List.length_range, List.length_map]
    omega
  · obtain ⟨_, q2, _, q4⟩ := same i c h
    obtain ⟨v, ev, ok⟩ := S1.sl i c q2
    exact ⟨v, q4.symm.trans ev, ok⟩
  · obtain ⟨_, q2, _, q4⟩ := same i ci hi
    obtain ⟨_, r2, _, r4⟩ := same j cj hj
    exact S1.dj i j ci cj a q2 r2 ni nj (q4.trans ei) (r4.trans ej)
  · obtain ⟨_, c', q1, q2⟩ := x.io i c (ap_of h1) h2
    exact ⟨rfl, c', outR_has (by have := lt_of h1; omega) q1 q2, q2⟩
  · obtain ⟨_, q2, q3, _⟩ := same i c h1
    obtain ⟨c', r1, r2⟩ := x.oi i c q2 q3
    exact ⟨c', (ap_get r1).2, r2⟩
end
section
variable {P : Program} {w : World} {K : KW} {mg : Str → Option Value} {base : Heap} {cv : Str → Value}
abbrev cxF (P : Program) (w : World) (K : PySem.W.Frag) (mg : Str → Option Value) (base : Heap) (N : List Str) (qual : Str) (st : Stmt) (f : Addr) (cdv : Value) (A : Around) (outer : List Env) (s : Shared) (H : Hp) (E : XK) : Cx :=
  cxOf (L2.CX P w) P w K mg base N qual (defScope st) f cdv A outer s H E
abbrev ctF (K : KW) (cv : Str → Value) (E : XK) : Ct := ⟨K, cv, fun cls d _ H' => E cls d H'⟩
/-- THE RULE for a def: from its body -/
theorem fn_mk {x qual : Str} {st : Stmt} {f : Addr} {fd : FuncData} {N ps : List Str} {k : Nat} {g : SF} (F : Fun K x qual st f fd) (S : FnScope N ps (defScope st))
    (hb : ∀ (cdv : Value) (A : Around) (outer : List Env) (s : Shared) (H : Hp) (E : XK), Room k (cxF P w K mg base N qual st f cdv A outer s H E).A → Takes (cxF P w K mg base N qual st f cdv A outer s H E) (ctF K cv E).W →
      PassesOwn (model P w) (cxF P w K mg base N qual st f cdv A outer s H E).A (cxF P w K mg base N qual st f cdv A outer s H E).env (cxF P w K mg base N qual st f cdv A outer s H E).xe →
      ∃ t, SSs (cxF P w K mg base N qual st f cdv A outer s H E) (ctF K cv E) (defBody st) t g) :
    FnOk P w K mg base (L2.CX P w) (k + 1) f fd ps (spF K cv ps.length (fnF N.length ps.length g)) := by
  have hpl : ps.length ≤ N.length := by have := congrArg List.length S.pre; rw [List.length_take] at this; omega
  refine F.okX S (fun vs H Q E h => ?_) (fun cdv A outer s H vs Q E hr h => ?_)
  · obtain ⟨ρ, B, hl, Sm, _⟩ := h
    have := Sm.len
    rw [List.length_map] at this
    omega
  · obtain ⟨ρ, B, hl, Sm, gd⟩ := h
    have hv : vs.length = ps.length := by
      have := Sm.len
      rw [List.length_map] at this
      omega
    obtain ⟨t, ht⟩ := hb cdv A outer s H E hr (takes_of rfl rfl rfl rfl) (passes_of rfl)
    refine ⟨t, ht.ps, ht.lk (ρ ++ List.replicate (N.length - ps.length) none) _ B H _ (by rw [← hv]; exact entry_sim Sm (by omega)) ?_⟩
    unfold fnF at gd
    cases eg : g (ρ ++ List.replicate (N.length - ps.length) none) with
    | stuck => rw [eg] at gd; exact gd
    | bk _ => rw [eg] at gd; exact gd.elim
    | ct _ => rw [eg] at gd; exact gd.elim
    | nx ρ1 =>
      rw [eg] at gd
      intro σ1 B1 H1 S1 x1
      obtain ⟨S2, x2, _, _⟩ := exit_sim Sm hl S1 x1
      exact gd .non B1 H1 S2 x2 .non
    | exc c ρ1 =>
      rw [eg] at gd
      intro cls dct σ1 B1 H1 S1 x1 ok
      obtain ⟨S2, x2, _, _⟩ := exit_sim Sm hl S1 x1
      exact gd cls dct B1 H1 S2 x2 ok
    | rt h ρ1 =>
      rw [eg] at gd
      intro v σ1 B1 H1 S1 x1 y1
      obtain ⟨S2, x2, n1, n2⟩ := exit_sim Sm hl S1 x1
      cases h with
      | sh d => exact gd v B1 H1 S2 x2 y1
      | fr d =>
        obtain ⟨a, r1, r2, r3, r4, r5⟩ := y1
        exact gd v B1 H1 S2 x2 ⟨a, r1, r2, r3, fun z => r4 (n1 a z), n2 a r5⟩
      | bw i => exact gd.elim
theorem fn_zero {f : Addr} {fd : FuncData} {ps : List Str} {n : Nat} (hn : n = ps.length) : FnOk P w K mg base (L2.CX P w) 0 f fd ps (spF K cv n fun _ => .stuck) :=
  ⟨fun vs H Q E ⟨_, _, _, _, h⟩ => h.elim, fun A outer s H args us vs Q E _ _ _ _ ⟨_, _, _, _, h⟩ => h.elim⟩
theorem rpl_ints {B : Hp} : ∀ ns : List Int, RpL K B (ns.map V.int) (ns.map PyData.int)
  | [] => .nil
  | n :: ns => .cons (.int n) (rpl_ints ns)
/-- the law's promise from what it computes -/
theorem law_sp {F : FF} {H : Hp} {a : Addr} {ns : List Int} {outs : Rho} (h : SqL K H a (ns.map V.int)) (e : F [some ⟨.list (ns.map .int), .sh⟩] = .ok (.sh (.bool true)) outs) {E : XK} :
    spF K cv 1 F [.ref a] H (fun v _ => v = .bl true) E := by
  refine ⟨[some ⟨.list (ns.map .int), .sh⟩], H, rfl, ⟨Same.refl H, rfl, fun i c hi => ?_, fun i j ci cj b hi hj ni nj _ _ => ?_⟩, ?_⟩
  · match i, hi with
    | 0, hi =>
      cases hi
      exact ⟨.ref a, rfl, .inl ⟨rfl, .lst h (rpl_ints ns)⟩⟩
    | i + 1, hi => simp at hi
  · match i, hi with
    | 0, hi =>
      cases hi
      exact absurd rfl ni
    | i + 1, hi => simp at hi
  · rw [e]
    intro v B' H' S x y
    cases (show Rp K B' v (.bool true) from y)
    rfl
end
end GS
namespace GS
open PySem L2
section
variable {X : Cx} {C : Ct} {ρ ρ1 : Rho} {σ σ1 σ' : St} {B H B1 H1 : Hp} {e tg : Expr} {te : TE} {fe : EF} {pos p : Pos} {vs : List Nat} {K : KW}
/-- a name handed back: its own list is given away -/
def eRv (i : Nat) : EF := fun ρ => match slot ρ i with
  | some ⟨d, .sh⟩ => .ok (.sh d) ρ
  | some ⟨d, .ow⟩ => .ok (.fr d) (ρ.set i none)
  | _ => .stuck
theorem lk_rv {i : Nat} : LkE C (tVar i) (eRv i) := fun ρ σ B H Q S g => by
  unfold eRv at g
  cases h : slot ρ i with
  | none => rw [h] at g; exact g.elim
  | some c =>
    rw [h] at g
    obtain ⟨d, fl⟩ := c
    have hi := slot_some h
    cases fl with
    | sh =>
      obtain ⟨v, e, q⟩ := S.sl i _ hi
      rcases q with ⟨_, q⟩ | ⟨q, _⟩
      · exact ⟨v, e, g v B H S Ext.refl q⟩
      · exact absurd rfl q
    | ow =>
      obtain ⟨a, e, S1, x1, r⟩ := S.give hi
      exact ⟨.ref a, e, g _ B H S1 x1 r⟩
    | io => exact g.elim
theorem se_rv (i : Nat) {x : Str} (hN : X.N[i]? = some x := by rfl) (hv : Vis X.env.scope x := by first | exact Or.inl rfl | exact Or.inr (Or.inl rfl) | exact Or.inr (Or.inr rfl)) (hd : (x == ("__debug__" : Str)) = false := by decide)
    (hcd : (x == ("__classdict__" : Str)) = false := by decide) : SE X C (.Name x pos) (tVar i) (eRv i) := ⟨pe_var hN hv hd hcd, lk_rv⟩
/-- targets and tests of a comprehension -/
structure SGw (X : Cx) (C : Ct) (vs : List Nat) (tg : Expr) (t : TG) (f : D → Rho → Option Rho) : Prop where
  pg : PG X tg t
  lk : LkGw C vs t f
theorem sgw_name {i : Nat} {x : Str} (hN : X.N.Nodup) (hm : i ∈ vs := by simp) (hi : X.N[i]? = some x := by rfl) (hx : Loc X.env.scope x := by first | exact Or.inl rfl | exact Or.inr rfl)
    (hf : X.fn x = true ∨ X.env.scope.names.lookup x = some .local := by first | exact .inl rfl | exact .inr rfl | assumption) : SGw X C vs (.Name x pos) (gName i) (gN i) := ⟨pg_name hN hi hx hf, lkw_N hm⟩
structure SP (X : Cx) (C : Ct) (ifs : List Expr) (t : TT) (f : EF) : Prop where
  pt : PTs X ifs t
  lk : LkT C t f
def eYes : EF := fun ρ => .ok (.sh (.bool true)) ρ
theorem sp_nil : SP X C [] tYes eYes := ⟨pts_nil, fun ρ σ B H Q S g => g B H S Ext.refl⟩
theorem sp_one {t : TT} {f : EF} (h : ST X C e t f) : SP X C [e] t f := ⟨pts_one h.pt, h.lk⟩
abbrev bk (X : Cx) (scope : Scope) (s : Shared) (H : Hp) (c : Addr) (cl : List (Str × Addr)) (fp : List Addr) : Cx := X.blk s H scope (compEnvC scope cl c X.env) fp
theorem se_comp {elt it : Expr} {ifs : List Expr} {scope : Scope} {own : List (Str × Nat)} {w : TI} {tgt : TG} {tt : TT} {fi : IF} {g : D → Rho → Option Rho} {ft : EF} (hc : X.calm = true) (hN : X.N.Nodup) (ok : BlkOk X.N X.env.scope scope own) (li : SI X C tg it w fi)
    (hg : ∀ s H c cl fp, SGw (bk X scope s H c cl fp) C (own.map (·.2)) tg tgt g) (ht : ∀ s H c cl fp, SP (bk X scope s H c cl fp) C.nox ifs tt ft) (he : ∀ s H c cl fp, SE (bk X scope s H c cl fp) C.nox elt te fe)
    (hs : ∀ x, foldedSetIterable it X.env x = pure x := by intro _; rfl) : SE X C (.ListComp elt [⟨tg, it, ifs, 0⟩] scope pos) (tLc w tgt tt te (own.map (·.2))) (eLc (own.map (·.2)) fi g (eNox ft) (eNox fe)) :=
  se_lc hc hN li ok (fun s H c cl fp => (hg s H c cl fp).pg) (hg X.s_0 X.H_0 0 [] []).lk (fun s H c cl fp => (ht s H c cl fp).pt) (ht X.s_0 X.H_0 0 [] []).lk (fun s H c cl fp => (he s H c cl fp).pe) (he X.s_0 X.H_0 0 [] []).lk hs
/-- x = [..] -/
theorem ss_setLc {i : Nat} {y : Str} {py spos : Pos} {elt it : Expr} {ifs : List Expr} {scope : Scope} {own : List (Str × Nat)} {w : TI} {tgt : TG} {tt : TT} {fi : IF} {g : D → Rho → Option Rho} {ft : EF} (hc : X.calm = true) (hN : X.N.Nodup) (ok : BlkOk X.N X.env.scope scope own) (li : SI X C tg it w fi)
    (hg : ∀ s H c cl fp, SGw (bk X scope s H c cl fp) C (own.map (·.2)) tg tgt g) (ht : ∀ s H c cl fp, SP (bk X scope s H c cl fp) C.nox ifs tt ft) (he : ∀ s H c cl fp, SE (bk X scope s H c cl fp) C.nox elt te fe)
    (hsw : swapsWith (.ListComp elt [⟨tg, it, ifs, 0⟩] scope pos) (some (.Name y py)) spos.line X.env = pure true) (hy : X.N[i]? = some y := by rfl) (hyl : X.env.scope.names.lookup y = some .local := by rfl)
    (hs : ∀ x, foldedSetIterable it X.env x = pure x := by intro _; rfl) : SS X C (.Assign [.Name y py] (.ListComp elt [⟨tg, it, ifs, 0⟩] scope pos) spos) (tAsg (tLc w tgt tt te (own.map (·.2))) (gName i)) (sSet i (eLc (own.map (·.2)) fi g (eNox ft) (eNox fe))) :=
  ⟨ps_setLc hc hN hy hyl hsw li.pi ok (fun s H c cl fp => (hg s H c cl fp).pg) (fun s H c cl fp => (ht s H c cl fp).pt) (fun s H c cl fp => (he s H c cl fp).pe) hs,
    lk_set (lk_lc li.lk (hg X.s_0 X.H_0 0 [] []).lk (ht X.s_0 X.H_0 0 [] []).lk (he X.s_0 X.H_0 0 [] []).lk)⟩
theorem se_gstr {x z : Str} (h : ∃ t, X.mg x = some (Value.str z t)) (hg : Gl X x := by rfl) (hd : (x == ("__debug__" : Str)) = false := by decide) : SE X C (.Name x pos) (tC (.str z)) (eC (.str z)) := by
  obtain ⟨t, hm⟩ := h
  exact se_glob hm ⟨t, rfl⟩ (fun _ => .str z) hg hd
theorem se_gint {x : Str} {i : Int} (h : ∃ t, X.mg x = some (Value.int i t)) (hg : Gl X x := by rfl) (hd : (x == ("__debug__" : Str)) = false := by decide) : SE X C (.Name x pos) (tC (.int i)) (eC (.int i)) := by
  obtain ⟨t, hm⟩ := h
  exact se_glob hm ⟨t, rfl⟩ (fun _ => .int i) hg hd
end
theorem fn_of' {P : Program} {w : World} {K : KW} {mg : Str → Option Value} {base : Heap} {cv : Str → Value} {x qual : Str} {st : Stmt} {f : Addr} {fd : FuncData} (N : List Str) {ps : List Str} {k m n : Nat} {g : SF} (hm : N.length = m) (hn : ps.length = n) (F : Fun K x qual st f fd) (S : FnScope N ps (defScope st))
    (hb : ∀ (cdv : Value) (A : Around) (outer : List Env) (s : Shared) (H : Hp) (E : XK), Room k (cxF P w K mg base N qual st f cdv A outer s H E).A → Takes (cxF P w K mg base N qual st f cdv A outer s H E) (ctF K cv E).W →
      PassesOwn (model P w) (cxF P w K mg base N qual st f cdv A outer s H E).A (cxF P w K mg base N qual st f cdv A outer s H E).env (cxF P w K mg base N qual st f cdv A outer s H E).xe →
      ∃ t, SSs (cxF P w K mg base N qual st f cdv A outer s H E) (ctF K cv E) (defBody st) t g) :
    FnOk P w K mg base (L2.CX P w) (k + 1) f fd ps (spF K cv n (fnF m n g)) := by
  subst hm hn
  exact fn_mk F S hb
end GS
namespace GS
open PySem L2
section
variable {ρ ρ1 : Rho} {c : Prop} [Decidable c]
@[simp] theorem bindE_ok (h : Hd) (k : Hd → Rho → RE) : bindE (.ok h ρ) k = k h ρ := rfl
@[simp] theorem bindE_st (k : Hd → Rho → RE) : bindE .stuck k = .stuck := rfl
@[simp] theorem bindE_ex (x : Xc) (k : Hd → Rho → RE) : bindE (.exc x ρ) k = .exc x ρ := rfl
@[simp] theorem bindE_if (a b : RE) (k : Hd → Rho → RE) : bindE (if c then a else b) k = if c then bindE a k else bindE b k := by split <;> rfl
@[simp] theorem bindB_ok (b : Bool) (k : Bool → Rho → RE) : bindB (.ok (.sh (.bool b)) ρ) k = k b ρ := rfl
@[simp] theorem bindB_st (k : Bool → Rho → RE) : bindB .stuck k = .stuck := rfl
@[simp] theorem bindB_ex (x : Xc) (k : Bool → Rho → RE) : bindB (.exc x ρ) k = .exc x ρ := rfl
@[simp] theorem bindB_if (a b : RE) (k : Bool → Rho → RE) : bindB (if c then a else b) k = if c then bindB a k else bindB b k := by split <;> rfl
@[simp] theorem bindA_ok (h : List Hd) (k : List Hd → Rho → RE) : bindA (.ok h ρ) k = k h ρ := rfl
@[simp] theorem bindA_st (k : List Hd → Rho → RE) : bindA .stuck k = .stuck := rfl
@[simp] theorem bindA_ex (x : Xc) (k : List Hd → Rho → RE) : bindA (.exc x ρ) k = .exc x ρ := rfl
@[simp] theorem bindA_if (a b : RA) (k : List Hd → Rho → RE) : bindA (if c then a else b) k = if c then bindA a k else bindA b k := by split <;> rfl
@[simp] theorem bindES_ok (h : Hd) (k : Hd → Rho → RS) : bindES (.ok h ρ) k = k h ρ := rfl
@[simp] theorem bindES_st (k : Hd → Rho → RS) : bindES .stuck k = .stuck := rfl
@[simp] theorem bindES_ex (x : Xc) (k : Hd → Rho → RS) : bindES (.exc x ρ) k = .exc x ρ := rfl
@[simp] theorem bindES_if (a b : RE) (k : Hd → Rho → RS) : bindES (if c then a else b) k = if c then bindES a k else bindES b k := by split <;> rfl
@[simp] theorem bindBS_ok (b : Bool) (k : Bool → Rho → RS) : bindBS (.ok (.sh (.bool b)) ρ) k = k b ρ := rfl
@[simp] theorem bindBS_st (k : Bool → Rho → RS) : bindBS .stuck k = .stuck := rfl
@[simp] theorem bindBS_ex (x : Xc) (k : Bool → Rho → RS) : bindBS (.exc x ρ) k = .exc x ρ := rfl
@[simp] theorem bindBS_if (a b : RE) (k : Bool → Rho → RS) : bindBS (if c then a else b) k = if c then bindBS a k else bindBS b k := by split <;> rfl
@[simp] theorem bindEI_ok (h : Hd) (k : Hd → Rho → RI) : bindEI (.ok h ρ) k = k h ρ := rfl
@[simp] theorem bindEI_st (k : Hd → Rho → RI) : bindEI .stuck k = .stuck := rfl
@[simp] theorem bindEI_ex (x : Xc) (k : Hd → Rho → RI) : bindEI (.exc x ρ) k = .exc x ρ := rfl
@[simp] theorem bindEI_if (a b : RE) (k : Hd → Rho → RI) : bindEI (if c then a else b) k = if c then bindEI a k else bindEI b k := by split <;> rfl
@[simp] theorem bindS_nx (k : Rho → RS) : bindS (.nx ρ) k = k ρ := rfl
@[simp] theorem bindS_st (k : Rho → RS) : bindS .stuck k = .stuck := rfl
@[simp] theorem bindS_rt (h : Hd) (k : Rho → RS) : bindS (.rt h ρ) k = .rt h ρ := rfl
@[simp] theorem bindS_ex (x : Xc) (k : Rho → RS) : bindS (.exc x ρ) k = .exc x ρ := rfl
@[simp] theorem bindS_bk (k : Rho → RS) : bindS (.bk ρ) k = .bk ρ := rfl
@[simp] theorem bindS_ct (k : Rho → RS) : bindS (.ct ρ) k = .ct ρ := rfl
@[simp] theorem bindS_if (a b : RS) (k : Rho → RS) : bindS (if c then a else b) k = if c then bindS a k else bindS b k := by split <;> rfl
@[simp] theorem slot_nil (i : Nat) : slot [] i = none := rfl
@[simp] theorem slot_zero (x : Option Cel) : slot (x :: ρ) 0 = x := by cases x <;> rfl
@[simp] theorem slot_succ (x : Option Cel) (i : Nat) : slot (x :: ρ) (i + 1) = slot ρ i := rfl
@[simp] theorem getH_sh (d : D) : getH ρ (.sh d) = some d := rfl
@[simp] theorem getH_fr (d : D) : getH ρ (.fr d) = some d := rfl
@[simp] theorem getH_bw (i : Nat) : getH ρ (.bw i) = (slot ρ i).map (·.d) := rfl
@[simp] theorem setl_sh (d : D) : setl (.sh d) = .sh d := rfl
@[simp] theorem setl_fr (d : D) : setl (.fr d) = .sh d := rfl
@[simp] theorem setl_bw (i : Nat) : setl (.bw i) = .bw i := rfl
@[simp] theorem capH_sh (d : D) : capH ρ (.sh d) = some d := rfl
@[simp] theorem capH_fr (d : D) : capH ρ (.fr d) = some d := rfl
@[simp] theorem capH_bw (i : Nat) : capH ρ (.bw i) = match slot ρ i with | some ⟨d, .sh⟩ => some d | _ => none := rfl
@[simp] theorem eC_eq (d : D) : eC d ρ = .ok (.sh d) ρ := rfl
@[simp] theorem eVb_eq (i : Nat) : eVb i ρ = match slot ρ i with | some _ => .ok (.bw i) ρ | none => .stuck := rfl
@[simp] theorem eMv_eq (i : Nat) : eMv i ρ = match slot ρ i with | some ⟨d, .sh⟩ => .ok (.sh d) ρ | some ⟨d, .ow⟩ => .ok (.sh d) (ρ.set i (some ⟨d, .sh⟩)) | _ => .stuck := rfl
@[simp] theorem eRv_eq (i : Nat) : eRv i ρ = match slot ρ i with | some ⟨d, .sh⟩ => .ok (.sh d) ρ | some ⟨d, .ow⟩ => .ok (.fr d) (ρ.set i none) | _ => .stuck := rfl
@[simp] theorem eCap_eq (f : EF) : eCap f ρ = bindE (f ρ) fun h ρ' => match capH ρ' h with | some d => .ok (.sh d) ρ' | none => .stuck := rfl
@[simp] theorem eSet_eq (f : EF) : eSet f ρ = bindE (f ρ) fun h ρ' => .ok (setl h) ρ' := rfl
/-- of two data -/
def resO (o : Option Hd) (ρ : Rho) : RE := match o with | some h => .ok h ρ | none => .stuck
@[simp] theorem resO_s (h : Hd) : resO (some h) ρ = .ok h ρ := rfl
@[simp] theorem resO_n : resO none ρ = .stuck := rfl
@[simp] theorem resO_if (a b : Option Hd) : resO (if c then a else b) ρ = if c then resO a ρ else resO b ρ := by split <;> rfl
def bin2 (o : D → D → Option Hd) (a b : Option D) (ρ : Rho) : RE := match a, b with
  | some x, some y => resO (o x y) ρ
  | _, _ => .stuck
@[simp] theorem bin2_s (o : D → D → Option Hd) (x y : D) : bin2 o (some x) (some y) ρ = resO (o x y) ρ := rfl
@[simp] theorem eBin_eq (o : D → D → Option Hd) (f g : EF) : eBin o f g ρ = bindE (eSet f ρ) fun ha ρ1 => bindE (eSet g ρ1) fun hb ρ2 => bin2 o (getH ρ2 ha) (getH ρ2 hb) ρ2 := by
  unfold eBin bin2 resO
  rfl
def chn (o' : D → D → Option Hd) (hb : Hd) (fc : EF) (r : Option Hd) (ρ2 : Rho) : RE := match r with
  | some (.sh (.bool b)) => if b then bindE (eSet fc ρ2) (fun hc ρ3 => bin2 o' (getH ρ3 hb) (getH ρ3 hc) ρ3) else .ok (.sh (.bool false)) ρ2
  | _ => .stuck
@[simp] theorem chn_b (o' : D → D → Option Hd) (hb : Hd) (fc : EF) (b : Bool) : chn o' hb fc (some (.sh (.bool b))) ρ = if b then bindE (eSet fc ρ) (fun hc ρ3 => bin2 o' (getH ρ3 hb) (getH ρ3 hc) ρ3) else .ok (.sh (.bool false)) ρ := rfl
def chn0 (o o' : D → D → Option Hd) (hb : Hd) (fc : EF) (a b : Option D) (ρ2 : Rho) : RE := match a, b with
  | some x, some y => chn o' hb fc (o x y) ρ2
  | _, _ => .stuck
@[simp] theorem chn0_s (o o' : D → D → Option Hd) (hb : Hd) (fc : EF) (x y : D) : chn0 o o' hb fc (some x) (some y) ρ = chn o' hb fc (o x y) ρ := rfl
@[simp] theorem eChain_eq (o o' : D → D → Option Hd) (fa fb fc : EF) : eChain o o' fa fb fc ρ = bindE (eSet fa ρ) fun ha ρ1 => bindE (eSet fb ρ1) fun hb ρ2 => chn0 o o' hb fc (getH ρ2 ha) (getH ρ2 hb) ρ2 := by
  unfold eChain chn0 chn bin2 resO
  rfl
def tst (d : Option D) (ρ : Rho) : RE := match d with
  | some (.bool b) => .ok (.sh (.bool b)) ρ
  | _ => .stuck
@[simp] theorem tst_b (b : Bool) : tst (some (.bool b)) ρ = .ok (.sh (.bool b)) ρ := rfl
@[simp] theorem eB_eq (f : EF) : eB f ρ = bindE (eSet f ρ) fun h ρ1 => tst (getH ρ1 h) ρ1 := by unfold eB tst; rfl
@[simp] theorem eNot_eq (f : EF) : eNot f ρ = bindB (f ρ) fun b ρ1 => .ok (.sh (.bool (!b))) ρ1 := rfl
@[simp] theorem eAnd_eq (f g : EF) : eAnd f g ρ = bindB (f ρ) fun b ρ1 => if b then g ρ1 else .ok (.sh (.bool false)) ρ1 := rfl
@[simp] theorem eOr_eq (f g : EF) : eOr f g ρ = bindB (f ρ) fun b ρ1 => if b then .ok (.sh (.bool true)) ρ1 else g ρ1 := rfl
@[simp] theorem eIf_eq (f g h : EF) : eIf f g h ρ = bindB (f ρ) fun b ρ1 => if b then g ρ1 else h ρ1 := rfl
def negR (d : Option D) (ρ : Rho) : RE := match d with
  | some (.int i) => .ok (.sh (.int (-i))) ρ
  | _ => .stuck
@[simp] theorem negR_i (i : Int) : negR (some (.int i)) ρ = .ok (.sh (.int (-i))) ρ := rfl
@[simp] theorem eNeg_eq (f : EF) : eNeg f ρ = bindE (eSet f ρ) fun h ρ1 => negR (getH ρ1 h) ρ1 := by unfold eNeg negR; rfl
@[simp] theorem ePart_n (k : Option Int → Rho → RE) : ePart none ρ k = k none ρ := rfl
def partR (d : Option D) (ρ : Rho) (k : Option Int → Rho → RE) : RE := match d with
  | some (.int i) => k (some i) ρ
  | _ => .stuck
@[simp] theorem partR_i (i : Int) (k : Option Int → Rho → RE) : partR (some (.int i)) ρ k = k (some i) ρ := rfl
@[simp] theorem ePart_s (f : EF) (k : Option Int → Rho → RE) : ePart (some f) ρ k = bindE (eSet f ρ) fun h ρ1 => partR (getH ρ1 h) ρ1 k := by unfold ePart partR; rfl
@[simp] theorem eSl_eq (fe : EF) (fl fh : Option EF) : eSl fe fl fh ρ = bindE (eSet fe ρ) fun h ρ1 => ePart fl ρ1 fun lo ρ2 => ePart fh ρ2 fun hi ρ3 => resO ((getH ρ3 h).bind (slD lo hi)) ρ3 := by unfold eSl resO; rfl
@[simp] theorem aNil_eq : aNil ρ = .ok [] ρ := rfl
def consA (h : Hd) (r : RA) : RA := match r with
  | .stuck => .stuck
  | .exc x ρ2 => .exc x ρ2
  | .ok hs ρ2 => .ok (h :: hs) ρ2
def bindEA (r : RE) (k : Hd → Rho → RA) : RA := match r with
  | .stuck => .stuck
  | .exc x ρ1 => .exc x ρ1
  | .ok h ρ1 => k h ρ1
@[simp] theorem bindEA_ok (h : Hd) (k : Hd → Rho → RA) : bindEA (.ok h ρ) k = k h ρ := rfl
@[simp] theorem bindEA_st (k : Hd → Rho → RA) : bindEA .stuck k = .stuck := rfl
@[simp] theorem bindEA_ex (x : Xc) (k : Hd → Rho → RA) : bindEA (.exc x ρ) k = .exc x ρ := rfl
@[simp] theorem bindEA_if (a b : RE) (k : Hd → Rho → RA) : bindEA (if c then a else b) k = if c then bindEA a k else bindEA b k := by split <;> rfl
@[simp] theorem consA_ok (h : Hd) (hs : List Hd) : consA h (.ok hs ρ) = .ok (h :: hs) ρ := rfl
@[simp] theorem consA_st (h : Hd) : consA h .stuck = .stuck := rfl
@[simp] theorem consA_if (h : Hd) (a b : RA) : consA h (if c then a else b) = if c then consA h a else consA h b := by split <;> rfl
@[simp] theorem aCons_eq (f : EF) (g : AF) : aCons f g ρ = bindEA (eSet f ρ) fun h ρ1 => consA h (g ρ1) := by unfold aCons bindEA consA; rfl
@[simp] theorem shs_nil : shs [] = some [] := rfl
@[simp] theorem shs_cons (d : D) (hs : List Hd) : shs (.sh d :: hs) = (shs hs).map (d :: ·) := rfl
def tupR (d : Option (List D)) (ρ : Rho) : RE := match d with
  | some ds => if ds.length ≤ 1000 then .ok (.sh (.tuple ds)) ρ else .stuck
  | none => .stuck
def lstR (d : Option (List D)) (ρ : Rho) : RE := match d with
  | some ds => if ds.length ≤ 1000 then .ok (.fr (.list ds)) ρ else .stuck
  | none => .stuck
@[simp] theorem tupR_s (ds : List D) : tupR (some ds) ρ = if ds.length ≤ 1000 then .ok (.sh (.tuple ds)) ρ else .stuck := rfl
@[simp] theorem lstR_s (ds : List D) : lstR (some ds) ρ = if ds.length ≤ 1000 then .ok (.fr (.list ds)) ρ else .stuck := rfl
@[simp] theorem eTup_eq (f : AF) : eTup f ρ = bindA (f ρ) fun hs ρ1 => tupR (shs hs) ρ1 := by unfold eTup tupR; rfl
@[simp] theorem eLst_eq (f : AF) : eLst f ρ = bindA (f ρ) fun hs ρ1 => lstR (shs hs) ρ1 := by unfold eLst lstR; rfl
@[simp] theorem gets_nil : gets ρ [] = some [] := rfl
def cons2 (a : Option D) (b : Option (List D)) : Option (List D) := match a, b with
  | some d, some ds => some (d :: ds)
  | _, _ => none
@[simp] theorem cons2_s (d : D) (ds : List D) : cons2 (some d) (some ds) = some (d :: ds) := rfl
@[simp] theorem gets_cons (h : Hd) (hs : List Hd) : gets ρ (h :: hs) = cons2 (getH ρ h) (gets ρ hs) := by
  unfold cons2
  rw [gets]
  try rfl
@[simp] theorem eCB_eq (o : List D → Option Hd) (f : AF) : eCB o f ρ = bindA (f ρ) fun hs ρ1 => resO ((gets ρ1 hs).bind o) ρ1 := by unfold eCB resO; rfl
@[simp] theorem un1_1 (o : D → Option Hd) (d : D) : un1 o [d] = o d := rfl
@[simp] theorem un2_2 (o : D → D → Option Hd) (d e : D) : un2 o [d, e] = o d e := rfl
def isiR (p : D → Bool) (d : Option D) (ρ : Rho) : RE := match d with
  | some d => .ok (.sh (.bool (p d))) ρ
  | none => .stuck
@[simp] theorem isiR_s (p : D → Bool) (d : D) : isiR p (some d) ρ = .ok (.sh (.bool (p d))) ρ := rfl
@[simp] theorem eIsi_eq (p : D → Bool) (f : EF) : eIsi p f ρ = bindE (eSet f ρ) fun h ρ1 => isiR p (getH ρ1 h) ρ1 := by unfold eIsi isiR; rfl
@[simp] theorem isTup_t (ds : List D) : isTup (.tuple ds) = true := rfl
@[simp] theorem isBool_b (b : Bool) : isBool (.bool b) = true := rfl
@[simp] theorem isStr_s (b : Str) : isStr (.str b) = true := rfl
@[simp] theorem sNil_eq : sNil ρ = .nx ρ := rfl
@[simp] theorem sSeq_eq (f g : SF) : sSeq f g ρ = bindS (f ρ) g := rfl
def retR (h : Hd) (ρ : Rho) : RS := match h with
  | .bw i => match capH ρ (.bw i) with
    | some d => .rt (.sh d) ρ
    | none => .stuck
  | h => .rt h ρ
@[simp] theorem retR_sh (d : D) : retR (.sh d) ρ = .rt (.sh d) ρ := rfl
@[simp] theorem retR_fr (d : D) : retR (.fr d) ρ = .rt (.fr d) ρ := rfl
@[simp] theorem sRet_eq (f : EF) : sRet f ρ = bindES (f ρ) retR := by unfold sRet; rfl
@[simp] theorem sIf_eq (ft : EF) (f g : SF) : sIf ft f g ρ = bindBS (ft ρ) fun b ρ1 => if b then f ρ1 else g ρ1 := rfl
@[simp] theorem ioAt_nil (i : Nat) : ioAt [] i = false := rfl
@[simp] theorem ioAt_zn : ioAt (none :: ρ) 0 = false := rfl
@[simp] theorem ioAt_zs (d : D) : ioAt (some ⟨d, .sh⟩ :: ρ) 0 = false := rfl
@[simp] theorem ioAt_zo (d : D) : ioAt (some ⟨d, .ow⟩ :: ρ) 0 = false := rfl
@[simp] theorem ioAt_succ (x : Option Cel) (i : Nat) : ioAt (x :: ρ) (i + 1) = ioAt ρ i := rfl
@[simp] theorem sSet_eq (i : Nat) (f : EF) : sSet i f ρ = bindES (f ρ) fun h ρ1 => setHd ρ1 i h := rfl
@[simp] theorem setHd_sh (i : Nat) (d : D) : setHd ρ i (.sh d) = setR ρ i ⟨d, .sh⟩ := rfl
@[simp] theorem setHd_fr (i : Nat) (d : D) : setHd ρ i (.fr d) = setR ρ i ⟨d, .ow⟩ := rfl
def bindI (r : RI) (k : List D → Rho → RS) : RS := match r with
  | .stuck => .stuck
  | .exc x ρ1 => .exc x ρ1
  | .ok ds ρ1 => k ds ρ1
@[simp] theorem bindI_ok (ds : List D) (k : List D → Rho → RS) : bindI (.ok ds ρ) k = k ds ρ := rfl
@[simp] theorem bindI_st (k : List D → Rho → RS) : bindI .stuck k = .stuck := rfl
@[simp] theorem bindI_if (a b : RI) (k : List D → Rho → RS) : bindI (if c then a else b) k = if c then bindI a k else bindI b k := by split <;> rfl
@[simp] theorem sFor_eq (fi : IF) (g : D → Rho → Option Rho) (b : SF) : sFor fi g b ρ = bindI (fi ρ) fun ds ρ1 => forL g b ds ρ1 := by unfold sFor bindI; rfl
def seqR (h : Hd) (ρ : Rho) : RI := match h with
  | .sh d => match items d with
    | some ds => .ok ds ρ
    | none => .stuck
  | _ => .stuck
@[simp] theorem seqR_l (ds : List D) : seqR (.sh (.list ds)) ρ = .ok ds ρ := rfl
@[simp] theorem seqR_t (ds : List D) : seqR (.sh (.tuple ds)) ρ = .ok ds ρ := rfl
@[simp] theorem seqR_s (z : Str) : seqR (.sh (.str z)) ρ = .ok (z.cps.toList.map fun c => .str ⟨#[c]⟩) ρ := rfl
@[simp] theorem iSq_eq (f : EF) : iSq f ρ = bindEI (eCap f ρ) seqR := by unfold iSq; rfl
def rgR (d : Option D) (ρ : Rho) : RI := match d with
  | some (.int j) => if okR j then .ok (rgD 0 j.toNat) ρ else .stuck
  | _ => .stuck
@[simp] theorem rgR_i (j : Int) : rgR (some (.int j)) ρ = if okR j then .ok (rgD 0 j.toNat) ρ else .stuck := rfl
@[simp] theorem iR1_eq (f : EF) : iR1 f ρ = bindEI (eSet f ρ) fun h ρ1 => rgR (getH ρ1 h) ρ1 := by unfold iR1 rgR; rfl
def bindIE (r : RI) (k : List D → Rho → RE) : RE := match r with
  | .stuck => .stuck
  | .exc x ρ1 => .exc x ρ1
  | .ok ds ρ1 => k ds ρ1
@[simp] theorem bindIE_ok (ds : List D) (k : List D → Rho → RE) : bindIE (.ok ds ρ) k = k ds ρ := rfl
@[simp] theorem bindIE_st (k : List D → Rho → RE) : bindIE .stuck k = .stuck := rfl
@[simp] theorem bindIE_if (a b : RI) (k : List D → Rho → RE) : bindIE (if c then a else b) k = if c then bindIE a k else bindIE b k := by split <;> rfl
@[simp] theorem eLc_eq (vs : List Nat) (fi : IF) (g : D → Rho → Option Rho) (ft fe : EF) : eLc vs fi g ft fe ρ = bindIE (fi ρ) fun ds ρ1 => if vs.all fun i => !ioAt ρ1 i then lcL vs g ft fe ds [] (wipeR ρ1 vs) else .stuck := by unfold eLc bindIE; rfl
@[simp] theorem eNox_eq (f : EF) : eNox f ρ = match f ρ with | .exc _ _ => .stuck | r => r := rfl
@[simp] theorem wipeR_nil : wipeR ρ [] = ρ := rfl
@[simp] theorem wipeR_cons (v : Nat) (vs : List Nat) : wipeR ρ (v :: vs) = (wipeR ρ vs).set v none := rfl
@[simp] theorem addD_i (i j : Int) : addD (.int i) (.int j) = some (.sh (.int (i + j))) := rfl
@[simp] theorem addD_s (i j : Str) : addD (.str i) (.str j) = if i.length + j.length ≤ sizeLine then some (.sh (.str (i ++ j))) else none := rfl
@[simp] theorem addD_t (i j : List D) : addD (.tuple i) (.tuple j) = if i.length + j.length ≤ sizeLine then some (.sh (.tuple (i ++ j))) else none := rfl
@[simp] theorem addD_l (i j : List D) : addD (.list i) (.list j) = if i.length + j.length ≤ sizeLine then some (.fr (.list (i ++ j))) else none := rfl
@[simp] theorem subD_i (i j : Int) : subD (.int i) (.int j) = some (.sh (.int (i - j))) := rfl
theorem mulD_i (i j : Int) : mulD (.int i) (.int j) = if cMul i j then some (.sh (.int (i * j))) else none := rfl
theorem divD_i (i j : Int) : divD (.int i) (.int j) = if decide (0 < j) && Nat.ble j.natAbs 1073741823 then some (.sh (.int (i / j))) else none := rfl
theorem modD_i (i j : Int) : modD (.int i) (.int j) = if decide (0 < j) then some (.sh (.int (i % j))) else none := rfl
@[simp] theorem resO_div {i j : Int} (h0 : 0 < j) (h1 : j < 1073741824) : resO (divD (.int i) (.int j)) ρ = .ok (.sh (.int (i / j))) ρ := by
  rw [divD_i, decide_eq_true h0, Nat.ble_eq_true_of_le (show j.natAbs ≤ 1073741823 by omega)]; rfl
@[simp] theorem resO_mod {i j : Int} (h0 : 0 < j) : resO (modD (.int i) (.int j)) ρ = .ok (.sh (.int (i % j))) ρ := by
  rw [modD_i, decide_eq_true h0]; rfl
@[simp] theorem resO_mul {i j : Int} (h : cMul i j = true) : resO (mulD (.int i) (.int j)) ρ = .ok (.sh (.int (i * j))) ρ := by
  rw [mulD_i, h]; rfl
theorem cMul_r {i j : Int} (h : j.natAbs < 18446744073709551616) : cMul i j = true := by
  unfold cMul
  rw [Nat.ble_eq_true_of_le (show j.natAbs ≤ 18446744073709551615 by omega), Bool.or_true]
theorem powD_i (i j : Int) : powD (.int i) (.int j) = if decide (0 ≤ j) && Nat.ble j.natAbs 1000000 && Nat.ble i.natAbs 18446744073709551615 then some (.sh (.int (i ^ j.toNat))) else none := rfl
@[simp] theorem resO_pow {i j : Int} (h0 : 0 ≤ j) (h1 : j ≤ 1000000) (h2 : i.natAbs < 18446744073709551616) : resO (powD (.int i) (.int j)) ρ = .ok (.sh (.int (i ^ j.toNat))) ρ := by
  rw [powD_i, decide_eq_true h0, Nat.ble_eq_true_of_le (show j.natAbs ≤ 1000000 by omega), Nat.ble_eq_true_of_le (show i.natAbs ≤ 18446744073709551615 by omega)]; rfl
@[simp] theorem ltI_i (f : Int → Int → Bool) (i j : Int) : ltI f (.int i) (.int j) = some (.sh (.bool (f i j))) := rfl
@[simp] theorem lenD_l (ds : List D) : lenD (.list ds) = some (.sh (.int ds.length)) := rfl
@[simp] theorem lenD_t (ds : List D) : lenD (.tuple ds) = some (.sh (.int ds.length)) := rfl
@[simp] theorem lenD_s (z : Str) : lenD (.str z) = if z.length ≤ sizeLine then some (.sh (.int z.length)) else none := rfl
@[simp] theorem ixD_l (ds : List D) (i : Int) : ixD (.list ds) (.int i) = (atI ds i).map Hd.sh := rfl
@[simp] theorem ixD_t (ds : List D) (i : Int) : ixD (.tuple ds) (.int i) = (atI ds i).map Hd.sh := rfl
@[simp] theorem ixD_s (z : Str) (i : Int) : ixD (.str z) (.int i) = if z.length ≤ sizeLine then (atI z.cps.toList i).map fun c => Hd.sh (.str ⟨#[c]⟩) else none := rfl
@[simp] theorem slD_l (lo hi : Option Int) (ds : List D) : slD lo hi (.list ds) = some (.fr (.list (cutD ds lo hi))) := rfl
@[simp] theorem slD_t (lo hi : Option Int) (ds : List D) : slD lo hi (.tuple ds) = some (.sh (.tuple (cutD ds lo hi))) := rfl
@[simp] theorem slD_s (lo hi : Option Int) (z : Str) : slD lo hi (.str z) = if z.length ≤ sizeLine then some (.sh (.str (cutS z lo hi))) else none := rfl
@[simp] theorem listD_l (ds : List D) : listD (.list ds) = some (.fr (.list ds)) := rfl
@[simp] theorem listD_t (ds : List D) : listD (.tuple ds) = some (.fr (.list ds)) := rfl
@[simp] theorem tupleD_l (ds : List D) : tupleD (.list ds) = some (.sh (.tuple ds)) := rfl
@[simp] theorem tupleD_t (ds : List D) : tupleD (.tuple ds) = some (.sh (.tuple ds)) := rfl
@[simp] theorem inD_c (neg : Bool) (c : Nat) (z : Str) : inD neg (.str ⟨#[c]⟩) (.str z) = some (.sh (.bool (neg ^^ decide (c ∈ z.cps.toList)))) := rfl
end
end GS
namespace GS
open PySem L2
section
variable {ρ ρ1 : Rho} {c : Prop} [Decidable c]
/-- a def's end -/
def finR (n : Nat) (r : RS) : RE := match r with
  | .rt (.bw _) _ => .stuck
  | .rt h ρ1 => .ok h (outR ρ1 n)
  | .nx ρ1 => .ok (.sh .none) (outR ρ1 n)
  | .exc x ρ1 => .exc x (outR ρ1 n)
  | _ => .stuck
@[simp] theorem finR_sh (n : Nat) (d : D) : finR n (.rt (.sh d) ρ) = .ok (.sh d) (outR ρ n) := rfl
@[simp] theorem finR_fr (n : Nat) (d : D) : finR n (.rt (.fr d) ρ) = .ok (.fr d) (outR ρ n) := rfl
@[simp] theorem finR_nx (n : Nat) : finR n (.nx ρ) = .ok (.sh .none) (outR ρ n) := rfl
@[simp] theorem finR_ex (n : Nat) (x : Xc) : finR n (.exc x ρ) = .exc x (outR ρ n) := rfl
@[simp] theorem finR_if (n : Nat) (a b : RS) : finR n (if c then a else b) = if c then finR n a else finR n b := by split <;> rfl
theorem fnF_eq (m n : Nat) (g : SF) : fnF m n g ρ = finR n (g (ρ ++ List.replicate (m - n) none)) := by unfold fnF finR; rfl
@[simp] theorem ioC_sh (d : D) : ioC (some ⟨d, .sh⟩) = none := rfl
@[simp] theorem ioC_ow (d : D) : ioC (some ⟨d, .ow⟩) = none := rfl
@[simp] theorem ioC_io (d : D) : ioC (some ⟨d, .io⟩) = some ⟨d, .io⟩ := rfl
@[simp] theorem ioC_no : ioC none = none := rfl
/-- a call -/
def backR (ρ1 : Rho) (io : Option Nat) (hs : List Hd) (r : RE) : RE := match r with
    | .stuck => .stuck
    | .ok h outs => match h, putB ρ1 io hs outs with
      | .bw _, _ => .stuck
      | _, none => .stuck
      | _, some ρ2 => .ok h ρ2
    | .exc x outs => match putB ρ1 io hs outs with
      | none => .stuck
      | some ρ2 => .exc x ρ2
@[simp] theorem backR_sh (d : D) (hs : List Hd) (outs : Rho) : backR ρ none hs (.ok (.sh d) outs) = .ok (.sh d) ρ := rfl
@[simp] theorem backR_fr (d : D) (hs : List Hd) (outs : Rho) : backR ρ none hs (.ok (.fr d) outs) = .ok (.fr d) ρ := rfl
@[simp] theorem backR_ex (x : Xc) (hs : List Hd) (outs : Rho) : backR ρ none hs (.exc x outs) = .exc x ρ := rfl
@[simp] theorem backR_if (io : Option Nat) (hs : List Hd) (a b : RE) : backR ρ io hs (if c then a else b) = if c then backR ρ io hs a else backR ρ io hs b := by split <;> rfl
def callR (n : Nat) (io : Option Nat) (F : FF) (hs : List Hd) (ρ1 : Rho) (a : Option Rho) : RE := match a with
  | none => .stuck
  | some ρ0 => if ρ0.length ≠ n then .stuck else backR ρ1 io hs (F ρ0)
@[simp] theorem callR_s (n : Nat) (io : Option Nat) (F : FF) (hs : List Hd) (ρ0 : Rho) : callR n io F hs ρ (some ρ0) = if ρ0.length ≠ n then .stuck else backR ρ io hs (F ρ0) := rfl
@[simp] theorem eCall_eq (n : Nat) (io : Option Nat) (F : FF) (fs : AF) : eCall n io F fs ρ = bindA (fs ρ) fun hs ρ1 => callR n io F hs ρ1 (args ρ1 io 0 hs) := by
  unfold eCall callR backR
  rfl
@[simp] theorem args_nil (io : Option Nat) (k : Nat) : args ρ io k [] = some [] := rfl
def consC (a : Option Cel) (b : Option Rho) : Option Rho := match a, b with
  | some c, some r => some (some c :: r)
  | _, _ => none
@[simp] theorem consC_s (c : Cel) (r : Rho) : consC (some c) (some r) = some (some c :: r) := rfl
@[simp] theorem args_cons (io : Option Nat) (k : Nat) (h : Hd) (hs : List Hd) : args ρ io k (h :: hs) = consC (argC ρ (decide (io = some k)) h) (args ρ io (k + 1) hs) := by
  unfold consC
  rw [args]
  try rfl
@[simp] theorem argC_shf (d : D) : argC ρ false (.sh d) = some ⟨d, .sh⟩ := rfl
theorem okR_nat {m : Nat} (h : m ≤ 1000000000) : okR (m : Int) = true := by
  unfold okR
  rw [Int.natAbs_natCast]
  exact Nat.ble_eq_true_of_le h
@[simp] theorem forL_nil (g : D → Rho → Option Rho) (b : SF) : forL g b [] ρ = .nx ρ := rfl
/-- one turn's end -/
def turnR (k : Rho → RS) (r : RS) : RS := match r with
  | .nx ρ2 => k ρ2
  | .ct ρ2 => k ρ2
  | .bk ρ2 => .nx ρ2
  | r => r
@[simp] theorem turnR_nx (k : Rho → RS) : turnR k (.nx ρ) = k ρ := rfl
@[simp] theorem turnR_ct (k : Rho → RS) : turnR k (.ct ρ) = k ρ := rfl
@[simp] theorem turnR_bk (k : Rho → RS) : turnR k (.bk ρ) = .nx ρ := rfl
@[simp] theorem turnR_rt (k : Rho → RS) (h : Hd) : turnR k (.rt h ρ) = .rt h ρ := rfl
@[simp] theorem turnR_ex (k : Rho → RS) (x : Xc) : turnR k (.exc x ρ) = .exc x ρ := rfl
@[simp] theorem turnR_st (k : Rho → RS) : turnR k .stuck = .stuck := rfl
@[simp] theorem turnR_if (k : Rho → RS) (a b : RS) : turnR k (if c then a else b) = if c then turnR k a else turnR k b := by split <;> rfl
def optR (o : Option Rho) (k : Rho → RS) : RS := match o with
  | none => .stuck
  | some ρ1 => k ρ1
@[simp] theorem optR_s (k : Rho → RS) : optR (some ρ) k = k ρ := rfl
theorem forL_cons (g : D → Rho → Option Rho) (b : SF) (d : D) (ds : List D) : forL g b (d :: ds) ρ = optR (g d ρ) fun ρ1 => turnR (forL g b ds) (b ρ1) := by
  unfold optR turnR
  rw [forL]
  try rfl
def optE (o : Option Rho) (k : Rho → RE) : RE := match o with
  | none => .stuck
  | some ρ1 => k ρ1
@[simp] theorem optE_s (k : Rho → RE) : optE (some ρ) k = k ρ := rfl
theorem lcL_nil (vs : List Nat) (g : D → Rho → Option Rho) (ft fe : EF) (acc : List D) : lcL vs g ft fe [] acc ρ = .ok (.fr (.list acc)) ρ := rfl
def lcR (acc : List D) (k : List D → Rho → RE) (h : Hd) (ρ3 : Rho) : RE := match h with
  | .sh y => if acc.length < sizeLine then k (acc ++ [y]) ρ3 else .stuck
  | _ => .stuck
@[simp] theorem lcR_s (acc : List D) (k : List D → Rho → RE) (y : D) : lcR acc k (.sh y) ρ = if acc.length < sizeLine then k (acc ++ [y]) ρ else .stuck := rfl
theorem lcL_cons (vs : List Nat) (g : D → Rho → Option Rho) (ft fe : EF) (d : D) (ds acc : List D) : lcL vs g ft fe (d :: ds) acc ρ = optE (g d ρ) fun ρ1 => bindB (ft ρ1) fun c ρ2 => if c then bindE (eCap fe ρ2) (lcR acc fun acc' ρ3 => lcL vs g ft fe ds acc' (wipeR ρ3 vs)) else lcL vs g ft fe ds acc (wipeR ρ2 vs) := by
  unfold optE lcR
  rw [lcL]
  try rfl
@[simp] theorem gN_eq (i : Nat) (d : D) : gN i d ρ = if i < ρ.length && !ioAt ρ i then some (ρ.set i (some ⟨d, .sh⟩)) else none := rfl
@[simp] theorem optR_if (a b : Option Rho) (k : Rho → RS) : optR (if c then a else b) k = if c then optR a k else optR b k := by split <;> rfl
@[simp] theorem optE_if (a b : Option Rho) (k : Rho → RE) : optE (if c then a else b) k = if c then optE a k else optE b k := by split <;> rfl
@[simp] theorem setR_eq (i : Nat) (c : Cel) : setR ρ i c = if i < ρ.length && !ioAt ρ i then .nx (ρ.set i (some c)) else .stuck := rfl
theorem rgD_mid {lo : Int} {n : Nat} {pre : List D} {d : D} {post : List D} (h : rgD lo n = pre ++ d :: post) : pre.length < n ∧ d = .int (lo + (pre.length : Int)) := by
  have hl : (rgD lo n).length = n := by unfold rgD; rw [List.length_map, List.length_range]
  have h2 : (rgD lo n)[pre.length]? = some d := by rw [h, List.getElem?_append_right (Nat.le_refl _), Nat.sub_self]; rfl
  have h3 : pre.length < n := by rw [← hl]; exact (List.getElem?_eq_some_iff.mp h2).1
  refine ⟨h3, ?_⟩
  unfold rgD at h2
  rw [List.getElem?_map, List.getElem?_range h3] at h2
  exact (Option.some.inj h2).symm
theorem rgD_len (lo : Int) (n : Nat) : (rgD lo n).length = n := by unfold rgD; rw [List.length_map, List.length_range]
@[simp] theorem atI_zero {α : Type} (x : α) (xs : List α) : atI (x :: xs) 0 = some x := by
  have := atI_nat (xs := x :: xs) (j := 0) (v := x) rfl
  exact this
theorem atI_lt {α : Type} {xs : List α} {i : Int} (h0 : 0 ≤ i) (h1 : i < xs.length) : ∃ x, atI xs i = some x ∧ x ∈ xs := by
  have hk : i.toNat < xs.length := by omega
  have e : i = ((i.toNat : Nat) : Int) := by omega
  have q := atI_nat (xs := xs) (List.getElem?_eq_getElem hk)
  rw [← e] at q
  exact ⟨_, q, List.getElem_mem hk⟩
end
end GS
namespace GS
open PySem L2
def kEq : D → D → Bool
  | .int i, .int j => decide (i = j)
  | .str i, .str j => decide (i = j)
  | .tuple xs, .tuple ys => match tkD xs, tkD ys with
    | some k, some l => decide (k = l)
    | _, _ => false
  | _, _ => false
/-- what may be a key -/
def isK : D → Bool
  | .int _ => true
  | .str _ => true
  | .tuple ds => (tkD ds).isSome
  | _ => false
/-- a key of another sort than the dict's first -/
def mixB (ps : List (D × D)) (k : D) : Bool := match ps with
  | [] => false
  | p :: _ => tupB p.1 != tupB k
def dGet : List (D × D) → D → Option D
  | [], _ => none
  | (a, d) :: r, k => if kEq a k then some d else dGet r k
def dPut (ps : List (D × D)) (k v : D) : List (D × D) := if ps.any (fun p => kEq p.1 k) then ps.map (fun p => if kEq p.1 k then (p.1, v) else p) else ps ++ [(k, v)]
theorem tkD_tup {ds : List D} {k : NestedKey} (h : tkD ds = some k) : ∃ ks, k = .tup ks ∧ nkL ds = some ks ∧ k.depth ≤ 8 := by
  obtain ⟨ks, e1, e2⟩ := Option.bind_eq_some_iff.mp h
  obtain ⟨c, rfl⟩ := if_some e2
  exact ⟨ks, rfl, e1, c⟩
theorem isK_key {d : D} (h : isK d = true) : ∃ k, keyD d = some k := by
  cases d <;> first | (cases h; done) | skip
  · exact ⟨_, rfl⟩
  · exact ⟨_, rfl⟩
  · exact ⟨_, Option.some_get h |>.symm⟩
theorem kEq_key {a b : D} {k l : NestedKey} (ha : keyD a = some k) (hb : keyD b = some l) : kEq a b = decide (k = l) := by
  cases a <;> first | (cases ha; done) | skip
  · cases b <;> first | (cases hb; done) | skip
    · cases ha; cases hb; simp [kEq]
    · cases ha; cases hb; simp [kEq]
    · cases ha
      obtain ⟨ks, rfl, _⟩ := tkD_tup hb
      simp [kEq]
  · cases b <;> first | (cases hb; done) | skip
    · cases ha; cases hb; simp [kEq]
    · cases ha; cases hb; simp [kEq]
    · cases ha
      obtain ⟨ks, rfl, _⟩ := tkD_tup hb
      simp [kEq]
  · cases b <;> first | (cases hb; done) | skip
    · cases hb
      obtain ⟨ks, rfl, _⟩ := tkD_tup ha
      simp [kEq]
    · cases hb
      obtain ⟨ks, rfl, _⟩ := tkD_tup ha
      simp [kEq]
    · rename_i xs ys
      show (match tkD xs, tkD ys with | some k, some l => decide (k = l) | _, _ => false) = _
      rw [show tkD xs = some k from ha, show tkD ys = some l from hb]
section
variable {K : KW} {B H : Hp} {ρ : Rho} {σ : St} {x y v : V} {Q : VK} {b : Bool}
theorem Tp.key {k : Key} (h : Tp K B H v (kD k)) : v = kV k := by
  cases k
  · exact h.int
  · exact h.str
theorem rpx_get {kd : D} {k : NestedKey} (hk : keyD kd = some k) : ∀ {xs : List (NestedKey × Value × Value)} {ps : List (D × D)}, RpX K B b xs ps → (∀ d, dGet ps kd = some d → ∃ u v, look xs k = some u ∧ RelV v u ∧ Rp K B v d) ∧ (dGet ps kd = none → look xs k = none)
  | _, _, .nil => ⟨fun d h => (by cases h), fun _ => rfl⟩
  | _, _, .cons (k := k') (ku := ku) (u := u') (v := v') (xs := xs) (kd := kd') (d := d') (ps := ps) h1 h2 h3 h4 h5 h6 h7 => by
    obtain ⟨q1, q2⟩ := rpx_get hk h7
    have e1 : dGet ((kd', d') :: ps) kd = if k' = k then some d' else dGet ps kd := by
      show (if kEq kd' kd then some d' else dGet ps kd) = _
      rw [kEq_key h1 hk]
      by_cases e : k' = k <;> simp [e]
    rw [e1]
    by_cases e : k' = k
    · rw [if_pos e]
      refine ⟨fun d hd => ?_, fun hd => (by cases hd)⟩
      cases hd
      exact ⟨u', v', by simp [look, e], h5, h6⟩
    · rw [if_neg e]
      have e2 : look ((k', ku, u') :: xs) k = look xs k := by simp [look, e]
      rw [e2]
      exact ⟨q1, q2⟩
theorem rpx_is {kd : D} {k : NestedKey} (hk : keyD kd = some k) {xs : List (NestedKey × Value × Value)} {ps : List (D × D)} (h : RpX K B b xs ps) : (look xs k).isSome = (dGet ps kd).isSome := by
  obtain ⟨q1, q2⟩ := rpx_get hk h
  cases e : dGet ps kd with
  | none => rw [q2 e]; rfl
  | some d => obtain ⟨u, v, q, _⟩ := q1 d e; rw [q]; rfl
theorem rpx_len : ∀ {xs : List (NestedKey × Value × Value)} {ps : List (D × D)}, RpX K B b xs ps → xs.length = ps.length
  | _, _, .nil => rfl
  | _, _, .cons _ _ _ _ _ _ h => by rw [List.length_cons, List.length_cons, rpx_len h]
mutual
theorem nk_of {H : Hp} (s : Same B H) : ∀ {v : V} (d : D) {k : NestedKey}, Rp K B v d → nkD d = some k → NK H v k
  | _, .none, _, .non, e => by cases e; exact .non
  | _, .bool _, _, .bl b, e => by cases e; exact .bl b
  | _, .int _, _, .int i, e => by cases e; exact .int i
  | _, .str _, _, .str x, e => by cases e; exact .str x
  | _, .tuple ds, _, .tup h t, e => by
    rw [nkD] at e
    obtain ⟨ks, e1, rfl⟩ := Option.map_eq_some_iff.mp e
    exact .tup (same_x s h) (nks_of s ds t e1)
  | _, .list _, _, .lst _ _, e => by rw [nkD] at e; cases e
  | _, .dict _, _, .dct _ _, e => by rw [nkD] at e; cases e
  | _, .dict _, _, .exn _ _ _ _, e => by rw [nkD] at e; cases e
theorem nks_of {H : Hp} (s : Same B H) : ∀ {vs : List V} (ds : List D) {ks : List NestedKey}, RpL K B vs ds → nkL ds = some ks → NKs H vs ks
  | _, [], _, .nil, e => by rw [nkL] at e; cases e; exact .nil
  | _, d :: ds, _, .cons h t, e => by
    rw [nkL] at e
    obtain ⟨k, e1, e2⟩ := Option.bind_eq_some_iff.mp e
    obtain ⟨ks, e3, rfl⟩ := Option.map_eq_some_iff.mp e2
    exact .cons (nk_of s d h e1) (nks_of s ds t e3)
end
/-- a key that is a tuple -/
theorem tk_of {H : Hp} (s : Same B H) {v : V} {kd : D} {k : NestedKey} (h : Rp K B v kd) (e : keyD kd = some k) (ht : tupB kd = true) : ∃ b, KeyAt H v b k := by
  cases kd <;> first | (cases ht; done) | skip
  rename_i ds
  obtain ⟨ks, rfl, e1, c⟩ := tkD_tup (show tkD ds = some k from e)
  cases h with
  | tup q t => exact ⟨_, rfl, .tup (same_x s q) (nks_of s ds t e1), c⟩
/-- a key that is none -/
theorem sk_of {v : V} {kd : D} {k : NestedKey} (h : Rp K B v kd) (e : keyD kd = some k) (ht : tupB kd = false) : ∃ kk, v = kV kk ∧ kd = kD kk ∧ k = nkK kk := by
  cases kd <;> first | (cases e; done) | (cases ht; done) | skip
  · cases e; cases h; exact ⟨.inl _, rfl, rfl, rfl⟩
  · cases e; cases h; exact ⟨.inr _, rfl, rfl, rfl⟩
theorem rpx_T {H : Hp} (s : Same B H) : ∀ {xs : List (NestedKey × Value × Value)} {ps : List (D × D)}, RpX K B true xs ps → ∃ ys : List (NestedKey × Addr × Value), xs = ys.map refK ∧ KOk H ys ∧ ∀ y ∈ ys, ∃ kd, Rp K B (.ref y.2.1) kd ∧ keyD kd = some y.1 ∧ tupB kd = true
  | _, _, .nil => ⟨[], rfl, (fun _ m => by cases m), fun _ m => by cases m⟩
  | _, _, .cons (k := k) (u := u) (kd := kd) h1 h2 h3 h4 h5 h6 h7 => by
    obtain ⟨ys, rfl, q2, q3⟩ := rpx_T s h7
    obtain ⟨b, rfl, q4, q5⟩ := tk_of s h3 h1 h2
    cases h4
    refine ⟨(k, b, u) :: ys, rfl, fun y m => ?_, fun y m => ?_⟩
    · cases m with
      | head => exact ⟨q4, q5⟩
      | tail _ m => exact q2 y m
    · cases m with
      | head => exact ⟨kd, h3, h1, h2⟩
      | tail _ m => exact q3 y m
/-- keys that are ints and texts, by key and value -/
def RpS (K : KW) (B : Hp) : List (Key × Value) → List (D × D) → Prop := Paired fun p q => q.1 = kD p.1 ∧ ∃ v, RelV v p.2 ∧ Rp K B v q.2
theorem rpx_S : ∀ {xs : List (NestedKey × Value × Value)} {ps : List (D × D)}, RpX K B false xs ps → ∃ ys, xs = ys.map valK ∧ SOk ys ∧ RpS K B (pairK ys) ps
  | _, _, .nil => ⟨[], rfl, (fun _ m => by cases m), .nil⟩
  | _, _, .cons (ku := ku) (u := u) h1 h2 h3 h4 h5 h6 h7 => by
    obtain ⟨ys, rfl, q2, q3⟩ := rpx_S h7
    obtain ⟨kk, rfl, rfl, rfl⟩ := sk_of h3 h1 h2
    refine ⟨(kk, ku, u) :: ys, rfl, fun y m => ?_, .cons ⟨rfl, _, h5, h6⟩ q3⟩
    cases m with
    | head => exact (by
        cases kk
        · obtain ⟨t, rfl⟩ := h4; exact keyIs_int _ t
        · obtain ⟨t, rfl⟩ := h4; exact keyIs_str _ t)
    | tail _ m => exact q2 y m
theorem rp_kV (k : Key) : Rp K B (kV k) (kD k) := by
  cases k
  · exact .int _
  · exact .str _
theorem relV_key {k : Key} {u : Value} (h : keyIs k u = true) : RelV (kV k) u := by
  rcases keyIs_shape h with ⟨i, t, rfl, rfl⟩ | ⟨x, t, rfl, rfl⟩
  · exact ⟨t, rfl⟩
  · exact ⟨t, rfl⟩
theorem keyD_k (k : Key) : keyD (kD k) = some (nkK k) ∧ tupB (kD k) = false := by cases k <;> exact ⟨rfl, rfl⟩
theorem rps_X : ∀ {ys : List (Key × Value × Value)} {ps : List (D × D)}, SOk ys → RpS K B (pairK ys) ps → RpX K B false (ys.map valK) ps
  | [], _, _, r => by cases r; exact .nil
  | y :: ys, _, h, r => by
    cases r with
    | @cons p q _ qs hq t =>
      obtain ⟨kd, d⟩ := q
      obtain ⟨e1, v, e2, e3⟩ := hq
      simp only at e1
      subst e1
      obtain ⟨e4, e5⟩ := keyD_k y.1
      exact .cons e4 e5 (rp_kV y.1) (relV_key (h y (by simp))) e2 e3 (rps_X (fun z m => h z (by simp [m])) t)
theorem kEq_k (a b : Key) : kEq (kD a) (kD b) = decide (a = b) := by
  cases a <;> cases b <;> simp [kD, kEq]
theorem rps_any {k : Key} : ∀ {vs : List (Key × Value)} {ps : List (D × D)}, RpS K B vs ps → (vs.any fun kv => decide (kv.1 = k)) = ps.any fun p => kEq p.1 (kD k)
  | _, _, .nil => rfl
  | _, _, .cons h t => by rw [List.any_cons, List.any_cons, rps_any t, h.1, kEq_k]
theorem rps_map {k : Key} {d : D} {v : V} {u : Value} (r : RelV v u) (q : Rp K B v d) : ∀ {vs : List (Key × Value)} {ps : List (D × D)}, RpS K B vs ps → RpS K B (vs.map fun kv => if kv.1 = k then (kv.1, u) else kv) (ps.map fun p => if kEq p.1 (kD k) then (p.1, d) else p)
  | _, _, .nil => .nil
  | _, _, .cons (a := p) (b := z) h t => by
    rw [List.map_cons, List.map_cons, h.1, kEq_k]
    by_cases e : p.1 = k
    · simp only [e, if_true, decide_true]
      exact .cons ⟨rfl, v, r, q⟩ (rps_map r q t)
    · simp only [e, if_false, decide_false, Bool.false_eq_true]
      exact .cons h (rps_map r q t)
theorem rps_app {k : Key} {d : D} {v : V} {u : Value} (r : RelV v u) (q : Rp K B v d) : ∀ {vs : List (Key × Value)} {ps : List (D × D)}, RpS K B vs ps → RpS K B (vs ++ [(k, u)]) (ps ++ [(kD k, d)])
  | _, _, .nil => .cons ⟨rfl, v, r, q⟩ .nil
  | _, _, .cons h t => .cons h (rps_app r q t)
theorem rps_put {k : Key} {d : D} {v : V} {u : Value} (r : RelV v u) (q : Rp K B v d) {vs : List (Key × Value)} {ps : List (D × D)} (h : RpS K B vs ps) : RpS K B (stored vs k u) (dPut ps (kD k) d) := by
  unfold stored dPut
  rw [rps_any h]
  split
  · exact rps_map r q h
  · exact rps_app r q h
/-- keys that are tuples, put -/
theorem rpx_any {kd : D} {k : NestedKey} (hk : keyD kd = some k) : ∀ {ys : List (NestedKey × Addr × Value)} {ps : List (D × D)}, RpX K B true (ys.map refK) ps → (ps.any fun p => kEq p.1 kd) = (atKey ys k).isSome
  | [], _, h => by cases h; rfl
  | y :: ys, _, h => by
    cases h with
    | cons h1 h2 h3 h4 h5 h6 h7 =>
      have ih := rpx_any hk h7
      rw [List.any_cons, kEq_key h1 hk, ih]
      by_cases e : y.1 = k <;> simp [atKey, e]
theorem rpx_map {kd d : D} {k : NestedKey} {u : Value} {v : V} (hk : keyD kd = some k) (r : RelV v u) (q : Rp K B v d) : ∀ {ys : List (NestedKey × Addr × Value)} {ps : List (D × D)}, RpX K B true (ys.map refK) ps → RpX K B true ((ys.map (putAt k u)).map refK) (ps.map fun p => if kEq p.1 kd then (p.1, d) else p)
  | [], _, h => by cases h; exact .nil
  | y :: ys, _, h => by
    cases h with
    | cons h1 h2 h3 h4 h5 h6 h7 =>
      have ih := rpx_map hk r q h7
      rw [List.map_cons, List.map_cons, List.map_cons, kEq_key h1 hk]
      by_cases e : y.1 = k
      · simp only [putAt, e, if_true, decide_true]
        exact .cons (e ▸ h1) h2 h3 h4 r q ih
      · simp only [putAt, e, if_false, decide_false, Bool.false_eq_true]
        exact .cons h1 h2 h3 h4 h5 h6 ih
theorem rpx_app {kd d : D} {k : NestedKey} {a : Addr} {u : Value} {v : V} (hk : keyD kd = some k) (ht : tupB kd = true) (ha : Rp K B (.ref a) kd) (r : RelV v u) (q : Rp K B v d) : ∀ {ys : List (NestedKey × Addr × Value)} {ps : List (D × D)}, RpX K B true (ys.map refK) ps → RpX K B true ((ys ++ [(k, a, u)]).map refK) (ps ++ [(kd, d)])
  | [], _, h => by cases h; exact .cons hk ht ha rfl r q .nil
  | y :: ys, _, h => by
    cases h with
    | cons h1 h2 h3 h4 h5 h6 h7 => exact .cons h1 h2 h3 h4 h5 h6 (rpx_app hk ht ha r q h7)
theorem rpx_put {kd d : D} {k : NestedKey} {a : Addr} {u : Value} {v : V} (hk : keyD kd = some k) (ht : tupB kd = true) (ha : Rp K B (.ref a) kd) (r : RelV v u) (q : Rp K B v d) {ys : List (NestedKey × Addr × Value)} {ps : List (D × D)} (h : RpX K B true (ys.map refK) ps) : RpX K B true ((storedH ys k a u).map refK) (dPut ps kd d) := by
  unfold storedH dPut
  rw [rpx_any hk h]
  split
  · exact rpx_map hk r q h
  · exact rpx_app hk ht ha r q h
/-- of the sort of the key asked for -/
theorem rpx_sort {xs : List (NestedKey × Value × Value)} {ps : List (D × D)} {kd : D} (h : RpX K B b xs ps) (m : mixB ps kd = false) : RpX K B (tupB kd) xs ps := by
  cases h with
  | nil => exact .nil
  | cons h1 h2 h3 h4 h5 h6 h7 =>
    have m : (tupB _ != tupB kd) = false := m
    rw [h2] at m
    have e : b = tupB kd := by simpa using m
    subst e
    exact .cons h1 h2 h3 h4 h5 h6 h7
theorem rpx_got {xs : List (NestedKey × Value × Value)} {ps : List (D × D)} {kd d : D} {k : NestedKey} (hk : keyD kd = some k) (h : RpX K B b xs ps) (e : dGet ps kd = some d) : b = tupB kd := by
  induction ps generalizing xs with
  | nil => cases e
  | cons p ps ih =>
    cases h with
    | @cons _ k' _ _ _ _ _ kd' _ _ h1 h2 h3 h4 h5 h6 h7 =>
      by_cases q : k' = k
      · subst q
        rw [← h2]
        cases kd' <;> first | (cases h1; done) | skip
        · cases h1
          cases kd <;> first | (cases hk; done) | rfl | skip
          obtain ⟨ks, z, _⟩ := tkD_tup hk
          cases z
        · cases h1
          cases kd <;> first | (cases hk; done) | rfl | skip
          obtain ⟨ks, z, _⟩ := tkD_tup hk
          cases z
        · obtain ⟨ks, rfl, _⟩ := tkD_tup h1
          cases kd <;> first | (cases hk; done) | rfl
      · refine ih h7 ?_
        have e : (if kEq kd' kd then some _ else dGet ps kd) = some d := e
        rw [kEq_key h1 hk] at e
        simpa [q] using e
/-- y may be asked of it -/
theorem look_of {H : Hp} (s : Same B H) {a : Addr} {ep : Nat} {xs : List (NestedKey × Value × Value)} {ps : List (D × D)} {kd : D} {k : NestedKey} (e : H a = some (dX K.w a ep xs)) (h : RpX K B (tupB kd) xs ps) (hk : keyD kd = some k) (r : Rp K B y kd) : LookX K.w H a y (look xs k) := by
  refine ⟨ep, xs, k, e, rfl, ?_⟩
  cases ht : tupB kd with
  | true =>
    rw [ht] at h
    obtain ⟨ys, rfl, q2, _⟩ := rpx_T s h
    obtain ⟨b, q⟩ := tk_of s r hk ht
    exact .inl ⟨b, ys, rfl, q2, q⟩
  | false =>
    rw [ht] at h
    obtain ⟨ys, rfl, q2, _⟩ := rpx_S h
    obtain ⟨kk, rfl, rfl, rfl⟩ := sk_of r hk ht
    exact .inr ⟨ys, kk, rfl, q2, rfl, rfl⟩
/-- what a dict stands as -/
theorem Tp.dcs {H : Hp} {v : V} {ps : List (D × D)} (h : Tp K B H v (.dict ps)) (hx : (∃ d, ps = [(.none, d)]) → False) : ∃ a ep b xs, v = .ref a ∧ H a = some (dX K.w a ep xs) ∧ RpX K B b xs ps := by
  rcases h with h | ⟨z, h⟩
  · exact h
  · cases h with
    | dct _ r =>
      cases r with
      | nil => cases z
      | @cons _ _ _ _ _ _ _ kd _ _ h1 _ _ _ _ _ _ => cases kd <;> first | (cases z; done) | cases h1
    | exn _ _ _ _ => exact (hx ⟨_, rfl⟩).elim
theorem dGet_xn {ps : List (D × D)} (h : ∃ d, ps = [(.none, d)]) (k : D) : dGet ps k = none := by
  obtain ⟨d, rfl⟩ := h
  cases k <;> rfl
/-- a key as it stands -/
theorem Tp.rpK {H : Hp} {v : V} {kd : D} {k : NestedKey} (h : Tp K B H v kd) (hk : keyD kd = some k) : Rp K B v kd := by
  cases kd <;> first | (cases hk; done) | exact h
def dgD : D → D → Option Hd
  | .dict ps, k => if isK k then (dGet ps k).map Hd.sh else none
  | _, _ => none
theorem ol_dg : OpL K (rXG K.w) dgD := fun ρ σ B H x y dx dy h Q S tx ty e k => by
  cases dx <;> first | (cases (show none = some h from e); done) | skip
  rename_i ps
  replace e : (if isK dy then (dGet ps dy).map Hd.sh else none) = some h := e
  split at e
  · rename_i hk
    obtain ⟨d, e1, rfl⟩ := Option.map_eq_some_iff.mp e
    obtain ⟨a, ep, b, xs, rfl, ha, ra⟩ := tx.dcs fun z => by
      rw [dGet_xn z dy] at e1
      cases e1
    obtain ⟨nk, hn⟩ := isK_key hk
    have eb := rpx_got hn ra e1
    subst eb
    obtain ⟨u, v, q1, q2, q3⟩ := (rpx_get hn ra).1 d e1
    have q4 := look_of S.bh ha ra hn (ty.rpK hn)
    rw [q1] at q4
    exact ⟨a, u, v, rfl, q4, q2, now S q3 k⟩
  · cases e
def ixA : D → D → Option Hd
  | .dict ps, k => dgD (.dict ps) k
  | d, k => ixD d k
def rIxA (K : PySem.W.Frag) (w : World) : R2 := fun x y H Q => rIx K x y H Q ∨ rXG w x y H Q
theorem ol_ixA : OpL K (rIxA K K.w) ixA := fun ρ σ B H x y dx dy h Q S tx ty e k => by
  cases dx with
  | dict ps => exact .inr (ol_dg ρ σ B H x y _ dy h Q S tx ty e k)
  | _ => exact .inl (ol_ix ρ σ B H x y _ dy h Q S tx ty e k)
def dinD (neg : Bool) : D → D → Option Hd
  | k, .dict ps => if isK k && !xnB ps && !mixB ps k then some (.sh (.bool (neg ^^ (dGet ps k).isSome))) else none
  | _, _ => none
theorem ol_din {neg : Bool} : OpL K (rXin neg K.w) (dinD neg) := fun ρ σ B H x y dx dy h Q S tx ty e k => by
  cases dy <;> first | (cases dx <;> cases (show none = some h from e); done) | skip
  rename_i ps
  replace e : (if isK dx && !xnB ps && !mixB ps dx then some (Hd.sh (.bool (neg ^^ (dGet ps dx).isSome))) else none) = some h := by cases dx <;> exact e
  obtain ⟨hk, rfl⟩ := if_some e
  rw [Bool.and_eq_true, Bool.and_eq_true] at hk
  obtain ⟨⟨hk, hx⟩, hm⟩ := hk
  have hm : mixB ps dx = false := by simpa using hm
  obtain ⟨a, ep, b, xs, rfl, ha, ra⟩ := ty.dcs fun z => by
    obtain ⟨d, rfl⟩ := z
    cases hx
  obtain ⟨nk, hn⟩ := isK_key hk
  have ra := rpx_sort ra hm
  refine ⟨a, _, rfl, look_of S.bh ha ra hn (tx.rpK hn), ?_⟩
  rw [rpx_is hn ra]
  exact now S (.bl _) k
def inB (neg : Bool) : D → D → Option Hd
  | k, .dict ps => dinD neg k (.dict ps)
  | a, b => inD neg a b
theorem op_inB {X : Cx} (hu : X.A.units + 65 < cLine) : OpR X (compareOp .In) (fun x y H Q => rInA X.K x y H Q ∨ rXin false X.w x y H Q) := OpR.or (op_inA hu) (op_Xin hu)
theorem op_notInB {X : Cx} (hu : X.A.units + 65 < cLine) : OpR X (compareOp .NotIn) (fun x y H Q => rNotInA X.K x y H Q ∨ rXin true X.w x y H Q) := OpR.or (op_notInA hu) (op_Xni hu)
theorem ol_inB : OpL K (fun x y H Q => rInA K x y H Q ∨ rXin false K.w x y H Q) (inB false) := fun ρ σ B H x y dx dy h Q S tx ty e k => by
  cases dy with
  | dict ps => exact .inr (ol_din ρ σ B H x y dx _ h Q S tx ty (by cases dx <;> exact e) k)
  | _ => exact .inl (ol_in ρ σ B H x y dx _ h Q S tx ty (by cases dx <;> exact e) k)
theorem ol_notInB : OpL K (fun x y H Q => rNotInA K x y H Q ∨ rXin true K.w x y H Q) (inB true) := fun ρ σ B H x y dx dy h Q S tx ty e k => by
  cases dy with
  | dict ps => exact .inr (ol_din ρ σ B H x y dx _ h Q S tx ty (by cases dx <;> exact e) k)
  | _ => exact .inl (ol_notIn ρ σ B H x y dx _ h Q S tx ty (by cases dx <;> exact e) k)
end
section
variable {X : Cx} {C : Ct} {a b e : Expr} {ta tb te : TE} {fa fb fe : EF} {pos pos' q1 : Pos} {ρ ρ1 : Rho} {σ : St} {B H B1 H1 : Hp}
theorem se_ixA (hu : X.A.units + 65 < cLine) (la : SE X C a ta fa) (lb : SE X C b tb fb) (hk : X.K = C.K := by rfl) (hw : X.w = C.K.w := by rfl) (hs : PlainIx b := by intro _ _; rfl) : SE X C (.Subscript a b pos) (tOp (rIxA C.K C.K.w) ta tb) (eBin ixA fa fb) :=
  ⟨by rw [← hk, ← hw]; exact pe_ix (IxR.or ix_seq (ix_dX hu)) la.pe lb.pe hs, lk_op ol_ixA la.lk lb.lk⟩
def setD (k y : D) : D → Option D
  | .list ds => match k with
    | .int i => (ixN ds.length i).map fun j => .list (ds.set j y)
    | _ => none
  | .dict ps => if isK k && !mixB ps k && decide (ps.length < sizeLine) then some (.dict (dPut ps k y)) else none
  | _ => none
def rSetA (w : World) : TSet := fun o i v H Q => rSetL o i v H Q ∨ rXS w o i v H Q
theorem set_any (hu : X.A.units + 65 < cLine) : PSet X (rSetA X.w) := by
  intro pins s σ H o i v ov iv u Q I ro ri rv h
  rcases h with h | h
  · exact set_list pins s σ H o i v ov iv u Q I ro ri rv h
  · exact set_dX hu pins s σ H o i v ov iv u Q I ro ri rv h
def sPut (i : Nat) (fi fe : EF) : SF := fun ρ => bindES (eCap fe ρ) fun h ρ1 => match h with
  | .sh y => match slot ρ1 i with
    | none => .stuck
    | some _ => bindES (eCap fi ρ1) fun hi ρ2 => match hi with
      | .sh k => mutS ρ2 i (setD k y)
      | _ => .stuck
  | _ => .stuck
theorem ss_put {i : Nat} {x : Str} (hu : X.A.units + 65 < cLine) (lb : SE X C b tb fb) (l : SE X C e te fe) (hN : X.N[i]? = some x := by rfl) (hv : Vis X.env.scope x := by first | exact Or.inl rfl | exact Or.inr (Or.inl rfl) | exact Or.inr (Or.inr rfl)) (hd : (x == ("__debug__" : Str)) = false := by decide)
    (hcd : (x == ("__classdict__" : Str)) = false := by decide)
    (ha : ∀ v, assign (.Subscript (.Name x q1) b pos') X.env v = (do
      let ov ← holding [v] (eval (.Name x q1) X.env)
      let iv ← holding [v, ov] (eval b X.env)
      standAt pos'
      holding [v, ov, iv] (setItem ov iv v)
      release [v, ov, iv] []) := by intro _; rfl)
    (hs : swapsWithSole [.Subscript (.Name x q1) b pos'] e pos.line X.env = pure false := by rfl) (hw : X.w = C.K.w := by rfl) :
    SS X C (.Assign [.Subscript (.Name x q1) b pos'] e pos) (tAsg te (gSub (tVar i) tb (rSetA C.K.w))) (sPut i fb fe) := by
  refine ⟨by rw [← hw]; exact ps_asg l.pe (pg_sub (pe_var hN hv hd hcd) lb.pe (set_any hu) ha) hs, fun ρ σ B H E S g => ?_⟩
  refine l.lk.cap.bindS S g fun hd ρ1 v B1 H1 S1 x1 y1 g1 => ?_
  cases hd with
  | sh y =>
    dsimp only at g1
    split at g1
    · exact g1.elim
    rename_i c ec
    obtain ⟨v0, e0, _⟩ := S1.sl i c (slot_some ec)
    refine ⟨v0, e0, ?_⟩
    refine lb.lk.cap.bindS S1 (GoodS.ext x1 g1) fun hi ρ2 w B2 H2 S2 x2 y2 g2 => ?_
    cases hi with
    | sh k =>
      obtain ⟨c, d', h1, h2, h3, h4⟩ := mutS_ok g2
      obtain ⟨a', ea', hb, ow⟩ := S2.own h1 h2
      rw [e0] at ea'
      cases ea'
      obtain ⟨d, fl⟩ := c
      have y1' : Rp C.K B2 v y := Rp.mono x2.bb y1
      cases d with
      | list ds =>
        cases k <;> first | (cases h3; done) | skip
        rename_i ki
        obtain ⟨j, ej, rfl⟩ := Option.map_eq_some_iff.mp h3
        obtain ⟨ws, ew, rw'⟩ := ow
        have ow' : Ow C.K B2 a' (some (.lst (ws.set j v))) (.list (ds.set j y)) := ⟨_, rfl, RpL.set y1' j rw'⟩
        obtain ⟨S3, x3⟩ := S2.mut h1 h2 e0 ow'
        cases (show Rp C.K B2 w (.int ki) from y2)
        exact .inl ⟨a', ws, ki, j, rfl, rfl, ew, by rw [rw'.length]; exact ej, h4 _ _ _ S3 (x2.trans x3)⟩
      | dict ps =>
        obtain ⟨hc, rfl⟩ := if_some (show (if isK k && !mixB ps k && decide (ps.length < sizeLine) then some (PyData.dict (dPut ps k y)) else none) = some d' from h3)
        rw [Bool.and_eq_true, Bool.and_eq_true] at hc
        obtain ⟨⟨hk, hm⟩, hz⟩ := hc
        have hm : mixB ps k = false := by simpa using hm
        have hz := of_decide_eq_true hz
        obtain ⟨nk, hn⟩ := isK_key hk
        obtain ⟨ep, b, xs, ew, rk⟩ := ow
        have rk := rpx_sort rk hm
        refine .inr ⟨a', ep, xs, rfl, ew, by rw [rpx_len rk]; exact hz, ?_⟩
        cases ht : tupB k with
        | true =>
          rw [ht] at rk
          obtain ⟨ys, rfl, q2, _⟩ := rpx_T S2.bh rk
          obtain ⟨b, q⟩ := tk_of S2.bh y2 hn ht
          obtain rfl := q.1
          refine .inl ⟨b, ys, nk, rfl, q2, q, fun ep u ru => ?_⟩
          have ow' : Ow C.K B2 a' (some (dX C.K.w a' ep ((storedH ys nk b u).map refK))) (.dict (dPut ps k y)) := ⟨ep, true, _, rfl, rpx_put hn ht y2 ru y1' rk⟩
          obtain ⟨S3, x3⟩ := S2.mut h1 h2 e0 ow'
          exact h4 _ _ _ S3 (x2.trans x3)
        | false =>
          rw [ht] at rk
          obtain ⟨ys, rfl, q2, q3⟩ := rpx_S rk
          obtain ⟨kk, rfl, rfl, rfl⟩ := sk_of y2 hn ht
          refine .inr ⟨ys, kk, rfl, q2, rfl, fun ep u zs ru z1 z2 => ?_⟩
          have ow' : Ow C.K B2 a' (some (dX C.K.w a' ep (zs.map valK))) (.dict (dPut ps (kD kk) y)) := ⟨ep, false, _, rfl, rps_X z1 (by rw [z2]; exact rps_put ru y1' q3)⟩
          obtain ⟨S3, x3⟩ := S2.mut h1 h2 e0 ow'
          exact h4 _ _ _ S3 (x2.trans x3)
      | _ => cases h3
    | _ => exact g2.elim
  | _ => exact g1.elim
end
end GS
namespace GS
open PySem L2
inductive RP where | stuck | ok (ps : List (D × D)) (ρ : Rho) | exc (x : Xc) (ρ : Rho)
abbrev PF := Rho → RP
section
variable {X : Cx} {C : Ct} {a b e : Expr} {ta tb te tk tv : TE} {fa fb fe fk fv : EF} {pos pos' q1 : Pos} {ρ ρ1 : Rho} {σ : St} {B H B1 H1 : Hp} {K : KW}
def dNil : PF := fun ρ => .ok [] ρ
def GoodP (C : Ct) (ρ : Rho) (σ : St) (B H : Hp) (Q : List (V × V) → Hp → Prop) : RP → Prop
  | .stuck => False
  | .ok ps ρ' => ∀ kvs B' H', Sim C.K ρ' σ B' H' → Ext ρ σ B H ρ' σ B' H' → RpK C.K B' kvs ps → Q (kvs.map fun kv => (kV kv.1, kv.2)) H'
  | .exc x ρ' => ∀ cls dct B' H', Sim C.K ρ' σ B' H' → Ext ρ σ B H ρ' σ B' H' → XcOk C B' x cls dct → C.W cls dct σ H'
theorem GoodP.ext {Q : List (V × V) → Hp → Prop} (x : Ext ρ σ B H ρ1 σ B1 H1) : ∀ {r : RP}, GoodP C ρ σ B H Q r → GoodP C ρ1 σ B1 H1 Q r
  | .stuck, g => g
  | .ok _ _, g => fun vs B' H' s y z => g vs B' H' s (x.trans y) z
  | .exc _ _, g => fun c d B' H' s y z => g c d B' H' s (x.trans y) z
def dMerge (ps : List (D × D)) : List (D × D) := ps.foldl (fun acc p => dPut acc p.1 p.2) []
def eDct (g : PF) : EF := fun ρ => match g ρ with
  | .stuck => .stuck
  | .exc x ρ1 => .exc x ρ1
  | .ok ps ρ1 => if ps.length ≤ 15 then .ok (.fr (.dict (dMerge ps))) ρ1 else .stuck
end
end GS
namespace GS
open PySem L2
section
variable {X : Cx} {C : Ct} {e0 : Expr} {es : List Expr} {pos p : Pos} {x : Str} {k n : Nat} {f : Addr} {fd : FuncData} {ps : List Str} {F : FF} {t : TA} {g : AF} {t0 : TE} {f0 : EF}
end
end GS
namespace GS
open PySem L2
section
variable {K : KW} {ρ : Rho} {σ : St} {B H : Hp} {v x y : V} {Q : VK}
def rRepS : R2 := fun x y H Q => ∃ z k, x = .str z ∧ y = .int k ∧ 0 ≤ k ∧ k ≤ 1000 ∧ z.length ≤ 1000 ∧ Q (.str (Txt.mul z k)) H
theorem op_repS {X : Cx} : OpR X (binaryOp .Mult) rRepS := by
  intro pins s σ H x y v u Q I rx ry h
  obtain ⟨z, k, rfl, rfl, h0, h1, hz, q⟩ := h
  obtain ⟨t, rfl⟩ := rx
  obtain ⟨t', rfl⟩ := ry
  refine SB.mul ⟨?_, fun a b => ?_, fun a b => ?_⟩ fun t'' k' => ⟨.str _, H, I.tok _, ⟨_, rfl⟩, q⟩
  · rw [decide_eq_false (by omega), decide_eq_false (by omega)]; rfl
  · have : (1000 : Int) ≤ (2 ^ 63 - 1) / k := by
      apply Int.le_ediv_of_mul_le (by omega)
      omega
    omega
  · have : z.length * k.toNat ≤ 1000 * 1000 := Nat.mul_le_mul hz (by omega)
    unfold Builtin.Str.tooLong
    rw [sizeLine_eq]
    simp
    omega
/-- a tuple so often, told exactly -/
def rRepX (K : PySem.W.Frag) : R2 := fun x y H Q => ∃ m k ys, x = .ref m ∧ y = .int k ∧ SqT K H m ys ∧ (ys ≠ [] ∧ 2 ≤ k ∧ k ≤ 1000 ∧ ys.length ≤ 1000) ∧ ∀ p o, H p = none → o.dict = none → Q (.ref p) (upd H p (.frz o (.tup (List.replicate k.toNat ys).flatten)))
theorem op_repX {X : Cx} : OpR X (binaryOp .Mult) (rRepX X.K) := by
  rintro pins s σ H x y v u Q J rx ry ⟨m, k, ys, rfl, rfl, hT, ⟨ne, k1, k2, hz⟩, q⟩
  cases rx
  obtain ⟨tt, rfl⟩ := ry
  obtain ⟨us, rv, ⟨⟨oc, od, oda, osl⟩, hob, ec, nn, ed⟩, hs⟩ := J.tuple hT
  simp only at ec ed
  subst ec ed
  have ll : us.length = ys.length := rv.length.symm
  have ie : us.toArray.isEmpty = false := by
    cases us with
    | nil => exact absurd (List.eq_nil_of_length_eq_zero ll.symm) ne
    | cons _ _ => rfl
  have sz : us.toArray.size = ys.length := by rw [List.size_toArray, ll]
  have pr : k.toNat * ys.length ≤ 1000 * 1000 := Nat.mul_le_mul (by omega) hz
  have pm : ((us.toArray.size : Nat) : Int) * k ≤ 1000000 := by
    rw [sz]
    have : ((ys.length : Nat) : Int) * k ≤ 1000 * k := Int.mul_le_mul_of_nonneg_right (by omega) (by omega)
    omega
  have fl : (List.replicate k.toNat us).flatten.length ≤ sizeLine := by
    rw [PyProof.Rows.lm_len_rep_flat, ll, sizeLine_eq]
    omega
  have d0 : (decide (k < -(2 ^ 63)) || decide (k ≥ 2 ^ 63)) = false := by rw [decide_eq_false (by omega), decide_eq_false (by omega)] <;> rfl
  have d1 : (us.toArray.isEmpty || k == 1) = false := by rw [ie, Bool.false_or]; exact beq_eq_false_iff_ne.mpr (by omega)
  have d2 : (decide (k ≤ 0) || us.toArray.isEmpty) = false := by rw [ie, Bool.or_false]; exact decide_eq_false (by omega)
  have d4 : Builtin.Tuple.tupleTooMany (((us.toArray.size : Nat) : Int) * k) = false := by
    unfold Builtin.Tuple.tupleTooMany
    rw [sizeLine_eq, decide_eq_false_iff_not]
    omega
  refine wpAny_binaryOp_repeat_ref (T := "tuple") (U := "int") (by decide) ⟨_, hob, rfl⟩ (fun z => typeIs_int z k tt) noFill_tuple_mul F.fills_int_mul F.slot_int_rmul repeat_tuple F.slot_int_index.lookup
    (call_meets F.slot_int_rmul (typeIs_int s k tt) F.entry_int_rmul (F.args_int_rmul_2 _ _) (int_rmul_tuple k tt m us.toArray nn od osl)
      ⟨hob, rfl, ⟨_, hob, rfl⟩, call_meets F.slot_tuple_mul ⟨_, hob, rfl⟩ F.entry_tuple_mul (F.args_tuple_mul_2 _ _) (tuple_mulW m us.toArray nn od osl k tt d0 d1 d2 (by omega) d4 (by rw [size_rep, List.size_toArray]; exact fl)) ⟨hob, ?_⟩⟩)
  rw [size_rep]
  exact ⟨.ref s.heap.objs.size, _, laidX (tk := s.toks) J (rv.rep k.toNat) (by rw [PyProof.Rows.lm_len_rep_flat, sizeLine_eq]; omega), rfl, q _ _ (J.hok.fresh (Nat.le_refl _)) rfl⟩
def mulA : D → D → Option Hd
  | .str z, .int k => if decide (0 ≤ k) && Nat.ble k.natAbs 1000 && Nat.ble z.length 1000 then some (.sh (.str (Txt.mul z k))) else none
  | .tuple ds, .int k => if decide (0 ≤ k) && Nat.ble 2 k.natAbs && Nat.ble k.natAbs 1000 && Nat.ble 1 ds.length && Nat.ble ds.length 1000 then some (.sh (.tuple (List.replicate k.toNat ds).flatten)) else none
  | d, e => mulD d e
def rMulA (K : PySem.W.Frag) : R2 := fun x y H Q => (rI CMul fun i j => .int (i * j)) x y H Q ∨ (rRepS x y H Q ∨ rRepX K x y H Q)
theorem op_mulA {X : Cx} : OpR X (binaryOp .Mult) (rMulA X.K) := OpR.or op_mul (OpR.or op_repS op_repX)
theorem RpL.rep {vs : List V} {ds : List D} (h : RpL K B vs ds) : ∀ n, RpL K B (List.replicate n vs).flatten (List.replicate n ds).flatten
  | 0 => .nil
  | n + 1 => by
    rw [List.replicate_succ, List.replicate_succ, List.flatten_cons, List.flatten_cons]
    exact h.append (RpL.rep h n)
theorem ol_mulA : OpL K (rMulA K) mulA := fun ρ σ B H x y dx dy h Q S tx ty e k => by
  cases dx with
  | str z =>
    cases dy <;> first | (cases (show none = some h from e); done) | skip
    rename_i i
    obtain ⟨c, rfl⟩ := if_some (show (if decide (0 ≤ i) && Nat.ble i.natAbs 1000 && Nat.ble z.length 1000 then some (Hd.sh (.str (Txt.mul z i))) else none) = some h from e)
    simp only [Bool.and_eq_true, decide_eq_true_eq] at c
    have h1 := Nat.le_of_ble_eq_true c.1.2
    rw [tx.str, ty.int]
    exact .inr (.inl ⟨z, i, rfl, rfl, c.1.1, by omega, Nat.le_of_ble_eq_true c.2, now S (.str _) k⟩)
  | tuple ds =>
    cases dy <;> first | (cases (show none = some h from e); done) | skip
    rename_i i
    obtain ⟨c, rfl⟩ := if_some (show (if decide (0 ≤ i) && Nat.ble 2 i.natAbs && Nat.ble i.natAbs 1000 && Nat.ble 1 ds.length && Nat.ble ds.length 1000 then some (Hd.sh (.tuple (List.replicate i.toNat ds).flatten)) else none) = some h from e)
    simp only [Bool.and_eq_true, decide_eq_true_eq] at c
    have h1 := Nat.le_of_ble_eq_true c.1.1.1.2
    have h2 := Nat.le_of_ble_eq_true c.1.1.2
    have h3 := Nat.le_of_ble_eq_true c.1.2
    have h4 := Nat.le_of_ble_eq_true c.2
    obtain ⟨a, vs, rfl, ha, ra⟩ := tx.tup
    have hl := ra.length
    rw [ty.int]
    exact .inr (.inr ⟨a, i, vs, rfl, rfl, same_t S.bh ha, ⟨fun z => by subst z; cases ra; simp at h3, by omega, by omega, by omega⟩, newT S (ra.rep _) k⟩)
  | _ => exact .inl (ol_mul ρ σ B H x y _ dy h Q S tx ty e k)
def bools : List D → Option (List Bool)
  | [] => some []
  | .bool b :: ds => (bools ds).map (b :: ·)
  | _ :: _ => none
theorem bools_ok : ∀ {vs : List V} {ds : List D} {bs : List Bool}, RpL K B vs ds → bools ds = some bs → vs = bs.map V.bl
  | _, _, _, .nil, e => by cases e; rfl
  | _, d :: ds, _, .cons h t, e => by
    cases d <;> first | (cases e; done) | skip
    obtain ⟨r, er, rfl⟩ := Option.map_eq_some_iff.mp e
    cases h
    rw [bools_ok t er]; rfl
def allD : D → Option Hd
  | .list ds => (bools ds).map fun bs => .sh (.bool (bs.all id))
  | _ => none
theorem cl_all : CalL K (rAll K) (un1 allD) := CalL.one fun ρ σ B H x d h Q S t e k => by
  cases d <;> first | (cases (show none = some h from e); done) | skip
  obtain ⟨bs, e1, rfl⟩ := Option.map_eq_some_iff.mp e
  obtain ⟨a, vs, rfl, ha, ra⟩ := t
  have := bools_ok ra e1
  subst this
  exact ⟨a, bs, rfl, ha, now S (.bl _) k⟩
end
section
variable {X : Cx} {C : Ct} {a b e : Expr} {ta tb te : TE} {fa fb fe : EF} {pos p p1 p2 p3 : Pos}
def eRev (fe : EF) : EF := fun ρ => bindE (eSet fe ρ) fun h ρ1 => match getH ρ1 h with
  | some (.list ds) => .ok (.fr (.list ds.reverse)) ρ1
  | _ => .stuck
theorem se_rev {k : Nat} (l : SE X C e te fe) (hk : X.K = C.K := by rfl) : SE X C (.Subscript e (.Slice none none (some (.UnaryOp .USub (.Constant (.int 1) k p1) p2)) p3) pos) (tRevL C.K te) (eRev fe) := ⟨by rw [← hk]; exact pe_revL l.pe, fun ρ σ B H Q S g => by
  refine l.lk.setBind S g fun hd ρ1 x B1 H1 S1 e1 y1 g1 => ?_
  split at g1
  · rename_i ds ed
    obtain ⟨a, vs, rfl, ha, ra⟩ := S1.tp y1 ed
    exact ⟨a, vs, rfl, ha, newL S1 ra.reverse g1⟩
  · exact g1.elim⟩
end
end GS
namespace GS
open PySem L2
def mapR (k : Rho → Rho) : RS → RS
  | .stuck => .stuck
  | .nx ρ => .nx (k ρ)
  | .bk ρ => .bk (k ρ)
  | .ct ρ => .ct (k ρ)
  | .rt h ρ => .rt h (k ρ)
  | .exc x ρ => .exc x (k ρ)
/-- less is known -/
structure Weak (ρ ρ' : Rho) : Prop where
  len : ρ'.length = ρ.length
  sub : ∀ (i : Nat) (c : Cel), ρ'[i]? = some (some c) → ρ[i]? = some (some c)
  io : ∀ (i : Nat) (c : Cel), ρ[i]? = some (some c) → c.fl = .io → ρ'[i]? = some (some c)
section
variable {K : KW} {X : Cx} {C : Ct} {ρ ρ1 ρ2 : Rho} {σ σ1 : St} {B H B1 H1 : Hp} {Ed : Ends} {t u : TS} {f g : SF} {st : Stmt} {rest : List Stmt} {pos : Pos}
theorem OwnA.weak (w : Weak ρ ρ1) {a : Addr} (h : OwnA ρ1 σ a) : OwnA ρ σ a := by
  obtain ⟨i, c, h1, h2, h3⟩ := h
  exact ⟨i, c, w.sub i c h1, h2, h3⟩
theorem Sim.weak (S : Sim K ρ σ B H) (w : Weak ρ ρ1) : Sim K ρ1 σ B H :=
  ⟨S.bh, w.len.trans S.len, fun i c h => S.sl i c (w.sub i c h), fun i j ci cj a hi hj => S.dj i j ci cj a (w.sub i ci hi) (w.sub j cj hj)⟩
theorem Ext.weak (x : Ext ρ σ B H ρ1 σ1 B1 H1) (w : Weak ρ1 ρ2) : Ext ρ σ B H ρ2 σ1 B1 H1 :=
  ⟨x.bb, x.nw, x.kp, fun a h => x.sub a (OwnA.weak w h), fun i c h1 h2 => by
    obtain ⟨e1, c1, q1, q2⟩ := x.io i c h1 h2
    exact ⟨e1, c1, w.io i c1 q1 q2, q2⟩, fun i c h1 h2 => x.oi i c (w.sub i c h1) h2⟩
theorem HdOk.weak {N : Addr → Prop} {v : V} (w : Weak ρ ρ1) : ∀ {h : Hd}, HdOk K N ρ σ B H v h → HdOk K N ρ1 σ B H v h
  | .sh _, q => q
  | .fr _, ⟨a, h1, h2, h3, h4, h5⟩ => ⟨a, h1, h2, h3, fun z => h4 (OwnA.weak w z), h5⟩
  | .bw _, q => q
theorem lk_weak {k : Rho → Rho} {f : SF} (hk : ∀ ρ' σ' B' H', Ext ρ σ B H ρ' σ' B' H' → Weak ρ' (k ρ')) (g : GoodS C ρ σ B H Ed (mapR k (f ρ))) : GoodS C ρ σ B H Ed (f ρ) := by
  cases e : f ρ with
  | stuck => rw [e] at g; exact g
  | nx ρ' => rw [e] at g; exact fun σ' B' H' s x => g σ' B' H' (s.weak (hk _ _ _ _ x)) (x.weak (hk _ _ _ _ x))
  | bk ρ' => rw [e] at g; exact fun σ' B' H' s x => g σ' B' H' (s.weak (hk _ _ _ _ x)) (x.weak (hk _ _ _ _ x))
  | ct ρ' => rw [e] at g; exact fun σ' B' H' s x => g σ' B' H' (s.weak (hk _ _ _ _ x)) (x.weak (hk _ _ _ _ x))
  | rt h ρ' => rw [e] at g; exact fun v σ' B' H' s x y => g v σ' B' H' (s.weak (hk _ _ _ _ x)) (x.weak (hk _ _ _ _ x)) (y.weak (hk _ _ _ _ x))
  | exc y ρ' => rw [e] at g; exact fun c d σ' B' H' s x z => g c d σ' B' H' (s.weak (hk _ _ _ _ x)) (x.weak (hk _ _ _ _ x)) z
def sKill (vs : List Nat) (f : SF) : SF := fun ρ => if vs.all fun i => !ioAt ρ i then mapR (fun ρ => wipeR ρ vs) (f ρ) else .stuck
theorem weak_wipe {vs : List Nat} (h : ∀ i ∈ vs, ∀ c, ρ[i]? = some (some c) → c.fl ≠ .io) : Weak ρ (wipeR ρ vs) :=
  ⟨wipeR_len _ _, fun i c e => (wipeR_some e).1, fun i c e z => by
    have ni : i ∉ vs := fun q => h i q c e z
    rw [wipeR_keep ni]; exact e⟩
theorem lk_kill {vs : List Nat} (l : LkS C t f) : LkS C t (sKill vs f) := fun ρ σ B H D S g => by
  unfold sKill at g
  split at g
  · rename_i hv
    refine l ρ σ B H D S (lk_weak (fun ρ' σ' B' H' x => weak_wipe fun i hi c hc hf => ?_) g)
    have := List.all_eq_true.mp hv i hi
    obtain ⟨c', q1, q2⟩ := x.oi i c hc hf
    exact not_io (by simpa using this) q1 q2
  · exact g.elim
theorem ss_kill {vs : List Nat} (l : SS X C st t f) : SS X C st t (sKill vs f) := ⟨l.ps, lk_kill l.lk⟩
theorem sss_kill {vs : List Nat} {sts : List Stmt} (l : SSs X C sts t f) : SSs X C sts t (sKill vs f) := ⟨l.ps, lk_kill l.lk⟩
theorem weak_io : Weak ρ (ρ.map ioC) := by
  refine ⟨List.length_map _, fun i c e => ?_, fun i c e z => ?_⟩
  · rw [List.getElem?_map] at e
    obtain ⟨o, h1, h2⟩ := Option.map_eq_some_iff.mp e
    rw [h1, (ioC_some h2).1]
  · rw [List.getElem?_map, e]
    obtain ⟨d, fl⟩ := c
    cases z
    rfl
/-- only what is lent stays -/
def sEnd (f : SF) : SF := fun ρ => mapR (fun ρ => ρ.map ioC) (f ρ)
theorem lk_end (l : LkS C t f) : LkS C t (sEnd f) := fun ρ σ B H D S g => l ρ σ B H D S (lk_weak (fun _ _ _ _ _ => weak_io) g)
theorem ss_end (l : SS X C st t f) : SS X C st t (sEnd f) := ⟨l.ps, lk_end l.lk⟩
end
end GS
namespace GS
open PySem L2
def flatEq : D → D → Option Bool
  | .str i, .str j => some (decide (i = j))
  | .int i, .int j => some (decide (i = j))
  | .bool i, .bool j => some (decide (i = j))
  | .none, .none => some true
  | .none, .str _ => some false
  | .str _, .none => some false
  | .none, .int _ => some false
  | .int _, .none => some false
  | _, _ => none
/-- no dicts, at most 190 deep -/
def okW (d : D) : Bool := GS.plain d && PyData.canLay0 d && Nat.ble d.depth 190
def eqB (neg : Bool) : D → D → Option Hd := fun x y => match flatEq x y with
  | some b => some (.sh (.bool (neg ^^ b)))
  | none => if okW x && okW y then some (.sh (.bool (neg ^^ PyData.eqv x y))) else none
def rEqW (K : PySem.W.Frag) : R2 := fun x y H Q => ∃ d e, Dp K H x d ∧ Dp K H y e ∧ PyData.canLay0 d = true ∧ PyData.canLay0 e = true ∧ d.depth ≤ 190 ∧ Q (.bl (PyData.eqv d e)) H
def rNeW (K : PySem.W.Frag) : R2 := fun x y H Q => ∃ d e, Dp K H x d ∧ Dp K H y e ∧ PyData.canLay0 d = true ∧ PyData.canLay0 e = true ∧ d.depth ≤ 190 ∧ Q (.bl (!PyData.eqv d e)) H
theorem op_eqW {X : Cx} (hu : X.A.units + 199 < cLine) : OpR X (compareOp .Eq) (rEqW X.K) := by
  intro pins s σ H x y v u Q I rx ry h
  obtain ⟨d, e, hd, he, sd, se, dp, q⟩ := h
  obtain ⟨as, r1⟩ := Dp.reads I d x v hd rx
  obtain ⟨bs, r2⟩ := Dp.reads I e y u he ry
  exact SeqAt.compareEq_reads r1 r2 sd se (by omega) ⟨.bl _, H, I, rfl, q⟩
theorem op_neW {X : Cx} (hu : X.A.units + 199 < cLine) : OpR X (compareOp .NotEq) (rNeW X.K) := by
  intro pins s σ H x y v u Q I rx ry h
  obtain ⟨d, e, hd, he, sd, se, dp, q⟩ := h
  obtain ⟨as, r1⟩ := Dp.reads I d x v hd rx
  obtain ⟨bs, r2⟩ := Dp.reads I e y u he ry
  exact SeqAt.compareNe_reads r1 r2 sd se (by omega) ⟨.bl _, H, I, rfl, q⟩
section
variable {K : KW}
theorem flatEq_V {B H : Hp} {x y : V} {dx dy : D} {b : Bool} (tx : Tp K B H x dx) (ty : Tp K B H y dy) (e : flatEq dx dy = some b) : scal x y = true ∧ decide (x = y) = b := by
  cases dx <;> cases dy <;> first | (cases (show none = some b from e); done) | skip
  · cases e; rw [tx.non, ty.non]; exact ⟨rfl, rfl⟩
  · cases e; rw [tx.non, ty.int]; exact ⟨rfl, by simp⟩
  · cases e; rw [tx.non, ty.str]; exact ⟨rfl, by simp⟩
  · cases e; rw [tx.bl, ty.bl]; exact ⟨rfl, by simp⟩
  · cases e; rw [tx.int, ty.non]; exact ⟨rfl, by simp⟩
  · cases e; rw [tx.int, ty.int]; exact ⟨rfl, by simp⟩
  · cases e; rw [tx.str, ty.non]; exact ⟨rfl, by simp⟩
  · cases e; rw [tx.str, ty.str]; exact ⟨rfl, by simp⟩
theorem op_eqB {X : Cx} (hu : X.A.units + 199 < cLine) : OpR X (compareOp .Eq) (fun x y H Q => rEq x y H Q ∨ rEqW X.K x y H Q) := OpR.or op_eq (op_eqW hu)
theorem op_neB {X : Cx} (hu : X.A.units + 199 < cLine) : OpR X (compareOp .NotEq) (fun x y H Q => rNe x y H Q ∨ rNeW X.K x y H Q) := OpR.or op_ne (op_neW hu)
theorem okW_ok {d : D} (h : okW d = true) : GS.plain d = true ∧ PyData.canLay0 d = true ∧ d.depth ≤ 190 := by
  unfold okW at h
  rw [Bool.and_eq_true, Bool.and_eq_true] at h
  exact ⟨h.1.1, h.1.2, Nat.le_of_ble_eq_true h.2⟩
theorem ol_eqB : OpL K (fun x y H Q => rEq x y H Q ∨ rEqW K x y H Q) (eqB false) := fun ρ σ B H x y dx dy h Q S tx ty e k => by
  unfold eqB at e
  split at e
  · rename_i b eb
    cases e
    obtain ⟨q1, q2⟩ := flatEq_V tx ty eb
    refine .inl ⟨q1, ?_⟩
    rw [q2]
    have := now (v := .bl (false ^^ b)) S (.bl _) k
    rwa [Bool.false_xor] at this
  · obtain ⟨c, rfl⟩ := if_some e
    rw [Bool.and_eq_true] at c
    obtain ⟨p1, c1, d1⟩ := okW_ok c.1
    obtain ⟨p2, c2, d2⟩ := okW_ok c.2
    refine .inr ⟨dx, dy, (tx.rp S.bh).dp _ p1, (ty.rp S.bh).dp _ p2, c1, c2, d1, ?_⟩
    have := now (v := .bl (false ^^ PyData.eqv dx dy)) S (.bl _) k
    rwa [Bool.false_xor] at this
theorem ol_neB : OpL K (fun x y H Q => rNe x y H Q ∨ rNeW K x y H Q) (eqB true) := fun ρ σ B H x y dx dy h Q S tx ty e k => by
  unfold eqB at e
  split at e
  · rename_i b eb
    cases e
    obtain ⟨q1, q2⟩ := flatEq_V tx ty eb
    refine .inl ⟨q1, ?_⟩
    rw [q2]
    have := now (v := .bl (true ^^ b)) S (.bl _) k
    rwa [Bool.true_xor] at this
  · obtain ⟨c, rfl⟩ := if_some e
    rw [Bool.and_eq_true] at c
    obtain ⟨p1, c1, d1⟩ := okW_ok c.1
    obtain ⟨p2, c2, d2⟩ := okW_ok c.2
    refine .inr ⟨dx, dy, (tx.rp S.bh).dp _ p1, (ty.rp S.bh).dp _ p2, c1, c2, d1, ?_⟩
    have := now (v := .bl (true ^^ PyData.eqv dx dy)) S (.bl _) k
    rwa [Bool.true_xor] at this
end
end GS
namespace GS
open PySem L2
def stuckF : FF := fun _ => .stuck
section
variable {ρ ρ1 : Rho} {c : Prop} [Decidable c]
@[simp] theorem mapR_st (k : Rho → Rho) : mapR k .stuck = .stuck := rfl
@[simp] theorem mapR_nx (k : Rho → Rho) : mapR k (.nx ρ) = .nx (k ρ) := rfl
@[simp] theorem mapR_bk (k : Rho → Rho) : mapR k (.bk ρ) = .bk (k ρ) := rfl
@[simp] theorem mapR_ct (k : Rho → Rho) : mapR k (.ct ρ) = .ct (k ρ) := rfl
@[simp] theorem mapR_rt (k : Rho → Rho) (h : Hd) : mapR k (.rt h ρ) = .rt h (k ρ) := rfl
@[simp] theorem mapR_ex (k : Rho → Rho) (x : Xc) : mapR k (.exc x ρ) = .exc x (k ρ) := rfl
@[simp] theorem mapR_if (k : Rho → Rho) (a b : RS) : mapR k (if c then a else b) = if c then mapR k a else mapR k b := by split <;> rfl
@[simp] theorem sKill_eq (vs : List Nat) (f : SF) : sKill vs f ρ = if vs.all fun i => !ioAt ρ i then mapR (fun ρ => wipeR ρ vs) (f ρ) else .stuck := rfl
@[simp] theorem sEnd_eq (f : SF) : sEnd f ρ = mapR (fun ρ => ρ.map ioC) (f ρ) := rfl
@[simp] theorem ioAt_zi (d : D) : ioAt (some ⟨d, .io⟩ :: ρ) 0 = true := rfl
@[simp] theorem outR_zero : outR ρ 0 = [] := rfl
@[simp] theorem outR_succ (x : Option Cel) (n : Nat) : outR (x :: ρ) (n + 1) = ioC x :: outR ρ n := by
  unfold outR
  rw [List.range_succ_eq_map, List.map_cons, List.map_map, slot_zero]
  rfl
@[simp] theorem ixA_l (ds : List D) (i : Int) : ixA (.list ds) (.int i) = (atI ds i).map Hd.sh := rfl
@[simp] theorem ixA_t (ds : List D) (i : Int) : ixA (.tuple ds) (.int i) = (atI ds i).map Hd.sh := rfl
@[simp] theorem ixA_s (z : Str) (i : Int) : ixA (.str z) (.int i) = if z.length ≤ sizeLine then (atI z.cps.toList i).map fun c => Hd.sh (.str ⟨#[c]⟩) else none := rfl
@[simp] theorem ixA_d (ps : List (D × D)) (k : D) : ixA (.dict ps) k = if isK k then (dGet ps k).map Hd.sh else none := rfl
@[simp] theorem mixB_nil (k : D) : mixB [] k = false := rfl
@[simp] theorem mixB_ss (z w : Str) (d : D) (ps : List (D × D)) : mixB ((.str z, d) :: ps) (.str w) = false := rfl
@[simp] theorem mixB_ii (z w : Int) (d : D) (ps : List (D × D)) : mixB ((.int z, d) :: ps) (.int w) = false := rfl
@[simp] theorem mixB_tt (z w : List D) (d : D) (ps : List (D × D)) : mixB ((.tuple z, d) :: ps) (.tuple w) = false := rfl
@[simp] theorem xnB_tup (z : List D) (d : D) (ps : List (D × D)) : xnB ((.tuple z, d) :: ps) = false := rfl
@[simp] theorem isK_s (z : Str) : isK (.str z) = true := rfl
@[simp] theorem isK_i (z : Int) : isK (.int z) = true := rfl
@[simp] theorem kEq_s (z w : Str) : kEq (.str z) (.str w) = decide (z = w) := rfl
@[simp] theorem kEq_i (z w : Int) : kEq (.int z) (.int w) = decide (z = w) := rfl
@[simp] theorem dGet_nil (k : D) : dGet [] k = none := rfl
@[simp] theorem dGet_cons (a d : D) (r : List (D × D)) (k : D) : dGet ((a, d) :: r) k = if kEq a k then some d else dGet r k := rfl
@[simp] theorem ofS_inj (a b : String) : (Str.ofString a = Str.ofString b) ↔ a = b := by
  constructor
  · intro h
    rw [Str.ofString_eq_toList, Str.ofString_eq_toList, Str.mk.injEq] at h
    have h2 : a.toList.map Char.toNat = b.toList.map Char.toNat := by
      have := congrArg Array.toList h
      simpa using this
    have h3 : a.toList = b.toList := (List.map_inj_right (fun x y e => Char.toNat_inj.mp e)).mp h2
    exact String.toList_inj.mp h3
  · intro h; rw [h]
theorem ofS_len (a : String) : (Str.ofString a).length = a.toList.length := by
  rw [Str.ofString_eq_toList]
  show (List.toArray _).size = _
  simp
theorem ofS_cps (a : String) : (Str.ofString a).cps.toList = a.toList.map Char.toNat := by
  rw [Str.ofString_eq_toList]
@[simp] theorem xnB_nil : xnB [] = false := rfl
@[simp] theorem xnB_str (x : Str) (d : D) (ps : List (D × D)) : xnB ((.str x, d) :: ps) = false := rfl
@[simp] theorem xnB_int (x : Int) (d : D) (ps : List (D × D)) : xnB ((.int x, d) :: ps) = false := rfl
@[simp] theorem inB_d (neg : Bool) (k : D) (ps : List (D × D)) : inB neg k (.dict ps) = if isK k && !xnB ps && !mixB ps k then some (.sh (.bool (neg ^^ (dGet ps k).isSome))) else none := by cases k <;> rfl
@[simp] theorem inB_c (neg : Bool) (c : Nat) (z : Str) : inB neg (.str ⟨#[c]⟩) (.str z) = some (.sh (.bool (neg ^^ decide (c ∈ z.cps.toList)))) := rfl
@[simp] theorem inB_t (neg : Bool) (d : D) (ds : List D) : inB neg d (.tuple ds) = if flatD d && ds.all flatD then some (.sh (.bool (neg ^^ ds.any fun z => PyData.eqv z d))) else none := by cases d <;> rfl
@[simp] theorem inB_l (neg : Bool) (d : D) (ds : List D) : inB neg d (.list ds) = if okEq d && okEq (.list ds) then some (.sh (.bool (neg ^^ ds.any fun z => PyData.eqv z d))) else none := by cases d <;> rfl
@[simp] theorem mulA_i (i j : Int) : mulA (.int i) (.int j) = mulD (.int i) (.int j) := rfl
theorem mulA_s (z : Str) (k : Int) : mulA (.str z) (.int k) = if decide (0 ≤ k) && Nat.ble k.natAbs 1000 && Nat.ble z.length 1000 then some (.sh (.str (Txt.mul z k))) else none := rfl
@[simp] theorem eqB_i (neg : Bool) (i j : Int) : eqB neg (.int i) (.int j) = some (.sh (.bool (neg ^^ decide (i = j)))) := rfl
@[simp] theorem eqB_s (neg : Bool) (i j : Str) : eqB neg (.str i) (.str j) = some (.sh (.bool (neg ^^ decide (i = j)))) := rfl
@[simp] theorem eqB_b (neg : Bool) (i j : Bool) : eqB neg (.bool i) (.bool j) = some (.sh (.bool (neg ^^ decide (i = j)))) := rfl
@[simp] theorem eqB_nn (neg : Bool) : eqB neg .none .none = some (.sh (.bool (neg ^^ true))) := rfl
@[simp] theorem eqB_ns (neg : Bool) (j : Str) : eqB neg .none (.str j) = some (.sh (.bool (neg ^^ false))) := rfl
@[simp] theorem eqB_sn (neg : Bool) (j : Str) : eqB neg (.str j) .none = some (.sh (.bool (neg ^^ false))) := rfl
@[simp] theorem eqB_ni (neg : Bool) (j : Int) : eqB neg .none (.int j) = some (.sh (.bool (neg ^^ false))) := rfl
@[simp] theorem eqB_in (neg : Bool) (j : Int) : eqB neg (.int j) .none = some (.sh (.bool (neg ^^ false))) := rfl
@[simp] theorem allD_l (bs : List Bool) : allD (.list (bs.map .bool)) = some (.sh (.bool (bs.all id))) := by
  have : bools (bs.map .bool) = some bs := by
    induction bs with
    | nil => rfl
    | cons b bs ih => rw [List.map_cons]; unfold bools; rw [ih]; rfl
  unfold allD
  dsimp only
  rw [this]; rfl
def mutO (fl : Fl) (o : Option D) (ρ : Rho) (i : Nat) : RS := match o with
  | some d' => .nx (ρ.set i (some ⟨d', fl⟩))
  | none => .stuck
def mutC (s : Option Cel) (ρ : Rho) (i : Nat) (k : D → Option D) : RS := match s with
  | some ⟨d, .ow⟩ => mutO .ow (k d) ρ i
  | some ⟨d, .io⟩ => mutO .io (k d) ρ i
  | _ => .stuck
@[simp] theorem mutO_s (fl : Fl) (d : D) (i : Nat) : mutO fl (some d) ρ i = .nx (ρ.set i (some ⟨d, fl⟩)) := rfl
@[simp] theorem mutO_if (fl : Fl) (a b : Option D) (i : Nat) : mutO fl (if c then a else b) ρ i = if c then mutO fl a ρ i else mutO fl b ρ i := by split <;> rfl
@[simp] theorem mutO_n (fl : Fl) (i : Nat) : mutO fl none ρ i = .stuck := rfl
@[simp] theorem mutC_ow (d : D) (i : Nat) (k : D → Option D) : mutC (some ⟨d, .ow⟩) ρ i k = mutO .ow (k d) ρ i := rfl
@[simp] theorem mutC_io (d : D) (i : Nat) (k : D → Option D) : mutC (some ⟨d, .io⟩) ρ i k = mutO .io (k d) ρ i := rfl
@[simp] theorem mutS_eq (i : Nat) (k : D → Option D) : mutS ρ i k = mutC (slot ρ i) ρ i k := by
  unfold mutS mutC mutO
  rfl
@[simp] theorem appD_l (y : D) (ds : List D) : appD y (.list ds) = if ds.length < sizeLine then some (.list (ds ++ [y])) else none := rfl
def isLC : Option Cel → Bool
  | some ⟨.list _, _⟩ => true
  | _ => false
@[simp] theorem isLC_l (ds : List D) (fl : Fl) : isLC (some ⟨.list ds, fl⟩) = true := rfl
@[simp] theorem isL_eq (i : Nat) : isL ρ i = isLC (slot ρ i) := rfl
def appR (i : Nat) (h : Hd) (ρ : Rho) : RS := match h with
  | .sh y => mutS ρ i (appD y)
  | _ => .stuck
@[simp] theorem appR_sh (i : Nat) (y : D) : appR i (.sh y) ρ = mutS ρ i (appD y) := rfl
@[simp] theorem sApp_eq (i : Nat) (f : EF) : sApp i f ρ = if isL ρ i then bindES (eCap f ρ) (appR i) else .stuck := by unfold sApp; rfl
def putK (i : Nat) (y : D) (h : Hd) (ρ : Rho) : RS := match h with
  | .sh k => mutS ρ i (setD k y)
  | _ => .stuck
def putC (s : Option Cel) (i : Nat) (fi : EF) (y : D) (ρ : Rho) : RS := match s with
  | none => .stuck
  | some _ => bindES (eCap fi ρ) (putK i y)
def putR (i : Nat) (fi : EF) (h : Hd) (ρ : Rho) : RS := match h with
  | .sh y => putC (slot ρ i) i fi y ρ
  | _ => .stuck
@[simp] theorem putK_sh (i : Nat) (k y : D) : putK i y (.sh k) ρ = mutS ρ i (setD k y) := rfl
@[simp] theorem putC_s (x : Cel) (i : Nat) (fi : EF) (y : D) : putC (some x) i fi y ρ = bindES (eCap fi ρ) (putK i y) := rfl
@[simp] theorem putR_sh (i : Nat) (fi : EF) (y : D) : putR i fi (.sh y) ρ = putC (slot ρ i) i fi y ρ := rfl
@[simp] theorem sPut_eq (i : Nat) (fi fe : EF) : sPut i fi fe ρ = bindES (eCap fe ρ) (putR i fi) := by
  unfold sPut putR putC putK
  rfl
@[simp] theorem setD_d (k y : D) (ps : List (D × D)) : setD k y (.dict ps) = if isK k && !mixB ps k && decide (ps.length < sizeLine) then some (.dict (dPut ps k y)) else none := rfl
@[simp] theorem setD_l (i : Int) (y : D) (ds : List D) : setD (.int i) y (.list ds) = (ixN ds.length i).map fun j => .list (ds.set j y) := rfl
@[simp] theorem gT_t (n : Nat) (f : List D → Rho → Option Rho) (ds : List D) : gT n f (.tuple ds) ρ = if ds.length = n then f ds ρ else none := rfl
@[simp] theorem gT_l (n : Nat) (f : List D → Rho → Option Rho) (ds : List D) : gT n f (.list ds) ρ = if ds.length = n then f ds ρ else none := rfl
@[simp] theorem gsN_n : gsN [] ρ = some ρ := rfl
@[simp] theorem gsC_c (f : D → Rho → Option Rho) (g : List D → Rho → Option Rho) (d : D) (ds : List D) : gsC f g (d :: ds) ρ = (f d ρ).bind (g ds) := rfl
def unpO (o : Option Rho) : RS := match o with
  | some ρ => .nx ρ
  | none => .stuck
def unpR (g : D → Rho → Option Rho) (h : Hd) (ρ : Rho) : RS := match h with
  | .sh d => unpO (g d ρ)
  | _ => .stuck
@[simp] theorem unpO_s : unpO (some ρ) = .nx ρ := rfl
@[simp] theorem unpO_if (a b : Option Rho) : unpO (if c then a else b) = if c then unpO a else unpO b := by split <;> rfl
@[simp] theorem unpR_sh (g : D → Rho → Option Rho) (d : D) : unpR g (.sh d) ρ = unpO (g d ρ) := rfl
@[simp] theorem sUnp_eq (g : D → Rho → Option Rho) (f : EF) : sUnp g f ρ = bindES (eCap f ρ) (unpR g) := by
  unfold sUnp unpR unpO
  rfl
def bindP (r : RP) (k : List (D × D) → Rho → RE) : RE := match r with
  | .stuck => .stuck
  | .exc x ρ1 => .exc x ρ1
  | .ok ps ρ1 => k ps ρ1
@[simp] theorem bindP_ok (ps : List (D × D)) (k : List (D × D) → Rho → RE) : bindP (.ok ps ρ) k = k ps ρ := rfl
@[simp] theorem eDct_eq (g : PF) : eDct g ρ = bindP (g ρ) fun ps ρ1 => if ps.length ≤ 15 then .ok (.fr (.dict (dMerge ps))) ρ1 else .stuck := by unfold eDct bindP; rfl
@[simp] theorem dNil_eq : dNil ρ = .ok [] ρ := rfl
@[simp] theorem argC_bwo (i : Nat) : argC ρ true (.bw i) = match slot ρ i with
    | some ⟨d, .ow⟩ => some ⟨d, .io⟩
    | some ⟨d, .io⟩ => some ⟨d, .io⟩
    | _ => none := rfl
def putBC (ρ : Rho) (i : Nat) (a b : Option Cel) : Option Rho := match a, b with
  | some c, some c' => some (ρ.set i (some ⟨c'.d, c.fl⟩))
  | _, _ => none
@[simp] theorem putBC_s (i : Nat) (a b : Cel) : putBC ρ i (some a) (some b) = some (ρ.set i (some ⟨b.d, a.fl⟩)) := rfl
theorem putB_bw (i j : Nat) (hs : List Hd) (outs : Rho) (h : hs[j]? = some (.bw i)) : putB ρ (some j) hs outs = putBC ρ i (slot ρ i) (slot outs j) := by
  unfold putB putBC
  dsimp only
  rw [h]
  try rfl
/-- one argument lent, the first one -/
@[simp] theorem backR_io0 (i : Nat) (hs : List Hd) (d : D) (d' : D) (fl : Fl) (outs : Rho) : backR ρ (some 0) (.bw i :: hs) (.ok (.sh d) (some ⟨d', fl⟩ :: outs)) = match slot ρ i with
    | some c => .ok (.sh d) (ρ.set i (some ⟨d', c.fl⟩))
    | none => .stuck := by
  unfold backR
  dsimp only
  rw [putB_bw i 0 _ _ rfl, slot_zero]
  cases slot ρ i <;> rfl
@[simp] theorem backR_io0f (i : Nat) (hs : List Hd) (d : D) (d' : D) (fl : Fl) (outs : Rho) : backR ρ (some 0) (.bw i :: hs) (.ok (.fr d) (some ⟨d', fl⟩ :: outs)) = match slot ρ i with
    | some c => .ok (.fr d) (ρ.set i (some ⟨d', c.fl⟩))
    | none => .stuck := by
  unfold backR
  dsimp only
  rw [putB_bw i 0 _ _ rfl, slot_zero]
  cases slot ρ i <;> rfl
def revR (d : Option D) (ρ : Rho) : RE := match d with
  | some (.list ds) => .ok (.fr (.list ds.reverse)) ρ
  | _ => .stuck
@[simp] theorem revR_l (ds : List D) : revR (some (.list ds)) ρ = .ok (.fr (.list ds.reverse)) ρ := rfl
@[simp] theorem eRev_eq (f : EF) : eRev f ρ = bindE (eSet f ρ) fun h ρ1 => revR (getH ρ1 h) ρ1 := by unfold eRev revR; rfl
/-- a loop that only looks: it leaves with r at the first item that p does not hold of -/
theorem forL_look {α : Type} {g : D → Rho → Option Rho} {b : SF} (ρ ρ' : Rho) (it : α → D) (p : α → Bool) (r : Hd) : ∀ (as : List α),
    (∀ a, a ∈ as → optR (g (it a) ρ) b = if p a then .nx ρ else .rt r ρ') → forL g b (as.map it) ρ = if as.all p then .nx ρ else .rt r ρ'
  | [], _ => rfl
  | a :: as, k => by
    have h1 := k a (List.mem_cons_self ..)
    have q := forL_look ρ ρ' it p r as fun a m => k a (List.mem_cons_of_mem _ m)
    rw [List.map_cons, forL_cons]
    unfold optR at h1 ⊢
    split at h1
    · split at h1 <;> cases h1
    · dsimp only
      rw [h1]
      cases hp : p a <;> simp [hp, q]
/-- a loop by an invariant of its own state -/
theorem forL_by' {S : Type} {g : D → Rho → Option Rho} {b : SF} (emb : S → Rho) {all : List D} (P : List D → S → Prop) : ∀ (ds pre : List D) (s : S), pre ++ ds = all → P pre s →
    (∀ pre d post s, all = pre ++ d :: post → P pre s → ∃ s', optR (g d (emb s)) b = .nx (emb s') ∧ P (pre ++ [d]) s') → ∃ s', forL g b ds (emb s) = .nx (emb s') ∧ P all s'
  | [], pre, s, e, h, _ => ⟨s, rfl, by rw [← e, List.append_nil]; exact h⟩
  | a :: as, pre, s, e, h, k => by
    obtain ⟨s1, h1, h2⟩ := k pre a as s e.symm h
    obtain ⟨s2, q1, q2⟩ := forL_by' emb P as (pre ++ [a]) s1 (by rw [List.append_assoc]; exact e) h2 k
    refine ⟨s2, ?_, q2⟩
    rw [forL_cons]
    unfold optR at h1 ⊢
    split at h1
    · cases h1
    · dsimp only
      rw [h1, turnR_nx, q1]
theorem forL_by {S : Type} {g : D → Rho → Option Rho} {b : SF} (emb : S → Rho) (P : List D → S → Prop) (ds : List D) (s : S) (h : P [] s)
    (k : ∀ pre d post s, ds = pre ++ d :: post → P pre s → ∃ s', optR (g d (emb s)) b = .nx (emb s') ∧ P (pre ++ [d]) s') : ∃ s', forL g b ds (emb s) = .nx (emb s') ∧ P ds s' :=
  forL_by' emb P ds [] s rfl h k
/-- a comprehension over things, by a test and an element -/
theorem lcL_fm {α : Type} {vs : List Nat} {g : D → Rho → Option Rho} {ft fe : EF} (ρ : Rho) (it : α → D) (p : α → Bool) (el : α → D) : ∀ (as : List α) (acc : List D), acc.length + as.length ≤ sizeLine →
    (∀ a, a ∈ as → ∃ ρ1, g (it a) ρ = some ρ1 ∧ (∃ ρ2, ft ρ1 = .ok (.sh (.bool (p a))) ρ2 ∧ wipeR ρ2 vs = ρ ∧ (p a = true → ∃ ρ3, eCap fe ρ2 = .ok (.sh (el a)) ρ3 ∧ wipeR ρ3 vs = ρ))) →
    lcL vs g ft fe (as.map it) acc ρ = .ok (.fr (.list (acc ++ (as.filter p).map el))) ρ
  | [], acc, _, _ => by simp [lcL_nil]
  | a :: as, acc, hl, k => by
    rw [List.length_cons] at hl
    obtain ⟨ρ1, h1, ρ2, h2, h3, h4⟩ := k a (List.mem_cons_self ..)
    rw [List.map_cons, lcL_cons, h1, optE_s, h2, bindB_ok]
    cases hp : p a with
    | true =>
      obtain ⟨ρ3, h5, h6⟩ := h4 hp
      rw [if_pos rfl, h5, bindE_ok, lcR_s, if_pos (by omega), h6, lcL_fm ρ it p el as _ (by rw [List.length_append, List.length_singleton]; omega) fun a m => k a (List.mem_cons_of_mem _ m), List.filter_cons_of_pos hp]
      simp
    | false =>
      rw [if_neg Bool.false_ne_true, h3, lcL_fm ρ it p el as _ (by omega) fun a m => k a (List.mem_cons_of_mem _ m), List.filter_cons_of_neg (by rw [hp]; exact Bool.false_ne_true)]
/-- .. where nothing else changes; up: what a turn sees -/
theorem lcL_up {α : Type} {vs : List Nat} {g : D → Rho → Option Rho} {ft fe : EF} (ρ : Rho) (it : α → D) (up : α → Rho) (p : α → Bool) (el : α → D) (as : List α) (acc : List D) (hl : acc.length + as.length ≤ sizeLine)
    (k : ∀ a, a ∈ as → g (it a) ρ = some (up a) ∧ ft (up a) = .ok (.sh (.bool (p a))) (up a) ∧ wipeR (up a) vs = ρ ∧ (p a = true → eCap fe (up a) = .ok (.sh (el a)) (up a))) :
    lcL vs g ft fe (as.map it) acc ρ = .ok (.fr (.list (acc ++ (as.filter p).map el))) ρ :=
  lcL_fm ρ it p el as acc hl fun a m => by
    obtain ⟨h1, h2, h3, h4⟩ := k a m
    exact ⟨_, h1, _, h2, h3, fun h => ⟨_, h4 h, h3⟩⟩
/-- .. without a test -/
theorem lcL_all {α : Type} {vs : List Nat} {g : D → Rho → Option Rho} {fe : EF} (ρ : Rho) (it : α → D) (up : α → Rho) (el : α → D) (as : List α) (acc : List D) (hl : acc.length + as.length ≤ sizeLine)
    (k : ∀ a, a ∈ as → g (it a) ρ = some (up a) ∧ wipeR (up a) vs = ρ ∧ eCap fe (up a) = .ok (.sh (el a)) (up a)) :
    lcL vs g (eNox eYes) fe (as.map it) acc ρ = .ok (.fr (.list (acc ++ as.map el))) ρ := by
  have := lcL_up (ft := eNox eYes) (fe := fe) ρ it up (fun _ => true) el as acc hl fun a m => by
    obtain ⟨h1, h2, h3⟩ := k a m
    exact ⟨h1, rfl, h2, fun _ => h3⟩
  rw [this, List.filter_eq_self.mpr fun _ _ => rfl]
end
theorem fits {n : Nat} (h : n ≤ 1000000) : n ≤ sizeLine := Nat.le_trans h (by decide)
theorem fitsl {n : Nat} (h : n < 1000000) : n < sizeLine := Nat.lt_of_lt_of_le h (by decide)
theorem len_eq (s : Str) : s.length = s.cps.toList.length := by rw [Array.length_toList]; rfl
theorem app_len (a b : Str) : (a ++ b).length = a.length + b.length := by
  show (a.cps ++ b.cps).size = a.cps.size + b.cps.size
  exact Array.size_append
theorem app_cps (a b : Str) : (a ++ b).cps.toList = a.cps.toList ++ b.cps.toList := by
  show (a.cps ++ b.cps).toList = _
  simp
theorem one_len (c : Nat) : (⟨#[c]⟩ : Str).length = 1 := rfl
theorem cut_len (z : Str) (lo hi : Option Int) : (cutS z lo hi).length ≤ z.length := by
  show (List.toArray _).size ≤ _
  rw [List.size_toArray, List.length_take, List.length_drop, Array.length_toList]
  show min _ (z.cps.size - _) ≤ z.cps.size
  omega
theorem cutD_len (ds : List D) (lo hi : Option Int) : (cutD ds lo hi).length ≤ ds.length := by
  unfold cutD
  rw [List.length_take, List.length_drop]
  omega
theorem cutD_mem {ds : List D} {lo hi : Option Int} {d : D} (h : d ∈ cutD ds lo hi) : d ∈ ds := by
  unfold cutD at h
  exact List.mem_of_mem_drop (List.mem_of_mem_take h)
/-- a list of things of one form -/
theorem all_map {α : Type} {f : α → D} {ds : List D} (h : ∀ d ∈ ds, ∃ a, d = f a) : ∃ as : List α, ds = as.map f := by
  induction ds with
  | nil => exact ⟨[], rfl⟩
  | cons d ds ih =>
    obtain ⟨a, rfl⟩ := h d (by simp)
    obtain ⟨as, rfl⟩ := ih fun d m => h d (by simp [m])
    exact ⟨a :: as, rfl⟩
end GS
namespace GM
open PySem L2 GS
/-- is_sign(text); slots 0:text 1:letter -/
def m_is_sign_b1 : SF := (sKill [1] (sIf (eB (eBin (inB true) (eVb 1) (eC (.str (Str.ofString "abcdefghijklmnopqrstuvwxyz"))))) (sEnd (sRet (eC (.bool false)))) sNil))
def m_is_sign : SF := (sSeq (sIf (eNot (eB (eChain (ltI fun i j => decide (i ≤ j)) (ltI fun i j => decide (i ≤ j)) (eC (.int 1)) (eCB (un1 lenD) (aCons (eVb 0) aNil)) (eC (.int 6))))) (sEnd (sRet (eC (.bool false)))) sNil) (sSeq (sFor (iSq (eMv 0)) (gN 1) (m_is_sign_b1)) (sEnd (sRet (eC (.bool true))))))
theorem m_is_sign_eq (ρ : Rho) : fnF 2 1 (m_is_sign) ρ = finR 1 (m_is_sign (ρ ++ [none])) := fnF_eq 2 1 _
end GM
namespace GM
open PySem L2 GS
abbrev GRT : Str := Str.ofString "ABCDEFGHIJKLMNOPQRSTUVWXYZ"
abbrev SML : Str := Str.ofString "abcdefghijklmnopqrstuvwxyz"
abbrev FIG : Str := Str.ofString "0123456789"
def okN (F : Str) (c : Nat) : Bool := decide (c ∈ F.cps) || decide (c ∈ FIG.cps)
def nameL (F : Str) : List Nat → Bool
  | [] => false
  | c :: cs => decide ((c :: cs).length ≤ 24) && decide (c ∈ F.cps) && (c :: cs).all (okN F)
def nameB (s : Str) : Bool := nameL GRT s.cps.toList
def signB (s : Str) : Bool := decide (1 ≤ s.cps.toList.length) && decide (s.cps.toList.length ≤ 6) && s.cps.toList.all fun c => decide (c ∈ SML.cps)
theorem is_sign_ok (s : Str) (hs : s.length ≤ sizeLine) : fnF 2 1 m_is_sign [some ⟨.str s, .sh⟩] = .ok (.sh (.bool (signB s))) [none] := by
  rw [m_is_sign_eq]
  have hl := len_eq s
  have h2 := forL_look (g := gN 1) (b := m_is_sign_b1) [some ⟨.str s, .sh⟩, none] [none, none] (fun c => .str ⟨#[c]⟩) (fun c => decide (c ∈ SML.cps)) (.sh (.bool false)) s.cps.toList
    (fun c _ => by by_cases h1 : c ∈ SML.cps <;> simp [m_is_sign_b1, h1])
  unfold signB
  obtain ⟨cs, hc⟩ : ∃ cs, s.cps.toList = cs := ⟨_, rfl⟩
  rw [hc] at hl h2
  rw [hl] at hs
  rw [hc]
  by_cases q1 : 1 ≤ cs.length
  · have q3 : (1 : Int) ≤ cs.length := by omega
    by_cases q2 : cs.length ≤ 6
    · have q4 : ¬ (6 : Int) < cs.length := by omega
      by_cases q5 : (cs.all fun c => decide (c ∈ SML.cps)) = true
      · rw [if_pos q5] at h2
        simp only [q5]
        simp [m_is_sign, hs, hl, hc, q3, q4, h2, q1, q2]
      · rw [if_neg q5] at h2
        simp only [q5]
        simp [m_is_sign, hs, hl, hc, q3, q4, h2, q1, q2]
    · have q4 : (6 : Int) < cs.length := by omega
      simp [m_is_sign, hs, hl, q3, q4, q1, q2]
  · have q3 : ¬ (1 : Int) ≤ cs.length := by omega
    simp [m_is_sign, hs, hl, q3, q1]
def SignSp (F : FF) : Prop := ∀ s : Str, s.length ≤ sizeLine → F [some ⟨.str s, .sh⟩] = .ok (.sh (.bool (signB s))) [none]
theorem signB_len {s : Str} (h : signB s = true) : 1 ≤ s.length ∧ s.length ≤ 6 := by
  have hl := len_eq s
  unfold signB at h
  simp only [Bool.and_eq_true, decide_eq_true_eq] at h
  rw [hl]
  exact ⟨h.1.1, h.1.2⟩
end GM
namespace GM
open PySem L2 GS
end GM
namespace GM
open PySem L2 GS
end GM
namespace GM
open PySem L2 GS
inductive Tr where
  | sign (s : Str)
  | void
  | hole (n : Str)
  | foot (n : Str)
  | knot (n : Str) (tk : Option (Str × Bool)) (ks : List Tr)
  deriving Inhabited
def encTk : Option (Str × Bool) → D
  | none => .none
  | some (m, b) => .tuple [.str m, .bool b]
def okTk : Option (Str × Bool) → Bool
  | none => true
  | some (m, _) => nameB m
mutual
def Tr.enc : Tr → D
  | .sign s => .tuple [.str (Str.ofString "sign"), .str s]
  | .void => .tuple [.str (Str.ofString "void")]
  | .hole n => .tuple [.str (Str.ofString "hole"), .str n]
  | .foot n => .tuple [.str (Str.ofString "foot"), .str n]
  | .knot n tk ks => .tuple [.str (Str.ofString "knot"), .str n, encTk tk, .tuple (Tr.encL ks)]
def Tr.encL : List Tr → List D
  | [] => []
  | t :: ts => t.enc :: Tr.encL ts
end
mutual
def Tr.ok : Tr → Bool
  | .sign s => signB s
  | .void => true
  | .hole n => nameB n
  | .foot n => nameB n
  | .knot n tk ks => nameB n && (okTk tk && (decide (1 ≤ ks.length) && (decide (ks.length ≤ 8) && Tr.okL ks)))
def Tr.okL : List Tr → Bool
  | [] => true
  | t :: ts => t.ok && Tr.okL ts
end
mutual
def Tr.ht : Tr → Nat
  | .knot _ _ ks => Tr.htL ks + 1
  | _ => 0
def Tr.htL : List Tr → Nat
  | [] => 0
  | t :: ts => max t.ht (Tr.htL ts)
end
mutual
/-- no dicts, texts of code points -/
def cleanB : D → Bool
  | .str x => PyData.strOk x
  | .list ds => cleanL ds
  | .tuple ds => cleanL ds
  | .dict _ => false
  | _ => true
def cleanL : List D → Bool
  | [] => true
  | d :: ds => cleanB d && cleanL ds
end
mutual
theorem clean_ok : ∀ d : D, cleanB d = true → plain d = true ∧ PyData.canLay0 d = true
  | .none, _ => ⟨rfl, rfl⟩
  | .bool _, _ => ⟨rfl, rfl⟩
  | .int _, _ => ⟨rfl, rfl⟩
  | .str x, h => ⟨rfl, h⟩
  | .list ds, h => by
    rw [cleanB] at h
    obtain ⟨h1, h2⟩ := cleanL_ok ds h
    exact ⟨by rw [GS.plain]; exact h1, by rw [PyData.canLay0]; exact h2⟩
  | .tuple ds, h => by
    rw [cleanB] at h
    obtain ⟨h1, h2⟩ := cleanL_ok ds h
    exact ⟨by rw [GS.plain]; exact h1, by rw [PyData.canLay0]; exact h2⟩
  | .dict _, h => by cases h
theorem cleanL_ok : ∀ ds : List D, cleanL ds = true → plainL ds = true ∧ PyData.canLayAll0 ds = true
  | [], _ => ⟨rfl, rfl⟩
  | d :: ds, h => by
    rw [cleanL, Bool.and_eq_true] at h
    obtain ⟨h1, h2⟩ := clean_ok d h.1
    obtain ⟨h3, h4⟩ := cleanL_ok ds h.2
    exact ⟨by rw [plainL, h1, h3]; rfl, by rw [PyData.canLayAll0, h2, h4]; rfl⟩
end
theorem okEq_of {d : D} (h : cleanB d = true) (hd : d.depth ≤ 64) : okEq d = true := by
  obtain ⟨h1, h2⟩ := clean_ok d h
  unfold okEq SeqAt.shaped
  rw [h1, h2, decide_eq_true hd]; rfl
theorem cleanL_of {ds : List D} (h : ∀ d ∈ ds, cleanB d = true) : cleanL ds = true := by
  induction ds with
  | nil => rfl
  | cons e ds ih => rw [cleanL, h e (by simp), ih fun t m => h t (by simp [m])]; rfl
theorem depthAll_of {ds : List D} {n : Nat} (h : ∀ d ∈ ds, d.depth ≤ n) : PyData.depthAll ds ≤ n := by
  induction ds with
  | nil => rw [PyData.depthAll]; omega
  | cons e ds ih =>
    rw [PyData.depthAll]
    have := h e (by simp)
    have := ih fun t m => h t (by simp [m])
    omega
theorem strOk_of {s : Str} (h : ∀ c ∈ s.cps.toList, c < 0x110000) : PyData.strOk s = true := by
  unfold PyData.strOk
  rw [← Array.all_toList, List.all_eq_true]
  intro c m
  exact decide_eq_true (h c m)
end GM
namespace GM
open PySem L2 GS
end GM
namespace GS
open PySem L2
/-- one of a list -/
def pick {α : Type} [Inhabited α] (xs : List α) (i : Int) : α := (atI xs i).getD default
theorem atI_pick {α : Type} [Inhabited α] {xs : List α} {i : Int} (h0 : 0 ≤ i) (h1 : i < xs.length) : atI xs i = some (pick xs i) ∧ pick xs i ∈ xs := by
  obtain ⟨x, h2, h3⟩ := atI_lt h0 h1
  unfold pick
  rw [h2]
  exact ⟨rfl, h3⟩
@[simp] theorem atI_mod {α : Type} [Inhabited α] {xs : List α} {c n : Int} (h0 : 0 < n) (h : n = xs.length) : atI xs (c % n) = some (pick xs (c % n)) :=
  (atI_pick (Int.emod_nonneg _ (by omega)) (by rw [← h]; exact Int.emod_lt_of_pos _ h0)).1
theorem pick_mem {α : Type} [Inhabited α] {xs : List α} {c n : Int} (h0 : 0 < n) (h : n = xs.length) : pick xs (c % n) ∈ xs :=
  (atI_pick (Int.emod_nonneg _ (by omega)) (by rw [← h]; exact Int.emod_lt_of_pos _ h0)).2
@[simp] theorem atI_1 {α : Type} (a b : α) (r : List α) : atI (a :: b :: r) 1 = some b := by
  have := atI_nat (xs := a :: b :: r) (j := 1) (v := b) rfl
  exact this
@[simp] theorem atI_2 {α : Type} (a b c : α) (r : List α) : atI (a :: b :: c :: r) 2 = some c := by
  have := atI_nat (xs := a :: b :: c :: r) (j := 2) (v := c) rfl
  exact this
@[simp] theorem atI_3 {α : Type} (a b c d : α) (r : List α) : atI (a :: b :: c :: d :: r) 3 = some d := by
  have := atI_nat (xs := a :: b :: c :: d :: r) (j := 3) (v := d) rfl
  exact this
instance : Inhabited D := ⟨.none⟩
/-- .. of a def that is lent its first argument -/
def RetI (r : RE) (rest : Rho) (P : Hd → D → Prop) : Prop := ∃ h b, r = .ok h (some ⟨b, .io⟩ :: rest) ∧ P h b
@[simp] theorem RetI_ok (h : Hd) (b : D) (rest : Rho) (P : Hd → D → Prop) : RetI (.ok h (some ⟨b, .io⟩ :: rest)) rest P ↔ P h b := ⟨fun ⟨_, _, e, h⟩ => by cases e; exact h, fun h => ⟨_, _, rfl, h⟩⟩
@[simp] theorem strOk_ofS (a : String) : PyData.strOk (Str.ofString a) = true := by
  unfold PyData.strOk
  rw [← Array.all_toList, ofS_cps, List.all_eq_true]
  intro c m
  obtain ⟨ch, _, rfl⟩ := List.mem_map.mp m
  have := ch.valid
  refine decide_eq_true ?_
  unfold Char.toNat
  rcases this with h | h
  · have : ch.val.toNat < 0xd800 := h
    omega
  · exact h.2
end GS
namespace GM
open PySem L2 GS
end GM
namespace GS
open PySem L2
theorem cutD_to (ds : List D) (i : Nat) : cutD ds none (some (i : Int)) = ds.take i := by
  unfold cutD
  rw [HT.sIx_none, HT.sIx_nat]
  simp only [List.drop_zero, Nat.sub_zero]
  by_cases h : i ≤ ds.length
  · rw [Nat.min_eq_left h]
  · rw [Nat.min_eq_right (by omega), List.take_of_length_le (Nat.le_refl _), List.take_of_length_le (by omega)]
theorem cutD_from (ds : List D) (i : Nat) : cutD ds (some (i : Int)) none = ds.drop i := by
  unfold cutD
  rw [HT.sIx_none, HT.sIx_nat]
  by_cases h : i ≤ ds.length
  · rw [Nat.min_eq_left h, List.take_of_length_le (by rw [List.length_drop]; omega)]
  · rw [Nat.min_eq_right (by omega), List.drop_of_length_le (Nat.le_refl _), List.drop_of_length_le (by omega), List.take_nil]
theorem cutS_to (z : Str) (i : Nat) : (cutS z none (some (i : Int))).cps.toList = z.cps.toList.take i := by
  have hl : z.cps.toList.length = z.length := (len_eq z).symm
  unfold cutS
  rw [HT.sIx_none, HT.sIx_nat]
  simp only [List.drop_zero, Nat.sub_zero]
  by_cases h : i ≤ z.length
  · rw [Nat.min_eq_left h]
  · rw [Nat.min_eq_right (by omega), ← hl, List.take_of_length_le (Nat.le_refl _), List.take_of_length_le (by omega)]
theorem cutS_from (z : Str) (i : Nat) : (cutS z (some (i : Int)) none).cps.toList = z.cps.toList.drop i := by
  have hl : z.cps.toList.length = z.length := (len_eq z).symm
  unfold cutS
  rw [HT.sIx_none, HT.sIx_nat]
  by_cases h : i ≤ z.length
  · rw [Nat.min_eq_left h, List.take_of_length_le (by rw [List.length_drop]; omega)]
  · rw [Nat.min_eq_right (by omega), List.drop_of_length_le (by omega), List.drop_of_length_le (by omega), List.take_nil]
theorem str_ext {a b : Str} (h : a.cps.toList = b.cps.toList) : a = b := by
  obtain ⟨a⟩ := a
  obtain ⟨b⟩ := b
  congr
  exact Array.ext' (by simpa using h)
end GS
namespace GM
open PySem L2 GS
/-- _law_box(script); slots 0:script 1:seed 2:great 3:cell -/
def m_law_box_b1 : SF := (sKill [3] (sSeq (sSet 1 (eBin modD (eBin addD (eBin addD (eBin mulA (eVb 1) (eC (.int 69621))) (eBin modD (eVb 3) (eC (.int 2147483629)))) (eC (.int 1))) (eC (.int 2147483647)))) (sIf (eB (eBin (ltI fun i j => decide (j ≤ i)) (eVb 3) (eBin powD (eC (.int 10)) (eC (.int 18))))) (sApp 2 (eMv 3)) sNil)))
def m_law_box : SF := (sSeq (sSet 1 (eC (.int 1))) (sSeq (sSet 2 (eLst aNil)) (sSeq (sFor (iSq (eMv 0)) (gN 3) (m_law_box_b1)) (sEnd (sRet (eLst (aCons (eMv 1) (aCons (eC (.int 0)) (aCons (eMv 2) aNil)))))))))
theorem m_law_box_eq (ρ : Rho) : fnF 4 1 (m_law_box) ρ = finR 1 (m_law_box (ρ ++ [none, none, none])) := fnF_eq 4 1 _
/-- _law_pick(box, count); slots 0:box 1:count 2:stir 3:digit -/
def m_law_pick : SF := (sSeq (sIf (eAnd (eB (eBin (eqB false) (eBin ixA (eVb 0) (eC (.int 1))) (eC (.int 0)))) (eB (eBin (ltI fun i j => decide (j < i)) (eCB (un1 lenD) (aCons (eBin ixA (eVb 0) (eC (.int 2))) aNil)) (eC (.int 0))))) (sSeq (sPut 0 (eC (.int 1)) (eBin ixA (eBin ixA (eVb 0) (eC (.int 2))) (eC (.int 0)))) (sPut 0 (eC (.int 2)) (eSl (eBin ixA (eVb 0) (eC (.int 2))) (some (eC (.int 1))) none))) sNil) (sSeq (sKill [3] (sIf (eB (eBin (ltI fun i j => decide (j < i)) (eBin ixA (eVb 0) (eC (.int 1))) (eC (.int 0)))) (sSeq (sSet 3 (eBin modD (eBin ixA (eVb 0) (eC (.int 1))) (eVb 1))) (sSeq (sPut 0 (eC (.int 1)) (eBin divD (eBin ixA (eVb 0) (eC (.int 1))) (eVb 1))) (sEnd (sRet (eRv 3))))) sNil)) (sSeq (sPut 0 (eC (.int 0)) (eBin modD (eBin addD (eBin mulA (eBin ixA (eVb 0) (eC (.int 0))) (eC (.int 48271))) (eC (.int 7919))) (eC (.int 2147483647)))) (sSeq (sSet 2 (eBin modD (eBin mulA (eBin ixA (eVb 0) (eC (.int 0))) (eBin ixA (eVb 0) (eC (.int 0)))) (eC (.int 2147483629)))) (sEnd (sRet (eBin modD (eBin divD (eBin modD (eBin mulA (eVb 2) (eC (.int 40692))) (eC (.int 2147483587))) (eC (.int 8))) (eVb 1))))))))
theorem m_law_pick_eq (ρ : Rho) : fnF 4 2 (m_law_pick) ρ = finR 2 (m_law_pick (ρ ++ [none, none])) := fnF_eq 4 2 _
/-- _law_words(box, heads, tail, count); slots 0:box 1:heads 2:tail 3:count 4:stem 5:k 6:at 7:turn 8:some 9:word -/
def m_law_words_b1 (F__law_pick : FF) : SF := (sKill [5, 9] (sSeq (sSet 9 (eBin addD (eBin addD (eSl (eVb 4) none (some (eVb 6))) (eBin ixA (eVb 1) (eBin modD (eBin addD (eVb 7) (eBin mulA (eVb 5) (eC (.int 5)))) (eC (.int 26))))) (eSl (eVb 4) (some (eVb 6)) none))) (sApp 8 (eBin addD (eVb 9) (eBin mulA (eVb 2) (eCall 2 (some 0) F__law_pick (aCons (eVb 0) (aCons (eC (.int 2)) aNil))))))))
def m_law_words_b2 (F__law_pick : FF) : SF := (sKill [5] (sSet 4 (eBin addD (eVb 4) (eBin ixA (eVb 1) (eCall 2 (some 0) F__law_pick (aCons (eVb 0) (aCons (eC (.int 26)) aNil)))))))
def m_law_words (F__law_pick : FF) : SF := (sSeq (sSet 4 (eC (.str (Str.ofString "")))) (sSeq (sFor (iR1 (eCall 2 (some 0) F__law_pick (aCons (eVb 0) (aCons (eC (.int 4)) aNil)))) (gN 5) (m_law_words_b2 F__law_pick)) (sSeq (sSet 6 (eCall 2 (some 0) F__law_pick (aCons (eVb 0) (aCons (eBin addD (eCB (un1 lenD) (aCons (eVb 4) aNil)) (eC (.int 1))) aNil)))) (sSeq (sSet 7 (eCall 2 (some 0) F__law_pick (aCons (eVb 0) (aCons (eC (.int 26)) aNil)))) (sSeq (sSet 8 (eLst aNil)) (sSeq (sFor (iR1 (eVb 3)) (gN 5) (m_law_words_b1 F__law_pick)) (sEnd (sRet (eRv 8)))))))))
theorem m_law_words_eq (F__law_pick : FF) (ρ : Rho) : fnF 10 4 (m_law_words F__law_pick) ρ = finR 4 (m_law_words F__law_pick (ρ ++ [none, none, none, none, none, none])) := fnF_eq 10 4 _
end GM
namespace GM
open PySem L2 GS
/-- a box -/
def Bx (d : D) : Prop := ∃ (s g : Int) (gs : List Int), d = .list [.int s, .int g, .list (gs.map .int)] ∧ 0 ≤ s ∧ s < 2147483647
def PickSp (F : FF) : Prop := ∀ (b : D) (n : Nat), Bx b → 0 < n → n < 1073741824 → ∃ (r : Nat) (b' : D), F [some ⟨b, .io⟩, some ⟨.int n, .sh⟩] = .ok (.sh (.int r)) [some ⟨b', .io⟩, none] ∧ Bx b' ∧ r < n
theorem cut1 (g : Int) (gs : List Int) : cutD ((g :: gs).map PyData.int) (some 1) none = gs.map .int := by
  unfold cutD
  have h1 : HT.sIx ((g :: gs).map PyData.int).length 0 (some 1) = 1 := by
    simp [HT.sIx]
  have h2 : HT.sIx ((g :: gs).map PyData.int).length ((g :: gs).map PyData.int).length none = gs.length + 1 := by
    simp [HT.sIx]
  rw [h1, h2]
  simp [List.take_of_length_le]
theorem law_pick_ok : PickSp (fnF 4 2 m_law_pick) := fun b n hb h0 hn => by
  obtain ⟨s, g, gs, rfl, s1, s2⟩ := hb
  have n0 : (0 : Int) < (n : Int) := by omega
  have n1 : (n : Int) < 1073741824 := by omega
  have i0 : ixN 3 0 = some 0 := rfl
  have i1 : ixN 3 1 = some 1 := rfl
  have i2 : ixN 3 2 = some 2 := rfl
  have m1 : cMul s 48271 = true := cMul_r (by decide)
  obtain ⟨t, ht⟩ : ∃ t, (s * 48271 + 7919) % 2147483647 = t := ⟨_, rfl⟩
  have t1 := Int.emod_nonneg (s * 48271 + 7919) (show (2147483647 : Int) ≠ 0 by decide)
  have t2 := Int.emod_lt_of_pos (s * 48271 + 7919) (show (0 : Int) < 2147483647 by decide)
  rw [ht] at t1 t2
  have m2 : cMul t t = true := cMul_r (by omega)
  have m3 : cMul (t * t % 2147483629) 40692 = true := cMul_r (by decide)
  suffices h : RetI (fnF 4 2 m_law_pick [some ⟨.list [.int s, .int g, .list (gs.map .int)], .io⟩, some ⟨.int n, .sh⟩]) [none] (fun h b => Bx b ∧ ∃ i : Int, h = .sh (.int i) ∧ 0 ≤ i ∧ i < n) by
    obtain ⟨h, b, e, hb, i, rfl, e0, e1⟩ := h
    exact ⟨i.toNat, b, by rw [e, Int.toNat_of_nonneg e0], hb, by omega⟩
  rw [m_law_pick_eq]
  have fin : ∀ (i : Int) (g' : Int) (gs' : List Int) (s' : Int), 0 ≤ s' → s' < 2147483647 → (Bx (.list [.int s', .int g', .list (gs'.map .int)]) ∧ 0 ≤ i % n ∧ i % n < n) := fun i g' gs' s' q1 q2 =>
    ⟨⟨s', g', gs', rfl, q1, q2⟩, Int.emod_nonneg _ (by omega), Int.emod_lt_of_pos _ n0⟩
  by_cases c : g = 0 ∧ gs ≠ []
  · obtain ⟨rfl, c2⟩ := c
    cases gs with
    | nil => exact absurd rfl c2
    | cons x xs =>
      have hc := cut1 x xs
      rw [List.map_cons] at hc
      by_cases hx : 0 < x
      · simp [m_law_pick, i1, i2, hc, hx, h0, n1, resO_div, resO_mod]
        exact fin _ _ _ _ s1 s2
      · simp [m_law_pick, i0, i1, i2, hc, hx, h0, n1, resO_div, resO_mod, m1, m2, m3, ht]
        exact fin _ _ _ _ t1 t2
  · by_cases hg : 0 < g
    · have z : ¬ g = 0 := by omega
      simp [m_law_pick, i1, i2, z, hg, h0, n1, resO_div, resO_mod]
      exact fin _ _ _ _ s1 s2
    · by_cases z : g = 0
      · have : gs = [] := by
          by_cases q : gs = []
          · exact q
          · exact absurd ⟨z, q⟩ c
        subst this
        simp [m_law_pick, i0, i1, i2, z, h0, n1, resO_div, resO_mod, m1, m2, m3, ht]
        exact fin _ _ [] _ t1 t2
      · simp [m_law_pick, i0, i1, i2, z, hg, h0, n1, resO_div, resO_mod, m1, m2, m3, ht]
        exact fin _ _ _ _ t1 t2
def BoxSp (F : FF) : Prop := ∀ ns : List Int, ns.length ≤ 100000 → ∃ b, F [some ⟨.list (ns.map .int), .sh⟩] = .ok (.fr b) [none] ∧ Bx b
theorem law_box_ok : BoxSp (fnF 4 1 m_law_box) := fun ns hl => by
  have hp : ∀ ρ : Rho, resO (powD (.int 10) (.int 18)) ρ = .ok (.sh (.int (10 ^ 18))) ρ := fun ρ => by
    rw [resO_pow (by decide) (by decide) (by decide)]; rfl
  obtain ⟨⟨s, gs⟩, hf, h1, h2, h3⟩ := forL_by (S := Int × List Int) (g := gN 3) (b := m_law_box_b1) (fun p => [some ⟨.list (ns.map .int), .sh⟩, some ⟨.int p.1, .sh⟩, some ⟨.list (p.2.map .int), .ow⟩, none])
    (fun pre p => 0 ≤ p.1 ∧ p.1 < 2147483647 ∧ p.2.length ≤ pre.length) (ns.map .int) (1, []) ⟨by decide, by decide, by simp⟩ (fun pre d post ⟨s, gs⟩ hd ⟨h1, h2, h3⟩ => by
      obtain ⟨c, hc, rfl⟩ : ∃ c ∈ ns, PyData.int c = d := List.mem_map.mp (by rw [hd]; simp)
      have hlen : pre.length < ns.length := by
        have := congrArg List.length hd
        simp at this
        omega
      dsimp only at h1 h2 h3 ⊢
      have m1 : cMul s 69621 = true := cMul_r (by decide)
      have hz : gs.length < sizeLine := fitsl (by omega)
      have t1 := Int.emod_nonneg (s * 69621 + c % 2147483629 + 1) (show (2147483647 : Int) ≠ 0 by decide)
      have t2 := Int.emod_lt_of_pos (s * 69621 + c % 2147483629 + 1) (show (0 : Int) < 2147483647 by decide)
      by_cases q : 10 ^ 18 ≤ c
      · refine ⟨((s * 69621 + c % 2147483629 + 1) % 2147483647, gs ++ [c]), ?_, t1, t2, by simp; omega⟩
        simp [m_law_box_b1, m1, hp, q, hz]
        simp at q
        simp [q, hz]
      · refine ⟨((s * 69621 + c % 2147483629 + 1) % 2147483647, gs), ?_, t1, t2, by simp; omega⟩
        simp [m_law_box_b1, m1, hp, q]
        simp at q
        intro q2
        omega)
  refine ⟨.list [.int s, .int 0, .list (gs.map .int)], ?_, s, 0, gs, rfl, h1, h2⟩
  rw [m_law_box_eq]
  dsimp only at hf
  simp [m_law_box, hf]
  simp at hf
  simp [hf]
/-- the words that are drawn: at most four letters, the first one a head, and a tail perhaps -/
def WordOk (heads tail : Str) (w : Str) : Prop := w.length ≤ 5 ∧ (∃ c cs, w.cps.toList = c :: cs ∧ c ∈ heads.cps.toList) ∧ ∀ c ∈ w.cps.toList, c ∈ heads.cps.toList ∨ c ∈ tail.cps.toList
theorem mul01 (z : Str) (r : Nat) (h : r < 2) (hz : z.length = 1) : ∃ u : Str, mulA (.str z) (.int r) = some (.sh (.str u)) ∧ u.length ≤ 1 ∧ ∀ c ∈ u.cps.toList, c ∈ z.cps.toList := by
  refine ⟨Txt.mul z r, ?_, ?_, ?_⟩
  · rw [mulA_s, if_pos]
    rw [hz]
    rcases (show r = 0 ∨ r = 1 by omega) with rfl | rfl <;> decide
  · rcases (show r = 0 ∨ r = 1 by omega) with rfl | rfl
    · simp [Txt.mul]; decide
    · simp [Txt.mul, hz]
  · rcases (show r = 0 ∨ r = 1 by omega) with rfl | rfl
    · simp [Txt.mul]; simp [Str.empty]
    · simp [Txt.mul]
end GM
namespace GM
open PySem L2 GS
/-- _law_walker(box, count, signs); slots 0:box 1:count 2:signs 3:full 4:steps 5:state 6:at 7:ends 8:sign -/
def m_law_walker_ct1 (F__law_pick : FF) : EF := (eB (eBin (ltI fun i j => decide (j < i)) (eCall 2 (some 0) F__law_pick (aCons (eVb 0) (aCons (eC (.int 3)) aNil))) (eC (.int 0))))
def m_law_walker_ce2 (F__law_pick : FF) : EF := (eMv 5)
def m_law_walker_b3 (F__law_pick : FF) : SF := (sKill [8] (sIf (eOr (eB (eVb 3)) (eB (eBin (ltI fun i j => decide (j < i)) (eCall 2 (some 0) F__law_pick (aCons (eVb 0) (aCons (eC (.int 7)) aNil))) (eC (.int 0))))) (sApp 4 (eTup (aCons (eMv 5) (aCons (eMv 8) (aCons (eCall 2 (some 0) F__law_pick (aCons (eVb 0) (aCons (eMv 1) aNil))) aNil))))) sNil))
def m_law_walker_b4 (F__law_pick : FF) : SF := (sKill [5, 8] (sFor (iSq (eMv 2)) (gN 8) (m_law_walker_b3 F__law_pick)))
def m_law_walker (F__law_pick : FF) : SF := (sSeq (sSet 3 (eBin (eqB false) (eCall 2 (some 0) F__law_pick (aCons (eVb 0) (aCons (eC (.int 4)) aNil))) (eC (.int 0)))) (sSeq (sSet 4 (eLst aNil)) (sSeq (sFor (iR1 (eVb 1)) (gN 5) (m_law_walker_b4 F__law_pick)) (sSeq (sSet 6 (eCall 2 (some 0) F__law_pick (aCons (eVb 0) (aCons (eBin addD (eCB (un1 lenD) (aCons (eVb 4) aNil)) (eC (.int 1))) aNil)))) (sSeq (sSet 4 (eBin addD (eSl (eVb 4) (some (eVb 6)) none) (eSl (eVb 4) none (some (eVb 6))))) (sSeq (sIf (eB (eBin (eqB false) (eCall 2 (some 0) F__law_pick (aCons (eVb 0) (aCons (eC (.int 2)) aNil))) (eC (.int 1)))) (sSet 4 (eRev (eVb 4))) sNil) (sSeq (sSet 7 (eLc [5] (iR1 (eVb 1)) (gN 5) (eNox (m_law_walker_ct1 F__law_pick)) (eNox (m_law_walker_ce2 F__law_pick)))) (sEnd (sRet (eTup (aCons (eMv 1) (aCons (eCall 2 (some 0) F__law_pick (aCons (eVb 0) (aCons (eMv 1) aNil))) (aCons (eCB (un1 tupleD) (aCons (eVb 7) aNil)) (aCons (eCB (un1 tupleD) (aCons (eVb 4) aNil)) aNil))))))))))))))
theorem m_law_walker_eq (F__law_pick : FF) (ρ : Rho) : fnF 9 3 (m_law_walker F__law_pick) ρ = finR 3 (m_law_walker F__law_pick (ρ ++ [none, none, none, none, none, none])) := fnF_eq 9 3 _
end GM
namespace GM
open PySem L2 GS
abbrev Step := Int × Str × Int
def encSt (s : Step) : D := .tuple [.int s.1, .str s.2.1, .int s.2.2]
structure Wk where
  many : Int
  begin' : Int
  ends : List Int
  steps : List Step
def Wk.enc (w : Wk) : D := .tuple [.int w.many, .int w.begin', .tuple (w.ends.map .int), .tuple (w.steps.map encSt)]
def Wk.step (w : Wk) (st : Int) (sg : Str) : Option Int := w.steps.findSome? fun s => if s.1 = st ∧ s.2.1 = sg then some s.2.2 else none
def Wk.run (w : Wk) (row : List Str) : Option Int := row.foldlM (fun st sg => w.step st sg) w.begin'
def optI : Option Int → D
  | none => .none
  | some i => .int i
def StepSp (F : FF) : Prop := ∀ (w : Wk) (st : Int) (sg : Str), F [some ⟨w.enc, .sh⟩, some ⟨.int st, .sh⟩, some ⟨.str sg, .sh⟩] = .ok (.sh (optI (w.step st sg))) [none, none, none]
end GM
namespace PySem
open Sem (wp)
open AutoSeq1 (wpAny_loadPart')
section
variable {prog : Program} {w : World} {A : Around} {E : Value → Shared → Prop} {s : Shared}
end
end PySem
namespace L2
open PySem PySem.Spec PyProof.Rows
end L2
namespace GS
open PySem L2
section
variable {X : Cx} {C : Ct} {ρ ρ1 : Rho} {σ σ1 : St} {B H B1 H1 : Hp} {e tg : Expr} {te : TE} {fe : EF} {pos p tpos : Pos}
end
end GS
namespace GS
open PySem L2
section
variable {K : KW} {X : Cx} {C : Ct} {ρ ρ1 : Rho} {σ σ1 : St} {B H B1 H1 : Hp} {e e2 : Expr} {te ti : TE} {fe fi : EF} {pos : Pos} {st : Stmt}
def okI (i : Int) : Bool := decide (0 ≤ i) && Nat.ble i.natAbs 1000000000
def insD (k : Int) (y : D) : D → Option D
  | .list ds => if decide (ds.length < sizeLine) && okI k then some (.list (ds.take k.toNat ++ [y] ++ ds.drop k.toNat)) else none
  | _ => none
def insR (i : Nat) (k : Int) (h : Hd) (ρ : Rho) : RS := match h with
  | .sh y => mutS ρ i (insD k y)
  | _ => .stuck
def insI (i : Nat) (fe : EF) (o : Option D) (ρ : Rho) : RS := match o with
  | some (.int k) => bindES (eCap fe ρ) (insR i k)
  | _ => .stuck
def sIns (i : Nat) (fi fe : EF) : SF := fun ρ => if isL ρ i then bindES (eSet fi ρ) fun h ρ1 => insI i fe (getH ρ1 h) ρ1 else .stuck
theorem ss_ins {i : Nat} {x : Str} {q1 q2 q3 : Pos} (li : SE X C e ti fi) (l : SE X C e2 te fe) (hN : X.N[i]? = some x := by rfl) (hv : Vis X.env.scope x := by first | exact Or.inl rfl | exact Or.inr (Or.inl rfl) | exact Or.inr (Or.inr rfl)) (hd : (x == ("__debug__" : Str)) = false := by decide)
    (hcd : (x == ("__classdict__" : Str)) = false := by decide) (hk : X.K = C.K := by rfl) (hs : starEach [e, e2] X.env = (false, eval e X.env) :: starEach [e2] X.env := by rfl) (hs2 : starEach [e2] X.env = (false, eval e2 X.env) :: starEach [] X.env := by rfl)
    (hfew : ((backTo q3 (starEach [e, e2] X.env)).all (fun x => !x.1) && (backToKw q3 (keywordEach [] X.env)).all (fun x => x.1.isSome) && decide ([e, e2].length + ([] : List Keyword).length + (if ([] : List Keyword).isEmpty then 0 else 1) < 30)) = true := by rfl)
    (hline : (q2.endLine == q3.line) = true := by rfl) (hplain : (backTo q3 (starEach [e2] X.env)).any (·.1) = false := by rfl) :
    SS X C (.Expr (.Call (.Attribute (.Name x q1) "insert" q2) [e, e2] [] q3) pos) (tDrop (tBM C.K "list" (fun x vs H Q => ∃ (l : Addr) (xs : List V) (i : Int) (y : V), x = .ref l ∧ vs = [.int i, y] ∧ H l = some (.lst xs) ∧ xs.length < sizeLine ∧ 0 ≤ i ∧ i < 2 ^ 63 ∧
    Q .non (upd H l (.lst (xs.take i.toNat ++ [y] ++ xs.drop i.toNat)))) (tVar i) (tCons ti (tCons te tNil)))) (sIns i fi fe) := by
  refine ⟨by rw [← hk]; exact ps_expr (pe_bm PySem.F.plainAttrs_list PySem.F.slot_list_insert PySem.F.type_list_insert mt_insert (pe_var hN hv hd hcd) (pa_cons li.pe (pa_cons l.pe pa_nil hs2) hs) rfl hfew hline hs hplain), fun ρ σ B H E S g => ?_⟩
  unfold sIns at g
  by_cases hl : isL ρ i = true
  case neg => rw [if_neg hl] at g; exact g.elim
  rw [if_pos hl] at g
  obtain ⟨a, vs, ea, sq⟩ := isL_ok S hl
  refine ⟨.ref a, ea, tyL sq, ?_⟩
  refine (LkE.set li.lk).bindS S g fun hd ρ1 v B1 H1 S1 x1 y1 g1 => ?_
  unfold insI at g1
  split at g1
  · rename_i k ek
    have tk := S1.tp y1 ek
    rw [tk.int]
    refine l.lk.cap.bindS S1 (GoodS.ext x1 g1) fun hd2 ρ2 v2 B2 H2 S2 x2 y2 g2 => ?_
    cases hd2 with
    | sh y =>
      obtain ⟨c, d', h1, h2, h3, h4⟩ := mutS_ok g2
      obtain ⟨a', ea', hb, ow⟩ := S2.own h1 h2
      rw [ea] at ea'
      cases ea'
      obtain ⟨d, fl⟩ := c
      cases d with
      | list ds =>
        obtain ⟨hc, rfl⟩ := if_some (show (if decide (ds.length < sizeLine) && okI k then some (.list (ds.take k.toNat ++ [y] ++ ds.drop k.toNat)) else none) = some d' from h3)
        rw [Bool.and_eq_true] at hc
        have hk2 := hc.2
        unfold okI at hk2
        rw [Bool.and_eq_true] at hk2
        have k0 := of_decide_eq_true hk2.1
        have k1 := Nat.le_of_ble_eq_true hk2.2
        obtain ⟨ws, ew, rw'⟩ := ow
        have ow' : Ow C.K B2 a (some (.lst (ws.take k.toNat ++ [v2] ++ ws.drop k.toNat))) (.list (ds.take k.toNat ++ [y] ++ ds.drop k.toNat)) := ⟨_, rfl, ((rw'.take _).append (.cons y2 .nil)).append (rw'.drop _)⟩
        obtain ⟨S3, x3⟩ := S2.mut h1 h2 ea ow'
        exact ⟨a, ws, k, v2, rfl, rfl, ew, by rw [rw'.length]; exact of_decide_eq_true hc.1, k0, by omega, h4 _ _ _ S3 (x2.trans x3)⟩
      | _ => cases h3
    | _ => exact g2.elim
  · exact g1.elim
end
end GS
namespace GS
open PySem L2
section
variable {ρ ρ1 : Rho} {c : Prop} [Decidable c]
@[simp] theorem insR_sh (i : Nat) (k : Int) (y : D) : insR i k (.sh y) ρ = mutS ρ i (insD k y) := rfl
@[simp] theorem insI_i (i : Nat) (f : EF) (k : Int) : insI i f (some (.int k)) ρ = bindES (eCap f ρ) (insR i k) := rfl
@[simp] theorem sIns_eq (i : Nat) (fi fe : EF) : sIns i fi fe ρ = if isL ρ i then bindES (eSet fi ρ) (fun h ρ1 => insI i fe (getH ρ1 h) ρ1) else .stuck := rfl
@[simp] theorem insD_l (k : Int) (y : D) (ds : List D) : insD k y (.list ds) = if decide (ds.length < sizeLine) && okI k then some (.list (ds.take k.toNat ++ [y] ++ ds.drop k.toNat)) else none := rfl
theorem okI_nat {m : Nat} (h : m ≤ 1000000000) : okI (m : Int) = true := by
  unfold okI
  rw [Int.natAbs_natCast, Nat.ble_eq_true_of_le h, decide_eq_true (by omega)]; rfl
end
end GS
namespace GS
open PySem L2
def mRes (o : D → D → Option Hd) (a b : Option D) (ρ : Rho) : RE := match a, b with
  | some x, some y => (match o x y with
    | some h => .ok h ρ
    | none => .stuck)
  | _, _ => .stuck
def mGo (o : D → D → Option Hd) (fa : EF) (ha : Hd) (d : Option D) (ρ1 : Rho) : RE := match d with
  | some (.str _) => bindE (eSet fa ρ1) fun hb ρ2 => mRes o (getH ρ2 ha) (getH ρ2 hb) ρ2
  | _ => .stuck
/-- x.m(y), x a text -/
def eM1 (o : D → D → Option Hd) (fr fa : EF) : EF := fun ρ => bindE (eSet fr ρ) fun ha ρ1 => mGo o fa ha (getH ρ1 ha) ρ1
section
variable {K : KW} {X : Cx} {C : Ct} {a b : Expr} {ta tb : TE} {fa fb : EF} {apos pos : Pos}
theorem lk_m1 {r : V → List V → Hp → VK → Prop} {o : D → D → Option Hd} (hr : OpL C.K (fun x y H Q => r x [y] H Q) o) (la : LkE C ta fa) (lb : LkE C tb fb) : LkE C (tM1 r ta tb) (eM1 o fa fb) := fun ρ σ B H Q S g => by
  refine la.setBind S g fun ha ρ1 x B1 H1 S1 e1 y1 g1 => ?_
  unfold mGo at g1
  split at g1
  · rename_i z ez
    have tz := S1.tp y1 ez
    refine ⟨⟨z, tz.str⟩, ?_⟩
    refine lb.setBind S1 g1 fun hb ρ2 y B2 H2 S2 e2 y2 g2 => ?_
    unfold mRes at g2
    split at g2
    · rename_i da db ea eb
      split at g2
      · rename_i h eh
        exact hr ρ2 σ B2 H2 x y da db h Q S2 (S2.tp (N := fun _ => True) (HdOk.ext e2 y1) ea) (S2.tp y2 eb) eh g2
      · exact g2.elim
    · exact g2.elim
  · exact g1.elim
theorem szl' : sizeLine = 16777216 := by decide +kernel
end
end GS
namespace GS
open PySem L2
section
variable {ρ ρ1 : Rho} {c : Prop} [Decidable c]
@[simp] theorem mRes_s (o : D → D → Option Hd) (x y : D) : mRes o (some x) (some y) ρ = resO (o x y) ρ := rfl
@[simp] theorem mGo_s (o : D → D → Option Hd) (fa : EF) (ha : Hd) (z : Str) : mGo o fa ha (some (.str z)) ρ = bindE (eSet fa ρ) fun hb ρ2 => mRes o (getH ρ2 ha) (getH ρ2 hb) ρ2 := rfl
@[simp] theorem eM1_eq (o : D → D → Option Hd) (fr fa : EF) : eM1 o fr fa ρ = bindE (eSet fr ρ) fun ha ρ1 => mGo o fa ha (getH ρ1 ha) ρ1 := rfl
end
end GS
namespace GS
open PySem L2 PySem.Spec PyProof.Rows
section
variable {X : Cx} {pins : List (Addr × Obj)} {σ : L2.St} {H : Hp} {s : Shared}
end
section
variable {X : Cx} {x n : Str} {c : Value} {i : Nat} {body suite : List Stmt} {b₀ : Stmt} {np pos pos' : Pos} {R : TS} {ts : TS} {Wout : WX}
end
end GS
namespace GS
open PySem L2
section
variable {K : KW} {ρ ρ1 : Rho} {σ σ1 : St} {B H B1 H1 : Hp}
end
section
variable {X : Cx} {C : Ct} {x n : Str} {c : Value} {i : Nat} {body suite : List Stmt} {b₀ : Stmt} {np pos pos' : Pos} {ts : TS} {fb fh : SF} {ns cs : List Str}
end
end GS
namespace GS
open PySem L2
section
variable {X : Cx} {C : Ct} {e : Expr} {te : TE} {fe : EF} {pos : Pos} {ns cs : List Str}
end
end GS
namespace GS
open PySem L2
section
variable {X : Cx} {e : Expr} {es : List Expr} {ta : TA} {p1 p2 pos : Pos} {x : Str} {G : Addr}
end
section
variable {P : Program} {w : World} {K : PySem.W.Frag} {mg : Str → Option Value} {base : Heap}
end
end GS
namespace GS
open PySem L2
section
variable {X : Cx} {C : Ct} {e : Expr} {es : List Expr} {ta : TA} {fa : AF} {p pos pos' : Pos} {x : Str} {fns : List Str}
end
end GS
namespace GS
open PySem L2 PySem.Spec PyProof.Rows
end GS
namespace GS
open PySem L2
section
variable {ρ ρ1 : Rho} {c : Prop} [Decidable c]
@[simp] theorem bindBS_ok' (d : D) (b : Bool) (k : Bool → Rho → RS) (h : d = .bool b) : bindBS (.ok (.sh d) ρ) k = k b ρ := by subst h; rfl
@[simp] theorem bindI_ex (x : Xc) (k : List D → Rho → RS) : bindI (.exc x ρ) k = .exc x ρ := rfl
@[simp] theorem bindIE_ex (x : Xc) (k : List D → Rho → RE) : bindIE (.exc x ρ) k = .exc x ρ := rfl
@[simp] theorem consA_ex (h : Hd) (x : Xc) : consA h (.exc x ρ) = .exc x ρ := rfl
end
end GS
namespace GM
open PySem L2 GS
end GM
namespace GM
open PySem L2 GS
end GM
namespace GM
open PySem L2 GS
end GM
namespace GM
open PySem L2 GS
def Tr.kids : Tr → List Tr
  | .knot _ _ ks => ks
  | _ => []
mutual
def Tr.pieces : Tr → List Tr
  | .knot n tk ks => .knot n tk ks :: Tr.piecesL ks
  | t => [t]
def Tr.piecesL : List Tr → List Tr
  | [] => []
  | t :: ts => t.pieces ++ Tr.piecesL ts
end
mutual
def Tr.places : Tr → List (List Nat)
  | .knot _ _ ks => [] :: Tr.placesL 0 ks
  | _ => [[]]
def Tr.placesL : Nat → List Tr → List (List Nat)
  | _, [] => []
  | k, t :: ts => t.places.map (k :: ·) ++ Tr.placesL (k + 1) ts
end
def Tr.at : Tr → List Nat → Option Tr
  | t, [] => some t
  | t, k :: p => (t.kids[k]?).bind fun u => u.at p
def Tr.footN : Tr → Option Str
  | .foot n => some n
  | _ => none
def Tr.feet (t : Tr) : List Str := t.pieces.filterMap Tr.footN
def Tr.word : Tr → Str
  | .knot n _ _ => n
  | .foot n => n
  | .hole n => n
  | .sign s => s
  | .void => default
/-- the name of a start or a graft -/
def Tr.name (t : Tr) : Str := match t.feet with
  | [n] => n
  | _ => t.word
def Tr.signN : Tr → Option Str
  | .sign n => some n
  | _ => none
def Tr.signs (t : Tr) : List Str := t.pieces.filterMap Tr.signN
end GM
namespace GM
open PySem L2 GS
end GM
namespace GM
open PySem L2 GS
structure Bk where
  top : Str
  trees : List (Str × Tr)
def encKT (p : Str × Tr) : D := .tuple [.str p.1, p.2.enc]
def Bk.enc (b : Bk) : D := .tuple [.str b.top, .tuple (b.trees.map encKT)]
end GM
namespace GM
open PySem L2 GS
end GM
namespace GM
open PySem L2 GS
def tkW : Option (Str × Bool) → List Str
  | none => []
  | some (m, b) => [Str.ofString (if b then "!" else "?") ++ m]
mutual
def Tr.words : Tr → List Str
  | .sign s => [s]
  | .void => [Str.ofString "-"]
  | .hole n => [Str.ofString "+" ++ n]
  | .foot n => [Str.ofString "*" ++ n]
  | .knot n tk ks => Str.ofString "[" :: n :: (tkW tk ++ (Tr.wordsL ks ++ [Str.ofString "]"]))
def Tr.wordsL : List Tr → List Str
  | [] => []
  | t :: ts => t.words ++ Tr.wordsL ts
end
theorem l1 (w : String) (h : w.toList.length = 1) (n : Str) (hn : n.length ≤ 100000) : (Str.ofString w).length + n.length ≤ sizeLine := fits (by rw [ofS_len, h]; omega)
end GM
namespace GM
open PySem L2 GS
end GM
namespace GM
open PySem L2 GS
abbrev BL : Str := Str.ofString " "
end GM
namespace GS
open PySem L2 GM
theorem forL_cons2 {ρ : Rho} (g : D → Rho → Option Rho) (b : SF) (d : D) (ds : List D) : forL g b (d :: ds) ρ = turnR (forL g b ds) (optR (g d ρ) b) := by
  rw [forL_cons]
  cases g d ρ <;> rfl
theorem fin_seq {n : Nat} {f g : SF} {ρ : Rho} {q : RE} (ρ' : Rho) (h : f ρ = .nx ρ') (h2 : finR n (g ρ') = q) : finR n (sSeq f g ρ) = q := by rw [sSeq_eq, h]; exact h2
theorem fin_ex {n : Nat} {f g : SF} {ρ : Rho} {q : RE} (P : Rho → Prop) (h : ∃ ρ', f ρ = .nx ρ' ∧ P ρ') (h2 : ∀ ρ', P ρ' → finR n (g ρ') = q) : finR n (sSeq f g ρ) = q := by
  obtain ⟨ρ', e, hp⟩ := h
  exact fin_seq ρ' e (h2 ρ' hp)
end GS
namespace GS
open PySem L2 PySem.Spec PyProof.Rows
section
variable {κ : Type} [DecidableEq κ]
end
local instance (priority := high) keyBEq : BEq Key := instBEqOfDecidableEq
local instance keyLaw : LawfulBEq Key := inferInstanceAs (@LawfulBEq Key instBEqOfDecidableEq)
section
variable {prog : Program} {w : World} {A : Around} {R : Result → Shared → Prop} {I : Addr} {fp wr : List Addr} {G : Array GenState → Array GenState → Prop} {n : Nat} {P : Nat → Value → Prop} {St : Nat → Shared → Prop}
end
section
variable {prog : Program} {w : World} {A : Around} {E : Value → Shared → Prop} {s : Shared}
end
end GS
namespace GS
open PySem L2 PySem.Spec PyProof.Rows
section
variable {X : Cx} {C : Ct} {a b : Expr} {ta tb : TE} {fa fb : EF} {p p2 q pos apos : Pos}
end
section
variable {X : Cx} {C : Ct} {x : Str} {c : Value} {body suite : List Stmt} {b₀ : Stmt} {np pos pos' : Pos} {ts : TS} {fb fh : SF} {ns cs : List Str}
end
end GS
namespace GS
open PySem L2
section
variable {X : Cx} {C : Ct} {o e f : Expr} {td tk tx : TE} {fd fk fx : EF} {apos pos : Pos}
end
end GS
namespace GS
open PySem L2
section
variable {ρ ρ1 : Rho} {c : Prop} [Decidable c]
end
end GS
namespace GS
open PySem L2 PySem.Spec PyProof.Rows
section
variable {X : Cx} {C : Ct} {e : Expr} {es : List Expr} {ta : TA} {fa : AF} {te : TE} {fe : EF} {p pos : Pos} {x : Str} {fns : List Str}
end
end GS
namespace GS
open PySem L2
section
variable {ρ : Rho}
end
end GS
namespace GS
open PySem L2
section
variable {ρ : Rho}
theorem slot_one (c : Option Cel) (x : Cel) (outs : Rho) : slot (c :: some x :: outs) 1 = some x := rfl
@[simp] theorem backR_io1 (i : Nat) (h0 : Hd) (hs : List Hd) (d : D) (d' : D) (fl : Fl) (c0 : Option Cel) (outs : Rho) : backR ρ (some 1) (h0 :: .bw i :: hs) (.ok (.sh d) (c0 :: some ⟨d', fl⟩ :: outs)) = match slot ρ i with
    | some c => .ok (.sh d) (ρ.set i (some ⟨d', c.fl⟩))
    | none => .stuck := by
  unfold backR
  dsimp only
  rw [putB_bw i 1 _ _ rfl, slot_one]
  cases slot ρ i <;> rfl
@[simp] theorem backR_io1x (i : Nat) (h0 : Hd) (hs : List Hd) (x : Xc) (d' : D) (fl : Fl) (c0 : Option Cel) (outs : Rho) : backR ρ (some 1) (h0 :: .bw i :: hs) (.exc x (c0 :: some ⟨d', fl⟩ :: outs)) = match slot ρ i with
    | some c => .exc x (ρ.set i (some ⟨d', c.fl⟩))
    | none => .stuck := by
  unfold backR
  dsimp only
  rw [putB_bw i 1 _ _ rfl, slot_one]
  cases slot ρ i <;> rfl
@[simp] theorem backR_io0x (i : Nat) (hs : List Hd) (x : Xc) (d' : D) (fl : Fl) (outs : Rho) : backR ρ (some 0) (.bw i :: hs) (.exc x (some ⟨d', fl⟩ :: outs)) = match slot ρ i with
    | some c => .exc x (ρ.set i (some ⟨d', c.fl⟩))
    | none => .stuck := by
  unfold backR
  dsimp only
  rw [putB_bw i 0 _ _ rfl, slot_zero]
  cases slot ρ i <;> rfl
end
end GS
namespace GS
open PySem L2 PySem.Spec PyProof.Rows
theorem tuple_mulW0 (l : Addr) (items : Array Value) (n : Nat) (dd : Option Addr) (sl : Array (Option Value)) (u : Tok) (c1 : (items.isEmpty || (0 : Int) == 1) = false) :
    Meets (Builtin.«tuple.__mul__» ⟨[.ref l, .int 0 u], []⟩) (fun _ R s => s.heap.get? l = some { cls := .type "tuple", dict := dd, data := .seq items n, slots := sl } ∧
      R (.ok (.ret (Value.ref s.heap.objs.size))) { s with heap := s.heap.push { cls := Value.type "tuple", data := Data.seq #[] }, toks := s.toks }) :=
  .of_wp fun prog w A R s h => by
    obtain ⟨hp, g, d, tk, os⟩ := s
    obtain ⟨hl, h⟩ := h
    have f1 := AutoSeq1.idx_int
    have c0 : (decide ((0 : Int) < -(2 ^ 63)) || decide ((0 : Int) ≥ 2 ^ 63)) = false := by decide
    have c2 : (decide ((0 : Int) ≤ 0) || items.isEmpty) = true := by simp
    wp_walk using wpAny_loadPart' hl
    repeat (first
      | (refine wpAny_ite_false (decide_eq_false (by rw [c0]; exact Bool.false_ne_true)) ?_; wp_walk using wpAny_loadPart' hl)
      | (refine wpAny_ite_false (decide_eq_false (by rw [c1]; exact Bool.false_ne_true)) ?_; wp_walk using wpAny_loadPart' hl)
      | (refine wpAny_ite_true (decide_eq_true c2) ?_; wp_walk using wpAny_loadPart' hl))
    exact ⟨_, rfl, h⟩
def rRep0 (K : PySem.W.Frag) : R2 := fun x y H Q => ∃ l xs, x = .ref l ∧ y = .int 0 ∧ SqT K H l xs ∧ xs ≠ [] ∧ ∀ p o, H p = none → o.dict = none → Q (.ref p) (upd H p (.frz o (.tup [])))
theorem op_rep0 {X : Cx} : OpR X (binaryOp .Mult) (rRep0 X.K) := by
  intro pins s σ H x y v u Q I rx ry h
  obtain ⟨l, xs, rfl, rfl, hT, hne, q⟩ := h
  cases rx
  obtain ⟨t, rfl⟩ := ry
  obtain ⟨its, r, ⟨⟨cls, dd, data, sl⟩, ho, hc, n, hd⟩, hs⟩ := I.tuple hT
  simp only at hc hd
  subst hc hd
  have hle : its.length = xs.length := r.length.symm
  have hi : its.toArray.isEmpty = false := by
    cases its with
    | nil => exact absurd (List.eq_nil_of_length_eq_zero hle.symm) hne
    | cons a b => rfl
  have c1 : (its.toArray.isEmpty || (0 : Int) == 1) = false := by rw [hi]; rfl
  refine wpAny_binaryOp_repeat_ref (T := "tuple") (U := "int") (by decide) ⟨_, ho, rfl⟩ (fun s' => typeIs_int s' 0 t) noFill_tuple_mul F.fills_int_mul F.slot_int_rmul repeat_tuple F.slot_int_index.lookup
    (call_meets F.slot_int_rmul (typeIs_int s 0 t) F.entry_int_rmul (F.args_int_rmul_2 _ _) (int_rmul_tuple 0 t l its.toArray n dd sl)
      ⟨ho, rfl, ⟨_, ho, rfl⟩, call_meets F.slot_tuple_mul ⟨_, ho, rfl⟩ F.entry_tuple_mul (F.args_tuple_mul_2 _ _) (tuple_mulW0 l its.toArray n dd sl t c1) ⟨ho, ?_⟩⟩)
  exact ⟨.ref s.heap.objs.size, _, laidX (ys := []) (us := []) (tk := s.toks) I .nil (by rw [sizeLine_eq]; exact Nat.zero_le _), rfl, q _ _ (I.hok.fresh (Nat.le_refl _)) rfl⟩
def mulT : D → D → Option Hd
  | .tuple ds, .int k => if decide (k = 0) && Nat.ble 1 ds.length then some (.sh (.tuple [])) else mulA (.tuple ds) (.int k)
  | d, e => mulA d e
def rMulT (K : PySem.W.Frag) : R2 := fun x y H Q => rMulA K x y H Q ∨ rRep0 K x y H Q
theorem op_mulT {X : Cx} : OpR X (binaryOp .Mult) (rMulT X.K) := OpR.or op_mulA op_rep0
theorem ol_mulT {K : KW} : OpL K (rMulT K) mulT := fun ρ σ B H x y dx dy h Q S tx ty e k => by
  have base : mulA dx dy = some h → rMulT K x y H Q := fun e => .inl (ol_mulA ρ σ B H x y dx dy h Q S tx ty e k)
  cases dx with
  | tuple ds =>
    cases dy with
    | int i =>
      have e : (if decide (i = 0) && Nat.ble 1 ds.length then some (Hd.sh (.tuple [])) else mulA (.tuple ds) (.int i)) = some h := e
      cases c : (decide (i = 0) && Nat.ble 1 ds.length) with
      | true =>
        rw [c, if_pos rfl] at e
        cases e
        rw [Bool.and_eq_true] at c
        have h0 : i = 0 := by simpa using c.1
        have h1 := Nat.le_of_ble_eq_true c.2
        subst h0
        obtain ⟨a, vs, rfl, ha, ra⟩ := tx.tup
        have hl := ra.length
        rw [ty.int]
        exact .inr ⟨a, vs, rfl, rfl, same_t S.bh ha, fun z => by subst z; cases ra; simp at h1, newT S .nil k⟩
      | false =>
        rw [c, if_neg Bool.false_ne_true] at e
        exact base e
    | _ => exact base e
  | _ => exact base e
end GS
namespace GS
open PySem L2 PySem.Spec PyProof.Rows PySem.W PySem.Calls
/-- v is a tuple of these numbers -/
def IsTI (h : Heap) (v : Value) (ns : List Int) : Prop := ∃ (a : Addr) (its : List Value), v = .ref a ∧ h.IsTuple a its.toArray ∧ IntsAre its ns
theorem IsTI.keeps {h h' : Heap} {v : Value} {ns : List Int} (x : IsTI h v ns) (k : ∀ b o, v = .ref b → h.get? b = some o → h'.get? b = some o) : IsTI h' v ns := by
  obtain ⟨a, its, e, ⟨o, ho, hc, n, hd⟩, hi⟩ := x
  exact ⟨a, its, e, ⟨o, k a o e ho, hc, n, hd⟩, hi⟩
section
variable {M : Model} {A : Around} {E : Value → Shared → Prop} {s : Shared}
theorem IsTI.type {v : Value} {ns : List Int} (x : IsTI s.heap v ns) : Looks M s.heap (typeOf v) (.type "tuple") := by
  obtain ⟨a, its, rfl, ⟨o, ho, hc, n, hd⟩, hi⟩ := x
  rw [← hc]
  exact (Looks.ld ho).andThen .now
end
section
variable {prog : Program} {w : World} {A : Around} {E : Value → Shared → Prop} {s : Shared}
end
section
variable {prog : Program} {w : World} {A : Around} {E : Value → Shared → Prop} {s : Shared}
end
section
variable {X : Cx}
end
end GS
namespace GS
open PySem L2 PySem.Spec PyProof.Rows
def TI (K : PySem.W.Frag) (H : Hp) (x : V) (ns : List Int) : Prop := ∃ t, x = V.ref t ∧ SqT K H t (ns.map V.int)
section
variable {X : Cx}
end
section
variable {K : KW} {B H : Hp}
end
end GS
namespace GS
open PySem L2
end GS
namespace L2
open PySem PySem.W PySem.Calls PySem.Spec PyProof.Rows
section
variable {X : Cx} {pins : List (Addr × Obj)} {σ : St} {H : Hp} {s : Shared}
end
end L2
namespace GS
open PySem L2
section
variable {K : KW} {ρ : Rho} {σ : St} {B H : Hp} {v x y : V} {Q : VK}
/-- a new dict that nobody holds -/
theorem newD (S : Sim K ρ σ B H) {ps : List (D × D)} {p : Addr} {ep : Nat} {b : Bool} {xs : List (NestedKey × Value × Value)} (hp : H p = none) (h : RpX K B b xs ps) (k : ∀ v B' H', Sim K ρ σ B' H' → Ext ρ σ B H ρ σ B' H' → HdOk K (New ρ σ H) ρ σ B' H' v (.fr (.dict ps)) → Q v H') :
    Q (.ref p) (upd H p (dX K.w p ep xs)) := by
  obtain ⟨S', x⟩ := S.newH hp (dX K.w p ep xs)
  obtain ⟨bb, n⟩ := S.free hp
  exact k _ _ _ S' x ⟨p, rfl, bb, ⟨ep, b, xs, upd_same, h⟩, n, .inl hp⟩
end
section
variable {X : Cx} {C : Ct} {pos : Pos}
/-- {} -/
theorem se_dct0 (hw : X.w = C.K.w := by rfl) : SE X C (.Dict [] [] pos) (tRe C.K.w tDNewK) (eDct dNil) := by
  refine ⟨by rw [← hw]; exact pe_re pe_dnewK, fun ρ σ B H Q S g p hp => ?_⟩
  refine ⟨p, [], rfl, upd_same, fun ep ys so kv => ?_⟩
  rw [upd_upd]
  have e : ys = [] := by
    have := kv.length
    simp [pairK] at this
    exact List.eq_nil_of_length_eq_zero this.symm
  subst e
  exact newD S hp (b := false) .nil g
end
end GS
namespace GS
open PySem L2 RT
section
variable {X : Cx} {C : Ct} {ρ ρ1 : Rho} {σ σ1 : St} {B H B1 H1 : Hp} {e tg : Expr} {te : TE} {fe : EF} {pos p : Pos} {K : KW}
end
end GS
namespace GS
open PySem L2 PySem.Spec PyProof.Rows PySem.W PySem.Calls
section
variable {prog : Program} {w : World} {A : Around} {E : Value → Shared → Prop} {s : Shared}
end
section
variable {X : Cx}
end
section
variable {K : KW} {B H : Hp}
end
end GS
namespace GS
open PySem L2 PySem.Spec PyProof.Rows
/-- a def's promise where no repr is under way -/
structure FnG (P : Program) (w : World) (K : PySem.W.Frag) (mg : Str → Option Value) (base : Heap) (k : Nat) (f : Addr) (fd : FuncData) (ps : List Str) (sp : Sp) : Prop where
  ln : ∀ vs H Q E, sp vs H Q E → vs.length = ps.length
  go : ∀ (A : Around) (out : List Env) (t : Shared) (H : Hp) (ar : Args) (zs : List Value) (vs : List V) (Q : VK) (E : XK),
    A.guards = some [] → Room k A → Env0 P w K mg base A out t H → BindsTo t fd ar (ps.zip zs) → Vals vs zs → sp vs H Q E →
    codeAny (model P w) A (.call (.ref f) ar) (CR (L2.CX P w) out P w H t Q E) t
theorem FnG.of {P : Program} {w : World} {K : PySem.W.Frag} {mg : Str → Option Value} {base : Heap} {k : Nat} {f : Addr} {fd : FuncData} {ps : List Str} {sp : Sp} (F : FnOk P w K mg base (L2.CX P w) k f fd ps sp) : FnG P w K mg base k f fd ps sp :=
  ⟨F.len, fun A o t H ar zs vs Q E _ => F.run A o t H ar zs vs Q E⟩
section
variable {P : Program} {w : World} {K : PySem.W.Frag} {mg : Str → Option Value} {base : Heap}
theorem fnG_fun {x qual : Str} {st : Stmt} {f : Addr} {fd : FuncData} {N ps : List Str} {k : Nat} {sp : Sp} (F : Fun K x qual st f fd) (S : FnScope N ps (defScope st)) (ln : ∀ vs H Q E, sp vs H Q E → vs.length = ps.length)
    (hb : ∀ (cdv : Value) (A : Around) (out : List Env) (t : Shared) (H : Hp) (vs : List V) (Q : VK) (E : XK), A.guards = some [] → Room k (A.deeper (envOfC qual (defScope st) t.heap.objs.size f cdv)) → sp vs H Q E →
      ∃ r, PSs (cxOf (L2.CX P w) P w K mg base N qual (defScope st) f cdv A out t H E) (defBody st) r ∧ r { nx := fun _ H' => Q .non H', rt := Q } (start N vs) H) : FnG P w K mg base (k + 1) f fd ps sp := by
  obtain ⟨oc, od, kV, doc, pm, an, cdv, ct, osl, rfl, look, code⟩ := F.ex
  refine ⟨ln, fun A out t H ar zs vs Q E hg room en bd rv hsp => ?_⟩
  have hin := en.mod.kin.keeps fun b o e => (en.bs b o e).1
  have hnl := en.mod.nolimit.keeps fun b o e => (en.bs b o e).1
  refine codeAny_call_function room.depth (hin _ _ look) rfl S.co S.gen rfl (PySem.W.codeRec_of hin code) (bd _ _ _ _ ?_)
  refine wpAny_newFunctionEnv_cells S.kind (fun y my => ?_) fun env ev s1 nw => ?_
  · obtain ⟨n, v⟩ := y
    have := S.par n (List.of_mem_zip my).1
    exact this.imp id fun q => ⟨q, PySem.W.cellsFrom_some _ _ _ (.inl q)⟩
  subst ev
  obtain ⟨r, hr, hq⟩ := hb cdv A out t H vs Q E hg (room.deeper _) hsp
  refine ⟨hnl.keeps nw.toInCall.keep, codeAny_func (wpAny_mono (hr.run [] s1 (start N vs) H _ (inv_start S room.hd en (ln _ _ _ _ hsp) rv nw) hq) (fun fl s' hs => ?_) fun e s' hs => hs)⟩
  cases fl with
  | ret u => obtain ⟨v, _, H', J, rv, q⟩ := hs; exact ⟨v, H', J.os, J.bare, J.base, J.hok, rv, q⟩
  | next => obtain ⟨_, H', J, q⟩ := hs; exact ⟨.non, H', J.os, J.bare, J.base, J.hok, rfl, q⟩
  | brk => obtain ⟨_, _, _, q⟩ := hs; exact q.elim
  | cont => obtain ⟨_, _, _, q⟩ := hs; exact q.elim
end
section
variable {P : Program} {w : World} {K : KW} {mg : Str → Option Value} {base : Heap} {cv : Str → Value}
theorem fnG_of {x qual : Str} {st : Stmt} {f : Addr} {fd : FuncData} (N : List Str) {ps : List Str} {k m n : Nat} {g : SF} (hm : N.length = m) (hn : ps.length = n) (F : Fun K x qual st f fd) (S : FnScope N ps (defScope st))
    (hb : ∀ (cdv : Value) (A : Around) (outer : List Env) (s : Shared) (H : Hp) (E : XK), A.guards = some [] → Room k (cxF P w K mg base N qual st f cdv A outer s H E).A → Takes (cxF P w K mg base N qual st f cdv A outer s H E) (ctF K cv E).W →
      PassesOwn (model P w) (cxF P w K mg base N qual st f cdv A outer s H E).A (cxF P w K mg base N qual st f cdv A outer s H E).env (cxF P w K mg base N qual st f cdv A outer s H E).xe →
      ∃ t, SSs (cxF P w K mg base N qual st f cdv A outer s H E) (ctF K cv E) (defBody st) t g) :
    FnG P w K mg base (k + 1) f fd ps (spF K cv n (fnF m n g)) := by
  subst hm hn
  have hpl : ps.length ≤ N.length := by have := congrArg List.length S.pre; rw [List.length_take] at this; omega
  refine fnG_fun F S (fun vs H Q E h => ?_) (fun cdv A outer s H vs Q E hg hr h => ?_)
  · obtain ⟨ρ, B, hl, Sm, _⟩ := h
    have := Sm.len
    rw [List.length_map] at this
    omega
  · obtain ⟨ρ, B, hl, Sm, gd⟩ := h
    have hv : vs.length = ps.length := by
      have := Sm.len
      rw [List.length_map] at this
      omega
    obtain ⟨t, ht⟩ := hb cdv A outer s H E hg hr (takes_of rfl rfl rfl rfl) (passes_of rfl)
    refine ⟨t, ht.ps, ht.lk (ρ ++ List.replicate (N.length - ps.length) none) _ B H _ (by rw [← hv]; exact entry_sim Sm (by omega)) ?_⟩
    unfold fnF at gd
    cases eg : g (ρ ++ List.replicate (N.length - ps.length) none) with
    | stuck => rw [eg] at gd; exact gd
    | bk _ => rw [eg] at gd; exact gd.elim
    | ct _ => rw [eg] at gd; exact gd.elim
    | nx ρ1 =>
      rw [eg] at gd
      intro σ1 B1 H1 S1 x1
      obtain ⟨S2, x2, _, _⟩ := exit_sim Sm hl S1 x1
      exact gd .non B1 H1 S2 x2 .non
    | exc c ρ1 =>
      rw [eg] at gd
      intro cls dct σ1 B1 H1 S1 x1 ok
      obtain ⟨S2, x2, _, _⟩ := exit_sim Sm hl S1 x1
      exact gd cls dct B1 H1 S2 x2 ok
    | rt h ρ1 =>
      rw [eg] at gd
      intro v σ1 B1 H1 S1 x1 y1
      obtain ⟨S2, x2, n1, n2⟩ := exit_sim Sm hl S1 x1
      cases h with
      | sh d => exact gd v B1 H1 S2 x2 y1
      | fr d =>
        obtain ⟨a, r1, r2, r3, r4, r5⟩ := y1
        exact gd v B1 H1 S2 x2 ⟨a, r1, r2, r3, fun z => r4 (n1 a z), n2 a r5⟩
      | bw i => exact gd.elim
theorem fnG_zero {f : Addr} {fd : FuncData} {ps : List Str} {n : Nat} (hn : n = ps.length) : FnG P w K mg base 0 f fd ps (spF K cv n fun _ => .stuck) := .of (fn_zero hn)
end
section
variable {X : Cx} {C : Ct} {k n : Nat} {f : Addr} {fd : FuncData} {ps : List Str} {sp : Sp} {W : L2.St → XK} {x : Str} {p pos : Pos} {e e0 : Expr} {es : List Expr} {t : TA} {t0 : TE} {F : FF} {g : AF} {f0 : EF}
end
def rRepr (K : PySem.W.Frag) : List V → Hp → VK → Prop := fun vs H Q => ∃ (a : Addr) (d : PyData), vs = [V.ref a] ∧ Dp K H (V.ref a) d ∧ d.showable = true ∧ d.hasDict = false ∧ d.depth ≤ 64 ∧ d.shown.length ≤ sizeLine ∧ Q (.str d.shown) H
theorem cr_repr {X : Cx} (gd : X.A.guards = some []) (hu : X.A.units + 199 < cLine) : CallR X (.builtin "repr") (rRepr X.K) := by
  intro pins s σ H vs us Q I r h
  obtain ⟨a, d, rfl, hd, h1, h2, h3, h4, q⟩ := h
  obtain ⟨u, rfl, ru⟩ := vals1 r
  obtain rfl : u = Value.ref a := ru
  obtain ⟨as, rd⟩ := Dp.reads I d _ _ hd rfl
  exact repr_of_reads' rd h1 (fun z => by rw [h2] at z; cases z) gd (by omega) (fun _ _ e => e) (fun h' u tk hk => ⟨.str d.shown, H, I.kept hk, ⟨u, rfl⟩, q⟩) h4
def reprD : D → Option Hd
  | .tuple ds => if okEq (.tuple ds) && ((PyData.tuple ds).showable && decide ((PyData.tuple ds).shown.length ≤ sizeLine)) then some (.sh (.str (PyData.tuple ds).shown)) else none
  | _ => none
theorem cl_repr {K : KW} : CalL K (rRepr K) (un1 reprD) := CalL.one fun ρ σ B H x d h Q S t e k => by
  cases d <;> first | (cases (show none = some h from e); done) | skip
  rename_i ds
  obtain ⟨c, rfl⟩ := if_some (show (if okEq (.tuple ds) && ((PyData.tuple ds).showable && decide ((PyData.tuple ds).shown.length ≤ sizeLine)) then some (Hd.sh (.str (PyData.tuple ds).shown)) else none) = some h from e)
  simp only [okEq, Bool.and_eq_true, decide_eq_true_eq] at c
  obtain ⟨⟨c1, c2⟩, c3, c4⟩ := c
  have t' := Tp.rp S.bh t
  obtain ⟨a, vs, rfl, _, _⟩ := Tp.tupX t
  have c2' := c2
  unfold SeqAt.shaped at c2'
  simp only [Bool.and_eq_true, decide_eq_true_eq] at c2'
  exact ⟨a, _, rfl, t'.dp _ c1, c3, PyData.hasDict_of_canLay _ c2'.1, c2'.2, c4, now S (.str _) k⟩
end GS
namespace GS
open PySem L2 PySem.Spec PyProof.Rows
theorem lawG_call {P : Program} {w : World} {K : PySem.W.Frag} {gl bl : Str → Option Value} {k : Nat} {fa a : Addr} {fd : FuncData} {x : Str} {sp : Sp} {t : Shared} {vs : List Value} {ns : List Int}
    (kin : K.In t.heap) (n1 : t.heap.Ns mainGlobals gl) (n2 : t.heap.Ns builtinsNs bl) (n3 : ∀ y : Str, y ≠ "__name__" → bl y = bootBuiltins y) (lim : t.heap.NoLimit) (gens : t.gens = #[])
    (at0 : t.heap.get? a = some { cls := .type "list", data := .seq vs.toArray }) (its : IntsAre vs ns) (few : ns.length ≤ sizeLine) (room : Room k callerA)
    (G : ∀ bs : Heap, K.In bs → bs.Ns mainGlobals gl → FnG P w K gl bs k fa fd [x] sp) (bd : ∀ (s : Shared) (u : Value), BindsTo s fd ⟨[u], []⟩ [(x, u)])
    (pr : ∀ J : Hp, Only J → SqL K J a (ns.map V.int) → sp [.ref a] J (fun v _ => v = .bl true) fun _ _ _ => False)
    (nx : ∀ J e s', L2.CX P w [] J t (fun _ _ _ => False) e s' → False) :
    codeAny (model P w) callerA (.call (.ref fa) ⟨[.ref a], []⟩) (fun r s' => r = .ok (.ret (.bool true)) ∧ OldK t.heap s'.heap ∧ s'.os = t.os ∧ AllBare s'.gens) t := by
  have vi := vals_ints its
  have vl := its.length
  have inner : ∀ J : Hp, Only J → SqL K J a (ns.map V.int) → HOk P w J t.heap → (∀ b, J b ≠ none → b = a) → (J a ≠ none → K.lookup a = none) →
      codeAny (model P w) callerA (.call (.ref fa) ⟨[.ref a], []⟩) (fun r s' => r = .ok (.ret (.bool true)) ∧ OldK t.heap s'.heap ∧ s'.os = t.os ∧ AllBare s'.gens) t := by
    intro J oJ sJ kJ aJ lJ
    have dictFree : ∀ {b : Addr} {o : Obj} {es : Array DictEntry} {ep : Nat}, t.heap.get? b = some o → o.data = .dict es ep → J b = none := fun {b o es ep} hb hd => by
      cases q : J b with
      | none => rfl
      | some u =>
        obtain rfl : b = a := aJ b (by rw [q]; simp)
        rw [at0] at hb
        cases hb
        cases (show Data.seq vs.toArray _ = Data.dict es ep from hd)
    have keepNs : ∀ {b : Addr} {m : Str → Option Value}, t.heap.Ns b m → (hidT t.heap J).Ns b m := fun {b m} ⟨o, es, ep, hb, hd, r⟩ => ⟨o, es, ep, hidT_get hb (dictFree hb hd), hd, r⟩
    have kin' : K.In (hidT t.heap J) := fun b o hb => hidT_get (kin b o hb) (by
      cases q : J b with
      | none => rfl
      | some u =>
        obtain rfl : b = a := aJ b (by rw [q]; simp)
        rw [lJ (by rw [q]; simp)] at hb
        cases hb)
    have md : Mod K gl (hidT t.heap J) := ⟨kin', keepNs n1, ⟨bl, keepNs n2, n3⟩, let ⟨mc, c1, c2⟩ := lim; ⟨mc, keepNs c1, c2⟩⟩
    have en : Env0 P w K gl (hidT t.heap J) callerA [] t J := ⟨rfl, md, fun b o hb => of_hidT hb, Nat.le_of_eq (hidT_size _ _), trivial, fun b hb => absurd (show b ∈ ([] : List Addr) from hb) (by simp), kJ, .of_eq gens⟩
    refine codeAny_mono ((G _ kin' (keepNs n1)).go callerA [] t J ⟨[.ref a], []⟩ [.ref a] [.ref a] _ _ rfl room en (bd t (.ref a)) (.cons rfl .nil) (pr J oJ sJ)) fun r s' h => ?_
    match r, h with
    | .error z, h => exact (nx J z s' h).elim
    | .ok (.ret u), h =>
      obtain ⟨v, J', os, bare, un, kJ', rv, q⟩ := h
      obtain rfl : v = .bl true := q
      obtain rfl : u = Value.bool true := rv
      refine ⟨rfl, OldK.of_keep fun b o hb => ?_, os, bare⟩
      rcases oJ b with z | ⟨ob, xs, z⟩
      · exact un.keep b o hb z (by intro y; exact absurd (show b ∈ ([] : List Addr) from y) (by simp)) (by simp)
      · have y1 := (kJ b _ z).1
        have y2 := (kJ' b _ (un.frzs b ob _ z)).1
        rw [hb] at y1
        cases y1
        exact y2
  cases hk : K.lookup a with
  | some o =>
    have hb := kin a o hk
    rw [at0] at hb
    cases hb
    exact inner (fun _ => none) (fun _ => .inl rfl) (.inr ⟨_, vs.toArray, _, hk, rfl, rfl, rfl, by rw [List.size_toArray, vl]; exact few, by simpa using vi⟩) (fun b u z => by cases (show (none : Option HO) = some u from z)) (fun b z => absurd rfl z) fun z => absurd rfl z
  | none =>
    refine inner (fun b => if b = a then some (.frz { cls := .type "list", data := .seq vs.toArray } (.lst (ns.map V.int))) else none) (fun b => ?_) (.inl (.inr ⟨{ cls := .type "list", data := .seq vs.toArray }, if_pos rfl⟩)) (fun b u z => ?_) (fun b z => ?_) fun _ => hk
    all_goals by_cases eb : b = a
    · exact .inr ⟨_, _, if_pos eb⟩
    · exact .inl (if_neg eb)
    · cases (if_pos eb).symm.trans z
      subst eb
      exact ⟨at0, by rw [List.length_map]; exact few, vs, _, vi, at0⟩
    · cases (if_neg eb).symm.trans z
    · exact eb
    · exact absurd (if_neg eb) z
theorem walkG_of {l : PySem.W.OpenLaw} {n k : Nat} {q : Program} {loose : List Str} {XP : (Str → Option Value) → Heap → Prop} {YP : World → Heap → Prop} {d : DefRec} {K : Params → PySem.W.Frag} {sp : World → Sp} {x : Str}
    (most : l.most = some n) (line : n ≤ sizeLine) (nodf : d.params.defaults = []) (room : Room k callerA) (hY : ∀ (w : World) (h : Heap), YP w h → (K w.params).In h)
    (F : ∀ (w : World) (mg : Str → Option Value) (fa : Addr) (h : Heap), (K w.params).In h → h.Ns mainGlobals mg → mg d.name = some (.ref fa) →
      ∃ fd : FuncData, (∀ (s : Shared) (u : Value), BindsTo s fd ⟨[u], []⟩ [(x, u)]) ∧ ∀ bs : Heap, (K w.params).In bs → bs.Ns mainGlobals mg → FnG l.prog w (K w.params) mg bs k fa fd [x] (sp w))
    (hsp : ∀ (w : World) (J : Hp) (a : Addr) (ns : List Int), ns.length ≤ n → Only J → SqL (K w.params) J a (ns.map V.int) → sp w [.ref a] J (fun v _ => v = .bl true) fun _ _ _ => False)
    (hCX : ∀ (w : World) (J : Hp) (s : Shared) (e : Value) (s' : Shared), L2.CX l.prog w [] J s (fun _ _ _ => False) e s' → False) :
    PySem.W.WalkO q loose XP YP l.row.toRowW d [] (fun f vs => PySem.call f vs) := by
  refine Att.attach_call most nodf fun w s0 s1 mg mb fa o pm cd doc a vs ns G Y ho hd hcd hmg hobj hints hlen hg => ?_
  obtain ⟨fd, hb, hF⟩ := F w mg fa _ (hY w _ Y) G.T.g hmg
  exact lawG_call (hY w _ Y) G.T.g G.T.b G.T.builtins G.T.nolimit hg hobj hints (Nat.le_trans hlen line) room hF hb (fun J oJ sJ => hsp w J a ns hlen oJ sJ) fun J e s' => hCX w J s1 e s'
end GS
namespace GS
open PySem L2
theorem reprD_t {ds : List D} (h1 : okEq (.tuple ds) = true) (h2 : (PyData.tuple ds).showable = true) (h3 : (PyData.tuple ds).shown.length ≤ sizeLine) : reprD (.tuple ds) = some (.sh (.str (PyData.tuple ds).shown)) := by
  show (if _ then _ else _) = _
  rw [h1, h2, decide_eq_true h3]
  rfl
end GS
namespace L2
open PySem PySem.W PySem.Calls PySem.Spec PyProof.Rows
section
variable {X : Cx} {e1 e2 : Expr} {t : TA} {pz pd pos pos2 : Pos}
end
end L2
namespace GS
open PySem L2
section
variable {K : KW} {B H : Hp}
end
section
variable {X : Cx} {C : Ct} {e1 e2 : Expr} {t : TA} {f : AF} {pz pd pos pos2 : Pos}
end
end GS
namespace GS
open PySem L2
section
variable {K : KW} {C : Ct} {ρ ρ1 ρ2 : Rho} {σ σ1 σ2 : St} {B H B1 H1 B2 H2 : Hp} {a p : Addr} {o : HO} {Ed : Ends}
end
section
variable {X : Cx} {C : Ct} {e1 e2 c : Expr} {t1 t2 tc : TE} {f1 f2 fc : EF} {rest : List Stmt} {u : TS} {g : SF} {pos : Pos}
end
end GS
namespace GS
open PySem L2 PySem.Spec PyProof.Rows PySem.W PySem.Calls
section
variable {prog : Program} {w : World} {A : Around} {E : Value → Shared → Prop} {s : Shared} {Q : Bool → Shared → Prop}
end
end GS
namespace L2
open PySem PySem.Spec PyProof.Rows
section
variable {P : Program} {w : World} {A : Around} {E : Value → Shared → Prop} {s : Shared}
end
end L2
namespace GS
open PySem L2 PySem.Spec PyProof.Rows
section
variable {K : KW} {B H : Hp}
end
section
variable {X : Cx} {C : Ct} {e : Expr} {te : TE} {fe : EF} {p p2 pos pos2 : Pos}
end
end GS
namespace L2
open PySem PySem.Spec PyProof.Rows RT
section
variable {prog : Program} {w : World} {A : Around} {E : Value → Shared → Prop} {s : Shared}
end
end L2
namespace GS
open PySem L2
section
variable {X : Cx} {C : Ct} {e : Expr} {te : TE} {fe : EF} {p p2 pos pos2 : Pos}
end
end GS
namespace GS
open PySem L2
end GS
namespace GS
open PySem L2
def mGo0 (o : D → Option Hd) (d : Option D) (ρ : Rho) : RE := match d with
  | some (.str z) => (match o (.str z) with
    | some h => .ok h ρ
    | none => .stuck)
  | _ => .stuck
/-- x.m(), x a text -/
def eM0 (o : D → Option Hd) (fr : EF) : EF := fun ρ => bindE (eSet fr ρ) fun ha ρ1 => mGo0 o (getH ρ1 ha) ρ1
section
variable {K : KW} {X : Cx} {C : Ct} {a b : Expr} {ta tb : TE} {fa fb : EF} {apos pos : Pos}
def Op0 (K : KW) (r : V → Hp → VK → Prop) (o : D → Option Hd) : Prop := ∀ ρ σ B H x z h Q, Sim K ρ σ B H → x = .str z → o (.str z) = some h →
  (∀ v B' H', Sim K ρ σ B' H' → Ext ρ σ B H ρ σ B' H' → HdOk K (New ρ σ H) ρ σ B' H' v h → Q v H') → r x H Q
theorem lk_m0 {r : V → List V → Hp → VK → Prop} {o : D → Option Hd} (hr : Op0 C.K (fun x H Q => r x [] H Q) o) (la : LkE C ta fa) : LkE C (tM0 r ta) (eM0 o fa) := fun ρ σ B H Q S g => by
  refine la.setBind S g fun ha ρ1 x B1 H1 S1 e1 y1 g1 => ?_
  unfold mGo0 at g1
  split at g1
  · rename_i z ez
    have tz := S1.tp y1 ez
    refine ⟨⟨z, tz.str⟩, ?_⟩
    split at g1
    · rename_i h eh
      exact hr ρ1 σ B1 H1 x z h Q S1 tz.str eh g1
    · exact g1.elim
  · exact g1.elim
def upperD : D → Option Hd
  | .str a => if Nat.ble a.length 5592405 then some (.sh (.str (Txt.upper a))) else none
  | _ => none
theorem o0_upper : Op0 K (fun x H Q => ∃ a, x = .str a ∧ ([] : List V) = [] ∧ a.length ≤ 5592405 ∧ Q (.str (Txt.upper a)) H) upperD := fun ρ σ B H x z h Q S t e k => by
  obtain ⟨c, rfl⟩ := if_some (show (if Nat.ble z.length 5592405 then some (.sh (.str (Txt.upper z))) else none) = some h from e)
  exact ⟨z, t, rfl, Nat.le_of_ble_eq_true c, now S (.str _) k⟩
theorem se_upper (la : SE X C a ta fa) (hbase : attributeBase a "upper" X.env (eval a X.env) = eval a X.env := by rfl) (hline : (apos.endLine == pos.line) = true := by rfl) :
    SE X C (.Call (.Attribute a "upper" apos) [] [] pos) (tM0 (fun x xs H Q => ∃ a, x = .str a ∧ xs = [] ∧ a.length ≤ 5592405 ∧ Q (.str (Txt.upper a)) H) ta) (eM0 upperD fa) :=
  ⟨pe_upper la.pe hbase hline, lk_m0 o0_upper la.lk⟩
def stripD : D → D → Option Hd
  | .str a, .str b => if Nat.ble a.length 16777216 then some (.sh (.str (Txt.stripChars a b))) else none
  | _, _ => none
theorem ol_strip : OpL K (fun x y H Q => ∃ a b, x = .str a ∧ [y] = [.str b] ∧ a.length ≤ sizeLine ∧ Q (.str (Txt.stripChars a b)) H) stripD := fun ρ σ B H x y dx dy h Q S tx ty e k => by
  cases dx with
  | str a =>
    cases dy with
    | str b =>
      obtain ⟨c, rfl⟩ := if_some (show (if Nat.ble a.length 16777216 then some (.sh (.str (Txt.stripChars a b))) else none) = some h from e)
      rw [tx.str, ty.str]
      exact ⟨a, b, rfl, rfl, by rw [szl']; exact Nat.le_of_ble_eq_true c, now S (.str _) k⟩
    | _ => cases (show none = some h from e)
  | _ => cases dy <;> cases (show none = some h from e)
theorem se_strip (la : SE X C a ta fa) (lb : SE X C b tb fb) (hs : starEach [b] X.env = [(false, eval b X.env)] := by rfl) (hbase : attributeBase a "strip" X.env (eval a X.env) = eval a X.env := by rfl) (hline : (apos.endLine == pos.line) = true := by rfl) :
    SE X C (.Call (.Attribute a "strip" apos) [b] [] pos) (tM1 (fun x xs H Q => ∃ a b, x = .str a ∧ xs = [.str b] ∧ a.length ≤ sizeLine ∧ Q (.str (Txt.stripChars a b)) H) ta tb) (eM1 stripD fa fb) :=
  ⟨pe_m1 F.slot_str_strip F.type_str_strip mt_stripChars la.pe lb.pe hs hbase hline, lk_m1 ol_strip la.lk lb.lk⟩
end
section
variable {ρ : Rho}
@[simp] theorem eM0_eq (o : D → Option Hd) (fr : EF) : eM0 o fr ρ = bindE (eSet fr ρ) fun ha ρ1 => mGo0 o (getH ρ1 ha) ρ1 := rfl
end
end GS
namespace GS
open PySem L2
def argsN (ρ : Rho) (ios : List Nat) : Nat → List Hd → Option Rho
  | _, [] => some []
  | k, h :: hs => match argC ρ (decide (k ∈ ios)) h, argsN ρ ios (k + 1) hs with
    | some c, some r => some (some c :: r)
    | _, _ => none
def putN (ρ : Rho) (hs : List Hd) (outs : Rho) : List Nat → Option Rho
  | [] => some ρ
  | j :: js => (putB ρ (some j) hs outs).bind fun ρ1 => putN ρ1 hs outs js
/-- the slots that are lent -/
def lentX (ios : List Nat) : Nat → List Hd → List Nat
  | _, [] => []
  | k, .bw i :: hs => if k ∈ ios then i :: lentX ios (k + 1) hs else lentX ios (k + 1) hs
  | k, _ :: hs => lentX ios (k + 1) hs
def distB : List Nat → Bool
  | [] => true
  | x :: r => !r.contains x && distB r
def eCallN (n : Nat) (ios : List Nat) (F : FF) (fs : AF) : EF := fun ρ => bindA (fs ρ) fun hs ρ1 => if distB (lentX ios 0 hs) then (match argsN ρ1 ios 0 hs with
  | none => .stuck
  | some ρ0 => if ρ0.length ≠ n then .stuck else match F ρ0 with
    | .stuck => .stuck
    | .ok h outs => match h, putN ρ1 hs outs ios with
      | .bw _, _ => .stuck
      | _, none => .stuck
      | _, some ρ2 => .ok h ρ2
    | .exc x outs => match putN ρ1 hs outs ios with
      | none => .stuck
      | some ρ2 => .exc x ρ2) else .stuck
theorem lentX_mem {ios : List Nat} : ∀ {hs : List Hd} {k j i : Nat}, hs[j]? = some (.bw i) → k + j ∈ ios → i ∈ lentX ios k hs
  | [], _, _, _, h, _ => by simp at h
  | h0 :: hs, k, 0, i, h, m => by
    simp at h
    subst h
    rw [lentX, if_pos (show k ∈ ios from m)]; simp
  | h0 :: hs, k, j + 1, i, h, m => by
    have := lentX_mem (k := k + 1) (j := j) (i := i) (hs := hs) (by simpa using h) (by rw [show k + 1 + j = k + (j + 1) by omega]; exact m)
    cases h0 with
    | bw i0 =>
      rw [lentX]
      split
      · exact List.mem_cons_of_mem _ this
      · exact this
    | _ => exact this
theorem lentX_inj {ios : List Nat} : ∀ {hs : List Hd} {k j j' i : Nat}, distB (lentX ios k hs) = true → hs[j]? = some (.bw i) → hs[j']? = some (.bw i) → k + j ∈ ios → k + j' ∈ ios → j = j'
  | [], _, _, _, _, _, h, _, _, _ => by simp at h
  | h0 :: hs, k, j, j', i, d, h, h', m, m' => by
    have dr : distB (lentX ios (k + 1) hs) = true := by
      cases h0 with
      | bw i0 =>
        rw [lentX] at d
        split at d
        · rw [distB, Bool.and_eq_true] at d; exact d.2
        · exact d
      | _ => exact d
    have no : ∀ l, h0 = .bw i → k ∈ ios → hs[l]? = some (.bw i) → k + 1 + l ∈ ios → False := fun l e mk hl ml => by
      subst e
      rw [lentX, if_pos mk, distB, Bool.and_eq_true] at d
      have := lentX_mem (k := k + 1) (j := l) hl ml
      simp [this] at d
    cases j with
    | zero =>
      cases j' with
      | zero => rfl
      | succ l => exact (no l (by simpa using h) m (by simpa using h') (by rw [show k + 1 + l = k + (l + 1) by omega]; exact m')).elim
    | succ l =>
      cases j' with
      | zero => exact (no l (by simpa using h') m' (by simpa using h) (by rw [show k + 1 + l = k + (l + 1) by omega]; exact m)).elim
      | succ l' =>
        have := lentX_inj (k := k + 1) (j := l) (j' := l') (i := i) dr (by simpa using h) (by simpa using h') (by rw [show k + 1 + l = k + (l + 1) by omega]; exact m) (by rw [show k + 1 + l' = k + (l' + 1) by omega]; exact m')
        omega
theorem argsN_at {ρ : Rho} {ios : List Nat} : ∀ {k : Nat} {hs : List Hd} {r : Rho}, argsN ρ ios k hs = some r → r.length = hs.length ∧ ∀ (j : Nat) (c : Cel), r[j]? = some (some c) → ∃ h, hs[j]? = some h ∧ argC ρ (decide (k + j ∈ ios)) h = some c
  | _, [], _, e => by cases e; exact ⟨rfl, fun j c h => by simp at h⟩
  | k, h :: hs, r, e => by
    unfold argsN at e
    split at e
    · rename_i c r' e1 e2
      cases e
      obtain ⟨l, q⟩ := argsN_at e2
      refine ⟨by rw [List.length_cons, List.length_cons, l], fun j c' hj => ?_⟩
      cases j with
      | zero => simp at hj; subst hj; exact ⟨h, rfl, e1⟩
      | succ j =>
        obtain ⟨h', q1, q2⟩ := q j c' (by simpa using hj)
        exact ⟨h', by simpa using q1, by rw [show k + (j + 1) = k + 1 + j by omega]; exact q2⟩
    · cases e
theorem argsN_has {ρ : Rho} {ios : List Nat} : ∀ {k : Nat} {hs : List Hd} {r : Rho} {j : Nat} {h : Hd}, argsN ρ ios k hs = some r → hs[j]? = some h → ∃ c, r[j]? = some (some c)
  | _, [], _, _, _, _, h => by simp at h
  | k, h :: hs, r, j, h', e, hj => by
    unfold argsN at e
    split at e
    · rename_i c r' e1 e2
      cases e
      cases j with
      | zero => exact ⟨c, rfl⟩
      | succ j =>
        obtain ⟨c', q⟩ := argsN_has (j := j) e2 (by simpa using hj)
        exact ⟨c', by simpa using q⟩
    · cases e
theorem putB_key {ρ ρ2 outs : Rho} {hs : List Hd} {j : Nat} (p : putB ρ (some j) hs outs = some ρ2) : (∀ (k : Nat) (c : Cel), ρ2[k]? = some (some c) → (ρ[k]? = some (some c) ∧ hs[j]? ≠ some (.bw k)) ∨ ∃ c0 c', hs[j]? = some (.bw k) ∧ ρ[k]? = some (some c0) ∧ outs[j]? = some (some c') ∧ c = ⟨c'.d, c0.fl⟩) ∧
      ρ2.length = ρ.length ∧ (∀ (k : Nat) (c : Cel), ρ[k]? = some (some c) → ∃ c2, ρ2[k]? = some (some c2) ∧ c2.fl = c.fl) := by
  unfold putB at p
  dsimp only at p
  split at p
  · rename_i i hi
    split at p
    · rename_i c0 c' e1 e2
      cases p
      have e1 := slot_some e1
      have e2 := slot_some e2
      refine ⟨fun k c h => ?_, by rw [List.length_set], fun k c h => ?_⟩
      · rcases set_get h with ⟨rfl, ec⟩ | ⟨ne, h⟩
        · cases ec
          exact .inr ⟨c0, c', hi, e1, e2, rfl⟩
        · refine .inl ⟨h, fun w => ?_⟩
          rw [hi] at w
          cases w
          exact ne rfl
      · by_cases hk : i = k
        · subst hk
          rw [e1] at h
          cases h
          exact ⟨_, set_at (lt_of e1), rfl⟩
        · exact ⟨c, by rw [set_other hk]; exact h, rfl⟩
    · cases p
  · cases p
theorem putN_key {outs : Rho} {hs : List Hd} {ios : List Nat} (ds : distB (lentX ios 0 hs) = true) : ∀ {js : List Nat} {ρ ρ2 : Rho}, putN ρ hs outs js = some ρ2 → (∀ j ∈ js, j ∈ ios) → (∀ (k : Nat) (c : Cel), ρ2[k]? = some (some c) → (ρ[k]? = some (some c) ∧ ∀ j, j ∈ js → hs[j]? ≠ some (.bw k)) ∨ ∃ j c0 c', j ∈ js ∧ hs[j]? = some (.bw k) ∧ ρ[k]? = some (some c0) ∧ outs[j]? = some (some c') ∧ c = ⟨c'.d, c0.fl⟩) ∧
      ρ2.length = ρ.length ∧ (∀ (k : Nat) (c : Cel), ρ[k]? = some (some c) → ∃ c2, ρ2[k]? = some (some c2) ∧ c2.fl = c.fl)
  | [], ρ, ρ2, p, _ => by
    cases p
    exact ⟨fun k c h => .inl ⟨h, fun j m => by cases m⟩, rfl, fun k c h => ⟨c, h, rfl⟩⟩
  | j :: js, ρ, ρ2, p, hj => by
    rw [putN] at p
    obtain ⟨ρ1, p1, p2⟩ := Option.bind_eq_some_iff.mp p
    obtain ⟨a1, a2, a3⟩ := putB_key p1
    obtain ⟨b1, b2, b3⟩ := putN_key ds p2 fun j m => hj j (by simp [m])
    refine ⟨fun k c h => ?_, b2.trans a2, fun k c h => ?_⟩
    · rcases b1 k c h with ⟨h1, n1⟩ | ⟨j', c0, c', m', q1, q2, q3, rfl⟩
      · rcases a1 k c h1 with ⟨h2, n2⟩ | ⟨c0, c', q1, q2, q3, rfl⟩
        · refine .inl ⟨h2, fun i mi => ?_⟩
          rcases List.mem_cons.mp mi with rfl | mi
          · exact n2
          · exact n1 i mi
        · exact .inr ⟨j, c0, c', by simp, q1, q2, q3, rfl⟩
      · rcases a1 k c0 q2 with ⟨h2, n2⟩ | ⟨d0, d', r1, r2, r3, e⟩
        · exact .inr ⟨j', c0, c', by simp [m'], q1, h2, q3, rfl⟩
        · have : j = j' := lentX_inj (k := 0) ds r1 q1 (by rw [Nat.zero_add]; exact hj j (by simp)) (by rw [Nat.zero_add]; exact hj j' (by simp [m']))
          subst this
          refine .inr ⟨j, d0, c', by simp, q1, r2, q3, ?_⟩
          rw [e]
    · obtain ⟨c2, h2, f2⟩ := a3 k c h
      obtain ⟨c3, h3, f3⟩ := b3 k c2 h2
      exact ⟨c3, h3, f3.trans f2⟩
section
variable {K : KW} {ρ ρ0 ρ0' ρ2 : Rho} {σ : St} {B H B' H' : Hp} {ios : List Nat} {hs : List Hd} {vs : List V}
/-- the callee's cell j that is lent is the caller's slot i -/
theorem argsN_own (e : argsN ρ ios 0 hs = some ρ0) {j : Nat} {c : Cel} (hc : ρ0[j]? = some (some c)) (nf : c.fl ≠ .sh) : j ∈ ios ∧ ∃ i d fl, hs[j]? = some (.bw i) ∧ ρ[i]? = some (some ⟨d, fl⟩) ∧ fl ≠ .sh ∧ c = ⟨d, .io⟩ := by
  obtain ⟨_, q⟩ := argsN_at e
  obtain ⟨h, h1, h2⟩ := q j c hc
  rw [Nat.zero_add] at h2
  cases h with
  | sh d =>
    obtain ⟨_, rfl⟩ := argC_sh h2
    exact absurd rfl nf
  | fr d => cases h2
  | bw i =>
    obtain ⟨b, d, fl, q1, q2, q3⟩ := argC_bw h2
    exact ⟨of_decide_eq_true b, i, d, fl, h1, q1, q2, q3⟩
theorem argsN_sim (ds : distB (lentX ios 0 hs) = true) (S : Sim K ρ σ B H) (y : HdL K σ B vs hs) (e : argsN ρ ios 0 hs = some ρ0) : Sim K ρ0 (vs.map some) B H := by
  obtain ⟨l, q⟩ := argsN_at e
  refine ⟨S.bh, by rw [l, List.length_map, y.length], fun j c hj => ?_, fun i j ci cj a hi hj ni nj ei ej => ?_⟩
  · obtain ⟨h, h1, h2⟩ := q j c hj
    obtain ⟨v, hv, ok⟩ := y.get h1
    refine ⟨v, by rw [List.getElem?_map, hv]; rfl, ?_⟩
    by_cases nf : c.fl = .sh
    · refine .inl ⟨nf, ?_⟩
      cases h with
      | sh d =>
        obtain ⟨_, rfl⟩ := argC_sh h2
        exact ok
      | fr d => cases h2
      | bw i =>
        obtain ⟨_, d, fl, _, _, rfl⟩ := argC_bw h2
        cases nf
    · obtain ⟨_, i, d, fl, h3, h4, h5, rfl⟩ := argsN_own e hj nf
      rw [h1] at h3
      cases h3
      obtain ⟨v', e1, cok⟩ := S.sl i _ h4
      have ok' : σ[i]? = some (some v) := ok
      rw [ok'] at e1
      cases e1
      rcases cok with ⟨z, _⟩ | ⟨_, z⟩
      · exact absurd z h5
      · exact .inr ⟨by simp, z⟩
  · obtain ⟨e1, i1, d1, f1, a1, b1, c1, _⟩ := argsN_own e hi ni
    obtain ⟨e2, i2, d2, f2, a2, b2, c2, _⟩ := argsN_own e hj nj
    obtain ⟨v1, hv1, ok1⟩ := y.get a1
    obtain ⟨v2, hv2, ok2⟩ := y.get a2
    rw [List.getElem?_map, hv1] at ei
    rw [List.getElem?_map, hv2] at ej
    cases ei
    cases ej
    have := S.dj i1 i2 _ _ a b1 b2 c1 c2 ok1 ok2
    subst this
    exact lentX_inj (k := 0) ds a1 a2 (by rw [Nat.zero_add]; exact e1) (by rw [Nat.zero_add]; exact e2)
theorem argsN_ownA (y : HdL K σ B vs hs) (e : argsN ρ ios 0 hs = some ρ0) {a : Addr} (h : OwnA ρ0 (vs.map some) a) : OwnA ρ σ a := by
  obtain ⟨j, c, h1, h2, h3⟩ := h
  obtain ⟨_, i, d, fl, q1, q2, q3, _⟩ := argsN_own e h1 h2
  obtain ⟨v, hv, ok⟩ := y.get q1
  rw [List.getElem?_map, hv] at h3
  cases h3
  exact ⟨i, _, q2, q3, ok⟩
/-- behind the call -/
theorem backN_sim (ds : distB (lentX ios 0 hs) = true) (S : Sim K ρ σ B H) (y : HdL K σ B vs hs) (e : argsN ρ ios 0 hs = some ρ0) (S' : Sim K ρ0' (vs.map some) B' H') (x : Ext ρ0 (vs.map some) B H ρ0' (vs.map some) B' H') (p : putN ρ hs ρ0' ios = some ρ2) :
    Sim K ρ2 σ B' H' ∧ Ext ρ σ B H ρ2 σ B' H' ∧ (∀ a, New ρ0 (vs.map some) H a → New ρ σ H a) ∧ ∀ a, ¬ OwnA ρ0' (vs.map some) a → New ρ0 (vs.map some) H a → ¬ OwnA ρ2 σ a := by
  -- a slot of the caller that is not lent
  have sub0 : ∀ a, OwnA ρ0 (vs.map some) a → OwnA ρ σ a := fun a h => argsN_ownA y e h
  have newN : ∀ a, New ρ0 (vs.map some) H a → New ρ σ H a := fun a h => h.elim .inl fun h => .inr (sub0 a h)
  have key := putN_key ds p fun _ m => m
  obtain ⟨k1, k2, k3⟩ := key
  -- an owned slot that is not lent keeps its object
  have keep : ∀ (k : Nat) (c : Cel) (a : Addr), ρ[k]? = some (some c) → c.fl ≠ .sh → σ[k]? = some (some (.ref a)) → (∀ j, j ∈ ios → hs[j]? ≠ some (.bw k)) → ¬ OwnA ρ0 (vs.map some) a := fun k c a hk hf hs' hn ho => by
    obtain ⟨j, c0, h1, h2, h3⟩ := ho
    obtain ⟨q0, i, d, fl, q1, q2, q3, _⟩ := argsN_own e h1 h2
    obtain ⟨v, hv, ok⟩ := y.get q1
    rw [List.getElem?_map, hv] at h3
    cases h3
    have := S.dj i k _ c a q2 hk q3 hf ok hs'
    subst this
    exact hn j q0 q1
  have ownBack : ∀ a, OwnA ρ2 σ a → OwnA ρ σ a := fun a ⟨k, c, h1, h2, h3⟩ => by
    rcases k1 k c h1 with ⟨h, _⟩ | ⟨j, c0, c', _, _, h, _, rfl⟩
    · exact ⟨k, c, h, h2, h3⟩
    · exact ⟨k, c0, h, h2, h3⟩
  refine ⟨⟨S'.bh, by rw [k2]; exact S.len, fun k c hk => ?_, fun i j ci cj a hi hj ni nj ei ej => ?_⟩, ⟨x.bb, fun a o h => (x.nw a o h).imp id (newN a), fun a o h n => x.kp a o h fun z => n (sub0 a z), fun a h => .inr (ownBack a h), fun k c hk hf => ?_, fun k c hk hf => ?_⟩, newN, fun a n1 n2 ho => ?_⟩
  · rcases k1 k c hk with ⟨h, hn⟩ | ⟨j, c0, c', hj, q1, h, q2, rfl⟩
    · obtain ⟨v, ev, ok⟩ := S.sl k c h
      refine ⟨v, ev, ok.mono x.bb fun a hv hb ho hf => ?_⟩
      subst hv
      obtain ⟨o, eo⟩ := ho
      obtain ⟨r1, r2, _⟩ := x.keepN eo hb (keep k c a h hf ev hn)
      exact ⟨r2, by rw [r1, eo]⟩
    · obtain ⟨v, ev, ok⟩ := y.get q1
      have ok' : σ[k]? = some (some v) := ok
      refine ⟨v, ok', ?_⟩
      -- the lent cell is lent at the start, so it is behind
      obtain ⟨cs, hcs⟩ := argsN_has e q1
      by_cases hsh : cs.fl = .sh
      · exfalso
        obtain ⟨_, qq⟩ := argsN_at e
        obtain ⟨h', w1, w2⟩ := qq j cs hcs
        rw [q1] at w1
        cases w1
        obtain ⟨_, d, fl, _, _, rfl⟩ := argC_bw w2
        cases hsh
      · obtain ⟨_, i, d, fl, r1, r2, r3, rfl⟩ := argsN_own e hcs hsh
        rw [q1] at r1
        cases r1
        rw [h] at r2
        cases r2
        obtain ⟨_, c2, w1, w2⟩ := x.io j _ hcs rfl
        rw [q2] at w1
        cases w1
        obtain ⟨v', e1, cok⟩ := S'.sl j c' q2
        rw [List.getElem?_map, ev] at e1
        cases e1
        rcases cok with ⟨z, _⟩ | ⟨_, z⟩
        · rw [w2] at z; cases z
        · exact .inr ⟨r3, z⟩
  · have f1 : ∃ c1, ρ[i]? = some (some c1) ∧ c1.fl ≠ .sh := by
      rcases k1 i ci hi with ⟨h, _⟩ | ⟨_, c0, _, _, _, h, _, rfl⟩
      · exact ⟨ci, h, ni⟩
      · exact ⟨c0, h, ni⟩
    have f2 : ∃ c1, ρ[j]? = some (some c1) ∧ c1.fl ≠ .sh := by
      rcases k1 j cj hj with ⟨h, _⟩ | ⟨_, c0, _, _, _, h, _, rfl⟩
      · exact ⟨cj, h, nj⟩
      · exact ⟨c0, h, nj⟩
    obtain ⟨c1, a1, a2⟩ := f1
    obtain ⟨c2, b1, b2⟩ := f2
    exact S.dj i j c1 c2 a a1 b1 a2 b2 ei ej
  · obtain ⟨c2, h1, h2⟩ := k3 k c hk
    exact ⟨rfl, c2, h1, by rw [h2, hf]⟩
  · rcases k1 k c hk with ⟨h, _⟩ | ⟨_, c0, _, _, _, h, _, rfl⟩
    · exact ⟨c, h, hf⟩
    · exact ⟨c0, h, hf⟩
  · obtain ⟨k, c, h1, h2, h3⟩ := ho
    rcases k1 k c h1 with ⟨h, hn⟩ | ⟨j, c0, c', hj, q1, h, q2, rfl⟩
    · have n0 := keep k c a h h2 h3 hn
      have := S.ownH ⟨k, c, h, h2, h3⟩
      obtain ⟨_, o, eo⟩ := this
      rcases n2 with z | z
      · rw [eo] at z; cases z
      · exact n0 z
    · obtain ⟨v, ev, ok⟩ := y.get q1
      have ok' : σ[k]? = some (some v) := ok
      rw [h3] at ok'
      cases ok'
      obtain ⟨cs, hcs⟩ := argsN_has e q1
      by_cases hsh : cs.fl = .sh
      · obtain ⟨_, qq⟩ := argsN_at e
        obtain ⟨h', w1, w2⟩ := qq j cs hcs
        rw [q1] at w1
        cases w1
        obtain ⟨_, d, fl, _, _, rfl⟩ := argC_bw w2
        cases hsh
      · obtain ⟨_, i, d, fl, r1, r2, r3, rfl⟩ := argsN_own e hcs hsh
        obtain ⟨_, c2, w1, w2⟩ := x.io j _ hcs rfl
        rw [q2] at w1
        cases w1
        exact n1 ⟨j, c', q2, by rw [w2]; simp, by rw [List.getElem?_map, ev]; rfl⟩
end
section
variable {X : Cx} {C : Ct} {e : Expr} {es : List Expr} {pos p : Pos} {x : Str} {k n : Nat} {f : Addr} {fd : FuncData} {ps : List Str} {ios : List Nat} {F : FF} {t : TA} {g : AF}
theorem lk_callN (l : LkA C t g) : LkE C (tCallS (spF C.K C.cv n F) (WE C.W) t) (eCallN n ios F g) := fun ρ σ B H Q S gd => by
  refine l.bind S gd fun hs ρ1 vs B1 H1 S1 x1 y1 g1 => ?_
  split at g1
  case isFalse => exact g1.elim
  rename_i ds
  split at g1
  · exact g1.elim
  · rename_i ρ0 ea
    split at g1
    · exact g1.elim
    · rename_i hl
      have hl : ρ0.length = n := Classical.not_not.mp hl
      refine ⟨ρ0, B1, hl, argsN_sim ds S1 y1 ea, ?_⟩
      cases ef : F ρ0 with
      | stuck => rw [ef] at g1; exact g1
      | exc c outs =>
        rw [ef] at g1
        dsimp only at g1
        split at g1
        · exact g1.elim
        · rename_i ρ2 ep
          intro cls dct B2 H2 S2 x2 ok
          obtain ⟨S3, x3, _, _⟩ := backN_sim ds S1 y1 ea S2 x2 ep
          exact g1 cls dct B2 H2 S3 x3 ok
      | ok h outs =>
        rw [ef] at g1
        dsimp only at g1
        intro v B2 H2 S2 x2 y2
        cases ep : putN ρ1 hs outs ios with
        | none => rw [ep] at g1; cases h <;> exact g1.elim
        | some ρ2 =>
          rw [ep] at g1
          obtain ⟨S3, x3, n1, n2⟩ := backN_sim ds S1 y1 ea S2 x2 ep
          cases h with
          | sh d => exact g1 v B2 H2 S3 x3 y2
          | fr d =>
            obtain ⟨a, r1, r2, r3, r4, r5⟩ := y2
            exact g1 v B2 H2 S3 x3 ⟨a, r1, r2, r3, n2 a r4 r5, n1 a r5⟩
          | bw i => exact g1.elim
theorem se_callN (FO : FnOk X.prog X.w X.K X.mg X.base (L2.CX X.prog X.w) k f fd ps (spF C.K C.cv n F)) (hr : Room k X.A) (hm : X.mg x = some (.ref f)) (hkp : PySem.W.keepIn X.K (.ref f) = true) (hb : Binds X.K fd ps []) (tk : Takes X C.W)
    (l : SA X C (e :: es) t g) (ios : List Nat) (hg : Gl X x := by rfl) (hdb : (x == ("__debug__" : Str)) = false := by decide) (he : starEach (e :: es) X.env = (false, eval e X.env) :: starEach es X.env := by rfl)
    (hpl : (backTo pos (starEach es X.env)).any (·.1) = false := by rfl) : SE X C (.Call (.Name x p) (e :: es) [] pos) (tCallS (spF C.K C.cv n F) (WE C.W) t) (eCallN n ios F g) :=
  ⟨pe_callS FO hr hg hm hkp hb (fun σ => passAt tk σ) l.pa hdb he hpl, lk_callN l.lk⟩
end
end GS
namespace GS
open PySem L2 PySem.Spec PyProof.Rows
theorem tuple_mulW1 (l : Addr) (items : Array Value) (n : Nat) (dd : Option Addr) (sl : Array (Option Value)) (u : Tok) :
    Meets (Builtin.«tuple.__mul__» ⟨[.ref l, .int 1 u], []⟩) (fun _ R s => s.heap.get? l = some { cls := .type "tuple", dict := dd, data := .seq items n, slots := sl } ∧
      R (.ok (.ret (Value.ref l))) s) :=
  .of_wp fun prog w A R s h => by
    obtain ⟨hp, g, d, tk, os⟩ := s
    obtain ⟨hl, h⟩ := h
    have f1 := AutoSeq1.idx_int
    have c0 : (decide ((1 : Int) < -(2 ^ 63)) || decide ((1 : Int) ≥ 2 ^ 63)) = false := by decide
    have c1 : (items.isEmpty || (1 : Int) == 1) = true := by simp
    wp_walk using wpAny_loadPart' hl
    repeat (first
      | (refine wpAny_ite_false (decide_eq_false (by rw [c0]; exact Bool.false_ne_true)) ?_; wp_walk using wpAny_loadPart' hl)
      | (refine wpAny_ite_true (decide_eq_true c1) ?_; wp_walk using wpAny_loadPart' hl))
    exact ⟨_, rfl, h⟩
def rRep1 (K : PySem.W.Frag) : R2 := fun x y H Q => ∃ l xs, x = .ref l ∧ y = .int 1 ∧ SqT K H l xs ∧ Q x H
theorem op_rep1 {X : Cx} : OpR X (binaryOp .Mult) (rRep1 X.K) := by
  intro pins s σ H x y v u Q I rx ry h
  obtain ⟨l, xs, rfl, rfl, hT, q⟩ := h
  cases rx
  obtain ⟨t, rfl⟩ := ry
  obtain ⟨its, r, ⟨⟨cls, dd, data, sl⟩, ho, hc, n, hd⟩, hs⟩ := I.tuple hT
  simp only at hc hd
  subst hc hd
  refine wpAny_binaryOp_repeat_ref (T := "tuple") (U := "int") (by decide) ⟨_, ho, rfl⟩ (fun s' => typeIs_int s' 1 t) noFill_tuple_mul F.fills_int_mul F.slot_int_rmul repeat_tuple F.slot_int_index.lookup
    (call_meets F.slot_int_rmul (typeIs_int s 1 t) F.entry_int_rmul (F.args_int_rmul_2 _ _) (int_rmul_tuple 1 t l its.toArray n dd sl)
      ⟨ho, rfl, ⟨_, ho, rfl⟩, call_meets F.slot_tuple_mul ⟨_, ho, rfl⟩ F.entry_tuple_mul (F.args_tuple_mul_2 _ _) (tuple_mulW1 l its.toArray n dd sl t) ⟨ho, ?_⟩⟩)
  exact ⟨.ref l, H, I, rfl, q⟩
def mulU : D → D → Option Hd
  | .tuple ds, .int k => if decide (k = 1) then some (.sh (.tuple ds)) else mulT (.tuple ds) (.int k)
  | d, e => mulT d e
def rMulU (K : PySem.W.Frag) : R2 := fun x y H Q => rMulT K x y H Q ∨ rRep1 K x y H Q
theorem op_mulU {X : Cx} : OpR X (binaryOp .Mult) (rMulU X.K) := OpR.or op_mulT op_rep1
theorem ol_mulU {K : KW} : OpL K (rMulU K) mulU := fun ρ σ B H x y dx dy h Q S tx ty e k => by
  have base : mulT dx dy = some h → rMulU K x y H Q := fun e => .inl (ol_mulT ρ σ B H x y dx dy h Q S tx ty e k)
  cases dx with
  | tuple ds =>
    cases dy with
    | int i =>
      have e : (if decide (i = 1) then some (Hd.sh (.tuple ds)) else mulT (.tuple ds) (.int i)) = some h := e
      cases c : decide (i = 1) with
      | true =>
        rw [c, if_pos rfl] at e
        cases e
        have h1 : i = 1 := by simpa using c
        subst h1
        obtain ⟨a, vs, rfl, ha, ra⟩ := tx.tupX
        rw [ty.int]
        exact .inr ⟨a, vs, rfl, rfl, (same_x S.bh ha).sq, now S (.tup ha ra) k⟩
      | false =>
        rw [c, if_neg Bool.false_ne_true] at e
        exact base e
    | _ => exact base e
  | _ => exact base e
@[simp] theorem mulU_t (ds : List D) (k : Int) : mulU (.tuple ds) (.int k) = if decide (k = 1) then some (.sh (.tuple ds)) else mulT (.tuple ds) (.int k) := rfl
end GS
namespace GS
open PySem L2
section
variable {ρ ρ1 : Rho} {c : Prop} [Decidable c]
def putX (ρ : Rho) (h : Option Hd) (c' : Option Cel) : Option Rho := match h with
  | some (.bw i) => putBC ρ i (slot ρ i) c'
  | _ => none
@[simp] theorem putX_bw (i : Nat) (c' : Option Cel) : putX ρ (some (.bw i)) c' = putBC ρ i (slot ρ i) c' := rfl
theorem putB_x (j : Nat) (hs : List Hd) (outs : Rho) : putB ρ (some j) hs outs = putX ρ (hs[j]?) (slot outs j) := by
  show (match hs[j]? with | some (.bw i) => (match slot ρ i, slot outs j with | some c, some c' => some (ρ.set i (some ⟨c'.d, c.fl⟩)) | _, _ => none) | _ => none) = _
  unfold putX putBC
  generalize hs[j]? = v
  cases v with
  | none => rfl
  | some v =>
    cases v with
    | bw i => rfl
    | _ => rfl
@[simp] theorem putN_nil (hs : List Hd) (outs : Rho) : putN ρ hs outs [] = some ρ := rfl
@[simp] theorem putN_cons (hs : List Hd) (outs : Rho) (j : Nat) (js : List Nat) : putN ρ hs outs (j :: js) = (putX ρ (hs[j]?) (slot outs j)).bind fun ρ1 => putN ρ1 hs outs js := by
  rw [putN, putB_x]
@[simp] theorem lentX_nil (ios : List Nat) (k : Nat) : lentX ios k [] = [] := rfl
@[simp] theorem lentX_bw (ios : List Nat) (k i : Nat) (hs : List Hd) : lentX ios k (.bw i :: hs) = if k ∈ ios then i :: lentX ios (k + 1) hs else lentX ios (k + 1) hs := rfl
@[simp] theorem lentX_sh (ios : List Nat) (k : Nat) (d : D) (hs : List Hd) : lentX ios k (.sh d :: hs) = lentX ios (k + 1) hs := rfl
@[simp] theorem lentX_fr (ios : List Nat) (k : Nat) (d : D) (hs : List Hd) : lentX ios k (.fr d :: hs) = lentX ios (k + 1) hs := rfl
@[simp] theorem distB_nil : distB [] = true := rfl
@[simp] theorem distB_cons (x : Nat) (r : List Nat) : distB (x :: r) = (!r.contains x && distB r) := rfl
@[simp] theorem argsN_nil (ios : List Nat) (k : Nat) : argsN ρ ios k [] = some [] := rfl
@[simp] theorem argsN_cons (ios : List Nat) (k : Nat) (h : Hd) (hs : List Hd) : argsN ρ ios k (h :: hs) = consC (argC ρ (decide (k ∈ ios)) h) (argsN ρ ios (k + 1) hs) := by
  unfold consC
  rw [argsN]
  try rfl
def backO (o : Option Rho) (h : Hd) : RE := match o with
  | some ρ2 => .ok h ρ2
  | none => .stuck
def backE (o : Option Rho) (x : Xc) : RE := match o with
  | some ρ2 => .exc x ρ2
  | none => .stuck
@[simp] theorem backO_s (h : Hd) : backO (some ρ) h = .ok h ρ := rfl
@[simp] theorem backE_s (x : Xc) : backE (some ρ) x = .exc x ρ := rfl
def backN (ρ1 : Rho) (ios : List Nat) (hs : List Hd) (r : RE) : RE := match r with
    | .stuck => .stuck
    | .ok h outs => match h, putN ρ1 hs outs ios with
      | .bw _, _ => .stuck
      | _, none => .stuck
      | _, some ρ2 => .ok h ρ2
    | .exc x outs => match putN ρ1 hs outs ios with
      | none => .stuck
      | some ρ2 => .exc x ρ2
@[simp] theorem backN_sh (ios : List Nat) (d : D) (hs : List Hd) (outs : Rho) : backN ρ ios hs (.ok (.sh d) outs) = backO (putN ρ hs outs ios) (.sh d) := by
  have : ∀ o : Option Rho, (match (Hd.sh d : Hd), o with | .bw _, _ => RE.stuck | _, none => .stuck | _, some ρ2 => .ok (.sh d) ρ2) = backO o (.sh d) := fun o => by cases o <;> rfl
  exact this _
@[simp] theorem backN_fr (ios : List Nat) (d : D) (hs : List Hd) (outs : Rho) : backN ρ ios hs (.ok (.fr d) outs) = backO (putN ρ hs outs ios) (.fr d) := by
  have : ∀ o : Option Rho, (match (Hd.fr d : Hd), o with | .bw _, _ => RE.stuck | _, none => .stuck | _, some ρ2 => .ok (.fr d) ρ2) = backO o (.fr d) := fun o => by cases o <;> rfl
  exact this _
@[simp] theorem backN_ex (ios : List Nat) (x : Xc) (hs : List Hd) (outs : Rho) : backN ρ ios hs (.exc x outs) = backE (putN ρ hs outs ios) x := by
  have : ∀ o : Option Rho, (match o with | none => RE.stuck | some ρ2 => .exc x ρ2) = backE o x := fun o => by cases o <;> rfl
  exact this _
@[simp] theorem backN_if (ios : List Nat) (hs : List Hd) (a b : RE) : backN ρ ios hs (if c then a else b) = if c then backN ρ ios hs a else backN ρ ios hs b := by split <;> rfl
def callRN (n : Nat) (ios : List Nat) (F : FF) (hs : List Hd) (ρ1 : Rho) (a : Option Rho) : RE := match a with
  | none => .stuck
  | some ρ0 => if ρ0.length ≠ n then .stuck else backN ρ1 ios hs (F ρ0)
@[simp] theorem callRN_s (n : Nat) (ios : List Nat) (F : FF) (hs : List Hd) (ρ0 : Rho) : callRN n ios F hs ρ (some ρ0) = if ρ0.length ≠ n then .stuck else backN ρ ios hs (F ρ0) := rfl
@[simp] theorem eCallN_eq (n : Nat) (ios : List Nat) (F : FF) (fs : AF) : eCallN n ios F fs ρ = bindA (fs ρ) fun hs ρ1 => if distB (lentX ios 0 hs) then callRN n ios F hs ρ1 (argsN ρ1 ios 0 hs) else .stuck := rfl
end
end GS
namespace GM
open PySem L2 GS
/-- is_state(many, thing); slots 0:many 1:thing -/
def m_is_state : SF := (sEnd (sRet (eAnd (eB (eIsi isInt (eVb 1))) (eAnd (eB (eNot (eB (eIsi isBool (eVb 1))))) (eChain (ltI fun i j => decide (i ≤ j)) (ltI fun i j => decide (i < j)) (eC (.int 0)) (eVb 1) (eVb 0))))))
theorem m_is_state_eq (ρ : Rho) : fnF 2 2 (m_is_state) ρ = finR 2 (m_is_state (ρ ++ [])) := fnF_eq 2 2 _
/-- are_ends(many, thing); slots 0:many 1:thing 2:ahead 3:state -/
def m_are_ends_b1 (F_is_state : FF) : SF := (sKill [3] (sSeq (sIf (eOr (eNot (eB (eCall 2 none F_is_state (aCons (eMv 0) (aCons (eMv 3) aNil))))) (eB (eBin (ltI fun i j => decide (i ≤ j)) (eVb 3) (eVb 2)))) (sEnd (sRet (eC (.bool false)))) sNil) (sSet 2 (eMv 3))))
def m_are_ends (F_is_state : FF) : SF := (sSeq (sIf (eNot (eB (eIsi isTup (eVb 1)))) (sEnd (sRet (eC (.bool false)))) sNil) (sSeq (sSet 2 (eNeg (eC (.int 1)))) (sSeq (sFor (iSq (eMv 1)) (gN 3) (m_are_ends_b1 F_is_state)) (sEnd (sRet (eC (.bool true)))))))
theorem m_are_ends_eq (F_is_state : FF) (ρ : Rho) : fnF 4 2 (m_are_ends F_is_state) ρ = finR 2 (m_are_ends F_is_state (ρ ++ [none, none])) := fnF_eq 4 2 _
/-- is_step(many, thing); slots 0:many 1:thing -/
def m_is_step (F_is_state F_is_sign : FF) : SF := (sSeq (sIf (eOr (eNot (eB (eIsi isTup (eVb 1)))) (eOr (eB (eBin (eqB true) (eCB (un1 lenD) (aCons (eVb 1) aNil)) (eC (.int 3)))) (eNot (eB (eIsi isStr (eBin ixA (eVb 1) (eC (.int 1)))))))) (sRet (eC (.bool false))) sNil) (sEnd (sRet (eAnd (eB (eCall 2 none F_is_state (aCons (eMv 0) (aCons (eBin ixA (eVb 1) (eC (.int 0))) aNil)))) (eAnd (eB (eCall 1 none F_is_sign (aCons (eBin ixA (eVb 1) (eC (.int 1))) aNil))) (eCall 2 none F_is_state (aCons (eMv 0) (aCons (eBin ixA (eVb 1) (eC (.int 2))) aNil))))))))
theorem m_is_step_eq (F_is_state F_is_sign : FF) (ρ : Rho) : fnF 2 2 (m_is_step F_is_state F_is_sign) ρ = finR 2 (m_is_step F_is_state F_is_sign (ρ ++ [])) := fnF_eq 2 2 _
/-- are_steps(many, thing); slots 0:many 1:thing 2:known 3:step -/
def m_are_steps_b1 (F_is_step : FF) : SF := (sKill [3] (sSeq (sIf (eOr (eNot (eB (eCall 2 none F_is_step (aCons (eMv 0) (aCons (eMv 3) aNil))))) (eB (eBin (inB false) (eSl (eVb 3) none (some (eC (.int 2)))) (eVb 2)))) (sEnd (sRet (eC (.bool false)))) sNil) (sPut 2 (eSl (eVb 3) none (some (eC (.int 2)))) (eC (.bool true)))))
def m_are_steps (F_is_step : FF) : SF := (sSeq (sIf (eOr (eNot (eB (eIsi isTup (eVb 1)))) (eB (eBin (ltI fun i j => decide (j < i)) (eCB (un1 lenD) (aCons (eVb 1) aNil)) (eC (.int 40))))) (sEnd (sRet (eC (.bool false)))) sNil) (sSeq (sSet 2 (eDct dNil)) (sSeq (sFor (iSq (eMv 1)) (gN 3) (m_are_steps_b1 F_is_step)) (sEnd (sRet (eC (.bool true)))))))
theorem m_are_steps_eq (F_is_step : FF) (ρ : Rho) : fnF 4 2 (m_are_steps F_is_step) ρ = finR 2 (m_are_steps F_is_step (ρ ++ [none, none])) := fnF_eq 4 2 _
/-- is_walker(thing); slots 0:thing 1:many 2:begin 3:ends 4:steps -/
def m_is_walker (F_are_steps F_are_ends F_is_state : FF) : SF := (sSeq (sIf (eOr (eNot (eB (eIsi isTup (eVb 0)))) (eB (eBin (eqB true) (eCB (un1 lenD) (aCons (eVb 0) aNil)) (eC (.int 4))))) (sEnd (sRet (eC (.bool false)))) sNil) (sSeq (sUnp (gT 4 (gsC (gN 1) (gsC (gN 2) (gsC (gN 3) (gsC (gN 4) gsN))))) (eMv 0)) (sSeq (sIf (eOr (eNot (eB (eCall 2 none F_is_state (aCons (eBin addD (eC (.int 5)) (eC (.int 1))) (aCons (eMv 1) aNil))))) (eOr (eB (eBin (eqB false) (eVb 1) (eC (.int 0)))) (eNot (eB (eCall 2 none F_is_state (aCons (eMv 1) (aCons (eMv 2) aNil))))))) (sEnd (sRet (eC (.bool false)))) sNil) (sEnd (sRet (eAnd (eB (eCall 2 none F_are_ends (aCons (eMv 1) (aCons (eMv 3) aNil)))) (eCall 2 none F_are_steps (aCons (eMv 1) (aCons (eMv 4) aNil)))))))))
theorem m_is_walker_eq (F_are_steps F_are_ends F_is_state : FF) (ρ : Rho) : fnF 5 1 (m_is_walker F_are_steps F_are_ends F_is_state) ρ = finR 1 (m_is_walker F_are_steps F_are_ends F_is_state (ρ ++ [none, none, none, none])) := fnF_eq 5 1 _
end GM
namespace GX
open PySem L2 GS GM
def stB (n : Int) : D → Bool
  | .int i => decide (0 ≤ i) && decide (i < n)
  | _ => false
theorem stB_i (n i : Int) : stB n (.int i) = (decide (0 ≤ i) && decide (i < n)) := rfl
def goE (n : Int) : Int → List D → Bool
  | _, [] => true
  | a, .int i :: r => decide (0 ≤ i) && (decide (i < n) && (decide (a < i) && goE n i r))
  | _, _ :: _ => false
def endsB (n : Int) : D → Bool
  | .tuple es => goE n (-1) es
  | _ => false
def stepK (n : Int) : D → Option (Int × Str)
  | .tuple [.int a, .str w, b] => if decide (0 ≤ a) && (decide (a < n) && (signB w && stB n b)) then some (a, w) else none
  | _ => none
def goS (n : Int) : List (Int × Str) → List D → Bool
  | _, [] => true
  | seen, d :: r => match stepK n d with
    | none => false
    | some k => !decide (k ∈ seen) && goS n (seen ++ [k]) r
def stepsB (n : Int) : D → Bool
  | .tuple ss => decide (ss.length ≤ 40) && goS n [] ss
  | _ => false
def walkB : D → Bool
  | .tuple [.int n, b, e, s] => decide (0 < n) && (decide (n < 6) && (stB n b && (endsB n e && stepsB n s)))
  | _ => false
/-- texts in the places of signs are short -/
def StepP (d : D) : Prop := ∀ a w b, d = .tuple [a, .str w, b] → w.length ≤ 1000
def WalkP (d : D) : Prop := ∀ c b e ss, d = .tuple [c, b, e, .tuple ss] → ∀ s ∈ ss, StepP s
def StSp (F : FF) : Prop := ∀ (n : Int) (d : D), F [some ⟨.int n, .sh⟩, some ⟨d, .sh⟩] = .ok (.sh (.bool (stB n d))) [none, none]
theorem is_state_ok : StSp (fnF 2 2 m_is_state) := fun n d => by
  rw [m_is_state_eq]
  cases d with
  | int i =>
    by_cases h1 : 0 ≤ i <;> by_cases h2 : i < n <;> simp [m_is_state, stB, isInt, isBool, h1, h2]
  | bool b => simp [m_is_state, stB, isInt, isBool]
  | _ => simp [m_is_state, stB, isInt, isBool]
def EndsSp (F : FF) : Prop := ∀ (n : Int) (d : D), F [some ⟨.int n, .sh⟩, some ⟨d, .sh⟩] = .ok (.sh (.bool (endsB n d))) [none, none]
section
variable {Fs Fg Fp Fe Ft : FF}
theorem ends_loop (hs : StSp Fs) (n : Int) (x1 : Option Cel) (h1 : ioC x1 = none) : ∀ (es : List D) (a : Int), -1 ≤ a → (goE n a es = true → ∃ a', forL (gN 3) (m_are_ends_b1 Fs) es [some ⟨.int n, .sh⟩, x1, some ⟨.int a, .sh⟩, none] = .nx [some ⟨.int n, .sh⟩, x1, some ⟨.int a', .sh⟩, none]) ∧
    (goE n a es = false → forL (gN 3) (m_are_ends_b1 Fs) es [some ⟨.int n, .sh⟩, x1, some ⟨.int a, .sh⟩, none] = .rt (.sh (.bool false)) [none, none, none, none])
  | [], a, _ => ⟨fun _ => ⟨a, rfl⟩, fun h => by cases h⟩
  | d :: r, a, ha => by
    have e := hs n d
    have key : ∀ b : Bool, stB n d = b → forL (gN 3) (m_are_ends_b1 Fs) (d :: r) [some ⟨.int n, .sh⟩, x1, some ⟨.int a, .sh⟩, none] = forL (gN 3) (m_are_ends_b1 Fs) (d :: r) [some ⟨.int n, .sh⟩, x1, some ⟨.int a, .sh⟩, none] := fun _ _ => rfl
    rw [forL_cons]
    cases hb : stB n d with
    | false =>
      rw [hb] at e
      have g : goE n a (d :: r) = false := by
        cases d with
        | int i =>
          rw [goE]
          rw [stB_i] at hb
          rw [← Bool.and_assoc, hb, Bool.false_and]
        | _ => rfl
      refine ⟨fun h => (by rw [g] at h; cases h), fun _ => ?_⟩
      simp [m_are_ends_b1, e, h1]
    | true =>
      rw [hb] at e
      cases d with
      | int i =>
        rw [stB_i, Bool.and_eq_true, decide_eq_true_eq, decide_eq_true_eq] at hb
        have ge : goE n a (.int i :: r) = (decide (a < i) && goE n i r) := by
          rw [goE, decide_eq_true hb.1, decide_eq_true hb.2, Bool.true_and, Bool.true_and]
        by_cases hl : a < i
        · have nl : ¬ i ≤ a := by omega
          obtain ⟨r1, r2⟩ := ends_loop hs n x1 h1 r i (by omega)
          have st : optR (gN 3 (.int i) [some ⟨.int n, .sh⟩, x1, some ⟨.int a, .sh⟩, none]) (m_are_ends_b1 Fs) = .nx [some ⟨.int n, .sh⟩, x1, some ⟨.int i, .sh⟩, none] := by simp [m_are_ends_b1, e, nl]
          rw [ge, decide_eq_true hl, Bool.true_and]
          refine ⟨fun h => ?_, fun h => ?_⟩
          · obtain ⟨a', ea⟩ := r1 h
            exact ⟨a', by rw [← forL_cons, forL_cons2, st, turnR_nx, ea]⟩
          · have ea := r2 h
            rw [← forL_cons, forL_cons2, st, turnR_nx, ea]
        · have nl : i ≤ a := by omega
          rw [ge, decide_eq_false hl, Bool.false_and]
          refine ⟨fun h => (by cases h), fun _ => ?_⟩
          simp [m_are_ends_b1, e, nl, h1]
      | _ => cases hb
theorem are_ends_ok (hs : StSp Fs) : EndsSp (fnF 4 2 (m_are_ends Fs)) := fun n d => by
  rw [m_are_ends_eq]
  cases d with
  | tuple es =>
    obtain ⟨r1, r2⟩ := ends_loop hs n (some ⟨.tuple es, .sh⟩) rfl es (-1) (by omega)
    cases hg : goE n (-1) es with
    | true =>
      obtain ⟨a', ea⟩ := r1 hg
      simp [m_are_ends, isTup, ea, endsB, hg]
    | false =>
      have ea := r2 hg
      simp [m_are_ends, isTup, ea, endsB, hg]
  | _ => simp [m_are_ends, isTup, endsB]
def StepSp (F : FF) : Prop := ∀ (n : Int) (d : D), StepP d → F [some ⟨.int n, .sh⟩, some ⟨d, .sh⟩] = .ok (.sh (.bool (stepK n d).isSome)) [none, none]
theorem is_step_ok (hs : StSp Fs) (hg : SignSp Fg) : StepSp (fnF 2 2 (m_is_step Fs Fg)) := fun n d hp => by
  rw [m_is_step_eq]
  cases d with
  | tuple ds =>
    match ds, hp with
    | [], _ => simp [m_is_step, isTup, stepK]
    | [_], _ => simp [m_is_step, isTup, stepK]
    | [_, _], _ => simp [m_is_step, isTup, stepK]
    | a :: b :: c :: d :: r, _ =>
      have z : ¬ ((r.length : Int) + 1 + 1 + 1 + 1 = 3) := by omega
      simp [m_is_step, isTup, stepK, z]
    | [a, b, c], hp =>
      cases b with
      | str w =>
        have l := hp a w c rfl
        have e1 := hs n a
        have e2 := hg w (fits (by omega))
        have e3 := hs n c
        have i1 : L2.atI [a, PyData.str w, c] 1 = some (.str w) := rfl
        have i2 : L2.atI [a, PyData.str w, c] 2 = some c := rfl
        have es : (stepK n (.tuple [a, .str w, c])).isSome = (stB n a && (signB w && stB n c)) := by
          cases a with
          | int i =>
            unfold stepK
            dsimp only
            rw [show stB n (.int i) = (decide (0 ≤ i) && decide (i < n)) from rfl, Bool.and_assoc]
            generalize (decide (0 ≤ i) && (decide (i < n) && (signB w && stB n c))) = q
            cases q <;> rfl
          | _ => rfl
        rw [es]
        generalize stB n a = q1 at e1
        generalize signB w = q2 at e2
        generalize stB n c = q3 at e3
        cases q1 <;> cases q2 <;> simp [m_is_step, isTup, isStr, i1, i2, e1, e2, e3]
      | _ =>
        have i1 : ∀ y, L2.atI [a, y, c] 1 = some y := fun _ => rfl
        simp [m_is_step, isTup, isStr, i1, stepK]
  | _ => simp [m_is_step, isTup, stepK]
def kS (k : Int × Str) : D := .tuple [.int k.1, .str k.2]
def kvS (k : Int × Str) : D × D := (kS k, .bool true)
theorem tk_S (k : Int × Str) : tkD [.int k.1, .str k.2] = some (.tup [.num k.1, .text k.2]) := by
  simp [tkD, nkL, nkD, NestedKey.depth, NestedKey.depthAll]
theorem isK_S (k : Int × Str) : isK (kS k) = true := by
  unfold kS
  rw [isK, tk_S]; rfl
theorem kEq_S (k l : Int × Str) : kEq (kS k) (kS l) = decide (k = l) := by
  unfold kS
  rw [kEq, tk_S, tk_S]
  obtain ⟨a, b⟩ := k
  obtain ⟨c, d⟩ := l
  by_cases h1 : a = c <;> by_cases h2 : b = d <;> simp [h1, h2]
theorem get_S (seen : List (Int × Str)) (k : Int × Str) : (dGet (seen.map kvS) (kS k)).isSome = decide (k ∈ seen) := by
  induction seen with
  | nil => rfl
  | cons x r ih =>
    rw [List.map_cons]
    show (if kEq (kS x) (kS k) then some (PyData.bool true) else dGet (r.map kvS) (kS k)).isSome = _
    rw [kEq_S]
    by_cases h : x = k
    · simp [h]
    · have h' : ¬ k = x := fun e => h e.symm
      simp [h, ih, h']
theorem any_S (seen : List (Int × Str)) (k : Int × Str) : ((seen.map kvS).any fun p => kEq p.1 (kS k)) = decide (k ∈ seen) := by
  induction seen with
  | nil => rfl
  | cons x r ih =>
    rw [List.map_cons, List.any_cons, ih]
    show (kEq (kS x) (kS k) || _) = _
    rw [kEq_S]
    by_cases h : x = k
    · simp [h]
    · have h' : ¬ k = x := fun e => h e.symm
      simp [h, h']
theorem mix_S (seen : List (Int × Str)) (k : Int × Str) : mixB (seen.map kvS) (kS k) = false ∧ xnB (seen.map kvS) = false := by
  cases seen <;> exact ⟨rfl, rfl⟩
theorem in_S (seen : List (Int × Str)) (k : Int × Str) : inB false (kS k) (.dict (seen.map kvS)) = some (.sh (.bool (decide (k ∈ seen)))) := by
  rw [inB_d, isK_S, (mix_S seen k).1, (mix_S seen k).2, get_S]
  simp
theorem put_S (seen : List (Int × Str)) (k : Int × Str) (h : ¬ k ∈ seen) (hl : seen.length ≤ 1000) : setD (kS k) (.bool true) (.dict (seen.map kvS)) = some (.dict ((seen ++ [k]).map kvS)) := by
  rw [setD_d, isK_S, (mix_S seen k).1, decide_eq_true (show (seen.map kvS).length < sizeLine from fitsl (by rw [List.length_map]; omega))]
  unfold dPut
  rw [any_S, decide_eq_false h, List.map_append]
  rfl
theorem steps_loop (hp : StepSp Fp) (n : Int) (x1 : Option Cel) (h1 : ioC x1 = none) : ∀ (ss : List D) (seen : List (Int × Str)), seen.length + ss.length ≤ 1000 → (∀ s ∈ ss, StepP s) → (goS n seen ss = true → ∃ seen' : List (Int × Str), forL (gN 3) (m_are_steps_b1 Fp) ss [some ⟨.int n, .sh⟩, x1, some ⟨.dict (seen.map kvS), .ow⟩, none] = .nx [some ⟨.int n, .sh⟩, x1, some ⟨.dict (seen'.map kvS), .ow⟩, none]) ∧
    (goS n seen ss = false → forL (gN 3) (m_are_steps_b1 Fp) ss [some ⟨.int n, .sh⟩, x1, some ⟨.dict (seen.map kvS), .ow⟩, none] = .rt (.sh (.bool false)) [none, none, none, none])
  | [], seen, _, _ => ⟨fun _ => ⟨seen, rfl⟩, fun h => by cases h⟩
  | d :: r, seen, hl, hq => by
    have e := hp n d (hq d (by simp))
    rw [List.length_cons] at hl
    rw [forL_cons]
    cases hk : stepK n d with
    | none =>
      rw [hk] at e
      have g : goS n seen (d :: r) = false := by rw [goS, hk]
      rw [g]
      refine ⟨fun h => (by cases h), fun _ => ?_⟩
      simp [m_are_steps_b1, e, h1]
    | some k =>
      rw [hk] at e
      have g : goS n seen (d :: r) = (!decide (k ∈ seen) && goS n (seen ++ [k]) r) := by rw [goS, hk]
      have hd : ∃ b, d = .tuple [.int k.1, .str k.2, b] := by
        unfold stepK at hk
        split at hk
        · split at hk
          · cases hk; exact ⟨_, rfl⟩
          · cases hk
        · cases hk
      obtain ⟨b, rfl⟩ := hd
      have c2 : cutD [PyData.int k.1, PyData.str k.2, b] none (some 2) = [.int k.1, .str k.2] := cutD_to _ 2
      have i1 : inB false (.tuple [.int k.1, .str k.2]) (.dict (seen.map kvS)) = some (.sh (.bool (decide (k ∈ seen)))) := in_S seen k
      rw [g]
      by_cases hm : k ∈ seen
      · rw [decide_eq_true hm] at i1 ⊢
        refine ⟨fun h => (by cases h), fun _ => ?_⟩
        generalize PyData.dict (seen.map kvS) = dd at i1 ⊢
        simp [m_are_steps_b1, e, h1, c2, i1, -inB_d]
      · have p1 : setD (.tuple [.int k.1, .str k.2]) (.bool true) (.dict (seen.map kvS)) = some (.dict ((seen ++ [k]).map kvS)) := put_S seen k hm (by omega)
        rw [decide_eq_false hm] at i1 ⊢
        obtain ⟨r1, r2⟩ := steps_loop hp n x1 h1 r (seen ++ [k]) (by rw [List.length_append, List.length_singleton]; omega) fun s m => hq s (by simp [m])
        have st : optR (gN 3 (.tuple [.int k.1, .str k.2, b]) [some ⟨.int n, .sh⟩, x1, some ⟨.dict (seen.map kvS), .ow⟩, none]) (m_are_steps_b1 Fp) = .nx [some ⟨.int n, .sh⟩, x1, some ⟨.dict ((seen ++ [k]).map kvS), .ow⟩, none] := by
          generalize PyData.dict (seen.map kvS) = dd at i1 p1 ⊢
          generalize PyData.dict ((seen ++ [k]).map kvS) = dd2 at p1 ⊢
          simp [m_are_steps_b1, e, c2, i1, p1, -inB_d]
        rw [Bool.not_false, Bool.true_and]
        refine ⟨fun h => ?_, fun h => ?_⟩
        · obtain ⟨s', ea⟩ := r1 h
          exact ⟨s', by rw [← forL_cons, forL_cons2, st, turnR_nx, ea]⟩
        · have ea := r2 h
          rw [← forL_cons, forL_cons2, st, turnR_nx, ea]
def StepsSp (F : FF) : Prop := ∀ (n : Int) (d : D), (∀ ss, d = .tuple ss → ∀ s ∈ ss, StepP s) → F [some ⟨.int n, .sh⟩, some ⟨d, .sh⟩] = .ok (.sh (.bool (stepsB n d))) [none, none]
theorem are_steps_ok (hp : StepSp Fp) : StepsSp (fnF 4 2 (m_are_steps Fp)) := fun n d hq => by
  rw [m_are_steps_eq]
  cases d with
  | tuple ss =>
    by_cases hl : ss.length ≤ 40
    · have nl : ¬ (40 : Int) < (ss.length : Int) := by omega
      obtain ⟨r1, r2⟩ := steps_loop hp n (some ⟨.tuple ss, .sh⟩) rfl ss [] (by simp; omega) (hq ss rfl)
      have sb : stepsB n (.tuple ss) = goS n [] ss := by unfold stepsB; dsimp only; rw [decide_eq_true hl, Bool.true_and]
      rw [sb]
      rw [List.map_nil] at r1 r2
      cases hg : goS n [] ss with
      | true =>
        obtain ⟨a', ea⟩ := r1 hg
        simp [m_are_steps, isTup, nl, dMerge, ea]
      | false =>
        have ea := r2 hg
        simp [m_are_steps, isTup, nl, dMerge, ea]
    · have nl : (40 : Int) < (ss.length : Int) := by omega
      have sb : stepsB n (.tuple ss) = false := by unfold stepsB; dsimp only; rw [decide_eq_false hl, Bool.false_and]
      rw [sb]
      simp [m_are_steps, isTup, nl]
  | _ => simp [m_are_steps, isTup, stepsB]
def WalkSp (F : FF) : Prop := ∀ d : D, WalkP d → F [some ⟨d, .sh⟩] = .ok (.sh (.bool (walkB d))) [none]
theorem is_walker_ok (hp : StepsSp Ft) (he : EndsSp Fe) (hs : StSp Fs) : WalkSp (fnF 5 1 (m_is_walker Ft Fe Fs)) := fun d hq => by
  rw [m_is_walker_eq]
  cases d with
  | tuple ds =>
    match ds, hq with
    | [], _ => simp [m_is_walker, isTup, walkB]
    | [_], _ => simp [m_is_walker, isTup, walkB]
    | [_, _], _ => simp [m_is_walker, isTup, walkB]
    | [_, _, _], _ => simp [m_is_walker, isTup, walkB]
    | a :: b :: c :: d :: e :: r, _ =>
      have z : ¬ ((r.length : Int) + 1 + 1 + 1 + 1 + 1 = 4) := by omega
      simp [m_is_walker, isTup, walkB, z]
    | [c, b, e, s], hq =>
      have e1 := hs 6 c
      cases c with
      | int n =>
        have e2 := hs n b
        have e3 := he n e
        have e4 := hp n s fun ss es x mx => hq (.int n) b e ss (by rw [es]) x mx
        by_cases h0 : 0 ≤ n
        · by_cases h6 : n < 6
          · have s6 : stB 6 (.int n) = true := by rw [stB_i, decide_eq_true h0, decide_eq_true h6]; rfl
            rw [s6] at e1
            by_cases hz : n = 0
            · subst hz
              simp [m_is_walker, isTup, e1, walkB]
            · have hp0 : 0 < n := by omega
              have wb : walkB (.tuple [.int n, b, e, s]) = (stB n b && (endsB n e && stepsB n s)) := by
                unfold walkB
                dsimp only
                rw [decide_eq_true hp0, decide_eq_true h6, Bool.true_and, Bool.true_and]
              rw [wb]
              generalize stB n b = q1 at e2
              generalize endsB n e = q2 at e3
              generalize stepsB n s = q3 at e4
              cases q1 <;> cases q2 <;> simp [m_is_walker, isTup, e1, hz, e2, e3, e4]
          · have s6 : stB 6 (.int n) = false := by rw [stB_i, decide_eq_false h6, Bool.and_false]
            rw [s6] at e1
            simp [m_is_walker, isTup, e1, walkB, h6]
        · have s6 : stB 6 (.int n) = false := by rw [stB_i, decide_eq_false h0, Bool.false_and]
          have hp0 : ¬ 0 < n := by omega
          rw [s6] at e1
          simp [m_is_walker, isTup, e1, walkB, hp0]
      | _ =>
        simp [stB] at e1
        simp [m_is_walker, isTup, e1, walkB]
  | _ => simp [m_is_walker, isTup, walkB]
end
end GX
namespace GM
open PySem L2 GS
/-- _law_is_state(count, thing); slots 0:count 1:thing -/
def m_law_is_state : SF := (sEnd (sRet (eAnd (eB (eIsi isInt (eVb 1))) (eAnd (eB (eNot (eB (eIsi isBool (eVb 1))))) (eChain (ltI fun i j => decide (i ≤ j)) (ltI fun i j => decide (i < j)) (eC (.int 0)) (eVb 1) (eVb 0))))))
/-- _law_is_sign(thing); slots 0:thing -/
def m_law_is_sign_2 : SF := (sSeq (sIf (eOr (eNot (eB (eIsi isStr (eVb 0)))) (eNot (eB (eChain (ltI fun i j => decide (i ≤ j)) (ltI fun i j => decide (i ≤ j)) (eC (.int 1)) (eCB (un1 lenD) (aCons (eVb 0) aNil)) (eC (.int 6)))))) (sRet (eC (.bool false))) sNil) (sEnd (sRet (eBin (eqB false) (eM1 stripD (eVb 0) (eC (.str (Str.ofString "abcdefghijklmnopqrstuvwxyz")))) (eC (.str (Str.ofString "")))))))
theorem m_law_is_sign_2_eq (ρ : Rho) : fnF 1 1 (m_law_is_sign_2) ρ = finR 1 (m_law_is_sign_2 (ρ ++ [])) := fnF_eq 1 1 _
/-- _law_due(walker); slots 0:walker 1:seen 2:step 3:count 4:begin 5:ends 6:steps 7:state 8:k -/
def m_law_due_6_b1 (F__law_is_sign F__law_is_state : FF) : SF := (sKill [2] (sSeq (sIf (eOr (eB (eBin (eqB true) (eCB (un1 lenD) (aCons (eVb 2) aNil)) (eC (.int 3)))) (eOr (eNot (eB (eCall 2 none F__law_is_state (aCons (eMv 3) (aCons (eBin ixA (eVb 2) (eC (.int 0))) aNil))))) (eNot (eB (eCall 2 none F__law_is_state (aCons (eMv 3) (aCons (eBin ixA (eVb 2) (eC (.int 2))) aNil))))))) (sEnd (sRet (eC (.bool false)))) sNil) (sSeq (sIf (eOr (eNot (eB (eCall 1 none F__law_is_sign (aCons (eBin ixA (eVb 2) (eC (.int 1))) aNil)))) (eB (eBin (inB false) (eSl (eVb 2) none (some (eC (.int 2)))) (eVb 1)))) (sEnd (sRet (eC (.bool false)))) sNil) (sApp 1 (eSl (eVb 2) none (some (eC (.int 2))))))))
def m_law_due_6_ce2 (F__law_is_sign F__law_is_state : FF) : EF := (eBin (ltI fun i j => decide (i < j)) (eBin ixA (eVb 5) (eVb 8)) (eBin ixA (eVb 5) (eBin addD (eVb 8) (eC (.int 1)))))
def m_law_due_6_ce3 (F__law_is_sign F__law_is_state : FF) : EF := (eCall 2 none F__law_is_state (aCons (eMv 3) (aCons (eMv 7) aNil)))
def m_law_due_6 (F__law_is_sign F__law_is_state : FF) : SF := (sSeq (sUnp (gT 4 (gsC (gN 3) (gsC (gN 4) (gsC (gN 5) (gsC (gN 6) gsN))))) (eMv 0)) (sSeq (sIf (eOr (eNot (eB (eCall 2 none F__law_is_state (aCons (eC (.int 6)) (aCons (eMv 3) aNil))))) (eOr (eB (eBin (eqB false) (eVb 3) (eC (.int 0)))) (eOr (eNot (eB (eCall 2 none F__law_is_state (aCons (eMv 3) (aCons (eMv 4) aNil))))) (eB (eBin (ltI fun i j => decide (j < i)) (eCB (un1 lenD) (aCons (eVb 6) aNil)) (eC (.int 40))))))) (sEnd (sRet (eC (.bool false)))) sNil) (sSeq (sIf (eNot (eB (eCB (un1 allD) (aCons (eLc [7] (iSq (eMv 5)) (gN 7) (eNox eYes) (eNox (m_law_due_6_ce3 F__law_is_sign F__law_is_state))) aNil)))) (sEnd (sRet (eC (.bool false)))) sNil) (sSeq (sIf (eNot (eB (eCB (un1 allD) (aCons (eLc [8] (iR1 (eBin subD (eCB (un1 lenD) (aCons (eVb 5) aNil)) (eC (.int 1)))) (gN 8) (eNox eYes) (eNox (m_law_due_6_ce2 F__law_is_sign F__law_is_state))) aNil)))) (sEnd (sRet (eC (.bool false)))) sNil) (sSeq (sSet 1 (eLst aNil)) (sSeq (sFor (iSq (eMv 6)) (gN 2) (m_law_due_6_b1 F__law_is_sign F__law_is_state)) (sEnd (sRet (eC (.bool true))))))))))
theorem m_law_due_6_eq (F__law_is_sign F__law_is_state : FF) (ρ : Rho) : fnF 9 1 (m_law_due_6 F__law_is_sign F__law_is_state) ρ = finR 1 (m_law_due_6 F__law_is_sign F__law_is_state (ρ ++ [none, none, none, none, none, none, none, none])) := fnF_eq 9 1 _
end GM
namespace GX
open PySem L2 GS GM PyProof
theorem law_is_state_ok : StSp (fnF 2 2 m_law_is_state) := is_state_ok
theorem tw_all {p : Nat → Bool} : ∀ l : List Nat, l.all p = true → l.takeWhile p = l
  | [], _ => rfl
  | c :: r, h => by
    rw [List.all_cons, Bool.and_eq_true] at h
    rw [List.takeWhile_cons, if_pos h.1, tw_all r h.2]
theorem tw_lt {p : Nat → Bool} : ∀ l : List Nat, l.all p = false → (l.takeWhile p).length < l.length
  | [], h => by cases h
  | c :: r, h => by
    rw [List.takeWhile_cons]
    cases hc : p c with
    | false => rw [if_neg Bool.false_ne_true]; simp
    | true =>
      rw [List.all_cons, hc, Bool.true_and] at h
      have := tw_lt r h
      rw [if_pos rfl, List.length_cons, List.length_cons]
      omega
theorem drop_bad {p : Nat → Bool} : ∀ l : List Nat, l.all p = false → (l.drop (l.takeWhile p).length).all p = false
  | [], h => by cases h
  | c :: r, h => by
    rw [List.takeWhile_cons]
    cases hc : p c with
    | false => rw [if_neg Bool.false_ne_true]; exact h
    | true =>
      rw [List.all_cons, hc, Bool.true_and] at h
      rw [if_pos rfl, List.length_cons, List.drop_succ_cons]
      exact drop_bad r h
theorem strip_empty (x y : Str) (hx : 1 ≤ x.length) : decide (Txt.stripChars x y = Str.ofString "") = x.cps.toList.all fun c => y.cps.contains c := by
  have hl := len_eq x
  have e0 : (Str.ofString "").length = 0 := by decide +kernel
  have lo : stripLo y.cps.contains true x = (x.cps.toList.takeWhile y.cps.contains).length := if_pos rfl
  have hi : ∀ k, stripHi y.cps.contains true x k = x.length - ((x.cps.toList.drop k).reverse.takeWhile y.cps.contains).length := fun k => if_pos rfl
  unfold Txt.stripChars Txt.stripBy stripSame stripped
  rw [lo, hi]
  cases ha : x.cps.toList.all y.cps.contains with
  | true =>
    have tw := tw_all _ ha
    rw [tw, List.drop_length]
    have z : ((x.cps.toList.length == 0) && (x.length - (([] : List Nat).reverse.takeWhile y.cps.contains).length == x.length)) = false := by
      rw [Bool.and_eq_false_iff]
      left
      rw [← hl]
      simp
      omega
    rw [z, if_neg Bool.false_ne_true]
    refine Eq.trans (decide_eq_true (str_ext ?_)) rfl
    rw [PySem.StrLaws.strSub_toList, ofS_cps]
    simp
  | false =>
    have h1 := tw_lt _ ha
    have h2 := drop_bad _ ha
    have h3 : ((x.cps.toList.drop (x.cps.toList.takeWhile y.cps.contains).length).reverse.takeWhile y.cps.contains).length < x.cps.toList.length - (x.cps.toList.takeWhile y.cps.contains).length := by
      have := tw_lt (p := y.cps.contains) (x.cps.toList.drop (x.cps.toList.takeWhile y.cps.contains).length).reverse (by rw [List.all_reverse]; exact h2)
      rw [List.length_reverse, List.length_drop] at this
      exact this
    generalize (x.cps.toList.takeWhile y.cps.contains).length = a at h1 h3
    generalize ((x.cps.toList.drop a).reverse.takeWhile y.cps.contains).length = b at h3
    refine Eq.trans (decide_eq_false fun e => ?_) rfl
    have e := congrArg Str.length e
    rw [e0] at e
    split at e
    · omega
    · rw [size_strSub _ _ _ (by omega)] at e
      omega
def sgB : D → Bool
  | .str w => signB w
  | _ => false
def LSgSp (F : FF) : Prop := ∀ d : D, (∀ w, d = .str w → w.length ≤ 1000) → F [some ⟨d, .sh⟩] = .ok (.sh (.bool (sgB d))) [none]
theorem law_is_sign_2_ok : LSgSp (fnF 1 1 m_law_is_sign_2) := fun d hd => by
  rw [m_law_is_sign_2_eq]
  cases d with
  | str w =>
    have hw := hd w rfl
    have hl := len_eq w
    have z1 : w.length ≤ sizeLine := fits (by omega)
    by_cases h1 : 1 ≤ w.length
    · by_cases h6 : w.length ≤ 6
      · have c1 : (1 : Int) ≤ (w.length : Int) := by omega
        have c6 : (w.length : Int) ≤ 6 := by omega
        have st := strip_empty w SML h1
        have sd : stripD (.str w) (.str (Str.ofString "abcdefghijklmnopqrstuvwxyz")) = some (.sh (.str (Txt.stripChars w SML))) := by
          show (if Nat.ble w.length 16777216 then some (Hd.sh (.str (Txt.stripChars w SML))) else none) = _
          rw [if_pos (Nat.ble_eq_true_of_le (by omega))]
        have sg : sgB (.str w) = w.cps.toList.all fun c => SML.cps.contains c := by
          show signB w = _
          unfold signB
          rw [← hl, decide_eq_true h1, decide_eq_true h6]
          simp
        rw [sg, ← st]
        generalize Txt.stripChars w SML = sw at sd
        simp [m_law_is_sign_2, isStr, z1, c1, c6, sd]
      · have c1 : (1 : Int) ≤ (w.length : Int) := by omega
        have c6 : (6 : Int) < (w.length : Int) := by omega
        have sg : sgB (.str w) = false := by
          show signB w = _
          unfold signB
          rw [← hl, decide_eq_false h6]
          simp
        rw [sg]
        simp [m_law_is_sign_2, isStr, z1, c1, c6]
    · have c1 : ¬ (1 : Int) ≤ (w.length : Int) := by omega
      have sg : sgB (.str w) = false := by
        show signB w = _
        unfold signB
        rw [← hl, decide_eq_false h1]
        simp
      rw [sg]
      simp [m_law_is_sign_2, isStr, z1, c1]
  | _ => simp [m_law_is_sign_2, isStr, sgB]
def LfB : D → Bool
  | .none => true
  | .bool _ => true
  | .int i => decide (-100 ≤ i) && decide (i ≤ 100)
  | .str s => PyData.strOk s && decide (s.length ≤ 20)
  | _ => false
def Th (c b : D) (es : List D) (ss : List (List D)) : D := .tuple [c, b, .tuple es, .tuple (ss.map .tuple)]
structure ThOk (c b : D) (es : List D) (ss : List (List D)) : Prop where
  c : LfB c = true
  b : LfB b = true
  e : ∀ d ∈ es, LfB d = true
  el : es.length ≤ 20
  s : ∀ s ∈ ss, s.length ≤ 10 ∧ ∀ d ∈ s, LfB d = true
  sl : ss.length ≤ 60
theorem lf_str {w : Str} (h : LfB (.str w) = true) : PyData.strOk w = true ∧ w.length ≤ 20 := by
  rw [show LfB (.str w) = (PyData.strOk w && decide (w.length ≤ 20)) from rfl, Bool.and_eq_true, decide_eq_true_eq] at h
  exact h
theorem lf_clean {d : D} (h : LfB d = true) : cleanB d = true := by
  cases d with
  | none => rfl
  | bool b => rfl
  | int i => rfl
  | str s => rw [cleanB]; exact (lf_str h).1
  | _ => cases h
theorem lf_depth {d : D} (h : LfB d = true) : d.depth ≤ 0 := by
  cases d with
  | none => simp [PyData.depth]
  | bool b => simp [PyData.depth]
  | int i => simp [PyData.depth]
  | str s => simp [PyData.depth]
  | _ => cases h
theorem ThOk.walkP {c b : D} {es : List D} {ss : List (List D)} (T : ThOk c b es ss) : WalkP (Th c b es ss) := fun c' b' e' ss' e s m a w x es' => by
  unfold Th at e
  injection e with e
  injection e with _ e
  injection e with _ e
  injection e with _ e
  injection e with e _
  injection e with e
  subst e
  obtain ⟨s', ms, rfl⟩ := List.mem_map.mp m
  injection es' with es'
  subst es'
  have := (lf_str ((T.s _ ms).2 (.str w) (by simp))).2
  omega
def adj : List Int → Bool
  | i :: j :: r => decide (i < j) && adj (j :: r)
  | _ => true
theorem goE_adj (n : Int) : ∀ (is : List Int) (a : Int), goE n a (is.map .int) = ((is.all fun i => stB n (.int i)) && adj (a :: is))
  | [], a => rfl
  | i :: r, a => by
    rw [List.map_cons, goE, goE_adj n r i, List.all_cons, adj, stB_i]
    generalize (r.all fun i => stB n (.int i)) = x
    generalize adj (i :: r) = y
    cases decide (0 ≤ i) <;> cases decide (i < n) <;> cases decide (a < i) <;> cases x <;> cases y <;> rfl
theorem adj_range : ∀ is : List Int, ((List.range (is.length - 1)).map fun k => decide (is.getD k 0 < is.getD (k + 1) 0)).all id = adj is
  | [] => rfl
  | [_] => rfl
  | i :: j :: r => by
    have ih := adj_range (j :: r)
    rw [adj, ← ih]
    rw [show (i :: j :: r).length - 1 = ((j :: r).length - 1) + 1 from by simp, List.range_succ_eq_map, List.map_cons, List.all_cons, List.map_map]
    congr 1
theorem not_goE {n a : Int} : ∀ {es : List D}, (es.all fun d => stB n d) = false → goE n a es = false
  | [], h => by cases h
  | d :: r, h => by
    cases d with
    | int i =>
      rw [List.all_cons, stB_i] at h
      rw [goE]
      cases h1 : decide (0 ≤ i) <;> cases h2 : decide (i < n) <;> cases h3 : decide (a < i) <;> simp
      rw [h1, h2, Bool.true_and, Bool.true_and] at h
      exact not_goE h
    | _ => rfl
theorem all_int {n : Int} {es : List D} (h : (es.all fun d => stB n d) = true) : ∃ is : List Int, es = is.map .int := by
  rw [List.all_eq_true] at h
  exact all_map fun d m => by
    have := h d m
    cases d with
    | int i => exact ⟨i, rfl⟩
    | _ => cases this
theorem lcL_D2 {vs : List Nat} {g : D → Rho → Option Rho} {fe : EF} (ρ : Rho) (up : D → Rho) (el : D → D) (xs : List D) (acc : List D) (hl : acc.length + xs.length ≤ sizeLine)
    (k : ∀ a, a ∈ xs → g a ρ = some (up a) ∧ wipeR (up a) vs = ρ ∧ eCap fe (up a) = .ok (.sh (el a)) (up a)) :
    lcL vs g (eNox eYes) fe xs acc ρ = .ok (.fr (.list (acc ++ xs.map el))) ρ := by
  have := lcL_all (vs := vs) (g := g) (fe := fe) ρ (fun d : D => d) up el xs acc hl k
  simpa using this
section
variable {Fs Fg : FF}
theorem clean_kS (k : Int × Str) (h : PyData.strOk k.2 = true) : cleanB (kS k) = true := by
  unfold kS
  simp [cleanB, cleanL, h]
theorem okEq_kS (k : Int × Str) (h : PyData.strOk k.2 = true) : okEq (kS k) = true := okEq_of (clean_kS k h) (by
  unfold kS
  simp [PyData.depth, PyData.depthAll])
theorem okEq_kSs (ks : List (Int × Str)) (h : ∀ k ∈ ks, PyData.strOk k.2 = true) : okEq (.list (ks.map kS)) = true := okEq_of (by
  rw [cleanB]
  refine cleanL_of fun d m => ?_
  obtain ⟨k, mk, rfl⟩ := List.mem_map.mp m
  exact clean_kS k (h k mk)) (by
  have := depthAll_of (ds := ks.map kS) (n := 1) fun d m => by
    obtain ⟨k, mk, rfl⟩ := List.mem_map.mp m
    unfold kS
    simp [PyData.depth, PyData.depthAll]
  rw [PyData.depth]
  omega)
theorem eqv_kS (k l : Int × Str) : PyData.eqv (kS k) (kS l) = decide (k = l) := by
  obtain ⟨a, b⟩ := k
  obtain ⟨c, d⟩ := l
  unfold kS
  rw [PyData.eqv, PyData.eqvAll, PyData.eqvAll, PyData.eqvAll, PyData.eqv, PyData.eqv]
  by_cases h1 : a = c <;> by_cases h2 : b = d <;> simp [h1, h2]
theorem in_seen (seen : List (Int × Str)) (k : Int × Str) (hk : PyData.strOk k.2 = true) (h : ∀ k ∈ seen, PyData.strOk k.2 = true) : inB false (kS k) (.list (seen.map kS)) = some (.sh (.bool (decide (k ∈ seen)))) := by
  rw [inB_l, okEq_kS k hk, okEq_kSs seen h, Bool.true_and, if_pos rfl]
  congr 3
  rw [Bool.false_xor, List.any_map]
  induction seen with
  | nil => rfl
  | cons x r ih =>
    rw [List.any_cons, ih fun k m => h k (by simp [m])]
    show (PyData.eqv (kS x) (kS k) || _) = _
    rw [eqv_kS]
    by_cases e : x = k
    · simp [e]
    · have e' : ¬ k = x := fun z => e z.symm
      simp [e, e']
theorem due_loop (hs : StSp Fs) (hg : LSgSp Fg) (n : Int) (x0 b e s k : Option Cel) (h0 : ioC x0 = none) (hb : ioC b = none) (he : ioC e = none) (hss : ioC s = none) (hk : ioC k = none) : ∀ (ss : List (List D)) (seen : List (Int × Str)), seen.length + ss.length ≤ 1000 → (∀ k ∈ seen, PyData.strOk k.2 = true) → (∀ s ∈ ss, s.length ≤ 10 ∧ ∀ d ∈ s, LfB d = true) →
    (goS n seen (ss.map .tuple) = true → ∃ seen' : List (Int × Str), forL (gN 2) (m_law_due_6_b1 Fg Fs) (ss.map .tuple) [x0, some ⟨.list (seen.map kS), .ow⟩, none, some ⟨.int n, .sh⟩, b, e, s, none, k] = .nx [x0, some ⟨.list (seen'.map kS), .ow⟩, none, some ⟨.int n, .sh⟩, b, e, s, none, k]) ∧
    (goS n seen (ss.map .tuple) = false → forL (gN 2) (m_law_due_6_b1 Fg Fs) (ss.map .tuple) [x0, some ⟨.list (seen.map kS), .ow⟩, none, some ⟨.int n, .sh⟩, b, e, s, none, k] = .rt (.sh (.bool false)) [none, none, none, none, none, none, none, none, none])
  | [], seen, _, _, _ => ⟨fun _ => ⟨seen, rfl⟩, fun h => by cases h⟩
  | d :: r, seen, hl, hsn, hq => by
    obtain ⟨dl, dlf⟩ := hq d (by simp)
    rw [List.length_cons] at hl
    rw [List.map_cons]
    have bad : stepK n (.tuple d) = none → optR (gN 2 (.tuple d) [x0, some ⟨.list (seen.map kS), .ow⟩, none, some ⟨.int n, .sh⟩, b, e, s, none, k]) (m_law_due_6_b1 Fg Fs) = .rt (.sh (.bool false)) [none, none, none, none, none, none, none, none, none] := fun hn => by
      match d, dlf, hn with
      | [], _, _ => simp [m_law_due_6_b1, h0, hb, he, hss, hk]
      | [_], _, _ => simp [m_law_due_6_b1, h0, hb, he, hss, hk]
      | [_, _], _, _ => simp [m_law_due_6_b1, h0, hb, he, hss, hk]
      | _ :: _ :: _ :: _ :: r', _, _ =>
        have z : ¬ ((r'.length : Int) + 1 + 1 + 1 + 1 = 3) := by omega
        simp [m_law_due_6_b1, h0, hb, he, hss, hk, z]
      | [a, w, c], dlf, hn =>
        have e1 := hs n a
        have e2 := hg w fun v ev => by
          subst ev
          have := (lf_str (dlf (.str v) (by simp))).2
          omega
        have e3 := hs n c
        have i1 : L2.atI [a, w, c] 1 = some w := rfl
        have i2 : L2.atI [a, w, c] 2 = some c := rfl
        have es : (stB n a && (stB n c && sgB w)) = false := by
          cases a with
          | int i =>
            cases w with
            | str v =>
              unfold stepK at hn
              dsimp only at hn
              rw [stB_i]
              show (_ && (_ && signB v)) = false
              split at hn
              · cases hn
              · rename_i h
                rw [Bool.not_eq_true] at h
                rw [← h]
                cases decide (0 ≤ i) <;> cases decide (i < n) <;> cases signB v <;> cases stB n c <;> rfl
            | _ => simp [sgB]
          | _ => rfl
        generalize stB n a = q1 at e1 es
        generalize sgB w = q2 at e2 es
        generalize stB n c = q3 at e3 es
        cases q1 <;> cases q3 <;> cases q2 <;> first | (cases es; done) | simp [m_law_due_6_b1, h0, hb, he, hss, hk, e1, e2, e3, i1, i2]
    cases hk2 : stepK n (.tuple d) with
    | none =>
      have g : goS n seen (.tuple d :: r.map .tuple) = false := by rw [goS, hk2]
      rw [g]
      refine ⟨fun h => (by cases h), fun _ => ?_⟩
      rw [forL_cons2, bad hk2, turnR_rt]
    | some kk =>
      have g : goS n seen (.tuple d :: r.map .tuple) = (!decide (kk ∈ seen) && goS n (seen ++ [kk]) (r.map .tuple)) := by rw [goS, hk2]
      obtain ⟨c, rfl, hst, hc, hw⟩ : ∃ c, d = [.int kk.1, .str kk.2, c] ∧ stB n (.int kk.1) = true ∧ stB n c = true ∧ signB kk.2 = true := by
        unfold stepK at hk2
        split at hk2
        · rename_i a w c eq
          split at hk2
          · rename_i hh
            cases hk2
            injection eq with eq
            simp only [Bool.and_eq_true] at hh
            exact ⟨c, eq, by rw [stB_i, hh.1, hh.2.1]; rfl, hh.2.2.2, hh.2.2.1⟩
          · cases hk2
        · cases hk2
      have sok := (lf_str (dlf (.str kk.2) (by simp))).1
      have e1 := hs n (.int kk.1)
      have e2 := hg (.str kk.2) fun v ev => by
        cases ev
        have := (lf_str (dlf (.str kk.2) (by simp))).2
        omega
      have e3 := hs n c
      rw [hst] at e1
      rw [hc] at e3
      rw [show sgB (.str kk.2) = signB kk.2 from rfl, hw] at e2
      have i1 : L2.atI [PyData.int kk.1, .str kk.2, c] 1 = some (.str kk.2) := rfl
      have i2 : L2.atI [PyData.int kk.1, .str kk.2, c] 2 = some c := rfl
      have c2 : cutD [PyData.int kk.1, .str kk.2, c] none (some 2) = [.int kk.1, .str kk.2] := cutD_to _ 2
      have is : inB false (.tuple [.int kk.1, .str kk.2]) (.list (seen.map kS)) = some (.sh (.bool (decide (kk ∈ seen)))) := in_seen seen kk sok hsn
      rw [g]
      by_cases hm : kk ∈ seen
      · rw [decide_eq_true hm] at is ⊢
        refine ⟨fun h => (by cases h), fun _ => ?_⟩
        have st : optR (gN 2 (.tuple [.int kk.1, .str kk.2, c]) [x0, some ⟨.list (seen.map kS), .ow⟩, none, some ⟨.int n, .sh⟩, b, e, s, none, k]) (m_law_due_6_b1 Fg Fs) = .rt (.sh (.bool false)) [none, none, none, none, none, none, none, none, none] := by
          generalize seen.map kS = sn at is ⊢
          simp [m_law_due_6_b1, h0, hb, he, hss, hk, e1, e2, e3, i1, i2, c2, is, -inB_l]
        rw [forL_cons2, st, turnR_rt]
      · rw [decide_eq_false hm] at is ⊢
        have zs : (seen.map kS).length < sizeLine := fitsl (by rw [List.length_map]; omega)
        obtain ⟨r1, r2⟩ := due_loop hs hg n x0 b e s k h0 hb he hss hk r (seen ++ [kk]) (by rw [List.length_append, List.length_singleton]; omega) (fun k m => by
          rcases List.mem_append.mp m with m | m
          · exact hsn k m
          · rw [List.mem_singleton] at m; subst m; exact sok) fun s m => hq s (by simp [m])
        have st : optR (gN 2 (.tuple [.int kk.1, .str kk.2, c]) [x0, some ⟨.list (seen.map kS), .ow⟩, none, some ⟨.int n, .sh⟩, b, e, s, none, k]) (m_law_due_6_b1 Fg Fs) = .nx [x0, some ⟨.list ((seen ++ [kk]).map kS), .ow⟩, none, some ⟨.int n, .sh⟩, b, e, s, none, k] := by
          rw [List.map_append, show [kk].map kS = [.tuple [.int kk.1, .str kk.2]] from rfl]
          generalize seen.map kS = sn at is zs ⊢
          simp [m_law_due_6_b1, h0, hb, he, hss, hk, e1, e2, e3, i1, i2, c2, is, zs, -inB_l]
        rw [Bool.not_false, Bool.true_and]
        refine ⟨fun h => ?_, fun h => ?_⟩
        · obtain ⟨s', ea⟩ := r1 h
          exact ⟨s', by rw [forL_cons2, st, turnR_nx, ea]⟩
        · have ea := r2 h
          rw [forL_cons2, st, turnR_nx, ea]
def DueSp (F : FF) : Prop := ∀ (c b : D) (es : List D) (ss : List (List D)), ThOk c b es ss → F [some ⟨Th c b es ss, .sh⟩] = .ok (.sh (.bool (walkB (Th c b es ss)))) [none]
theorem law_due_6_ok (hs : StSp Fs) (hg : LSgSp Fg) : DueSp (fnF 9 1 (m_law_due_6 Fg Fs)) := fun c b es ss T => by
  rw [m_law_due_6_eq]
  have e1 := hs 6 c
  have el := T.el
  have sl := T.sl
  unfold Th
  cases c with
  | int n =>
    have e2 := hs n b
    by_cases h0 : 0 ≤ n
    · by_cases h6 : n < 6
      · have s6 : stB 6 (.int n) = true := by rw [stB_i, decide_eq_true h0, decide_eq_true h6]; rfl
        rw [s6] at e1
        by_cases hz : n = 0
        · subst hz
          generalize PyData.tuple es = te
          generalize PyData.tuple (ss.map PyData.tuple) = ts
          simp [m_law_due_6, e1, walkB]
        · have hp0 : 0 < n := by omega
          have wb : walkB (.tuple [.int n, b, .tuple es, .tuple (ss.map .tuple)]) = (stB n b && (goE n (-1) es && (decide (ss.length ≤ 40) && goS n [] (ss.map .tuple)))) := by
            unfold walkB endsB stepsB
            dsimp only
            rw [decide_eq_true hp0, decide_eq_true h6, Bool.true_and, Bool.true_and, List.length_map]
          rw [wb]
          have sm : ((ss.map PyData.tuple).length : Int) = (ss.length : Int) := by rw [List.length_map]
          cases hb : stB n b with
          | false =>
            rw [hb] at e2
            generalize PyData.tuple es = te
            generalize ss.map PyData.tuple = ts
            simp [m_law_due_6, e1, hz, e2]
          | true =>
            rw [hb] at e2
            by_cases hl : ss.length ≤ 40
            · have nl : ¬ (40 : Int) < (ss.length : Int) := by omega
              rw [decide_eq_true hl]
              -- the ends
              have lc := lcL_D2 (vs := [7]) (g := gN 7) (fe := eNox (m_law_due_6_ce3 Fg Fs)) [some ⟨.tuple [.int n, b, .tuple es, .tuple (ss.map .tuple)], .sh⟩, none, none, some ⟨.int n, .sh⟩, some ⟨b, .sh⟩, some ⟨.tuple es, .sh⟩, some ⟨.tuple (ss.map .tuple), .sh⟩, none, none]
                (fun d => [some ⟨.tuple [.int n, b, .tuple es, .tuple (ss.map .tuple)], .sh⟩, none, none, some ⟨.int n, .sh⟩, some ⟨b, .sh⟩, some ⟨.tuple es, .sh⟩, some ⟨.tuple (ss.map .tuple), .sh⟩, some ⟨d, .sh⟩, none]) (fun d => .bool (stB n d)) es [] (fits (by simp; omega)) (fun d md => by
                  have := hs n d
                  generalize PyData.tuple es = te
                  generalize PyData.tuple (ss.map PyData.tuple) = ts
                  exact ⟨by simp, by simp, by simp [m_law_due_6_ce3, this]⟩)
              rw [List.nil_append, show (es.map fun d => PyData.bool (stB n d)) = (es.map fun d => stB n d).map PyData.bool from by rw [List.map_map]; rfl] at lc
              have ab : (es.map fun d => stB n d).all id = es.all fun d => stB n d := by rw [List.all_map]; rfl
              cases ha : es.all fun d => stB n d with
              | false =>
                rw [not_goE ha]
                rw [ha] at ab
                generalize (es.map fun d => stB n d) = bs at lc ab
                generalize ss.map PyData.tuple = ts at lc sm ⊢
                simp [m_law_due_6, e1, hz, e2, sm, nl, lc, ab]
              | true =>
                rw [ha] at ab
                obtain ⟨is, rfl⟩ := all_int ha
                have ga : goE n (-1) (is.map .int) = adj is := by
                  rw [goE_adj]
                  have h1 : (is.all fun i => stB n (.int i)) = true := by rw [List.all_map] at ha; exact ha
                  rw [h1, Bool.true_and]
                  cases is with
                  | nil => rfl
                  | cons i r =>
                    rw [List.all_cons, stB_i, Bool.and_eq_true, Bool.and_eq_true, decide_eq_true_eq] at h1
                    rw [adj, decide_eq_true (show (-1 : Int) < i by omega), Bool.true_and]
                rw [ga]
                have isl : (is.map PyData.int).length = is.length := by rw [List.length_map]
                have lc2 := lcL_all (vs := [8]) (g := gN 8) (fe := eNox (m_law_due_6_ce2 Fg Fs)) [some ⟨.tuple [.int n, b, .tuple (is.map .int), .tuple (ss.map .tuple)], .sh⟩, none, none, some ⟨.int n, .sh⟩, some ⟨b, .sh⟩, some ⟨.tuple (is.map .int), .sh⟩, some ⟨.tuple (ss.map .tuple), .sh⟩, none, none] (fun k : Nat => PyData.int (0 + (k : Int)))
                  (fun k => [some ⟨.tuple [.int n, b, .tuple (is.map .int), .tuple (ss.map .tuple)], .sh⟩, none, none, some ⟨.int n, .sh⟩, some ⟨b, .sh⟩, some ⟨.tuple (is.map .int), .sh⟩, some ⟨.tuple (ss.map .tuple), .sh⟩, none, some ⟨.int (0 + (k : Int)), .sh⟩]) (fun k => .bool (decide (is.getD k 0 < is.getD (k + 1) 0))) (List.range (is.length - 1)) [] (fits (by rw [List.length_range]; simp; omega)) (fun k mk => by
                    rw [List.mem_range] at mk
                    have a1 : L2.atI (is.map PyData.int) (k : Int) = some (.int (is.getD k 0)) := atI_nat (by rw [List.getElem?_map, List.getElem?_eq_getElem (by omega)]; simp [List.getD, List.getElem?_eq_getElem (show k < is.length by omega)])
                    have a2 : L2.atI (is.map PyData.int) ((k : Int) + 1) = some (.int (is.getD (k + 1) 0)) := by
                      rw [show (k : Int) + 1 = ((k + 1 : Nat) : Int) by omega]
                      exact atI_nat (by rw [List.getElem?_map, List.getElem?_eq_getElem (by omega)]; simp [List.getD, List.getElem?_eq_getElem (show k + 1 < is.length by omega)])
                    rw [Int.zero_add]
                    generalize is.map PyData.int = te at a1 a2
                    generalize PyData.tuple (ss.map PyData.tuple) = ts
                    exact ⟨by simp, by simp, by simp [m_law_due_6_ce2, a1, a2]⟩)
                have rg : (List.range (is.length - 1)).map (fun k : Nat => PyData.int (0 + (k : Int))) = rgD 0 (is.length - 1) := rfl
                rw [List.nil_append, rg, show ((List.range (is.length - 1)).map fun k => PyData.bool (decide (is.getD k 0 < is.getD (k + 1) 0))) = ((List.range (is.length - 1)).map fun k => decide (is.getD k 0 < is.getD (k + 1) 0)).map PyData.bool from by rw [List.map_map]; rfl] at lc2
                have ar := adj_range is
                have okr : okR ((is.length : Int) - 1) = true := by
                  unfold okR
                  exact Nat.ble_eq_true_of_le (by omega)
                have tn : ((is.length : Int) - 1).toNat = is.length - 1 := by omega
                generalize ((List.range (is.length - 1)).map fun k => decide (is.getD k 0 < is.getD (k + 1) 0)) = bs2 at lc2 ar
                generalize ((is.map PyData.int).map fun d => stB n d) = bs at lc ab
                cases hadj : adj is with
                | false =>
                  rw [hadj] at ar
                  generalize is.map PyData.int = te at lc lc2 isl ⊢
                  generalize ss.map PyData.tuple = ts at lc lc2 sm ⊢
                  simp [m_law_due_6, e1, hz, e2, sm, nl, lc, ab, isl, okr, tn, lc2, ar]
                | true =>
                  rw [hadj] at ar
                  obtain ⟨r1, r2⟩ := due_loop hs hg n (some ⟨.tuple [.int n, b, .tuple (is.map .int), .tuple (ss.map .tuple)], .sh⟩) (some ⟨b, .sh⟩) (some ⟨.tuple (is.map .int), .sh⟩) (some ⟨.tuple (ss.map .tuple), .sh⟩) none rfl rfl rfl rfl rfl ss [] (by simp; omega) (by simp) T.s
                  rw [List.map_nil] at r1 r2
                  cases hg2 : goS n [] (ss.map .tuple) with
                  | true =>
                    obtain ⟨s', ea⟩ := r1 hg2
                    generalize is.map PyData.int = te at lc lc2 isl ea ⊢
                    generalize ss.map PyData.tuple = ts at lc lc2 sm ea ⊢
                    simp [m_law_due_6, e1, hz, e2, sm, nl, lc, ab, isl, okr, tn, lc2, ar, ea]
                  | false =>
                    have ea := r2 hg2
                    generalize is.map PyData.int = te at lc lc2 isl ea ⊢
                    generalize ss.map PyData.tuple = ts at lc lc2 sm ea ⊢
                    simp [m_law_due_6, e1, hz, e2, sm, nl, lc, ab, isl, okr, tn, lc2, ar, ea]
            · have nl : (40 : Int) < (ss.length : Int) := by omega
              rw [decide_eq_false hl, Bool.false_and, Bool.and_false, Bool.and_false]
              generalize PyData.tuple es = te
              generalize ss.map PyData.tuple = ts at sm ⊢
              simp [m_law_due_6, e1, hz, e2, sm, nl]
      · have s6 : stB 6 (.int n) = false := by rw [stB_i, decide_eq_false h6, Bool.and_false]
        rw [s6] at e1
        generalize PyData.tuple es = te
        generalize PyData.tuple (ss.map PyData.tuple) = ts
        simp [m_law_due_6, e1, walkB, h6]
    · have s6 : stB 6 (.int n) = false := by rw [stB_i, decide_eq_false h0, Bool.false_and]
      have hp0 : ¬ 0 < n := by omega
      rw [s6] at e1
      generalize PyData.tuple es = te
      generalize PyData.tuple (ss.map PyData.tuple) = ts
      simp [m_law_due_6, e1, walkB, hp0]
  | _ =>
    simp [stB] at e1
    generalize PyData.tuple es = te
    generalize PyData.tuple (ss.map PyData.tuple) = ts
    simp [m_law_due_6, e1, walkB]
end
end GX
namespace GX
open PySem L2 GS GM
def WordsSp3 (F : FF) : Prop := ∀ (b : D) (heads tail : Str) (n : Nat), Bx b → heads.length = 26 → tail.length = 1 → heads.cps.toList.Nodup → n ≤ 26 → ∃ (ws : List Str) (b' : D) (p : Nat), F [some ⟨b, .io⟩, some ⟨.str heads, .sh⟩, some ⟨.str tail, .sh⟩, some ⟨.int n, .sh⟩] = .ok (.fr (.list (ws.map .str))) [some ⟨b', .io⟩, none, none, none] ∧ Bx b' ∧ ws.length = n ∧ (∀ w ∈ ws, WordOk heads tail w) ∧ (ws.map fun w => w.cps.toList[p]?).Nodup ∧ ∀ w ∈ ws, p < w.length
theorem turn_nd : ∀ turn, turn < 26 → ((List.range 26).map fun k => (turn + k * 5) % 26).Nodup := by decide +kernel
theorem nd_turn (hs : List Nat) (hl : (26 : Int) = hs.length) (nd : hs.Nodup) (turn : Nat) (ht : turn < 26) (n : Nat) (hn : n ≤ 26) : ((List.range n).map fun k : Nat => some (pick hs (((turn : Int) + (k : Int) * 5) % 26))).Nodup := by
  have h1 : ((List.range n).map fun k : Nat => some (pick hs (((turn : Int) + (k : Int) * 5) % 26))) = ((List.range n).map fun k => (turn + k * 5) % 26).map fun j => some (hs.getD j default) := by
    rw [List.map_map]
    refine List.map_congr_left fun k _ => ?_
    have : ((turn : Int) + (k : Int) * 5) % 26 = (((turn + k * 5) % 26 : Nat) : Int) := by omega
    rw [this]
    show some (pick hs _) = some (hs.getD _ _)
    have lt : (turn + k * 5) % 26 < hs.length := by omega
    unfold pick
    rw [atI_nat (List.getElem?_eq_getElem lt)]
    simp [List.getD, List.getElem?_eq_getElem lt]
  rw [h1]
  have h2 : ((List.range n).map fun k => (turn + k * 5) % 26).Nodup := by
    have s : (List.range n).Sublist (List.range 26) := List.range_sublist.mpr hn
    exact (s.map _).nodup (turn_nd turn ht)
  have h3 : ∀ j ∈ (List.range n).map fun k => (turn + k * 5) % 26, j < 26 := fun j m => by
    obtain ⟨k, _, rfl⟩ := List.mem_map.mp m
    omega
  generalize ((List.range n).map fun k => (turn + k * 5) % 26) = js at h2 h3
  unfold List.Nodup at h2 ⊢
  rw [List.pairwise_map]
  refine h2.imp_of_mem fun {a b} ma mb hab e => hab ?_
  have la := h3 a ma
  have lb := h3 b mb
  have e := Option.some.inj e
  rw [List.getD, List.getD, List.getElem?_eq_getElem (by omega), List.getElem?_eq_getElem (by omega)] at e
  exact (List.getElem_inj nd).mp e
theorem law_words_ok3 {F : FF} (hp : PickSp F) : WordsSp3 (fnF 10 4 (m_law_words F)) := fun b heads tail n hb hh ht hnd hn => by
  obtain ⟨r, b1, e1, hb1, hr⟩ := hp b 4 hb (by decide) (by decide)
  have hh' : (26 : Int) = heads.cps.toList.length := by rw [← len_eq, hh]; rfl
  have wh : heads.length ≤ sizeLine := by rw [hh]; decide
  obtain ⟨⟨stem, b2⟩, f1, g1, g2, g3⟩ := forL_by (S := Str × D) (g := gN 5) (b := m_law_words_b2 F) (fun p => [some ⟨p.2, .io⟩, some ⟨.str heads, .sh⟩, some ⟨.str tail, .sh⟩, some ⟨.int n, .sh⟩, some ⟨.str p.1, .sh⟩, none, none, none, none, none])
    (fun pre p => Bx p.2 ∧ p.1.length = pre.length ∧ ∀ c ∈ p.1.cps.toList, c ∈ heads.cps.toList) (rgD 0 r) (Str.ofString "", b1) ⟨hb1, by rw [ofS_len]; rfl, by rw [ofS_cps]; simp⟩ (fun pre d post ⟨st, b'⟩ hd ⟨q1, q2, q3⟩ => by
      obtain ⟨hk, rfl⟩ := rgD_mid hd
      obtain ⟨i, b3, e3, hb3, hi⟩ := hp b' 26 q1 (by decide) (by decide)
      dsimp only at q1 q2 q3 ⊢
      obtain ⟨h5, h6⟩ := atI_pick (xs := heads.cps.toList) (i := (i : Int)) (by omega) (by rw [← hh']; omega)
      generalize pick heads.cps.toList (i : Int) = c at h5 h6
      have hz : st.length + 1 ≤ sizeLine := fits (by omega)
      refine ⟨(st ++ ⟨#[c]⟩, b3), ?_, hb3, by rw [app_len, q2, one_len]; simp, fun c' m => ?_⟩
      · have e3' : F [some ⟨b', .io⟩, some ⟨.int 26, .sh⟩] = .ok (.sh (.int i)) [some ⟨b3, .io⟩, none] := e3
        simp [m_law_words_b2, e3', wh, h5, one_len, hz]
      · rw [app_cps] at m
        rcases List.mem_append.mp m with m | m
        · exact q3 c' m
        · simp at m; subst m; exact h6)
  rw [rgD_len] at g2
  dsimp only at f1 g1 g2 g3
  obtain ⟨at', b3, e3, hb3, h3⟩ := hp b2 (stem.length + 1) g1 (by omega) (by omega)
  obtain ⟨turn, b4, e4, hb4, h4⟩ := hp b3 26 hb3 (by decide) (by decide)
  obtain ⟨⟨ws, b5⟩, f2, k1, k2, k3⟩ := forL_by (S := List Str × D) (g := gN 5) (b := m_law_words_b1 F) (fun p => [some ⟨p.2, .io⟩, some ⟨.str heads, .sh⟩, some ⟨.str tail, .sh⟩, some ⟨.int n, .sh⟩, some ⟨.str stem, .sh⟩, none, some ⟨.int at', .sh⟩, some ⟨.int turn, .sh⟩, some ⟨.list (p.1.map .str), .ow⟩, none])
    (fun pre p => Bx p.2 ∧ p.1.length = pre.length ∧ (∀ w ∈ p.1, WordOk heads tail w) ∧ p.1.map (fun w => w.cps.toList[at']?) = (List.range pre.length).map fun k : Nat => some (pick heads.cps.toList (((turn : Int) + (k : Int) * 5) % 26))) (rgD 0 n) ([], b4) ⟨hb4, rfl, by simp, rfl⟩ (fun pre d post ⟨ws, b'⟩ hd ⟨q1, q2, q3, q4⟩ => by
      obtain ⟨hk, rfl⟩ := rgD_mid hd
      generalize hkk : pre.length = k at hk q2
      rw [show (0 : Int) + (k : Int) = k by omega]
      obtain ⟨i, b6, e6, hb6, hi⟩ := hp b' 2 q1 (by decide) (by decide)
      obtain ⟨u, eu, u1, u2⟩ := mul01 tail i hi ht
      dsimp only at q1 q2 q3 q4 ⊢
      have m1 : cMul (k : Int) 5 = true := cMul_r (by decide)
      have h5 := atI_mod (xs := heads.cps.toList) (c := (turn : Int) + (k : Int) * 5) (by decide) hh'
      have h6 := pick_mem (xs := heads.cps.toList) (c := (turn : Int) + (k : Int) * 5) (by decide) hh'
      obtain ⟨c, hcc⟩ : ∃ c, pick heads.cps.toList (((turn : Int) + (k : Int) * 5) % 26) = c := ⟨_, rfl⟩
      rw [hcc] at h5 h6
      have ws1 : stem.length ≤ sizeLine := fits (by omega)
      have c1 := cutS_to stem at'
      have c2 := cutS_from stem at'
      have l1 : (cutS stem none (some (at' : Int))).length ≤ 3 := by have := cut_len stem none (some (at' : Int)); omega
      have l2 : (cutS stem none (some (at' : Int))).length + (cutS stem (some (at' : Int)) none).length = stem.length := by
        rw [len_eq, len_eq, c1, c2, List.length_take, List.length_drop, ← len_eq]; omega
      generalize hx : cutS stem none (some (at' : Int)) = x at c1 l1 l2
      generalize hy : cutS stem (some (at' : Int)) none = y at c2 l2
      have z1 : x.length + 1 ≤ sizeLine := fits (by omega)
      have z2 : (x ++ ⟨#[c]⟩).length + y.length ≤ sizeLine := fits (by rw [app_len, one_len]; omega)
      have z3 : (x ++ ⟨#[c]⟩ ++ y).length + u.length ≤ sizeLine := fits (by rw [app_len, app_len, one_len]; omega)
      have z4 : ws.length < sizeLine := fitsl (by omega)
      have lx : x.cps.toList.length = at' := by rw [c1, List.length_take, ← len_eq]; omega
      refine ⟨(ws ++ [x ++ ⟨#[c]⟩ ++ y ++ u], b6), ?_, hb6, by simp [q2, hkk], fun w m => ?_, ?_⟩
      · have e6' : F [some ⟨b', .io⟩, some ⟨.int 2, .sh⟩] = .ok (.sh (.int i)) [some ⟨b6, .io⟩, none] := e6
        simp [m_law_words_b1, wh, ws1, m1, h5, one_len, hx, hy, z1, z2, z3, z4, e6', eu]
      · rcases List.mem_append.mp m with m | m
        · exact q3 w m
        · simp at m
          subst m
          refine ⟨by rw [app_len, app_len, app_len, one_len]; omega, ?_, fun c' m => ?_⟩
          · rw [app_cps, app_cps, app_cps]
            cases hxx : x.cps.toList with
            | nil => exact ⟨c, _, rfl, h6⟩
            | cons a as =>
              refine ⟨a, _, rfl, g3 a ?_⟩
              rw [c1] at hxx
              exact List.mem_of_mem_take (by rw [hxx]; simp)
          · rw [app_cps, app_cps, app_cps, c1, c2] at m
            simp only [List.mem_append] at m
            rcases m with ((m | m) | m) | m
            · exact .inl (g3 c' (List.mem_of_mem_take m))
            · simp at m; subst m; exact .inl h6
            · exact .inl (g3 c' (List.mem_of_mem_drop m))
            · exact .inr (u2 c' m)
      · have eat : (x ++ ⟨#[c]⟩ ++ y ++ u).cps.toList[at']? = some c := by
          rw [app_cps, app_cps, app_cps, List.append_assoc, List.append_assoc, List.getElem?_append_right (by omega), lx, Nat.sub_self]
          rfl
        rw [List.map_append, q4, hkk, List.length_append, List.length_singleton, hkk, List.range_succ, List.map_append, List.map_singleton, List.map_singleton, hcc, eat])
  rw [rgD_len] at k2
  dsimp only at f2 k1 k2 k3
  obtain ⟨k3, k4⟩ := k3
  rw [rgD_len] at k4
  refine ⟨ws, b5, at', ?_, k1, k2, k3, by rw [k4]; exact nd_turn heads.cps.toList hh' hnd turn h4 n hn, fun w m => ?_⟩
  rotate_left
  · have : w.cps.toList[at']? ∈ ws.map (fun w => w.cps.toList[at']?) := List.mem_map_of_mem m
    rw [k4] at this
    obtain ⟨k, _, e⟩ := List.mem_map.mp this
    rw [len_eq]
    exact (List.getElem?_eq_some_iff.mp e.symm).1
  rw [m_law_words_eq]
  have o1 : okR (r : Int) = true := okR_nat (by omega)
  have o2 : okR (n : Int) = true := okR_nat (by omega)
  have e1' : F [some ⟨b, .io⟩, some ⟨.int 4, .sh⟩] = .ok (.sh (.int r)) [some ⟨b1, .io⟩, none] := e1
  have e3' : F [some ⟨b2, .io⟩, some ⟨.int ((stem.length : Int) + 1), .sh⟩] = .ok (.sh (.int at')) [some ⟨b3, .io⟩, none] := by rw [← e3]; simp
  have e4' : F [some ⟨b3, .io⟩, some ⟨.int 26, .sh⟩] = .ok (.sh (.int turn)) [some ⟨b4, .io⟩, none] := e4
  have ws1 : stem.length ≤ sizeLine := fits (by omega)
  rw [List.map_nil] at f2
  simp [m_law_words, e1', o1, o2, f1, ws1, e3', e4', f2]
end GX
namespace GX
open PySem L2 GS GM
theorem lcL_sub {S : Type} {vs : List Nat} {g : D → Rho → Option Rho} {ft fe : EF} (emb : S → Rho) (P : S → Prop) : ∀ (ds acc : List D) (s : S), P s → acc.length + ds.length ≤ sizeLine →
    (∀ d s, d ∈ ds → P s → ∃ s' ρ1 ρ2 c, g d (emb s) = some ρ1 ∧ ft ρ1 = .ok (.sh (.bool c)) ρ2 ∧ P s' ∧ (c = false → wipeR ρ2 vs = emb s') ∧ (c = true → ∃ ρ3, eCap fe ρ2 = .ok (.sh d) ρ3 ∧ wipeR ρ3 vs = emb s')) →
    ∃ ys s', lcL vs g ft fe ds acc (emb s) = .ok (.fr (.list (acc ++ ys))) (emb s') ∧ P s' ∧ ys.Sublist ds
  | [], acc, s, h, _, _ => ⟨[], s, by simp [lcL_nil], h, .slnil⟩
  | d :: ds, acc, s, h, hl, k => by
    rw [List.length_cons] at hl
    obtain ⟨s1, ρ1, ρ2, c, h1, h2, h3, h4, h5⟩ := k d s (List.mem_cons_self ..) h
    rw [lcL_cons, h1, optE_s, h2, bindB_ok]
    cases c with
    | true =>
      obtain ⟨ρ3, e1, e2⟩ := h5 rfl
      obtain ⟨ys, s', q1, q2, q3⟩ := lcL_sub (ft := ft) (fe := fe) emb P ds (acc ++ [d]) s1 h3 (by rw [List.length_append, List.length_singleton]; omega) fun d s m hp => k d s (List.mem_cons_of_mem _ m) hp
      refine ⟨d :: ys, s', ?_, q2, q3.cons₂ d⟩
      rw [if_pos rfl, e1, bindE_ok, lcR_s, if_pos (by omega), e2, q1]
      simp
    | false =>
      obtain ⟨ys, s', q1, q2, q3⟩ := lcL_sub (ft := ft) (fe := fe) emb P ds acc s1 h3 (by omega) fun d s m hp => k d s (List.mem_cons_of_mem _ m) hp
      refine ⟨ys, s', ?_, q2, q3.cons d⟩
      rw [if_neg Bool.false_ne_true, h4 rfl, q1]
def rgI (n : Nat) : List Int := (List.range n).map fun i : Nat => (i : Int)
theorem sub_rg {n : Nat} {es : List D} (h : es.Sublist (rgD 0 n)) : ∃ is : List Int, es = is.map .int ∧ is.Sublist (rgI n) := by
  have e : rgD 0 n = (rgI n).map .int := by
    unfold rgD rgI
    rw [List.map_map]
    refine List.map_congr_left fun i _ => ?_
    show PyData.int (0 + _) = .int _
    rw [Int.zero_add]
  rw [e] at h
  obtain ⟨is, h1, h2⟩ := List.sublist_map_iff.mp h
  exact ⟨is, h2, h1⟩
theorem adj_of : ∀ is : List Int, is.Pairwise (· < ·) → adj is = true
  | [], _ => rfl
  | [_], _ => rfl
  | i :: j :: r, h => by
    cases h with
    | cons h1 h2 => rw [adj, decide_eq_true (h1 j (by simp)), Bool.true_and, adj_of (j :: r) h2]
theorem ends_rise {n : Nat} {is : List Int} (h : is.Sublist (rgI n)) : goE n (-1) (is.map .int) = true := by
  rw [goE_adj, Bool.and_eq_true]
  have mem : ∀ i ∈ is, 0 ≤ i ∧ i < n := fun i m => by
    have := h.subset m
    unfold rgI at this
    obtain ⟨k, mk, rfl⟩ := List.mem_map.mp this
    rw [List.mem_range] at mk
    omega
  have pw : is.Pairwise (· < ·) := by
    have : (rgI n).Pairwise (· < ·) := by
      unfold rgI
      rw [List.pairwise_map]
      exact List.pairwise_lt_range.imp fun h => by omega
    exact this.sublist h
  refine ⟨List.all_eq_true.mpr fun i m => ?_, adj_of _ (List.pairwise_cons.mpr ⟨fun i m => ?_, pw⟩)⟩
  · rw [stB_i, decide_eq_true (mem i m).1, decide_eq_true (mem i m).2]; rfl
  · have := (mem i m).1; omega
/-- steps drawn so far: of all states below st, and of st by the first k signs -/
def allK (ws : List Str) (st k : Nat) : List (Int × Str) := ((List.range st).flatMap fun j : Nat => ws.map fun w => ((j : Int), w)) ++ (ws.take k).map fun w => ((st : Int), w)
structure StepsIn (n : Nat) (ws : List Str) (st k : Nat) (ss : List GM.Step) : Prop where
  sub : (ss.map fun s => (s.1, s.2.1)).Sublist (allK ws st k)
  to : ∀ s ∈ ss, 0 ≤ s.2.2 ∧ s.2.2 < n
theorem allK_len (ws : List Str) (st k : Nat) : (allK ws st k).length ≤ ws.length * st + ws.length := by
  unfold allK
  rw [List.length_append, List.length_map, List.length_take, List.length_flatMap]
  have : ((List.range st).map fun j : Nat => (ws.map fun w => ((j : Int), w)).length).sum = ws.length * st := by
    induction st with
    | zero => rfl
    | succ n ih => rw [List.range_succ, List.map_append, List.sum_append, ih, List.map_singleton, List.sum_singleton, List.length_map, Nat.mul_succ]
  rw [this]
  omega
theorem StepsIn.nil {n : Nat} {ws : List Str} : StepsIn n ws 0 0 [] := ⟨List.nil_sublist _, fun _ m => by cases m⟩
theorem StepsIn.len {n : Nat} {ws : List Str} {st k : Nat} {ss : List GM.Step} (h : StepsIn n ws st k ss) (hs : st < n) (hw : ws.length ≤ 100) : ss.length ≤ n * 100 := by
  have h1 := h.sub.length_le
  have h2 := allK_len ws st k
  rw [List.length_map] at h1
  have h3 : ws.length * st + ws.length = ws.length * (st + 1) := rfl
  have h4 := Nat.mul_le_mul hw (show st + 1 ≤ n by omega)
  rw [Nat.mul_comm n 100]
  omega
theorem allK_0 (ws : List Str) (st : Nat) : allK ws (st + 1) 0 = allK ws st ws.length := by
  unfold allK
  rw [List.take_length, List.take_zero, List.map_nil, List.append_nil, List.range_succ, List.flatMap_append, List.flatMap_singleton]
theorem StepsIn.len0 {n : Nat} {ws : List Str} {ss : List GM.Step} (h : StepsIn n ws n 0 ss) (hw : ws.length ≤ 100) : ss.length ≤ n * 100 := by
  have h1 := h.sub.length_le
  rw [List.length_map] at h1
  unfold allK at h1
  rw [List.take_zero, List.map_nil, List.append_nil, List.length_flatMap] at h1
  have : ∀ st : Nat, ((List.range st).map fun j : Nat => (ws.map fun w => ((j : Int), w)).length).sum = ws.length * st := fun st => by
    induction st with
    | zero => rfl
    | succ n ih => rw [List.range_succ, List.map_append, List.sum_append, ih, List.map_singleton, List.sum_singleton, List.length_map, Nat.mul_succ]
  rw [this] at h1
  have h4 := Nat.mul_le_mul hw (Nat.le_refl n)
  rw [Nat.mul_comm n 100]
  omega
theorem take_snoc {ws : List Str} {k : Nat} {sg : Str} (h : ws[k]? = some sg) : ws.take (k + 1) = ws.take k ++ [sg] := by
  rw [List.take_succ, h]; rfl
theorem allK_succ {ws : List Str} {st k : Nat} {sg : Str} (h : ws[k]? = some sg) : allK ws st (k + 1) = allK ws st k ++ [((st : Int), sg)] := by
  unfold allK
  rw [take_snoc h, List.map_append, List.append_assoc]; rfl
theorem StepsIn.skip {n : Nat} {ws : List Str} {st k : Nat} {ss : List GM.Step} {sg : Str} (h : StepsIn n ws st k ss) (hs : ws[k]? = some sg) : StepsIn n ws st (k + 1) ss := ⟨by
  rw [allK_succ hs]
  exact h.sub.trans (List.sublist_append_left _ _), h.to⟩
theorem StepsIn.add {n : Nat} {ws : List Str} {st k : Nat} {ss : List GM.Step} {sg : Str} {r : Nat} (h : StepsIn n ws st k ss) (hs : ws[k]? = some sg) (hr : r < n) : StepsIn n ws st (k + 1) (ss ++ [((st : Int), sg, (r : Int))]) := ⟨by
  rw [allK_succ hs, List.map_append]
  exact h.sub.append (List.Sublist.refl _), fun s m => by
  rcases List.mem_append.mp m with m | m
  · exact h.to s m
  · rw [List.mem_singleton] at m; subst m; dsimp only; omega⟩
theorem StepsIn.next {n : Nat} {ws : List Str} {st : Nat} {ss : List GM.Step} (h : StepsIn n ws st ws.length ss) : StepsIn n ws (st + 1) 0 ss := ⟨by rw [allK_0]; exact h.sub, h.to⟩
/-- good steps -/
structure StepsOk (n : Nat) (ws : List Str) (ss : List GM.Step) : Prop where
  nd : (ss.map fun s => (s.1, s.2.1)).Nodup
  fr : ∀ s ∈ ss, 0 ≤ s.1 ∧ s.1 < n ∧ s.2.1 ∈ ws
  to : ∀ s ∈ ss, 0 ≤ s.2.2 ∧ s.2.2 < n
  len : ss.length ≤ ws.length * n
structure StepsPm (n : Nat) (ws : List Str) (ss : List GM.Step) : Prop where
  sub : ∃ ts : List GM.Step, ss.Perm ts ∧ StepsIn n ws n 0 ts
theorem StepsIn.perm {n : Nat} {ws : List Str} {ss ts : List GM.Step} (h : StepsIn n ws n 0 ts) (p : ss.Perm ts) : StepsPm n ws ss := ⟨ts, p, h⟩
theorem allK_nd {ws : List Str} (hn : ws.Nodup) : ∀ n : Nat, (allK ws n 0).Nodup
  | 0 => by simp [allK]
  | n + 1 => by
    rw [allK_0]
    unfold allK
    rw [List.take_length, List.nodup_append]
    refine ⟨?_, ?_, ?_⟩
    · have := allK_nd hn n
      unfold allK at this
      rwa [List.take_zero, List.map_nil, List.append_nil] at this
    · unfold List.Nodup at hn ⊢
      rw [List.pairwise_map]
      exact hn.imp fun h e => h (Prod.mk.inj e).2
    · rintro x hx y hy rfl
      rw [List.mem_flatMap] at hx
      obtain ⟨j, mj, hx⟩ := hx
      obtain ⟨w, _, rfl⟩ := List.mem_map.mp hx
      obtain ⟨v, _, e⟩ := List.mem_map.mp hy
      rw [List.mem_range] at mj
      have := (Prod.mk.inj e).1
      omega
theorem StepsPm.good {n : Nat} {ws : List Str} {ss : List GM.Step} (h : StepsPm n ws ss) (hn : ws.Nodup) : StepsOk n ws ss := by
  obtain ⟨ts, p, S⟩ := h.sub
  refine ⟨(p.map _).nodup_iff.mpr (S.sub.nodup (allK_nd hn n)), fun s m => ?_, fun s m => S.to s (p.mem_iff.mp m), ?_⟩
  · have m' := S.sub.subset (List.mem_map_of_mem (p.mem_iff.mp m))
    unfold allK at m'
    rw [List.take_zero, List.map_nil, List.append_nil, List.mem_flatMap] at m'
    obtain ⟨j, mj, m'⟩ := m'
    obtain ⟨w, mw, e⟩ := List.mem_map.mp m'
    rw [List.mem_range] at mj
    obtain ⟨e1, e2⟩ := Prod.mk.inj e
    exact ⟨by omega, by omega, e2 ▸ mw⟩
  · rw [p.length_eq]
    have h1 := S.sub.length_le
    rw [List.length_map] at h1
    unfold allK at h1
    rw [List.take_zero, List.map_nil, List.append_nil, List.length_flatMap] at h1
    have : ∀ st : Nat, ((List.range st).map fun j : Nat => (ws.map fun w => ((j : Int), w)).length).sum = ws.length * st := fun st => by
      induction st with
      | zero => rfl
      | succ n ih => rw [List.range_succ, List.map_append, List.sum_append, ih, List.map_singleton, List.sum_singleton, List.length_map, Nat.mul_succ]
    rw [this] at h1
    exact h1
def WalkerSp3 (F : FF) : Prop := ∀ (b : D) (n : Nat) (ws : List Str), Bx b → 0 < n → n ≤ 100 → ws.length ≤ 100 → ws.Nodup → ∃ (w : Wk) (b' : D), F [some ⟨b, .io⟩, some ⟨.int n, .sh⟩, some ⟨.list (ws.map .str), .sh⟩] = .ok (.sh w.enc) [some ⟨b', .io⟩, none, none] ∧ Bx b' ∧ w.many = n ∧ 0 ≤ w.begin' ∧ w.begin' < n ∧ goE n (-1) (w.ends.map .int) = true ∧ StepsOk n ws w.steps
theorem law_walker_ok3 {F : FF} (hp : PickSp F) : WalkerSp3 (fnF 9 3 (m_law_walker F)) := fun b n ws hb n0 n1 hw hnd => by
  obtain ⟨r0, b0, e0, hb0, hr0⟩ := hp b 4 hb (by decide) (by decide)
  have e0' : F [some ⟨b, .io⟩, some ⟨.int 4, .sh⟩] = .ok (.sh (.int r0)) [some ⟨b0, .io⟩, none] := e0
  obtain ⟨full, hfull⟩ : ∃ full : Bool, full = decide (r0 = 0) := ⟨_, rfl⟩
  -- one state
  have inner : ∀ (st : Nat) (ss : List GM.Step) (b1 : D), Bx b1 → StepsIn n ws st 0 ss → st < n → ∃ (ss' : List GM.Step) (b2 : D), forL (gN 8) (m_law_walker_b3 F) (ws.map .str) [some ⟨b1, .io⟩, some ⟨.int n, .sh⟩, some ⟨.list (ws.map .str), .sh⟩, some ⟨.bool full, .sh⟩, some ⟨.list (ss.map encSt), .ow⟩, some ⟨.int st, .sh⟩, none, none, none]
      = .nx [some ⟨b2, .io⟩, some ⟨.int n, .sh⟩, some ⟨.list (ws.map .str), .sh⟩, some ⟨.bool full, .sh⟩, some ⟨.list (ss'.map encSt), .ow⟩, some ⟨.int st, .sh⟩, none, none, none] ∧ Bx b2 ∧ StepsIn n ws (st + 1) 0 ss' := fun st ss b1 hb1 hss hst => by
    obtain ⟨⟨ss', b2⟩, f1, g1, g2⟩ := forL_by (S := List GM.Step × D) (g := gN 8) (b := m_law_walker_b3 F) (fun p => [some ⟨p.2, .io⟩, some ⟨.int n, .sh⟩, some ⟨.list (ws.map .str), .sh⟩, some ⟨.bool full, .sh⟩, some ⟨.list (p.1.map encSt), .ow⟩, some ⟨.int st, .sh⟩, none, none, none])
      (fun pre p => Bx p.2 ∧ StepsIn n ws st pre.length p.1) (ws.map .str) (ss, b1) ⟨hb1, hss⟩ (fun pre d post ⟨ss, b1⟩ hd ⟨q1, q2⟩ => by
        have hlen : pre.length < ws.length := by
          have := congrArg List.length hd
          simp at this
          omega
        obtain ⟨sg, hsg, rfl⟩ : ∃ c, ws[pre.length]? = some c ∧ PyData.str c = d := by
          have h2 : (ws.map PyData.str)[pre.length]? = some d := by rw [hd, List.getElem?_append_right (Nat.le_refl _), Nat.sub_self]; rfl
          rw [List.getElem?_map] at h2
          obtain ⟨c, h3, h4⟩ := Option.map_eq_some_iff.mp h2
          exact ⟨c, h3, h4⟩
        dsimp only at q1 q2 ⊢
        obtain ⟨r1, b2, e1, hb2, hr1⟩ := hp b1 7 q1 (by decide) (by decide)
        have e1' : F [some ⟨b1, .io⟩, some ⟨.int 7, .sh⟩] = .ok (.sh (.int r1)) [some ⟨b2, .io⟩, none] := e1
        obtain ⟨r2, b3, e2, hb3, hr2⟩ := hp b2 n hb2 n0 (by omega)
        obtain ⟨r3, b4, e3, hb4, hr3⟩ := hp b1 n q1 n0 (by omega)
        have z : ss.length < sizeLine := fitsl (by have := q2.len hst hw; have := Nat.mul_le_mul n1 (Nat.le_refl 100); omega)
        cases full with
        | true =>
          refine ⟨(ss ++ [((st : Int), sg, (r3 : Int))], b4), ?_, hb4, by rw [List.length_append, List.length_singleton]; exact q2.add hsg hr3⟩
          simp [m_law_walker_b3, e3, z, encSt]
        | false =>
          by_cases q : 0 < r1
          · refine ⟨(ss ++ [((st : Int), sg, (r2 : Int))], b3), ?_, hb3, by rw [List.length_append, List.length_singleton]; exact q2.add hsg hr2⟩
            simp [m_law_walker_b3, e1', q, e2, z, encSt]
          · refine ⟨(ss, b2), ?_, hb2, by rw [List.length_append, List.length_singleton]; exact q2.skip hsg⟩
            simp [m_law_walker_b3, e1', q])
    refine ⟨ss', b2, f1, g1, ?_⟩
    rw [List.length_map] at g2
    exact g2.next
  obtain ⟨⟨ss, b1⟩, f1, g1, g2⟩ := forL_by (S := List GM.Step × D) (g := gN 5) (b := m_law_walker_b4 F) (fun p => [some ⟨p.2, .io⟩, some ⟨.int n, .sh⟩, some ⟨.list (ws.map .str), .sh⟩, some ⟨.bool full, .sh⟩, some ⟨.list (p.1.map encSt), .ow⟩, none, none, none, none])
    (fun pre p => Bx p.2 ∧ StepsIn n ws pre.length 0 p.1) (rgD 0 n) ([], b0) ⟨hb0, StepsIn.nil⟩ (fun pre d post ⟨ss, b1⟩ hd ⟨q1, q2⟩ => by
      obtain ⟨hk, rfl⟩ := rgD_mid hd
      generalize hkk : pre.length = k at hk q2
      rw [show (0 : Int) + (k : Int) = k by omega]
      dsimp only at q1 q2 ⊢
      obtain ⟨ss', b2, h1, h2, h3⟩ := inner k ss b1 q1 q2 hk
      refine ⟨(ss', b2), ?_, h2, by rw [List.length_append, List.length_singleton, hkk]; exact h3⟩
      simp [m_law_walker_b4, h1])
  rw [rgD_len] at g2
  dsimp only at f1 g1 g2
  rw [List.map_nil] at f1
  have ssl : ss.length ≤ 10000 := by have := g2.len0 hw; have := Nat.mul_le_mul n1 (Nat.le_refl 100); omega
  obtain ⟨at', b2, e2, hb2, h2⟩ := hp b1 (ss.length + 1) g1 (by omega) (by omega)
  have e2' : F [some ⟨b1, .io⟩, some ⟨.int ((ss.length : Int) + 1), .sh⟩] = .ok (.sh (.int at')) [some ⟨b2, .io⟩, none] := by rw [← e2]; simp
  obtain ⟨r3, b3, e3, hb3, h3⟩ := hp b2 2 hb2 (by decide) (by decide)
  have e3' : F [some ⟨b2, .io⟩, some ⟨.int 2, .sh⟩] = .ok (.sh (.int r3)) [some ⟨b3, .io⟩, none] := e3
  have l1 := cutD_len (ss.map encSt) (some (at' : Int)) none
  have l2 := cutD_len (ss.map encSt) none (some (at' : Int))
  rw [List.length_map] at l1 l2
  have cf := cutD_from (ss.map encSt) at'
  have ct := cutD_to (ss.map encSt) at'
  have hss2 : cutD (ss.map encSt) (some (at' : Int)) none ++ cutD (ss.map encSt) none (some (at' : Int)) = (ss.drop at' ++ ss.take at').map encSt := by rw [cf, ct, List.map_append, List.map_drop, List.map_take]
  have pm2 : (ss.drop at' ++ ss.take at').Perm ss := List.perm_append_comm.trans (List.Perm.of_eq (List.take_append_drop at' ss))
  clear cf ct
  generalize ss.drop at' ++ ss.take at' = ss2 at hss2 pm2
  have ls2 : ss2.length ≤ 2 * ss.length := by have := pm2.length_eq; omega
  have z1 : (cutD (ss.map encSt) (some (at' : Int)) none).length + (cutD (ss.map encSt) none (some (at' : Int))).length ≤ sizeLine := fits (by omega)
  obtain ⟨ss3, hss3, pm3⟩ : ∃ ss3 : List GM.Step, (if r3 = 1 then (ss2.map encSt).reverse else ss2.map encSt) = ss3.map encSt ∧ ss3.Perm ss2 := by
    by_cases q : r3 = 1
    · exact ⟨ss2.reverse, by rw [if_pos q]; simp, List.reverse_perm ss2⟩
    · exact ⟨ss2, by rw [if_neg q], .refl _⟩
  obtain ⟨es, b4, f4, hb4, h4⟩ := lcL_sub (S := D) (vs := [5]) (g := gN 5) (ft := eNox (m_law_walker_ct1 F)) (fe := eNox (m_law_walker_ce2 F)) (fun b => [some ⟨b, .io⟩, some ⟨.int n, .sh⟩, some ⟨.list (ws.map .str), .sh⟩, some ⟨.bool full, .sh⟩, some ⟨.list (ss3.map encSt), .ow⟩, none, some ⟨.int at', .sh⟩, none, none])
    Bx (rgD 0 n) [] b3 hb3 (fits (by rw [rgD_len]; simp; omega)) (fun d b hd hb => by
      obtain ⟨i, rfl⟩ : ∃ i : Int, d = .int i := by
        unfold rgD at hd
        obtain ⟨i, _, rfl⟩ := List.mem_map.mp hd
        exact ⟨_, rfl⟩
      obtain ⟨r, b', e, hb', hr⟩ := hp b 3 hb (by decide) (by decide)
      have e' : F [some ⟨b, .io⟩, some ⟨.int 3, .sh⟩] = .ok (.sh (.int r)) [some ⟨b', .io⟩, none] := e
      refine ⟨b', [some ⟨b, .io⟩, some ⟨.int n, .sh⟩, some ⟨.list (ws.map .str), .sh⟩, some ⟨.bool full, .sh⟩, some ⟨.list (ss3.map encSt), .ow⟩, some ⟨.int i, .sh⟩, some ⟨.int at', .sh⟩, none, none], [some ⟨b', .io⟩, some ⟨.int n, .sh⟩, some ⟨.list (ws.map .str), .sh⟩, some ⟨.bool full, .sh⟩, some ⟨.list (ss3.map encSt), .ow⟩, some ⟨.int i, .sh⟩, some ⟨.int at', .sh⟩, none, none], decide (0 < r), ?_, ?_, hb', ?_, ?_⟩
      · simp
      · simp [m_law_walker_ct1, e']
      · intro _; simp
      · intro _
        exact ⟨[some ⟨b', .io⟩, some ⟨.int n, .sh⟩, some ⟨.list (ws.map .str), .sh⟩, some ⟨.bool full, .sh⟩, some ⟨.list (ss3.map encSt), .ow⟩, some ⟨.int i, .sh⟩, some ⟨.int at', .sh⟩, none, none], by simp [m_law_walker_ce2], by simp⟩)
  obtain ⟨es', rfl, sub⟩ := sub_rg h4
  obtain ⟨r5, b5, e5, hb5, h5⟩ := hp b4 n hb4 n0 (by omega)
  refine ⟨⟨n, r5, es', ss3⟩, b5, ?_, hb5, rfl, by dsimp only; omega, by dsimp only; omega, ends_rise sub, ?_⟩
  · rw [m_law_walker_eq]
    have o1 : okR (n : Int) = true := okR_nat (by omega)
    rw [List.nil_append] at f4
    by_cases q : r3 = 1
    · rw [if_pos q] at hss3
      simp [m_law_walker, e0', ← hfull, f1, o1, e2', z1, hss2, e3', q, hss3, -List.map_reverse, f4, e5, Wk.enc]
    · rw [if_neg q] at hss3
      have qi : ¬ (r3 : Int) = 1 := by omega
      simp [m_law_walker, e0', ← hfull, f1, o1, e2', z1, hss2, e3', qi, q, hss3, f4, e5, Wk.enc]
  · exact (g2.perm (pm3.trans pm2)).good hnd
end GX
namespace GM
open PySem L2 GS
/-- _law_wide(box, size); slots 0:box 1:size 2:steps 3:sign 4:state -/
def m_law_wide_3_b1 (F__law_pick F__law_words : FF) : SF := (sKill [4] (sApp 2 (eTup (aCons (eMv 4) (aCons (eMv 3) (aCons (eCall 2 (some 0) F__law_pick (aCons (eVb 0) (aCons (eC (.int 5)) aNil))) aNil))))))
def m_law_wide_3_b2 (F__law_pick F__law_words : FF) : SF := (sKill [3, 4] (sFor (iR1 (eC (.int 5))) (gN 4) (m_law_wide_3_b1 F__law_pick F__law_words)))
def m_law_wide_3 (F__law_pick F__law_words : FF) : SF := (sSeq (sSet 2 (eLst aNil)) (sSeq (sFor (iSq (eCall 4 (some 0) F__law_words (aCons (eVb 0) (aCons (eC (.str (Str.ofString "abcdefghijklmnopqrstuvwxyz"))) (aCons (eC (.str (Str.ofString "x"))) (aCons (eC (.int 9)) aNil)))))) (gN 3) (m_law_wide_3_b2 F__law_pick F__law_words)) (sEnd (sRet (eTup (aCons (eC (.int 5)) (aCons (eCall 2 (some 0) F__law_pick (aCons (eVb 0) (aCons (eC (.int 5)) aNil))) (aCons (eTup aNil) (aCons (eCB (un1 tupleD) (aCons (eSl (eVb 2) none (some (eVb 1))) aNil)) aNil)))))))))
theorem m_law_wide_3_eq (F__law_pick F__law_words : FF) (ρ : Rho) : fnF 5 2 (m_law_wide_3 F__law_pick F__law_words) ρ = finR 2 (m_law_wide_3 F__law_pick F__law_words (ρ ++ [none, none, none])) := fnF_eq 5 2 _
/-- _law_bad_step(box, count, steps, sign); slots 0:box 1:count 2:steps 3:sign 4:some 5:old -/
def m_law_bad_step (F__law_pick : FF) : SF := (sSeq (sKill [5] (sIf (eAnd (eB (eBin (ltI fun i j => decide (j < i)) (eCB (un1 lenD) (aCons (eVb 2) aNil)) (eC (.int 0)))) (eB (eBin (eqB false) (eCall 2 (some 0) F__law_pick (aCons (eVb 0) (aCons (eC (.int 3)) aNil))) (eC (.int 0))))) (sSeq (sSet 5 (eBin ixA (eVb 2) (eCall 2 (some 0) F__law_pick (aCons (eVb 0) (aCons (eCB (un1 lenD) (aCons (eVb 2) aNil)) aNil))))) (sEnd (sRet (eTup (aCons (eBin ixA (eVb 5) (eC (.int 0))) (aCons (eBin ixA (eVb 5) (eC (.int 1))) (aCons (eCall 2 (some 0) F__law_pick (aCons (eVb 0) (aCons (eMv 1) aNil))) aNil))))))) sNil)) (sSeq (sSet 4 (eLst (aCons (eTup (aCons (eMv 1) (aCons (eMv 3) (aCons (eC (.int 0)) aNil)))) (aCons (eTup (aCons (eNeg (eC (.int 1))) (aCons (eMv 3) (aCons (eC (.int 0)) aNil)))) (aCons (eTup (aCons (eC (.int 0)) (aCons (eMv 3) (aCons (eMv 1) aNil)))) (aCons (eTup (aCons (eC (.int 0)) (aCons (eMv 3) (aCons (eNeg (eC (.int 1))) aNil)))) (aCons (eTup (aCons (eC (.int 0)) (aCons (eC (.str (Str.ofString ""))) (aCons (eC (.int 0)) aNil)))) (aCons (eTup (aCons (eC (.int 0)) (aCons (eM0 upperD (eVb 3)) (aCons (eC (.int 0)) aNil)))) aNil)))))))) (sSeq (sSet 4 (eBin addD (eVb 4) (eLst (aCons (eTup (aCons (eC (.int 0)) (aCons (eC (.str (Str.ofString "abcdefg"))) (aCons (eC (.int 0)) aNil)))) (aCons (eTup (aCons (eC (.int 0)) (aCons (eMv 3) aNil))) (aCons (eTup (aCons (eC (.int 0)) (aCons (eMv 3) (aCons (eC (.int 0)) (aCons (eC (.int 0)) aNil))))) (aCons (eLst (aCons (eC (.int 0)) (aCons (eMv 3) (aCons (eC (.int 0)) aNil)))) (aCons (eTup (aCons (eC (.int 0)) (aCons (eC (.int 5)) (aCons (eC (.int 0)) aNil)))) (aCons (eTup (aCons (eC (.bool true)) (aCons (eMv 3) (aCons (eC (.int 0)) aNil)))) aNil))))))))) (sSeq (sSet 4 (eBin addD (eVb 4) (eLst (aCons (eTup (aCons (eC (.int 0)) (aCons (eMv 3) (aCons (eC (.bool false)) aNil)))) (aCons (eC .none) (aCons (eTup (aCons (eC (.int 0)) (aCons (eBin addD (eVb 3) (eC (.str (Str.ofString "1")))) (aCons (eC (.int 0)) aNil)))) (aCons (eTup (aCons (eC (.int 0)) (aCons (eTup (aCons (eMv 3) aNil)) (aCons (eC (.int 0)) aNil)))) (aCons (eTup (aCons (eC (.int 0)) (aCons (eBin addD (eC (.str (Str.ofString " "))) (eVb 3)) (aCons (eC (.int 0)) aNil)))) (aCons (eTup (aCons (eMv 3) (aCons (eC (.int 0)) (aCons (eC (.int 0)) aNil)))) aNil))))))))) (sSeq (sSet 4 (eBin addD (eVb 4) (eLst (aCons (eTup (aCons (eC (.int 0)) (aCons (eLst (aCons (eMv 3) aNil)) (aCons (eC (.int 0)) aNil)))) (aCons (eTup (aCons (eLst (aCons (eC (.int 0)) aNil)) (aCons (eMv 3) (aCons (eC (.int 0)) aNil)))) (aCons (eTup (aCons (eC (.int 0)) (aCons (eMv 3) (aCons (eC .none) aNil)))) (aCons (eTup (aCons (eC (.int 0)) (aCons (eC .none) (aCons (eC (.int 0)) aNil)))) aNil))))))) (sEnd (sRet (eBin ixA (eVb 4) (eCall 2 (some 0) F__law_pick (aCons (eVb 0) (aCons (eC (.int 22)) aNil)))))))))))
theorem m_law_bad_step_eq (F__law_pick : FF) (ρ : Rho) : fnF 6 4 (m_law_bad_step F__law_pick) ρ = finR 4 (m_law_bad_step F__law_pick (ρ ++ [none, none])) := fnF_eq 6 4 _
/-- _law_spoilt(box, walker, sign); slots 0:box 1:walker 2:sign 3:way 4:some 5:count 6:begin 7:ends 8:steps -/
def m_law_spoilt_2 (F__law_wide F__law_pick F__law_bad_step : FF) : SF := (sSeq (sUnp (gT 4 (gsC (gN 5) (gsC (gN 6) (gsC (gN 7) (gsC (gN 8) gsN))))) (eMv 1)) (sSeq (sSet 3 (eCall 2 (some 0) F__law_pick (aCons (eVb 0) (aCons (eC (.int 30)) aNil)))) (sSeq (sIf (eB (eBin (ltI fun i j => decide (i < j)) (eVb 3) (eC (.int 6)))) (sSeq (sSet 8 (eCB (un1 listD) (aCons (eSl (eVb 8) none (some (eC (.int 39)))) aNil))) (sSeq (sIns 8 (eCall 2 (some 0) F__law_pick (aCons (eVb 0) (aCons (eBin addD (eCB (un1 lenD) (aCons (eVb 8) aNil)) (eC (.int 1))) aNil))) (eCallN 4 [0, 2] F__law_bad_step (aCons (eVb 0) (aCons (eMv 5) (aCons (eVb 8) (aCons (eMv 2) aNil)))))) (sEnd (sRet (eTup (aCons (eMv 5) (aCons (eMv 6) (aCons (eMv 7) (aCons (eCB (un1 tupleD) (aCons (eVb 8) aNil)) aNil))))))))) sNil) (sSeq (sSet 4 (eLst (aCons (eTup (aCons (eC (.int 0)) (aCons (eC (.int 0)) (aCons (eTup aNil) (aCons (eTup aNil) aNil))))) (aCons (eTup (aCons (eC (.int 6)) (aCons (eMv 6) (aCons (eMv 7) (aCons (eMv 8) aNil))))) (aCons (eTup (aCons (eMv 5) (aCons (eMv 5) (aCons (eMv 7) (aCons (eMv 8) aNil))))) (aCons (eTup (aCons (eMv 5) (aCons (eNeg (eC (.int 1))) (aCons (eMv 7) (aCons (eMv 8) aNil))))) aNil)))))) (sSeq (sSet 4 (eBin addD (eVb 4) (eLst (aCons (eTup (aCons (eMv 5) (aCons (eMv 6) (aCons (eBin addD (eVb 7) (eBin mulA (eSl (eBin addD (eVb 7) (eTup (aCons (eC (.int 0)) (aCons (eC (.int 0)) aNil)))) (some (eNeg (eC (.int 1)))) none) (eC (.int 2)))) (aCons (eMv 8) aNil))))) (aCons (eTup (aCons (eMv 5) (aCons (eMv 6) (aCons (eTup (aCons (eC (.int 1)) (aCons (eC (.int 0)) aNil))) (aCons (eMv 8) aNil))))) aNil))))) (sSeq (sSet 4 (eBin addD (eVb 4) (eLst (aCons (eTup (aCons (eMv 5) (aCons (eMv 6) (aCons (eBin addD (eVb 7) (eTup (aCons (eMv 5) aNil))) (aCons (eMv 8) aNil))))) (aCons (eTup (aCons (eMv 5) (aCons (eMv 6) (aCons (eCB (un1 listD) (aCons (eVb 7) aNil)) (aCons (eMv 8) aNil))))) aNil))))) (sSeq (sSet 4 (eBin addD (eVb 4) (eLst (aCons (eTup (aCons (eMv 5) (aCons (eMv 6) (aCons (eMv 7) (aCons (eCB (un1 listD) (aCons (eVb 8) aNil)) aNil))))) (aCons (eCB (un1 listD) (aCons (eVb 1) aNil)) (aCons (eSl (eVb 1) none (some (eC (.int 3)))) (aCons (eBin addD (eVb 1) (eTup (aCons (eC .none) aNil))) aNil))))))) (sSeq (sSet 4 (eBin addD (eVb 4) (eLst (aCons (eTup (aCons (eC (.bool true)) (aCons (eC (.int 0)) (aCons (eTup aNil) (aCons (eTup aNil) aNil))))) (aCons (eTup (aCons (eMv 5) (aCons (eC (.bool false)) (aCons (eMv 7) (aCons (eMv 8) aNil))))) (aCons (eTup (aCons (eMv 5) (aCons (eMv 6) (aCons (eTup (aCons (eC (.bool false)) aNil)) (aCons (eMv 8) aNil))))) (aCons (eC .none) aNil))))))) (sSeq (sSet 4 (eBin addD (eVb 4) (eLst (aCons (eTup (aCons (eNeg (eC (.int 1))) (aCons (eMv 6) (aCons (eMv 7) (aCons (eMv 8) aNil))))) (aCons (eTup (aCons (eMv 5) (aCons (eC .none) (aCons (eMv 7) (aCons (eMv 8) aNil))))) (aCons (eTup (aCons (eMv 5) (aCons (eMv 6) (aCons (eBin addD (eTup (aCons (eNeg (eC (.int 1))) aNil)) (eVb 7)) (aCons (eMv 8) aNil))))) aNil)))))) (sSeq (sSet 4 (eBin addD (eVb 4) (eLst (aCons (eTup (aCons (eMv 5) (aCons (eMv 6) (aCons (eTup (aCons (eC .none) aNil)) (aCons (eMv 8) aNil))))) (aCons (eTup (aCons (eMv 5) (aCons (eMv 6) (aCons (eBin addD (eVb 7) (eTup (aCons (eC (.str (Str.ofString "0"))) aNil))) (aCons (eMv 8) aNil))))) (aCons (eTup (aCons (eC .none) (aCons (eMv 6) (aCons (eMv 7) (aCons (eMv 8) aNil))))) aNil)))))) (sSeq (sSet 4 (eBin addD (eVb 4) (eLst (aCons (eTup (aCons (eC (.str (Str.ofString "2"))) (aCons (eC (.int 0)) (aCons (eTup aNil) (aCons (eTup aNil) aNil))))) aNil)))) (sEnd (sRet (eIf (eB (eBin (ltI fun i j => decide (i < j)) (eVb 3) (eC (.int 29)))) (eBin ixA (eVb 4) (eBin subD (eVb 3) (eC (.int 6)))) (eCall 2 (some 0) F__law_wide (aCons (eVb 0) (aCons (eC (.int 41)) aNil)))))))))))))))))
theorem m_law_spoilt_2_eq (F__law_wide F__law_pick F__law_bad_step : FF) (ρ : Rho) : fnF 9 3 (m_law_spoilt_2 F__law_wide F__law_pick F__law_bad_step) ρ = finR 3 (m_law_spoilt_2 F__law_wide F__law_pick F__law_bad_step (ρ ++ [none, none, none, none, none, none])) := fnF_eq 9 3 _
end GM
namespace GX
open PySem L2 GS GM
structure SgOk (w : Str) : Prop where
  sg : signB w = true
theorem SgOk.len {w : Str} (h : SgOk w) : 1 ≤ w.length ∧ w.length ≤ 6 := signB_len h.sg
theorem sml_lt {c : Nat} (h : c ∈ SML.cps) : 97 ≤ c ∧ c ≤ 122 := by
  have : ∀ c ∈ SML.cps.toList, 97 ≤ c ∧ c ≤ 122 := by decide +kernel
  exact this c (by simpa using h)
theorem sml_mem {c : Nat} (h : 97 ≤ c ∧ c ≤ 122) : c ∈ SML.cps := by
  have : ∀ c, c < 123 → 97 ≤ c → c ∈ SML.cps.toList := by decide +kernel
  have := this c (by omega) h.1
  simpa using this
theorem SgOk.chr {w : Str} (h : SgOk w) : ∀ c ∈ w.cps.toList, 97 ≤ c ∧ c ≤ 122 := fun c m => by
  have := h.sg
  unfold signB at this
  rw [Bool.and_eq_true, List.all_eq_true] at this
  exact sml_lt (of_decide_eq_true (this.2 c m))
theorem sg_of {w : Str} (h1 : 1 ≤ w.length) (h6 : w.length ≤ 6) (hc : ∀ c ∈ w.cps.toList, 97 ≤ c ∧ c ≤ 122) : SgOk w := ⟨by
  unfold signB
  rw [← len_eq, decide_eq_true h1, decide_eq_true h6]
  rw [Bool.and_eq_true, List.all_eq_true]
  exact ⟨rfl, fun c m => decide_eq_true (sml_mem (hc c m))⟩⟩
theorem SgOk.so {w : Str} (h : SgOk w) : PyData.strOk w = true := strOk_of fun c m => by have := h.chr c m; omega
theorem not_sg {w : Str} {c : Nat} (m : c ∈ w.cps.toList) (h : ¬ (97 ≤ c ∧ c ≤ 122)) : signB w = false := by
  cases e : signB w with
  | false => rfl
  | true => exact absurd ((SgOk.mk e).chr c m) h
theorem word_sg {tail w : Str} (ht : ∀ c ∈ tail.cps.toList, 97 ≤ c ∧ c ≤ 122) (h : WordOk SML tail w) : SgOk w := by
  obtain ⟨h5, ⟨c, cs, e, _⟩, hc⟩ := h
  refine sg_of (by rw [len_eq, e]; simp) (by omega) fun c m => ?_
  rcases hc c m with q | q
  · exact sml_lt (by simpa using q)
  · exact ht c q
theorem goS_nd (n : Int) : ∀ (ds : List D) (seen : List (Int × Str)), goS n seen ds = true → ∃ ks : List (Int × Str), ds.map (stepK n) = ks.map some ∧ (∀ k ∈ ks, k ∉ seen) ∧ ks.Nodup
  | [], _, _ => ⟨[], rfl, by simp, by simp⟩
  | d :: r, seen, h => by
    rw [goS] at h
    cases hk : stepK n d with
    | none => rw [hk] at h; cases h
    | some k =>
      rw [hk] at h
      dsimp only at h
      rw [Bool.and_eq_true, Bool.not_eq_true', decide_eq_false_iff_not] at h
      obtain ⟨ks, e, h1, h2⟩ := goS_nd n r (seen ++ [k]) h.2
      refine ⟨k :: ks, by rw [List.map_cons, hk, e]; rfl, fun x m => ?_, List.nodup_cons.mpr ⟨fun m => h1 k m (by simp), h2⟩⟩
      rcases List.mem_cons.mp m with rfl | m
      · exact h.1
      · exact fun q => h1 x m (by simp [q])
theorem goS_good {n : Nat} {ws : List Str} (hw : ∀ w ∈ ws, SgOk w) : ∀ (ss : List GM.Step) (seen : List (Int × Str)), (seen ++ ss.map fun s => (s.1, s.2.1)).Nodup → (∀ s ∈ ss, 0 ≤ s.1 ∧ s.1 < n ∧ s.2.1 ∈ ws) → (∀ s ∈ ss, 0 ≤ s.2.2 ∧ s.2.2 < n) → goS n seen (ss.map encSt) = true
  | [], _, _, _, _ => rfl
  | s :: ss, seen, nd, h1, h2 => by
    obtain ⟨a1, a2, a3⟩ := h1 s (by simp)
    obtain ⟨b1, b2⟩ := h2 s (by simp)
    have sk : stepK n (encSt s) = some (s.1, s.2.1) := by
      unfold encSt stepK
      dsimp only
      rw [decide_eq_true a1, decide_eq_true a2, (hw _ a3).sg, stB_i, decide_eq_true b1, decide_eq_true b2]
      rfl
    rw [List.map_cons, goS, sk]
    dsimp only
    have ns : (s.1, s.2.1) ∉ seen := fun m => by
      rw [List.nodup_append] at nd
      exact nd.2.2 _ m _ (by simp) rfl
    rw [decide_eq_false ns, Bool.not_false, Bool.true_and]
    exact goS_good hw ss _ (by rw [List.append_assoc]; exact nd) (fun s m => h1 s (by simp [m])) fun s m => h2 s (by simp [m])
structure WkOk (n : Nat) (ws : List Str) (w : Wk) : Prop where
  many : w.many = n
  n0 : 0 < n
  n5 : n ≤ 5
  b0 : 0 ≤ w.begin'
  b1 : w.begin' < n
  ends : goE n (-1) (w.ends.map .int) = true
  st : StepsOk n ws w.steps
  len : w.steps.length ≤ 40
  sg : ∀ x ∈ ws, SgOk x
theorem goE_len {n : Int} : ∀ {is : List Int} {a : Int}, goE n a (is.map .int) = true → -1 ≤ a → a < n ∨ is = [] → (is.length : Int) ≤ n - 1 - a ∨ is = []
  | [], _, _, _, _ => .inr rfl
  | i :: r, a, h, ha, hn => by
    rw [List.map_cons, goE] at h
    simp only [Bool.and_eq_true, decide_eq_true_eq] at h
    obtain ⟨h1, h2, h3, h4⟩ := h
    rcases goE_len h4 (by omega) (.inl h2) with q | q
    · left; rw [List.length_cons]; omega
    · subst q; left; simp; omega
theorem WkOk.el {n : Nat} {ws : List Str} {w : Wk} (W : WkOk n ws w) : w.ends.length ≤ 5 := by
  have h0 := W.n0
  have h5 := W.n5
  rcases goE_len W.ends (by omega) (.inl (by omega)) with q | q
  · omega
  · rw [q]; simp
theorem WkOk.good {n : Nat} {ws : List Str} {w : Wk} (W : WkOk n ws w) : walkB w.enc = true := by
  have h0 := W.n0
  have h5 := W.n5
  unfold Wk.enc walkB endsB stepsB
  dsimp only
  rw [W.many, decide_eq_true (show (0 : Int) < n by omega), decide_eq_true (show (n : Int) < 6 by omega), stB_i, decide_eq_true W.b0, decide_eq_true W.b1, W.ends, List.length_map, decide_eq_true W.len,
    goS_good W.sg w.steps [] (by rw [List.nil_append]; exact W.st.nd) W.st.fr W.st.to]
  rfl
theorem step_p {ws : List Str} (hw : ∀ x ∈ ws, SgOk x) {s : GM.Step} (h : s.2.1 ∈ ws) : StepP (encSt s) := fun a w b e => by
  unfold encSt at e
  injection e with e
  injection e with _ e
  injection e with e _
  injection e with e
  subst e
  have := (hw _ h).len
  omega
theorem WkOk.steps_p {n : Nat} {ws : List Str} {w : Wk} (W : WkOk n ws w) : ∀ d ∈ w.steps.map encSt, StepP d := fun d m => by
  obtain ⟨s, ms, rfl⟩ := List.mem_map.mp m
  exact step_p W.sg (W.st.fr s ms).2.2
theorem walk_p {c b e : D} {ss : List D} (h : ∀ d ∈ ss, StepP d) : WalkP (.tuple [c, b, e, .tuple ss]) := fun c' b' e' ss' eq => by
  injection eq with eq
  injection eq with _ eq
  injection eq with _ eq
  injection eq with _ eq
  injection eq with eq _
  injection eq with eq
  subst eq
  exact h
theorem walk_no {d : D} (h : ∀ c b e ss, d ≠ .tuple [c, b, e, .tuple ss]) : WalkP d := fun c b e ss eq => absurd eq (h c b e ss)
section
variable {Fp Fw Fb : FF}
/-- the wide ones -/
theorem allK_nd2 {ws : List Str} (hn : ws.Nodup) : (ws.flatMap fun w => (List.range 5).map fun j : Nat => ((j : Int), w)).Nodup := by
  induction ws with
  | nil => simp
  | cons w r ih =>
    rw [List.nodup_cons] at hn
    rw [List.flatMap_cons, List.nodup_append]
    refine ⟨?_, ih hn.2, ?_⟩
    · unfold List.Nodup
      rw [List.pairwise_map]
      have := List.nodup_range (n := 5)
      unfold List.Nodup at this
      exact this.imp fun h e => h (by have := (Prod.mk.inj e).1; omega)
    · rintro x hx y hy rfl
      obtain ⟨j, _, rfl⟩ := List.mem_map.mp hx
      obtain ⟨v, mv, hy⟩ := List.mem_flatMap.mp hy
      obtain ⟨l, _, e⟩ := List.mem_map.mp hy
      have := (Prod.mk.inj e).2
      exact hn.1 (by rw [← this]; exact mv)
def WideSp (F : FF) : Prop := ∀ (b : D) (size : Nat), Bx b → size = 40 ∨ size = 41 → ∃ (d b' : D), F [some ⟨b, .io⟩, some ⟨.int size, .sh⟩] = .ok (.sh d) [some ⟨b', .io⟩, none] ∧ Bx b' ∧ WalkP d ∧ walkB d = decide (size = 40)
theorem law_wide_3_ok (hp : PickSp Fp) (hw : WordsSp3 Fw) : WideSp (fnF 5 2 (m_law_wide_3 Fp Fw)) := fun b size hb hs => by
  obtain ⟨ws, b1, p, e1, hb1, hl, hok, hnd, _⟩ := hw b SML (Str.ofString "x") 9 hb (by decide +kernel) (by decide +kernel) (by decide +kernel) (by decide)
  have e1' : Fw [some ⟨b, .io⟩, some ⟨.str SML, .sh⟩, some ⟨.str (Str.ofString "x"), .sh⟩, some ⟨.int 9, .sh⟩] = .ok (.fr (.list (ws.map .str))) [some ⟨b1, .io⟩, none, none, none] := e1
  have sg : ∀ w ∈ ws, SgOk w := fun w m => word_sg (by decide +kernel) (hok w m)
  have wnd : ws.Nodup := by
    unfold List.Nodup at hnd ⊢
    rw [List.pairwise_map] at hnd
    exact hnd.imp fun h e => h (by rw [e])
  let K := fun ss : List GM.Step => ss.map fun s => (s.1, s.2.1)
  have inner : ∀ (w : Str) (ss : List GM.Step) (b2 : D), Bx b2 → ss.length ≤ 100 → ∃ (ss' : List GM.Step) (b3 : D), forL (gN 4) (m_law_wide_3_b1 Fp Fw) (rgD 0 5) [some ⟨b2, .io⟩, some ⟨.int size, .sh⟩, some ⟨.list (ss.map encSt), .ow⟩, some ⟨.str w, .sh⟩, none] = .nx [some ⟨b3, .io⟩, some ⟨.int size, .sh⟩, some ⟨.list (ss'.map encSt), .ow⟩, some ⟨.str w, .sh⟩, none] ∧ Bx b3 ∧
      (K ss' = K ss ++ (List.range 5).map fun j : Nat => ((j : Int), w)) ∧ ((∀ s ∈ ss, 0 ≤ s.2.2 ∧ s.2.2 < 5) → ∀ s ∈ ss', 0 ≤ s.2.2 ∧ s.2.2 < 5) := fun w ss b2 hb2 hss => by
    obtain ⟨⟨ss', b3⟩, f1, g1, g2, g3⟩ := forL_by (S := List GM.Step × D) (g := gN 4) (b := m_law_wide_3_b1 Fp Fw) (fun p => [some ⟨p.2, .io⟩, some ⟨.int size, .sh⟩, some ⟨.list (p.1.map encSt), .ow⟩, some ⟨.str w, .sh⟩, none])
      (fun pre p => Bx p.2 ∧ (K p.1 = K ss ++ (List.range pre.length).map fun j : Nat => ((j : Int), w)) ∧ ((∀ s ∈ ss, 0 ≤ s.2.2 ∧ s.2.2 < 5) → ∀ s ∈ p.1, 0 ≤ s.2.2 ∧ s.2.2 < 5)) (rgD 0 5) (ss, b2) ⟨hb2, by simp, fun h => h⟩ (fun pre d post ⟨s1, bb⟩ hd ⟨q1, q2, q3⟩ => by
        obtain ⟨hk, rfl⟩ := rgD_mid hd
        generalize hkk : pre.length = k at hk q2
        rw [show (0 : Int) + (k : Int) = k by omega]
        dsimp only at q1 q2 q3 ⊢
        obtain ⟨r, b4, e4, hb4, hr⟩ := hp bb 5 q1 (by decide) (by decide)
        have e4' : Fp [some ⟨bb, .io⟩, some ⟨.int 5, .sh⟩] = .ok (.sh (.int r)) [some ⟨b4, .io⟩, none] := e4
        have l1 : s1.length = ss.length + k := by
          have := congrArg List.length q2
          simp [K] at this
          exact this
        have z : s1.length < sizeLine := fitsl (by omega)
        refine ⟨(s1 ++ [((k : Int), w, (r : Int))], b4), ?_, hb4, ?_, fun h s m => ?_⟩
        · simp [m_law_wide_3_b1, e4', z, encSt]
        · show K (s1 ++ [((k : Int), w, (r : Int))]) = _
          rw [List.length_append, List.length_singleton, hkk, List.range_succ, List.map_append, ← List.append_assoc, ← q2]
          show List.map _ _ = _
          rw [List.map_append]
          rfl
        · rcases List.mem_append.mp m with m | m
          · exact q3 h s m
          · rw [List.mem_singleton] at m; subst m; dsimp only; omega)
    rw [rgD_len] at g2
    exact ⟨ss', b3, f1, g1, g2, g3⟩
  obtain ⟨⟨ss, b3⟩, f1, g1, g2, g3⟩ := forL_by (S := List GM.Step × D) (g := gN 3) (b := m_law_wide_3_b2 Fp Fw) (fun p => [some ⟨p.2, .io⟩, some ⟨.int size, .sh⟩, some ⟨.list (p.1.map encSt), .ow⟩, none, none])
    (fun pre p => Bx p.2 ∧ (K p.1 = (ws.take pre.length).flatMap fun w => (List.range 5).map fun j : Nat => ((j : Int), w)) ∧ ∀ s ∈ p.1, 0 ≤ s.2.2 ∧ s.2.2 < 5) (ws.map .str) ([], b1) ⟨hb1, rfl, by simp⟩ (fun pre d post ⟨s1, bb⟩ hd ⟨q1, q2, q3⟩ => by
      have hlen : pre.length < ws.length := by
        have := congrArg List.length hd
        simp at this
        omega
      obtain ⟨w, hsg, rfl⟩ : ∃ c, ws[pre.length]? = some c ∧ PyData.str c = d := by
        have h2 : (ws.map PyData.str)[pre.length]? = some d := by rw [hd, List.getElem?_append_right (Nat.le_refl _), Nat.sub_self]; rfl
        rw [List.getElem?_map] at h2
        obtain ⟨c, h3, h4⟩ := Option.map_eq_some_iff.mp h2
        exact ⟨c, h3, h4⟩
      dsimp only at q1 q2 q3 ⊢
      have l1 : s1.length ≤ 100 := by
        have h1 := congrArg List.length q2
        have h2 : ∀ l : List Str, (l.flatMap fun w => (List.range 5).map fun j : Nat => ((j : Int), w)).length = l.length * 5 := fun l => by
          induction l with
          | nil => rfl
          | cons a r ih => rw [List.flatMap_cons, List.length_append, ih]; simp; omega
        rw [h2, List.length_take] at h1
        simp [K] at h1
        omega
      obtain ⟨ss', b4, h1, h2, h3, h4⟩ := inner w s1 bb q1 l1
      refine ⟨(ss', b4), ?_, h2, ?_, h4 q3⟩
      · simp [m_law_wide_3_b2, okR, h1]
      · show K ss' = _
        rw [h3, q2, List.length_append, List.length_singleton, take_snoc hsg, List.flatMap_append]
        simp)
  rw [List.length_map, List.take_length] at g2
  rw [List.map_nil] at f1
  dsimp only at f1 g1 g2 g3
  obtain ⟨r, b4, e4, hb4, hr⟩ := hp b3 5 g1 (by decide) (by decide)
  have e4' : Fp [some ⟨b3, .io⟩, some ⟨.int 5, .sh⟩] = .ok (.sh (.int r)) [some ⟨b4, .io⟩, none] := e4
  have ct := cutD_to (ss.map encSt) size
  have fr : ∀ s ∈ ss, (0 ≤ s.1 ∧ s.1 < 5) ∧ s.2.1 ∈ ws := fun s m => by
    have : (s.1, s.2.1) ∈ K ss := List.mem_map_of_mem m
    rw [g2] at this
    obtain ⟨v, mv, hv⟩ := List.mem_flatMap.mp this
    obtain ⟨j, mj, e⟩ := List.mem_map.mp hv
    rw [List.mem_range] at mj
    obtain ⟨x1, x2⟩ := Prod.mk.inj e
    exact ⟨by omega, by rw [← x2]; exact mv⟩
  have sl : ss.length = 45 := by
    have h1 := congrArg List.length g2
    have h2 : ∀ l : List Str, (l.flatMap fun w => (List.range 5).map fun j : Nat => ((j : Int), w)).length = l.length * 5 := fun l => by
      induction l with
      | nil => rfl
      | cons a r ih => rw [List.flatMap_cons, List.length_append, ih]; simp; omega
    rw [h2, hl] at h1
    simpa [K] using h1
  refine ⟨.tuple [.int 5, .int r, .tuple [], .tuple ((ss.map encSt).take size)], b4, ?_, hb4, walk_p fun d m => ?_, ?_⟩
  · rw [m_law_wide_3_eq]
    generalize ws.map PyData.str = WS at e1' f1
    generalize ss.map encSt = SS at f1 ct
    simp [m_law_wide_3, e1', f1, ct, e4']
  · obtain ⟨s, ms, rfl⟩ := List.mem_map.mp (List.mem_of_mem_take m)
    exact step_p sg (fr s ms).2
  · have tl : ((ss.map encSt).take size).length = size := by rw [List.length_take, List.length_map, sl]; omega
    unfold walkB endsB stepsB
    dsimp only
    rw [tl, stB_i, decide_eq_true (show (0 : Int) ≤ (r : Int) by omega), decide_eq_true (show (r : Int) < 5 by omega)]
    rcases hs with rfl | rfl
    · have nd : (K (ss.take 40)).Nodup := by
        have : (K ss).Nodup := by rw [g2]; exact allK_nd2 wnd
        exact ((List.take_sublist 40 ss).map _).nodup this
      have := goS_good (n := 5) sg (ss.take 40) [] (by rw [List.nil_append]; exact nd) (fun s m => by
        obtain ⟨⟨x1, x2⟩, x3⟩ := fr s (List.mem_of_mem_take m)
        exact ⟨x1, x2, x3⟩) fun s m => g3 s (List.mem_of_mem_take m)
      rw [List.map_take] at this
      rw [show goS 5 [] ((ss.map encSt).take 40) = true from this]
      rfl
    · rfl
end
end GX
namespace GM
open PySem L2 GS
end GM
namespace GX
open PySem L2 GS GM
theorem up_no {w : Str} (h : SgOk w) : signB (Txt.upper w) = false := by
  have hc := h.chr
  have hl := h.len
  rw [PyProof.Rows.upper_ascii (x := w) (fun c m => by have := hc c m; omega)]
  obtain ⟨c, cs, e⟩ : ∃ c cs, w.cps.toList = c :: cs := by
    cases e : w.cps.toList with
    | nil => rw [len_eq, e] at hl; simp at hl
    | cons c cs => exact ⟨c, cs, rfl⟩
  have hcc := hc c (by rw [e]; simp)
  refine not_sg (c := c - 32) ?_ (by omega)
  show c - 32 ∈ (w.cps.map PyProof.Rows.up1).toList
  rw [Array.toList_map, e, List.map_cons]
  unfold PyProof.Rows.up1
  rw [if_pos hcc]
  simp
theorem up_len {w : Str} (h : SgOk w) : (Txt.upper w).length ≤ 6 := by
  have hc := h.chr
  have hl := h.len
  rw [PyProof.Rows.upper_ascii (x := w) (fun c m => by have := hc c m; omega)]
  show (w.cps.map PyProof.Rows.up1).size ≤ 6
  rw [Array.size_map]
  exact hl.2
def NoSt (n : Int) (d : D) : Prop := stepK n d = none ∧ StepP d
theorem no_a {n a : Int} {w : Str} {b : D} (hw : w.length ≤ 1000) (h : ¬ (0 ≤ a ∧ a < n)) : NoSt n (.tuple [.int a, .str w, b]) := by
  refine ⟨?_, fun a' w' b' e => by injection e with e; injection e with _ e; injection e with e _; injection e with e; subst e; exact hw⟩
  unfold stepK
  dsimp only
  rw [if_neg]
  intro q
  simp only [Bool.and_eq_true, decide_eq_true_eq] at q
  exact h ⟨q.1, q.2.1⟩
theorem no_b {n a : Int} {w : Str} {b : D} (hw : w.length ≤ 1000) (h : stB n b = false) : NoSt n (.tuple [.int a, .str w, b]) := by
  refine ⟨?_, fun a' w' b' e => by injection e with e; injection e with _ e; injection e with e _; injection e with e; subst e; exact hw⟩
  unfold stepK
  dsimp only
  rw [h, if_neg]
  simp
theorem no_w {n a : Int} {w : Str} {b : D} (hw : w.length ≤ 1000) (h : signB w = false) : NoSt n (.tuple [.int a, .str w, b]) := by
  refine ⟨?_, fun a' w' b' e => by injection e with e; injection e with _ e; injection e with e _; injection e with e; subst e; exact hw⟩
  unfold stepK
  dsimp only
  rw [h, if_neg]
  simp
theorem no_x {n : Int} {d : D} (h : stepK n d = none) (h2 : ∀ a w b, d ≠ .tuple [a, .str w, b]) : NoSt n d := ⟨h, fun a w b e => absurd e (h2 a w b)⟩
theorem no_t {n : Int} {a : D} {w : Str} {b : D} (hw : w.length ≤ 1000) (h : stepK n (.tuple [a, .str w, b]) = none) : NoSt n (.tuple [a, .str w, b]) := ⟨h, fun a' w' b' e => by injection e with e; injection e with _ e; injection e with e _; injection e with e; subst e; exact hw⟩
def badL (n : Int) (w : Str) : List D := [.tuple [.int n, .str w, .int 0], .tuple [.int (-1), .str w, .int 0], .tuple [.int 0, .str w, .int n], .tuple [.int 0, .str w, .int (-1)], .tuple [.int 0, .str (Str.ofString ""), .int 0], .tuple [.int 0, .str (Txt.upper w), .int 0]] ++
  [.tuple [.int 0, .str (Str.ofString "abcdefg"), .int 0], .tuple [.int 0, .str w], .tuple [.int 0, .str w, .int 0, .int 0], .list [.int 0, .str w, .int 0], .tuple [.int 0, .int 5, .int 0], .tuple [.bool true, .str w, .int 0]] ++
  [.tuple [.int 0, .str w, .bool false], .none, .tuple [.int 0, .str (w ++ Str.ofString "1"), .int 0], .tuple [.int 0, .tuple [.str w], .int 0], .tuple [.int 0, .str (Str.ofString " " ++ w), .int 0], .tuple [.str w, .int 0, .int 0]] ++
  [.tuple [.int 0, .list [.str w], .int 0], .tuple [.list [.int 0], .str w, .int 0], .tuple [.int 0, .str w, .none], .tuple [.int 0, .none, .int 0]]
theorem all_app {α : Type} {P : α → Prop} {a b : List α} (h : ∀ x ∈ a, P x) (g : ∀ x ∈ b, P x) : ∀ x ∈ a ++ b, P x := fun x m => (List.mem_append.mp m).elim (h x) (g x)
theorem all_cons {α : Type} {P : α → Prop} {a : α} {b : List α} (h : P a) (g : ∀ x ∈ b, P x) : ∀ x ∈ a :: b, P x := fun x m => (List.mem_cons.mp m).elim (fun e => e ▸ h) (g x)
theorem all_nil {α : Type} {P : α → Prop} : ∀ x ∈ ([] : List α), P x := fun _ m => by cases m
theorem badL_no {n : Nat} {w : Str} (h : SgOk w) : ∀ d ∈ badL n w, NoSt n d := by
  have hl := h.len
  have hw : w.length ≤ 1000 := by omega
  refine all_app (all_app (all_app ?_ ?_) ?_) ?_
  · exact all_cons (no_a hw (by omega)) (all_cons (no_a hw (by omega)) (all_cons (no_b hw (by rw [stB_i, decide_eq_false (show ¬ (n : Int) < n by omega), Bool.and_false])) (all_cons (no_b hw (by rw [stB_i]; rfl)) (all_cons (no_w (by decide +kernel) (by decide +kernel)) (all_cons (no_w (by have := up_len h; omega) (up_no h)) all_nil)))))
  · exact all_cons (no_w (by decide +kernel) (by decide +kernel)) (all_cons (no_x rfl fun _ _ _ e => by cases e) (all_cons (no_x rfl fun _ _ _ e => by cases e) (all_cons (no_x rfl fun _ _ _ e => by cases e) (all_cons (no_x rfl fun _ _ _ e => by cases e) (all_cons (no_t hw rfl) all_nil)))))
  · refine all_cons (no_b hw rfl) (all_cons (no_x rfl fun _ _ _ e => by cases e) (all_cons (no_w (by rw [app_len, ofS_len]; show _ + 1 ≤ 1000; omega) (not_sg (c := 49) ?_ (by omega))) (all_cons (no_x rfl fun _ _ _ e => by cases e) (all_cons (no_w (by rw [app_len, ofS_len]; show 1 + _ ≤ 1000; omega) (not_sg (c := 32) ?_ (by omega))) (all_cons (no_x rfl fun _ _ _ e => by cases e) all_nil)))))
    · rw [app_cps]; exact List.mem_append_right _ (by decide +kernel)
    · rw [app_cps]; exact List.mem_append_left _ (by decide +kernel)
  · exact all_cons (no_x rfl fun _ _ _ e => by cases e) (all_cons (no_t hw rfl) (all_cons (no_b hw rfl) (all_cons (no_x rfl fun _ _ _ e => by cases e) all_nil)))
section
variable {Fp Fw Fb : FF}
def BadSp (F : FF) : Prop := ∀ (b : D) (n : Nat) (ws : List Str) (ss : List GM.Step) (w : Str), Bx b → 0 < n → n ≤ 100 → ss.length ≤ 1000 → SgOk w → (∀ x ∈ ws, SgOk x) → (∀ s ∈ ss, s.2.1 ∈ ws) → ∃ (d b' : D), F [some ⟨b, .io⟩, some ⟨.int n, .sh⟩, some ⟨.list (ss.map encSt), .io⟩, some ⟨.str w, .sh⟩] = .ok (.sh d) [some ⟨b', .io⟩, none, some ⟨.list (ss.map encSt), .io⟩, none] ∧ Bx b' ∧
  (NoSt n d ∨ ∃ s ∈ ss, ∃ r : Int, d = encSt (s.1, s.2.1, r))
theorem law_bad_step_ok (hp : PickSp Fp) : BadSp (fnF 6 4 (m_law_bad_step Fp)) := fun b n ws ss w hb n0 n1 hl hw hws hss => by
  have hwl := hw.len
  rw [m_law_bad_step_eq]
  unfold m_law_bad_step
  have z0 : (Txt.upper w).length ≤ sizeLine := fits (by have := up_len hw; omega)
  have eu : upperD (.str w) = some (.sh (.str (Txt.upper w))) := by
    show (if Nat.ble w.length 5592405 then some (Hd.sh (.str (Txt.upper w))) else none) = _
    rw [if_pos (Nat.ble_eq_true_of_le (by omega))]
  have l1 : (Str.ofString "1").length = 1 := by decide +kernel
  have l2 : (Str.ofString " ").length = 1 := by decide +kernel
  have z1 : w.length + 1 ≤ sizeLine := fits (by omega)
  have z2 : 1 + w.length ≤ sizeLine := fits (by omega)
  have z6 : ∀ k : Nat, k ≤ 100 → k ≤ sizeLine := fun k h => fits (by omega)
  -- the way behind
  have rest : ∀ (b1 : D) (x2 : Option Cel), Bx b1 → x2 = some ⟨.list (ss.map encSt), .io⟩ → ∃ (d b' : D), finR 4 ((sSeq (sSet 4 (eLst (aCons (eTup (aCons (eMv 1) (aCons (eMv 3) (aCons (eC (.int 0)) aNil)))) (aCons (eTup (aCons (eNeg (eC (.int 1))) (aCons (eMv 3) (aCons (eC (.int 0)) aNil)))) (aCons (eTup (aCons (eC (.int 0)) (aCons (eMv 3) (aCons (eMv 1) aNil)))) (aCons (eTup (aCons (eC (.int 0)) (aCons (eMv 3) (aCons (eNeg (eC (.int 1))) aNil)))) (aCons (eTup (aCons (eC (.int 0)) (aCons (eC (.str (Str.ofString ""))) (aCons (eC (.int 0)) aNil)))) (aCons (eTup (aCons (eC (.int 0)) (aCons (eM0 upperD (eVb 3)) (aCons (eC (.int 0)) aNil)))) aNil)))))))) (sSeq (sSet 4 (eBin addD (eVb 4) (eLst (aCons (eTup (aCons (eC (.int 0)) (aCons (eC (.str (Str.ofString "abcdefg"))) (aCons (eC (.int 0)) aNil)))) (aCons (eTup (aCons (eC (.int 0)) (aCons (eMv 3) aNil))) (aCons (eTup (aCons (eC (.int 0)) (aCons (eMv 3) (aCons (eC (.int 0)) (aCons (eC (.int 0)) aNil))))) (aCons (eLst (aCons (eC (.int 0)) (aCons (eMv 3) (aCons (eC (.int 0)) aNil)))) (aCons (eTup (aCons (eC (.int 0)) (aCons (eC (.int 5)) (aCons (eC (.int 0)) aNil)))) (aCons (eTup (aCons (eC (.bool true)) (aCons (eMv 3) (aCons (eC (.int 0)) aNil)))) aNil))))))))) (sSeq (sSet 4 (eBin addD (eVb 4) (eLst (aCons (eTup (aCons (eC (.int 0)) (aCons (eMv 3) (aCons (eC (.bool false)) aNil)))) (aCons (eC .none) (aCons (eTup (aCons (eC (.int 0)) (aCons (eBin addD (eVb 3) (eC (.str (Str.ofString "1")))) (aCons (eC (.int 0)) aNil)))) (aCons (eTup (aCons (eC (.int 0)) (aCons (eTup (aCons (eMv 3) aNil)) (aCons (eC (.int 0)) aNil)))) (aCons (eTup (aCons (eC (.int 0)) (aCons (eBin addD (eC (.str (Str.ofString " "))) (eVb 3)) (aCons (eC (.int 0)) aNil)))) (aCons (eTup (aCons (eMv 3) (aCons (eC (.int 0)) (aCons (eC (.int 0)) aNil)))) aNil))))))))) (sSeq (sSet 4 (eBin addD (eVb 4) (eLst (aCons (eTup (aCons (eC (.int 0)) (aCons (eLst (aCons (eMv 3) aNil)) (aCons (eC (.int 0)) aNil)))) (aCons (eTup (aCons (eLst (aCons (eC (.int 0)) aNil)) (aCons (eMv 3) (aCons (eC (.int 0)) aNil)))) (aCons (eTup (aCons (eC (.int 0)) (aCons (eMv 3) (aCons (eC .none) aNil)))) (aCons (eTup (aCons (eC (.int 0)) (aCons (eC .none) (aCons (eC (.int 0)) aNil)))) aNil))))))) (sEnd (sRet (eBin ixA (eVb 4) (eCall 2 (some 0) Fp (aCons (eVb 0) (aCons (eC (.int 22)) aNil)))))))))) [some ⟨b1, .io⟩, some ⟨.int n, .sh⟩, x2, some ⟨.str w, .sh⟩, none, none]) = .ok (.sh d) [some ⟨b', .io⟩, none, x2, none] ∧ Bx b' ∧ NoSt n d := fun b1 x2 hb1 hx2 => by
    have io2 : ioC x2 = x2 := by rw [hx2]; rfl
    have i4 : ∀ ρ : Rho, ioAt (x2 :: ρ) 0 = true := fun ρ => by rw [hx2]; rfl
    obtain ⟨M1, h1⟩ : ∃ L, L = (badL n w).take 6 := ⟨_, rfl⟩
    obtain ⟨M2, h2⟩ : ∃ L, L = (badL n w).take 12 := ⟨_, rfl⟩
    obtain ⟨M3, h3⟩ : ∃ L, L = (badL n w).take 18 := ⟨_, rfl⟩
    have a1 : M1.length = 6 := by rw [h1]; rfl
    have a2 : M2.length = 12 := by rw [h2]; rfl
    have a3 : M3.length = 18 := by rw [h3]; rfl
    refine (fun h => h) ?_
    obtain ⟨r, b2, e2, hb2, hr⟩ := hp b1 22 hb1 (by decide) (by decide)
    have e2' : Fp [some ⟨b1, .io⟩, some ⟨.int 22, .sh⟩] = .ok (.sh (.int r)) [some ⟨b2, .io⟩, none] := e2
    have bl : (badL n w).length = 22 := rfl
    have er : L2.atI (badL n w) (r : Int) = some ((badL n w)[r]'(by rw [bl]; exact hr)) := atI_nat (List.getElem?_eq_getElem (by rw [bl]; exact hr))
    have mr : (badL n w)[r]'(by rw [bl]; exact hr) ∈ badL n w := List.getElem_mem _
    have no := badL_no (n := n) hw _ mr
    generalize (badL n w)[r]'(by rw [bl]; exact hr) = d at er no
    refine ⟨d, b2, ?_, hb2, no⟩
    refine fin_seq [some ⟨b1, .io⟩, some ⟨.int n, .sh⟩, x2, some ⟨.str w, .sh⟩, some ⟨.list M1, .ow⟩, none] (by rw [h1, show (badL n w).take 6 = [.tuple [.int n, .str w, .int 0], .tuple [.int (-1), .str w, .int 0], .tuple [.int 0, .str w, .int n], .tuple [.int 0, .str w, .int (-1)], .tuple [.int 0, .str (Str.ofString ""), .int 0], .tuple [.int 0, .str (Txt.upper w), .int 0]] from rfl]; simp [eu, mGo0]) ?_
    refine fin_seq [some ⟨b1, .io⟩, some ⟨.int n, .sh⟩, x2, some ⟨.str w, .sh⟩, some ⟨.list M2, .ow⟩, none] (by rw [h2, show (badL n w).take 12 = (badL n w).take 6 ++ [.tuple [.int 0, .str (Str.ofString "abcdefg"), .int 0], .tuple [.int 0, .str w], .tuple [.int 0, .str w, .int 0, .int 0], .list [.int 0, .str w, .int 0], .tuple [.int 0, .int 5, .int 0], .tuple [.bool true, .str w, .int 0]] from rfl, ← h1]; simp [a1, z6]) ?_
    refine fin_seq [some ⟨b1, .io⟩, some ⟨.int n, .sh⟩, x2, some ⟨.str w, .sh⟩, some ⟨.list M3, .ow⟩, none] (by rw [h3, show (badL n w).take 18 = (badL n w).take 12 ++ [.tuple [.int 0, .str w, .bool false], .none, .tuple [.int 0, .str (w ++ Str.ofString "1"), .int 0], .tuple [.int 0, .tuple [.str w], .int 0], .tuple [.int 0, .str (Str.ofString " " ++ w), .int 0], .tuple [.str w, .int 0, .int 0]] from rfl, ← h2]; simp [a2, z6, l1, l2, z1, z2]) ?_
    refine fin_seq [some ⟨b1, .io⟩, some ⟨.int n, .sh⟩, x2, some ⟨.str w, .sh⟩, some ⟨.list (badL n w), .ow⟩, none] (by rw [show badL n w = (badL n w).take 18 ++ [.tuple [.int 0, .list [.str w], .int 0], .tuple [.list [.int 0], .str w, .int 0], .tuple [.int 0, .str w, .none], .tuple [.int 0, .none, .int 0]] from rfl, ← h3]; simp [a3, z6]) ?_
    generalize badL n w = BL at er
    simp [e2', er, io2]
  by_cases hz : 0 < ss.length
  · have lp : (0 : Int) < (ss.length : Int) := by omega
    have hne : ss ≠ [] := fun e => by rw [e] at hz; exact absurd hz (by simp)
    obtain ⟨r, b1, e1, hb1, hr⟩ := hp b 3 hb (by decide) (by decide)
    have e1' : Fp [some ⟨b, .io⟩, some ⟨.int 3, .sh⟩] = .ok (.sh (.int r)) [some ⟨b1, .io⟩, none] := e1
    by_cases h0 : r = 0
    · obtain ⟨k, b2, e2, hb2, hk⟩ := hp b1 ss.length hb1 hz (by omega)
      obtain ⟨q, b3, e3, hb3, hq⟩ := hp b2 n hb2 n0 (by omega)
      have ea : L2.atI (ss.map encSt) (k : Int) = some (encSt ss[k]) := atI_nat (by rw [List.getElem?_map, List.getElem?_eq_getElem hk]; rfl)
      have ml : (ss.map encSt).length = ss.length := by rw [List.length_map]
      refine ⟨encSt (ss[k].1, ss[k].2.1, (q : Int)), b3, ?_, hb3, .inr ⟨ss[k], List.getElem_mem hk, q, rfl⟩⟩
      generalize ss.map encSt = SS at ea ml ⊢
      generalize ss[k] = s at ea ⊢
      unfold encSt at ea ⊢
      subst h0
      simp [ml, lp, hne, e1', e2, e3, ea]
    · obtain ⟨d, b', e, hb', no⟩ := rest b1 (some ⟨.list (ss.map encSt), .io⟩) hb1 rfl
      refine ⟨d, b', ?_, hb', .inl no⟩
      rw [← e]
      have ml : (ss.map encSt).length = ss.length := by rw [List.length_map]
      generalize ss.map encSt = SS at ml ⊢
      have h0' : ¬ (r : Int) = 0 := by omega
      refine fin_seq _ ?_ rfl
      simp [ml, lp, hne, e1', h0, h0']
  · obtain ⟨d, b', e, hb', no⟩ := rest b (some ⟨.list (ss.map encSt), .io⟩) hb rfl
    refine ⟨d, b', ?_, hb', .inl no⟩
    rw [← e]
    have ml : (ss.map encSt).length = ss.length := by rw [List.length_map]
    generalize ss.map encSt = SS at ml ⊢
    have z : ss.length = 0 := by omega
    refine fin_seq _ ?_ rfl
    simp [ml, z]
end
end GX
namespace GX
open PySem L2 GS GM
theorem goE_app (n : Int) : ∀ (xs : List D) (a : Int) (ys : List D), (∀ a, goE n a ys = false) → goE n a (xs ++ ys) = false
  | [], a, ys, h => h a
  | d :: xs, a, ys, h => by
    cases d with
    | int i => rw [List.cons_append, goE, goE_app n xs i ys h]; simp
    | _ => rfl
theorem goS_bad (n : Int) {A B : List D} {d : D} (h : stepK n d = none) (seen : List (Int × Str)) : goS n seen (A ++ d :: B) = false := by
  cases e : goS n seen (A ++ d :: B) with
  | false => rfl
  | true =>
    obtain ⟨ks, e1, _⟩ := goS_nd n _ _ e
    rw [List.map_append, List.map_cons, h] at e1
    have m : none ∈ ks.map some := by rw [← e1]; simp
    obtain ⟨k, _, e2⟩ := List.mem_map.mp m
    cases e2
theorem goS_two (n : Int) {ss : List GM.Step} {A B : List D} (hab : A ++ B = ss.map encSt) {s : GM.Step} (m : s ∈ ss) (r : Int) (seen : List (Int × Str)) : goS n seen (A ++ encSt (s.1, s.2.1, r) :: B) = false := by
  cases e : goS n seen (A ++ encSt (s.1, s.2.1, r) :: B) with
  | false => rfl
  | true =>
    obtain ⟨ks, e1, _, nd⟩ := goS_nd n _ _ e
    rw [List.map_append, List.map_cons] at e1
    have kk : ∀ (x : GM.Step) (k : Int × Str), stepK n (encSt x) = some k → k = (x.1, x.2.1) := fun x k h => by
      unfold encSt stepK at h
      dsimp only at h
      split at h
      · cases h; rfl
      · cases h
    obtain ⟨ka, kb, rfl, ea, eb⟩ := List.append_eq_map_iff.mp e1
    cases kb with
    | nil => cases eb
    | cons k kb =>
      rw [List.map_cons] at eb
      injection eb with ek eb
      have hk := kk _ _ ek.symm
      dsimp only at hk
      have ms : encSt s ∈ A ++ B := by rw [hab]; exact List.mem_map_of_mem m
      have mk : (s.1, s.2.1) ∈ ka ++ kb := by
        rcases List.mem_append.mp ms with q | q
        · have : stepK n (encSt s) ∈ ka.map some := by rw [ea]; exact List.mem_map_of_mem q
          obtain ⟨x, mx, ex⟩ := List.mem_map.mp this
          rw [kk _ _ ex.symm] at mx
          exact List.mem_append_left _ mx
        · have : stepK n (encSt s) ∈ kb.map some := by rw [eb]; exact List.mem_map_of_mem q
          obtain ⟨x, mx, ex⟩ := List.mem_map.mp this
          rw [kk _ _ ex.symm] at mx
          exact List.mem_append_right _ mx
      rw [← hk] at mk
      rw [List.nodup_append, List.nodup_cons] at nd
      rcases List.mem_append.mp mk with q | q
      · exact absurd rfl (nd.2.2 k q k (by simp))
      · exact absurd q nd.2.1.1
def NoWk (d : D) : Prop := walkB d = false ∧ WalkP d
theorem nw_c {c b e s : D} (h : ∀ n, c = .int n → ¬ (0 < n ∧ n < 6)) (hp : WalkP (.tuple [c, b, e, s])) : NoWk (.tuple [c, b, e, s]) := by
  refine ⟨?_, hp⟩
  cases c with
  | int n =>
    have := h n rfl
    unfold walkB
    dsimp only
    by_cases h0 : 0 < n
    · rw [decide_eq_false (show ¬ n < 6 from fun q => this ⟨h0, q⟩), Bool.false_and, Bool.and_false]
    · rw [decide_eq_false h0, Bool.false_and]
  | _ => rfl
theorem nw_b {n : Int} {b e s : D} (h : stB n b = false) (hp : WalkP (.tuple [.int n, b, e, s])) : NoWk (.tuple [.int n, b, e, s]) := by
  refine ⟨?_, hp⟩
  unfold walkB
  dsimp only
  rw [h, Bool.false_and, Bool.and_false, Bool.and_false]
theorem nw_e {n : Int} {b e s : D} (h : endsB n e = false) (hp : WalkP (.tuple [.int n, b, e, s])) : NoWk (.tuple [.int n, b, e, s]) := by
  refine ⟨?_, hp⟩
  unfold walkB
  dsimp only
  rw [h, Bool.false_and, Bool.and_false, Bool.and_false, Bool.and_false]
theorem nw_s {n : Int} {b e s : D} (h : stepsB n s = false) (hp : WalkP (.tuple [.int n, b, e, s])) : NoWk (.tuple [.int n, b, e, s]) := by
  refine ⟨?_, hp⟩
  unfold walkB
  dsimp only
  rw [h, Bool.and_false, Bool.and_false, Bool.and_false, Bool.and_false]
theorem nw_x {d : D} (h : walkB d = false) (h2 : ∀ c b e ss, d ≠ .tuple [c, b, e, .tuple ss]) : NoWk d := ⟨h, walk_no h2⟩
/-- the spoilt ones, way by way -/
def spL (n : Int) (b : D) (E S : List D) : List D := [.tuple [.int 0, .int 0, .tuple [], .tuple []], .tuple [.int 6, b, .tuple E, .tuple S], .tuple [.int n, .int n, .tuple E, .tuple S], .tuple [.int n, .int (-1), .tuple E, .tuple S]] ++
  [.tuple [.int n, b, .tuple (E ++ [.int 0, .int 0]), .tuple S], .tuple [.int n, b, .tuple [.int 1, .int 0], .tuple S]] ++
  [.tuple [.int n, b, .tuple (E ++ [.int n]), .tuple S], .tuple [.int n, b, .list E, .tuple S]] ++
  [.tuple [.int n, b, .tuple E, .list S], .list [.int n, b, .tuple E, .tuple S], .tuple [.int n, b, .tuple E], .tuple [.int n, b, .tuple E, .tuple S, .none]] ++
  [.tuple [.bool true, .int 0, .tuple [], .tuple []], .tuple [.int n, .bool false, .tuple E, .tuple S], .tuple [.int n, b, .tuple [.bool false], .tuple S], .none] ++
  [.tuple [.int (-1), b, .tuple E, .tuple S], .tuple [.int n, .none, .tuple E, .tuple S], .tuple [.int n, b, .tuple (.int (-1) :: E), .tuple S]] ++
  [.tuple [.int n, b, .tuple [.none], .tuple S], .tuple [.int n, b, .tuple (E ++ [.str (Str.ofString "0")]), .tuple S], .tuple [.none, b, .tuple E, .tuple S]] ++
  [.tuple [.str (Str.ofString "2"), .int 0, .tuple [], .tuple []]]
theorem spL_no (n : Nat) (b : D) (E S : List D) (hS : ∀ d ∈ S, StepP d) : ∀ d ∈ spL n b E S, NoWk d := by
  have hn : ∀ d ∈ ([] : List D), StepP d := fun _ m => by cases m
  refine all_app (all_app (all_app (all_app (all_app (all_app (all_app ?_ ?_) ?_) ?_) ?_) ?_) ?_) ?_
  · exact all_cons (nw_c (fun k e => by cases e; omega) (walk_p hn)) (all_cons (nw_c (fun k e => by cases e; omega) (walk_p hS)) (all_cons (nw_b (by rw [stB_i, decide_eq_false (show ¬ (n : Int) < n by omega), Bool.and_false]) (walk_p hS)) (all_cons (nw_b (by rw [stB_i]; rfl) (walk_p hS)) all_nil)))
  · exact all_cons (nw_e (goE_app _ E (-1) _ fun a => by
      rw [goE, goE, decide_eq_false (show ¬ (0 : Int) < 0 by omega)]
      simp) (walk_p hS)) (all_cons (nw_e (by
      show goE n (-1) [.int 1, .int 0] = false
      rw [goE, goE, decide_eq_false (show ¬ (1 : Int) < 0 by omega)]
      simp) (walk_p hS)) all_nil)
  · exact all_cons (nw_e (goE_app _ E (-1) _ fun a => by
      rw [goE, decide_eq_false (show ¬ (n : Int) < n by omega)]
      simp) (walk_p hS)) (all_cons (nw_e rfl (walk_p hS)) all_nil)
  · exact all_cons (nw_s rfl (walk_no fun _ _ _ _ e => by cases e)) (all_cons (nw_x rfl fun _ _ _ _ e => by cases e) (all_cons (nw_x rfl fun _ _ _ _ e => by cases e) (all_cons (nw_x rfl fun _ _ _ _ e => by cases e) all_nil)))
  · exact all_cons (nw_c (fun k e => by cases e) (walk_p hn)) (all_cons (nw_b rfl (walk_p hS)) (all_cons (nw_e rfl (walk_p hS)) (all_cons (nw_x rfl fun _ _ _ _ e => by cases e) all_nil)))
  · exact all_cons (nw_c (fun k e => by cases e; omega) (walk_p hS)) (all_cons (nw_b rfl (walk_p hS)) (all_cons (nw_e (by
      show goE n (-1) (.int (-1) :: E) = false
      rw [goE]
      rfl) (walk_p hS)) all_nil))
  · exact all_cons (nw_e rfl (walk_p hS)) (all_cons (nw_e (goE_app _ E (-1) _ fun a => rfl) (walk_p hS)) (all_cons (nw_c (fun k e => by cases e) (walk_p hS)) all_nil))
  · exact all_cons (nw_c (fun k e => by cases e) (walk_p hn)) all_nil
theorem fin_exP {α β : Type} {n : Nat} {f g : SF} {ρ : Rho} {Q : α → β → RE} {P : α → β → Prop} (ρ' : Rho) (h : f ρ = .nx ρ') (h2 : ∃ r q, finR n (g ρ') = Q r q ∧ P r q) : ∃ r q, finR n (sSeq f g ρ) = Q r q ∧ P r q := by
  obtain ⟨r, q, e, p⟩ := h2
  exact ⟨r, q, fin_seq ρ' h e, p⟩
section
variable {Fp Fw Fb : FF}
def SpoiltSp (F : FF) : Prop := ∀ (b : D) (n : Nat) (ws : List Str) (w : Wk) (s : Str), Bx b → WkOk n ws w → SgOk s → ∃ (d b' : D), F [some ⟨b, .io⟩, some ⟨w.enc, .sh⟩, some ⟨.str s, .sh⟩] = .ok (.sh d) [some ⟨b', .io⟩, none, none] ∧ Bx b' ∧ NoWk d
theorem law_spoilt_2_ok (hw : WideSp Fw) (hp : PickSp Fp) (hb : BadSp Fb) : SpoiltSp (fnF 9 3 (m_law_spoilt_2 Fw Fp Fb)) := fun b n ws w s hbx W hs => by
  have n0 := W.n0
  have n5 := W.n5
  have el := W.el
  have sl := W.len
  have sp := W.steps_p
  have we : w.enc = .tuple [.int n, .int w.begin', .tuple (w.ends.map .int), .tuple (w.steps.map encSt)] := by unfold Wk.enc; rw [W.many]
  rw [we, m_law_spoilt_2_eq]
  unfold m_law_spoilt_2
  obtain ⟨E, hE⟩ : ∃ E, E = w.ends.map PyData.int := ⟨_, rfl⟩
  have El : E.length ≤ 5 := by rw [hE, List.length_map]; exact el
  rw [← hE]
  generalize PyData.int w.begin' = bg
  obtain ⟨way, b1, e1, hb1, h1⟩ := hp b 30 hbx (by decide) (by decide)
  have e1' : Fp [some ⟨b, .io⟩, some ⟨.int 30, .sh⟩] = .ok (.sh (.int way)) [some ⟨b1, .io⟩, none] := e1
  refine fin_exP [some ⟨b, .io⟩, some ⟨.tuple [.int n, bg, .tuple E, .tuple (w.steps.map encSt)], .sh⟩, some ⟨.str s, .sh⟩, none, none, some ⟨.int n, .sh⟩, some ⟨bg, .sh⟩, some ⟨.tuple E, .sh⟩, some ⟨.tuple (w.steps.map encSt), .sh⟩] (by simp) ?_
  refine fin_exP [some ⟨b1, .io⟩, some ⟨.tuple [.int n, bg, .tuple E, .tuple (w.steps.map encSt)], .sh⟩, some ⟨.str s, .sh⟩, some ⟨.int way, .sh⟩, none, some ⟨.int n, .sh⟩, some ⟨bg, .sh⟩, some ⟨.tuple E, .sh⟩, some ⟨.tuple (w.steps.map encSt), .sh⟩] (by simp [e1']) ?_
  by_cases hway : way < 6
  · -- one step put in
    have c39 := cutD_to (w.steps.map encSt) 39
    rw [← List.map_take] at c39
    have s39 : (w.steps.take 39).length ≤ 39 := by rw [List.length_take]; omega
    have in39 : ∀ x ∈ w.steps.take 39, x.2.1 ∈ ws := fun x m => (W.st.fr x (List.mem_of_mem_take m)).2.2
    have p39 : ∀ d ∈ (w.steps.take 39).map encSt, StepP d := fun d m => by
      obtain ⟨x, mx, rfl⟩ := List.mem_map.mp m
      exact step_p W.sg (in39 x mx)
    generalize w.steps.take 39 = ss at c39 s39 in39 p39
    obtain ⟨k, b2, e2, hb2, hk⟩ := hp b1 (ss.length + 1) hb1 (by omega) (by omega)
    have e2' : Fp [some ⟨b1, .io⟩, some ⟨.int ((ss.length : Int) + 1), .sh⟩] = .ok (.sh (.int k)) [some ⟨b2, .io⟩, none] := by rw [← e2]; simp
    obtain ⟨d, b3, e3, hb3, hd⟩ := hb b2 n ws ss s hb2 n0 (by omega) (by omega) hs W.sg in39
    have ml : (ss.map encSt).length = ss.length := by rw [List.length_map]
    have oki : okI (k : Int) = true := okI_nat (by omega)
    have z : (ss.map encSt).length < sizeLine := fitsl (by rw [ml]; omega)
    have z' : ss.length < sizeLine := fitsl (by omega)
    have wl : (way : Int) < 6 := by omega
    refine ⟨.tuple [.int n, bg, .tuple E, .tuple ((ss.map encSt).take k ++ [d] ++ (ss.map encSt).drop k)], b3, ?_, hb3, ?_⟩
    · have c39' : cutD (w.steps.map encSt) none (some 39) = ss.map encSt := c39
      generalize w.steps.map encSt = SS at c39'
      generalize ss.map encSt = S3 at c39' e3 ml z
      simp [wl, c39', ml, e2', e3, oki, z']
    · have hab := List.take_append_drop k (ss.map encSt)
      rw [List.append_assoc, List.singleton_append]
      refine nw_s ?_ (walk_p ?_)
      · unfold stepsB
        dsimp only
        rcases hd with hd | ⟨x, mx, r, rfl⟩
        · rw [goS_bad _ hd.1, Bool.and_false]
        · rw [goS_two _ hab mx, Bool.and_false]
      · refine all_app (fun y m => p39 y (List.mem_of_mem_take m)) (all_cons ?_ fun y m => p39 y (List.mem_of_mem_drop m))
        rcases hd with hd | ⟨x, mx, r, rfl⟩
        · exact hd.2
        · exact step_p W.sg (show (x.1, x.2.1, r).2.1 ∈ ws from in39 x mx)
  · have wl : ¬ (way : Int) < 6 := by omega
    refine fin_exP [some ⟨b1, .io⟩, some ⟨.tuple [.int n, bg, .tuple E, .tuple (w.steps.map encSt)], .sh⟩, some ⟨.str s, .sh⟩, some ⟨.int way, .sh⟩, none, some ⟨.int n, .sh⟩, some ⟨bg, .sh⟩, some ⟨.tuple E, .sh⟩, some ⟨.tuple (w.steps.map encSt), .sh⟩] (by simp [wl]) ?_
    have no := spL_no n bg E (w.steps.map encSt) sp
    generalize w.steps.map encSt = S at no
    have z6 : ∀ k : Nat, k ≤ 100 → k ≤ sizeLine := fun k h => fits (by omega)
    have z6' : ∀ k : Nat, k ≤ 100 → k < sizeLine := fun k h => fitsl (by omega)
    have zE1 : E.length + 1 ≤ sizeLine := z6 _ (by omega)
    have zE2 : E.length + 2 ≤ sizeLine := z6 _ (by omega)
    have zE3 : 1 + E.length ≤ sizeLine := z6 _ (by omega)
    have cE : cutD (E ++ [.int 0, .int 0]) (some (-1)) none = [.int 0] := by
      unfold cutD
      rw [HT.sIx_none]
      have hx : HT.sIx (E ++ [PyData.int 0, PyData.int 0]).length 0 (some (-1)) = E.length + 1 := by
        unfold HT.sIx
        simp
        omega
      rw [hx, List.drop_append, List.drop_of_length_le (by omega), Nat.add_sub_cancel_left]
      simp
    have mE : mulA (.tuple [.int 0]) (.int 2) = some (.sh (.tuple [.int 0, .int 0])) := rfl
    let st := fun L : List D => ([some ⟨b1, .io⟩, some ⟨.tuple [.int n, bg, .tuple E, .tuple S], .sh⟩, some ⟨.str s, .sh⟩, some ⟨.int way, .sh⟩, some ⟨.list L, .ow⟩, some ⟨.int n, .sh⟩, some ⟨bg, .sh⟩, some ⟨.tuple E, .sh⟩, some ⟨.tuple S, .sh⟩] : Rho)
    obtain ⟨M1, h1'⟩ : ∃ L, L = (spL n bg E S).take 4 := ⟨_, rfl⟩
    obtain ⟨M2, h2'⟩ : ∃ L, L = (spL n bg E S).take 6 := ⟨_, rfl⟩
    obtain ⟨M3, h3'⟩ : ∃ L, L = (spL n bg E S).take 8 := ⟨_, rfl⟩
    obtain ⟨M4, h4'⟩ : ∃ L, L = (spL n bg E S).take 12 := ⟨_, rfl⟩
    obtain ⟨M5, h5'⟩ : ∃ L, L = (spL n bg E S).take 16 := ⟨_, rfl⟩
    obtain ⟨M6, h6'⟩ : ∃ L, L = (spL n bg E S).take 19 := ⟨_, rfl⟩
    obtain ⟨M7, h7'⟩ : ∃ L, L = (spL n bg E S).take 22 := ⟨_, rfl⟩
    have a1 : M1.length = 4 := by rw [h1']; rfl
    have a2 : M2.length = 6 := by rw [h2']; rfl
    have a3 : M3.length = 8 := by rw [h3']; rfl
    have a4 : M4.length = 12 := by rw [h4']; rfl
    have a5 : M5.length = 16 := by rw [h5']; rfl
    have a6 : M6.length = 19 := by rw [h6']; rfl
    have a7 : M7.length = 22 := by rw [h7']; rfl
    refine fin_exP (st M1) (by rw [h1', show (spL n bg E S).take 4 = [.tuple [.int 0, .int 0, .tuple [], .tuple []], .tuple [.int 6, bg, .tuple E, .tuple S], .tuple [.int n, .int n, .tuple E, .tuple S], .tuple [.int n, .int (-1), .tuple E, .tuple S]] from rfl]; simp [st]) ?_
    refine fin_exP (st M2) (by rw [h2', show (spL n bg E S).take 6 = (spL n bg E S).take 4 ++ [.tuple [.int n, bg, .tuple (E ++ [.int 0, .int 0]), .tuple S], .tuple [.int n, bg, .tuple [.int 1, .int 0], .tuple S]] from rfl, ← h1']; simp [st, a1, z6, zE2, cE, mE]) ?_
    refine fin_exP (st M3) (by rw [h3', show (spL n bg E S).take 8 = (spL n bg E S).take 6 ++ [.tuple [.int n, bg, .tuple (E ++ [.int n]), .tuple S], .tuple [.int n, bg, .list E, .tuple S]] from rfl, ← h2']; simp [st, a2, z6, zE1]) ?_
    refine fin_exP (st M4) (by rw [h4', show (spL n bg E S).take 12 = (spL n bg E S).take 8 ++ [.tuple [.int n, bg, .tuple E, .list S], .list [.int n, bg, .tuple E, .tuple S], .tuple [.int n, bg, .tuple E], .tuple [.int n, bg, .tuple E, .tuple S, .none]] from rfl, ← h3']; have c3 := cutD_to [PyData.int n, bg, .tuple E, .tuple S] 3; have c3' : cutD [PyData.int n, bg, .tuple E, .tuple S] none (some 3) = [.int n, bg, .tuple E] := c3; simp [st, a3, z6, c3']) ?_
    refine fin_exP (st M5) (by rw [h5', show (spL n bg E S).take 16 = (spL n bg E S).take 12 ++ [.tuple [.bool true, .int 0, .tuple [], .tuple []], .tuple [.int n, .bool false, .tuple E, .tuple S], .tuple [.int n, bg, .tuple [.bool false], .tuple S], .none] from rfl, ← h4']; simp [st, a4, z6]) ?_
    refine fin_exP (st M6) (by rw [h6', show (spL n bg E S).take 19 = (spL n bg E S).take 16 ++ [.tuple [.int (-1), bg, .tuple E, .tuple S], .tuple [.int n, .none, .tuple E, .tuple S], .tuple [.int n, bg, .tuple (.int (-1) :: E), .tuple S]] from rfl, ← h5']; simp [st, a5, z6, zE3]) ?_
    refine fin_exP (st M7) (by rw [h7', show (spL n bg E S).take 22 = (spL n bg E S).take 19 ++ [.tuple [.int n, bg, .tuple [.none], .tuple S], .tuple [.int n, bg, .tuple (E ++ [.str (Str.ofString "0")]), .tuple S], .tuple [.none, bg, .tuple E, .tuple S]] from rfl, ← h6']; simp [st, a6, z6, zE1]) ?_
    refine fin_exP (st (spL n bg E S)) (by rw [show spL n bg E S = (spL n bg E S).take 22 ++ [.tuple [.str (Str.ofString "2"), .int 0, .tuple [], .tuple []]] from rfl, ← h7']; simp [st, a7, z6]) ?_
    have bl : (spL n bg E S).length = 23 := rfl
    by_cases h29 : way < 29
    · have i29 : (way : Int) < 29 := by omega
      have er : L2.atI (spL n bg E S) ((way : Int) - 6) = some ((spL n bg E S)[way - 6]'(by rw [bl]; omega)) := by
        rw [show (way : Int) - 6 = ((way - 6 : Nat) : Int) by omega]
        exact atI_nat (List.getElem?_eq_getElem (by rw [bl]; omega))
      have mr : (spL n bg E S)[way - 6]'(by rw [bl]; omega) ∈ spL n bg E S := List.getElem_mem _
      have no' := no _ mr
      generalize (spL n bg E S)[way - 6]'(by rw [bl]; omega) = d at er no'
      refine ⟨d, b1, ?_, hb1, no'⟩
      generalize spL n bg E S = BL at er
      simp [st, i29, er]
    · have i29 : ¬ (way : Int) < 29 := by omega
      obtain ⟨d, b2, e2, hb2, wp, wb⟩ := hw b1 41 hb1 (.inr rfl)
      have e2' : Fw [some ⟨b1, .io⟩, some ⟨.int 41, .sh⟩] = .ok (.sh d) [some ⟨b2, .io⟩, none] := e2
      refine ⟨d, b2, ?_, hb2, by rw [wb]; rfl, wp⟩
      generalize spL n bg E S = BL
      simp [st, i29, e2']
end
end GX
namespace GM
open PySem L2 GS
/-- _law_anywhere(box, walker, sign); slots 0:box 1:walker 2:sign 3:letter 4:odd 5:new 6:way 7:at 8:step 9:part 10:count 11:begin 12:ends 13:steps -/
def m_law_anywhere_2 (F__law_pick : FF) : SF := (sSeq (sUnp (gT 4 (gsC (gN 10) (gsC (gN 11) (gsC (gN 12) (gsC (gN 13) gsN))))) (eMv 1)) (sSeq (sSet 3 (eBin ixA (eC (.str (Str.ofString "abcdefghijklmnopqrstuvwxyz {"))) (eCall 2 (some 0) F__law_pick (aCons (eVb 0) (aCons (eC (.int 28)) aNil))))) (sSeq (sSet 4 (eLst (aCons (eBin subD (eCall 2 (some 0) F__law_pick (aCons (eVb 0) (aCons (eC (.int 7)) aNil))) (eC (.int 1))) (aCons (eC (.bool true)) (aCons (eC .none) (aCons (eMv 2) (aCons (eBin addD (eVb 2) (eC (.str (Str.ofString "Z")))) (aCons (eC (.str (Str.ofString ""))) (aCons (eBin addD (eSl (eVb 2) none (some (eNeg (eC (.int 1))))) (eVb 3)) aNil))))))))) (sSeq (sSet 5 (eBin ixA (eVb 4) (eCall 2 (some 0) F__law_pick (aCons (eVb 0) (aCons (eC (.int 7)) aNil))))) (sSeq (sSet 6 (eCall 2 (some 0) F__law_pick (aCons (eVb 0) (aCons (eC (.int 6)) aNil)))) (sSeq (sKill [7] (sIf (eB (eBin (ltI fun i j => decide (i < j)) (eVb 6) (eC (.int 2)))) (sSeq (sSet 7 (eCall 2 (some 0) F__law_pick (aCons (eVb 0) (aCons (eBin addD (eCB (un1 lenD) (aCons (eVb 12) aNil)) (eC (.int 1))) aNil)))) (sEnd (sRet (eTup (aCons (eMv 10) (aCons (eMv 11) (aCons (eBin addD (eBin addD (eSl (eVb 12) none (some (eVb 7))) (eTup (aCons (eMv 5) aNil))) (eSl (eVb 12) (some (eBin addD (eVb 7) (eVb 6))) none)) (aCons (eMv 13) aNil)))))))) sNil)) (sSeq (sIf (eB (eBin (eqB false) (eVb 6) (eC (.int 2)))) (sEnd (sRet (eBin ixA (eLst (aCons (eTup (aCons (eMv 5) (aCons (eMv 11) (aCons (eMv 12) (aCons (eMv 13) aNil))))) (aCons (eTup (aCons (eMv 10) (aCons (eMv 5) (aCons (eMv 12) (aCons (eMv 13) aNil))))) aNil))) (eCall 2 (some 0) F__law_pick (aCons (eVb 0) (aCons (eC (.int 2)) aNil)))))) sNil) (sSeq (sSet 7 (eCall 2 (some 0) F__law_pick (aCons (eVb 0) (aCons (eBin addD (eCB (un1 lenD) (aCons (eVb 13) aNil)) (eC (.int 1))) aNil)))) (sSeq (sSet 8 (eBin ixA (eBin addD (eVb 13) (eTup (aCons (eTup (aCons (eC (.int 0)) (aCons (eMv 2) (aCons (eC (.int 0)) aNil)))) aNil))) (eVb 7))) (sSeq (sSet 9 (eCall 2 (some 0) F__law_pick (aCons (eVb 0) (aCons (eC (.int 3)) aNil)))) (sSeq (sIf (eB (eBin (eqB false) (eVb 6) (eC (.int 3)))) (sSet 8 (eBin addD (eBin addD (eSl (eVb 8) none (some (eVb 9))) (eTup (aCons (eMv 5) aNil))) (eSl (eVb 8) (some (eBin addD (eVb 9) (eC (.int 1)))) none))) sNil) (sSeq (sIf (eB (eBin (eqB false) (eVb 6) (eC (.int 4)))) (sSet 8 (eBin addD (eBin addD (eSl (eVb 8) none (some (eVb 9))) (eSl (eVb 8) (some (eBin addD (eVb 9) (eCall 2 (some 0) F__law_pick (aCons (eVb 0) (aCons (eC (.int 2)) aNil))))) none)) (eBin mulU (eTup (aCons (eC (.int 0)) aNil)) (eCall 2 (some 0) F__law_pick (aCons (eVb 0) (aCons (eC (.int 2)) aNil)))))) sNil) (sEnd (sRet (eTup (aCons (eMv 10) (aCons (eMv 11) (aCons (eMv 12) (aCons (eBin addD (eBin addD (eSl (eVb 13) none (some (eVb 7))) (eTup (aCons (eMv 8) aNil))) (eSl (eVb 13) (some (eBin addD (eVb 7) (eCall 2 (some 0) F__law_pick (aCons (eVb 0) (aCons (eC (.int 2)) aNil))))) none)) aNil)))))))))))))))))))
theorem m_law_anywhere_2_eq (F__law_pick : FF) (ρ : Rho) : fnF 14 3 (m_law_anywhere_2 F__law_pick) ρ = finR 3 (m_law_anywhere_2 F__law_pick (ρ ++ [none, none, none, none, none, none, none, none, none, none, none])) := fnF_eq 14 3 _
/-- law(script); slots 0:script 1:box 2:count 3:signs 4:walker 5:plain 6:bad 7:turn 8:thing 9:due 10:told 11:shown 12:sign -/
def m_law_k80_b1 (F__law_due F_is_walker F__law_anywhere F__law_wide F__law_spoilt F__law_walker F__law_pick F__law_words F__law_box : FF) : SF := (sKill [7, 8, 10, 11] (sSeq (sSet 8 (eCall 3 (some 0) F__law_anywhere (aCons (eVb 1) (aCons (eMv 4) (aCons (eBin ixA (eVb 3) (eC (.int 0))) aNil))))) (sSeq (sSet 11 (eCB (un1 reprD) (aCons (eVb 8) aNil))) (sSeq (sSet 10 (eCall 1 none F_is_walker (aCons (eMv 8) aNil))) (sIf (eOr (eNot (eB (eIsi isBool (eVb 10)))) (eOr (eB (eBin (eqB true) (eVb 10) (eCall 1 none F__law_due (aCons (eMv 8) aNil)))) (eB (eBin (eqB true) (eCB (un1 reprD) (aCons (eVb 8) aNil)) (eVb 11))))) (sEnd (sRet (eC (.bool false)))) sNil)))))
def m_law_k80_b2 (F__law_due F_is_walker F__law_anywhere F__law_wide F__law_spoilt F__law_walker F__law_pick F__law_words F__law_box : FF) : SF := (sKill [8, 9, 10] (sSeq (sSet 10 (eCall 1 none F_is_walker (aCons (eMv 8) aNil))) (sIf (eOr (eNot (eB (eIsi isBool (eVb 10)))) (eB (eBin (eqB true) (eVb 10) (eVb 9)))) (sEnd (sRet (eC (.bool false)))) sNil)))
def m_law_k80_ce3 (F__law_due F_is_walker F__law_anywhere F__law_wide F__law_spoilt F__law_walker F__law_pick F__law_words F__law_box : FF) : EF := (eSl (eBin addD (eVb 12) (eC (.str (Str.ofString "xxxxx")))) none (some (eC (.int 6))))
def m_law_k80 (F__law_due F_is_walker F__law_anywhere F__law_wide F__law_spoilt F__law_walker F__law_pick F__law_words F__law_box : FF) : SF := (sSeq (sSet 1 (eCall 1 none F__law_box (aCons (eMv 0) aNil))) (sSeq (sSet 2 (eBin addD (eC (.int 1)) (eCall 2 (some 0) F__law_pick (aCons (eVb 1) (aCons (eC (.int 5)) aNil))))) (sSeq (sSet 3 (eCall 4 (some 0) F__law_words (aCons (eVb 1) (aCons (eC (.str (Str.ofString "abcdefghijklmnopqrstuvwxyz"))) (aCons (eC (.str (Str.ofString "q"))) (aCons (eBin addD (eC (.int 1)) (eCall 2 (some 0) F__law_pick (aCons (eVb 1) (aCons (eC (.int 8)) aNil)))) aNil)))))) (sSeq (sIf (eB (eBin (eqB false) (eCall 2 (some 0) F__law_pick (aCons (eVb 1) (aCons (eC (.int 3)) aNil))) (eC (.int 0)))) (sSet 3 (eLc [12] (iSq (eMv 3)) (gN 12) (eNox eYes) (eNox (m_law_k80_ce3 F__law_due F_is_walker F__law_anywhere F__law_wide F__law_spoilt F__law_walker F__law_pick F__law_words F__law_box)))) sNil) (sSeq (sSet 4 (eCall 3 (some 0) F__law_walker (aCons (eVb 1) (aCons (eMv 2) (aCons (eMv 3) aNil))))) (sSeq (sSet 5 (eTup (aCons (eMv 2) (aCons (eBin ixA (eVb 4) (eC (.int 1))) (aCons (eTup aNil) (aCons (eTup aNil) aNil)))))) (sSeq (sSet 6 (eCall 3 (some 0) F__law_spoilt (aCons (eVb 1) (aCons (eMv 4) (aCons (eBin ixA (eVb 3) (eC (.int 0))) aNil))))) (sSeq (sFor (iSq (eLst (aCons (eTup (aCons (eMv 4) (aCons (eC (.bool true)) aNil))) (aCons (eTup (aCons (eMv 5) (aCons (eC (.bool true)) aNil))) (aCons (eTup (aCons (eCall 2 (some 0) F__law_wide (aCons (eVb 1) (aCons (eC (.int 40)) aNil))) (aCons (eC (.bool true)) aNil))) (aCons (eTup (aCons (eMv 6) (aCons (eC (.bool false)) aNil))) (aCons (eTup (aCons (eMv 4) (aCons (eC (.bool true)) aNil))) aNil))))))) (gT 2 (gsC (gN 8) (gsC (gN 9) gsN))) (m_law_k80_b2 F__law_due F_is_walker F__law_anywhere F__law_wide F__law_spoilt F__law_walker F__law_pick F__law_words F__law_box)) (sSeq (sFor (iR1 (eC (.int 12))) (gN 7) (m_law_k80_b1 F__law_due F_is_walker F__law_anywhere F__law_wide F__law_spoilt F__law_walker F__law_pick F__law_words F__law_box)) (sEnd (sRet (eC (.bool true)))))))))))))
theorem m_law_k80_eq (F__law_due F_is_walker F__law_anywhere F__law_wide F__law_spoilt F__law_walker F__law_pick F__law_words F__law_box : FF) (ρ : Rho) : fnF 13 1 (m_law_k80 F__law_due F_is_walker F__law_anywhere F__law_wide F__law_spoilt F__law_walker F__law_pick F__law_words F__law_box) ρ = finR 1 (m_law_k80 F__law_due F_is_walker F__law_anywhere F__law_wide F__law_spoilt F__law_walker F__law_pick F__law_words F__law_box (ρ ++ [none, none, none, none, none, none, none, none, none, none, none, none])) := fnF_eq 13 1 _
end GM
namespace GX
open PySem L2 GS GM
def stL (s : GM.Step) : List D := [.int s.1, .str s.2.1, .int s.2.2]
theorem encSt_L (ss : List GM.Step) : ss.map encSt = (ss.map stL).map .tuple := by rw [List.map_map]; rfl
theorem cut_map {α : Type} (f : α → D) (S : List α) (lo hi : Option Int) : ∃ S' : List α, cutD (S.map f) lo hi = S'.map f ∧ (∀ x ∈ S', x ∈ S) ∧ S'.length ≤ S.length := by
  refine ⟨(S.drop (HT.sIx S.length 0 lo)).take (HT.sIx S.length S.length hi - HT.sIx S.length 0 lo), ?_, fun x m => List.mem_of_mem_drop (List.mem_of_mem_take m), ?_⟩
  · unfold cutD
    rw [List.length_map, List.map_take, List.map_drop]
  · rw [List.length_take, List.length_drop]; omega
theorem fin_exR {α β γ δ ε : Type} {n : Nat} {f g : SF} {ρ : Rho} {Q : α → β → γ → δ → ε → RE} {P : α → β → γ → δ → ε → Prop} (ρ' : Rho) (h : f ρ = .nx ρ') (h2 : ∃ a b c d e, finR n (g ρ') = Q a b c d e ∧ P a b c d e) : ∃ a b c d e, finR n (sSeq f g ρ) = Q a b c d e ∧ P a b c d e := by
  obtain ⟨a, b, c, d, e, q, p⟩ := h2
  exact ⟨a, b, c, d, e, fin_seq ρ' h q, p⟩
def AllL (m : Nat) (ds : List D) : Prop := ds.length ≤ m ∧ ∀ d ∈ ds, LfB d = true
theorem AllL.app {m k : Nat} {a b : List D} (h : AllL m a) (g : AllL k b) : AllL (m + k) (a ++ b) := ⟨by have := h.1; have := g.1; rw [List.length_append]; omega, all_app h.2 g.2⟩
theorem AllL.one {d : D} (h : LfB d = true) : AllL 1 [d] := ⟨Nat.le_refl _, fun x m => by rw [List.mem_singleton] at m; subst m; exact h⟩
theorem AllL.cut {m : Nat} {a : List D} (h : AllL m a) (lo hi : Option Int) : AllL m (cutD a lo hi) := ⟨Nat.le_trans (cutD_len a lo hi) h.1, fun d md => h.2 d (cutD_mem md)⟩
theorem lf_i {i : Int} (h : -100 ≤ i ∧ i ≤ 100) : LfB (.int i) = true := by
  rw [show LfB (.int i) = (decide (-100 ≤ i) && decide (i ≤ 100)) from rfl, decide_eq_true h.1, decide_eq_true h.2]; rfl
theorem lf_s {w : Str} (h1 : PyData.strOk w = true) (h2 : w.length ≤ 20) : LfB (.str w) = true := by
  rw [show LfB (.str w) = (PyData.strOk w && decide (w.length ≤ 20)) from rfl, h1, decide_eq_true h2]; rfl
section
variable {Fp Fw Fb Fd Fi Fa Fs Fk Fx : FF}
def AnySp (F : FF) : Prop := ∀ (b : D) (n : Nat) (ws : List Str) (w : Wk) (s : Str), Bx b → WkOk n ws w → SgOk s → ∃ (c bg : D) (es : List D) (ss : List (List D)) (b' : D), F [some ⟨b, .io⟩, some ⟨w.enc, .sh⟩, some ⟨.str s, .sh⟩] = .ok (.sh (Th c bg es ss)) [some ⟨b', .io⟩, none, none] ∧ Bx b' ∧ ThOk c bg es ss
theorem odd_lf {s : Str} (hs : SgOk s) (i : Int) (hi : -1 ≤ i ∧ i ≤ 5) (ch : Nat) (hc : ch = 32 ∨ ch = 123 ∨ (97 ≤ ch ∧ ch ≤ 122)) : ∀ d ∈ [PyData.int i, .bool true, .none, .str s, .str (s ++ Str.ofString "Z"), .str (Str.ofString ""), .str (cutS s none (some (-1)) ++ ⟨#[ch]⟩)], LfB d = true := by
  have hl := hs.len
  have l1 : (Str.ofString "Z").length = 1 := by decide +kernel
  refine all_cons (lf_i (by omega)) (all_cons rfl (all_cons rfl (all_cons (lf_s hs.so (by omega)) (all_cons (lf_s (strOk_of fun c m => ?_) (by rw [app_len, l1]; omega)) (all_cons (by decide +kernel) (all_cons (lf_s (strOk_of fun c m => ?_) ?_) all_nil))))))
  · rw [app_cps] at m
    rcases List.mem_append.mp m with m | m
    · have := hs.chr c m; omega
    · rw [show (Str.ofString "Z").cps.toList = [90] from by decide +kernel, List.mem_singleton] at m; omega
  · rw [app_cps] at m
    rcases List.mem_append.mp m with m | m
    · have : c ∈ s.cps.toList := by
        unfold cutS at m
        simp only [List.toList_toArray] at m
        exact List.mem_of_mem_drop (List.mem_of_mem_take m)
      have := hs.chr c this; omega
    · simp at m; omega
  · have := cut_len s none (some (-1))
    rw [app_len, one_len]; omega
theorem law_anywhere_2_ok (hp : PickSp Fp) : AnySp (fnF 14 3 (m_law_anywhere_2 Fp)) := fun b n ws w s hbx W hs => by
  have n0 := W.n0
  have n5 := W.n5
  have el := W.el
  have sl := W.len
  have hl := hs.len
  have we : w.enc = .tuple [.int n, .int w.begin', .tuple (w.ends.map .int), .tuple ((w.steps.map stL).map .tuple)] := by unfold Wk.enc; rw [W.many, ← encSt_L]
  rw [we, m_law_anywhere_2_eq]
  unfold m_law_anywhere_2
  have hn : LfB (.int n) = true := lf_i (by omega)
  have hbg : LfB (.int w.begin') = true := lf_i (by have := W.b0; have := W.b1; omega)
  have hE : AllL 5 (w.ends.map .int) := ⟨by rw [List.length_map]; exact el, fun d m => by
    obtain ⟨i, mi, rfl⟩ := List.mem_map.mp m
    have := W.ends
    rw [goE_adj, Bool.and_eq_true, List.all_eq_true] at this
    have := this.1 i mi
    rw [stB_i, Bool.and_eq_true, decide_eq_true_eq, decide_eq_true_eq] at this
    exact lf_i (by omega)⟩
  have hS : (w.steps.map stL).length ≤ 40 ∧ ∀ t ∈ w.steps.map stL, AllL 3 t := ⟨by rw [List.length_map]; exact sl, fun t m => by
    obtain ⟨x, mx, rfl⟩ := List.mem_map.mp m
    obtain ⟨a1, a2, a3⟩ := W.st.fr x mx
    obtain ⟨b1, b2⟩ := W.st.to x mx
    have sx := W.sg _ a3
    exact ⟨by simp [stL], all_cons (lf_i (by omega)) (all_cons (lf_s sx.so (by have := sx.len; omega)) (all_cons (lf_i (by omega)) all_nil))⟩⟩
  generalize PyData.int w.begin' = bg at hbg
  generalize hEE : w.ends.map PyData.int = E at hE
  generalize w.steps.map stL = S at hS
  clear hEE
  obtain ⟨hS1, hS2⟩ := hS
  obtain ⟨SS, hSS⟩ : ∃ SS, SS = S.map PyData.tuple := ⟨_, rfl⟩
  rw [← hSS]
  have El := hE.1
  obtain ⟨r1, b1, e1, hb1, h1⟩ := hp b 28 hbx (by decide) (by decide)
  have e1' : Fp [some ⟨b, .io⟩, some ⟨.int 28, .sh⟩] = .ok (.sh (.int r1)) [some ⟨b1, .io⟩, none] := e1
  obtain ⟨r2, b2, e2, hb2, h2⟩ := hp b1 7 hb1 (by decide) (by decide)
  have e2' : Fp [some ⟨b1, .io⟩, some ⟨.int 7, .sh⟩] = .ok (.sh (.int r2)) [some ⟨b2, .io⟩, none] := e2
  obtain ⟨r3, b3, e3, hb3, h3⟩ := hp b2 7 hb2 (by decide) (by decide)
  have e3' : Fp [some ⟨b2, .io⟩, some ⟨.int 7, .sh⟩] = .ok (.sh (.int r3)) [some ⟨b3, .io⟩, none] := e3
  obtain ⟨way, b4, e4, hb4, h4⟩ := hp b3 6 hb3 (by decide) (by decide)
  have e4' : Fp [some ⟨b3, .io⟩, some ⟨.int 6, .sh⟩] = .ok (.sh (.int way)) [some ⟨b4, .io⟩, none] := e4
  let base := fun (bb : D) (x3 x4 x5 x6 x7 x8 x9 : Option Cel) => ([some ⟨bb, .io⟩, some ⟨.tuple [.int n, bg, .tuple E, .tuple SS], .sh⟩, some ⟨.str s, .sh⟩, x3, x4, x5, x6, x7, x8, x9, some ⟨.int n, .sh⟩, some ⟨bg, .sh⟩, some ⟨.tuple E, .sh⟩, some ⟨.tuple SS, .sh⟩] : Rho)
  refine fin_exR (base b none none none none none none none) (by simp [base]) ?_
  -- the letter
  have ll : (Str.ofString "abcdefghijklmnopqrstuvwxyz {").cps.toList.length = 28 := by decide +kernel
  obtain ⟨ch, hch, mch⟩ : ∃ ch, L2.atI (Str.ofString "abcdefghijklmnopqrstuvwxyz {").cps.toList (r1 : Int) = some ch ∧ ch ∈ (Str.ofString "abcdefghijklmnopqrstuvwxyz {").cps.toList := ⟨_, atI_nat (List.getElem?_eq_getElem (by omega)), List.getElem_mem (by omega)⟩
  have hch2 : ch = 32 ∨ ch = 123 ∨ (97 ≤ ch ∧ ch ≤ 122) := by
    have : ∀ c ∈ (Str.ofString "abcdefghijklmnopqrstuvwxyz {").cps.toList, c = 32 ∨ c = 123 ∨ (97 ≤ c ∧ c ≤ 122) := by decide +kernel
    exact this ch mch
  have lz : (Str.ofString "abcdefghijklmnopqrstuvwxyz {").length ≤ sizeLine := by rw [len_eq, ll]; decide
  refine fin_exR (base b1 (some ⟨.str ⟨#[ch]⟩, .sh⟩) none none none none none none) (by
    generalize Str.ofString "abcdefghijklmnopqrstuvwxyz {" = LT at hch lz
    simp [base, e1', hch, lz]) ?_
  -- what is put in
  have z1 : s.length + (Str.ofString "Z").length ≤ sizeLine := fits (by rw [show (Str.ofString "Z").length = 1 from by decide +kernel]; omega)
  have z2 : (cutS s none (some (-1))).length + 1 ≤ sizeLine := fits (by have := cut_len s none (some (-1)); omega)
  have z3 : s.length ≤ sizeLine := fits (by omega)
  obtain ⟨od, hod⟩ : ∃ od, od = [PyData.int ((r2 : Int) - 1), .bool true, .none, .str s, .str (s ++ Str.ofString "Z"), .str (Str.ofString ""), .str (cutS s none (some (-1)) ++ ⟨#[ch]⟩)] := ⟨_, rfl⟩
  have ol : od.length = 7 := by rw [hod]; rfl
  have of := odd_lf hs ((r2 : Int) - 1) (by omega) ch hch2
  rw [← hod] at of
  refine fin_exR (base b2 (some ⟨.str ⟨#[ch]⟩, .sh⟩) (some ⟨.list od, .ow⟩) none none none none none) (by
    rw [hod]
    simp [base, e2', z1, z2, z3, one_len]) ?_
  obtain ⟨nw, hnw, mnw⟩ : ∃ d, L2.atI od (r3 : Int) = some d ∧ d ∈ od := ⟨_, atI_nat (List.getElem?_eq_getElem (by omega)), List.getElem_mem (by omega)⟩
  have lnw := of nw mnw
  clear hod
  refine fin_exR (base b3 (some ⟨.str ⟨#[ch]⟩, .sh⟩) (some ⟨.list od, .ow⟩) (some ⟨nw, .sh⟩) none none none none) (by simp [base, e3', hnw]) ?_
  refine fin_exR (base b4 (some ⟨.str ⟨#[ch]⟩, .sh⟩) (some ⟨.list od, .ow⟩) (some ⟨nw, .sh⟩) (some ⟨.int way, .sh⟩) none none none) (by simp [base, e4']) ?_
  have z6 : ∀ k : Nat, k ≤ 200 → k ≤ sizeLine := fun k h => fits (by omega)
  have okS : ∀ t ∈ S, t.length ≤ 10 ∧ ∀ d ∈ t, LfB d = true := fun t m => ⟨by have := (hS2 t m).1; omega, (hS2 t m).2⟩
  by_cases hw2 : way < 2
  · have hw2' : (way : Int) < 2 := by omega
    obtain ⟨k, b5, e5, hb5, hk⟩ := hp b4 (E.length + 1) hb4 (by omega) (by omega)
    have e5' : Fp [some ⟨b4, .io⟩, some ⟨.int ((E.length : Int) + 1), .sh⟩] = .ok (.sh (.int k)) [some ⟨b5, .io⟩, none] := by rw [← e5]; simp
    have c1 := hE.cut none (some (k : Int))
    have c2 := hE.cut (some ((k : Int) + (way : Int))) none
    have l1 := c1.1
    have l2 := c2.1
    have all := (c1.app (.one lnw)).app c2
    generalize hc1 : cutD E none (some (k : Int)) = A at *
    generalize hc2 : cutD E (some ((k : Int) + (way : Int))) none = B at *
    have y1 : A.length + 1 ≤ sizeLine := z6 _ (by omega)
    have y2 : A.length + 1 + B.length ≤ sizeLine := z6 _ (by omega)
    refine ⟨.int n, bg, A ++ [nw] ++ B, S, b5, ?_, hb5, ⟨hn, hbg, all.2, by have := all.1; omega, okS, by omega⟩⟩
    unfold Th
    rw [← hSS]
    simp [base, hw2', e5', hc1, hc2, y1, y2]
  · have hw2' : ¬ (way : Int) < 2 := by omega
    refine fin_exR (base b4 (some ⟨.str ⟨#[ch]⟩, .sh⟩) (some ⟨.list od, .ow⟩) (some ⟨nw, .sh⟩) (some ⟨.int way, .sh⟩) none none none) (by simp [base, hw2']) ?_
    by_cases hw3 : way = 2
    · subst hw3
      obtain ⟨k, b5, e5, hb5, hk⟩ := hp b4 2 hb4 (by decide) (by decide)
      have e5' : Fp [some ⟨b4, .io⟩, some ⟨.int 2, .sh⟩] = .ok (.sh (.int k)) [some ⟨b5, .io⟩, none] := e5
      by_cases k0 : k = 0
      · subst k0
        refine ⟨nw, bg, E, S, b5, ?_, hb5, ⟨lnw, hbg, hE.2, by omega, okS, by omega⟩⟩
        unfold Th
        rw [← hSS]
        simp [base, e5']
      · have k1 : k = 1 := by omega
        subst k1
        refine ⟨.int n, nw, E, S, b5, ?_, hb5, ⟨hn, lnw, hE.2, by omega, okS, by omega⟩⟩
        unfold Th
        rw [← hSS]
        have a1 : ∀ x y : D, L2.atI [x, y] 1 = some y := fun _ _ => rfl
        simp [base, e5', a1]
    · have hw3' : ¬ (way : Int) = 2 := by omega
      refine fin_exR (base b4 (some ⟨.str ⟨#[ch]⟩, .sh⟩) (some ⟨.list od, .ow⟩) (some ⟨nw, .sh⟩) (some ⟨.int way, .sh⟩) none none none) (by simp [base, hw3']) ?_
      have Sl : SS.length = S.length := by rw [hSS, List.length_map]
      obtain ⟨k, b5, e5, hb5, hk⟩ := hp b4 (S.length + 1) hb4 (by omega) (by omega)
      have e5' : Fp [some ⟨b4, .io⟩, some ⟨.int ((S.length : Int) + 1), .sh⟩] = .ok (.sh (.int k)) [some ⟨b5, .io⟩, none] := by rw [← e5]; simp
      refine fin_exR (base b5 (some ⟨.str ⟨#[ch]⟩, .sh⟩) (some ⟨.list od, .ow⟩) (some ⟨nw, .sh⟩) (some ⟨.int way, .sh⟩) (some ⟨.int k, .sh⟩) none none) (by
        simp [base, Sl, e5']) ?_
      -- the step
      obtain ⟨t, ht, lt⟩ : ∃ t : List D, L2.atI (SS ++ [.tuple [.int 0, .str s, .int 0]]) (k : Int) = some (.tuple t) ∧ AllL 3 t := by
        by_cases hks : k < S.length
        · exact ⟨S[k], atI_nat (by rw [List.getElem?_append_left (by rw [Sl]; exact hks), hSS, List.getElem?_map, List.getElem?_eq_getElem hks]; rfl), hS2 _ (List.getElem_mem _)⟩
        · refine ⟨[.int 0, .str s, .int 0], atI_nat (by rw [List.getElem?_append_right (by omega), Sl, show k - S.length = 0 by omega]; rfl), ⟨by simp, all_cons (lf_i (by omega)) (all_cons (lf_s hs.so (by omega)) (all_cons (lf_i (by omega)) all_nil))⟩⟩
      have y0 : S.length + 1 ≤ sizeLine := z6 _ (by omega)
      refine fin_exR (base b5 (some ⟨.str ⟨#[ch]⟩, .sh⟩) (some ⟨.list od, .ow⟩) (some ⟨nw, .sh⟩) (some ⟨.int way, .sh⟩) (some ⟨.int k, .sh⟩) (some ⟨.tuple t, .sh⟩) none) (by
        simp [base, Sl, y0, ht]) ?_
      obtain ⟨pt, b6, e6, hb6, hpt⟩ := hp b5 3 hb5 (by decide) (by decide)
      have e6' : Fp [some ⟨b5, .io⟩, some ⟨.int 3, .sh⟩] = .ok (.sh (.int pt)) [some ⟨b6, .io⟩, none] := e6
      refine fin_exR (base b6 (some ⟨.str ⟨#[ch]⟩, .sh⟩) (some ⟨.list od, .ow⟩) (some ⟨nw, .sh⟩) (some ⟨.int way, .sh⟩) (some ⟨.int k, .sh⟩) (some ⟨.tuple t, .sh⟩) (some ⟨.int pt, .sh⟩)) (by simp [base, e6']) ?_
      have c1 := lt.cut none (some (pt : Int))
      have l1 := c1.1
      -- one thing exchanged
      have c2 := lt.cut (some ((pt : Int) + 1)) none
      have l2 := c2.1
      obtain ⟨t2, ht2, lt2⟩ : ∃ t2 : List D, (if way = 3 then cutD t none (some (pt : Int)) ++ [nw] ++ cutD t (some ((pt : Int) + 1)) none else t) = t2 ∧ AllL 7 t2 := by
        refine ⟨_, rfl, ?_⟩
        split
        · exact ((c1.app (.one lnw)).app c2)
        · exact ⟨by have := lt.1; omega, lt.2⟩
      refine fin_exR (base b6 (some ⟨.str ⟨#[ch]⟩, .sh⟩) (some ⟨.list od, .ow⟩) (some ⟨nw, .sh⟩) (some ⟨.int way, .sh⟩) (some ⟨.int k, .sh⟩) (some ⟨.tuple t2, .sh⟩) (some ⟨.int pt, .sh⟩)) (by
        generalize hA : cutD t none (some (pt : Int)) = A at *
        generalize hB : cutD t (some ((pt : Int) + 1)) none = B at *
        have y1 : A.length + 1 ≤ sizeLine := z6 _ (by omega)
        have y2 : A.length + 1 + B.length ≤ sizeLine := z6 _ (by omega)
        by_cases h3 : way = 3
        · have h3' : (way : Int) = 3 := by omega
          rw [if_pos h3] at ht2
          rw [← ht2]
          subst h3
          simp [base, hA, hB, y1, y2]
        · have h3' : ¬ (way : Int) = 3 := by omega
          rw [if_neg h3] at ht2
          rw [← ht2]
          simp [base, h3']) ?_
      -- one thing left out, noughts behind
      obtain ⟨t3, b7, hb7, lt3, st3⟩ : ∃ (t3 : List D) (b7 : D), Bx b7 ∧ AllL 9 t3 ∧ (sIf (eB (eBin (eqB false) (eVb 6) (eC (.int 4)))) (sSet 8 (eBin addD (eBin addD (eSl (eVb 8) none (some (eVb 9))) (eSl (eVb 8) (some (eBin addD (eVb 9) (eCall 2 (some 0) Fp (aCons (eVb 0) (aCons (eC (.int 2)) aNil))))) none)) (eBin mulU (eTup (aCons (eC (.int 0)) aNil)) (eCall 2 (some 0) Fp (aCons (eVb 0) (aCons (eC (.int 2)) aNil)))))) sNil) (base b6 (some ⟨.str ⟨#[ch]⟩, .sh⟩) (some ⟨.list od, .ow⟩) (some ⟨nw, .sh⟩) (some ⟨.int way, .sh⟩) (some ⟨.int k, .sh⟩) (some ⟨.tuple t2, .sh⟩) (some ⟨.int pt, .sh⟩)) = .nx (base b7 (some ⟨.str ⟨#[ch]⟩, .sh⟩) (some ⟨.list od, .ow⟩) (some ⟨nw, .sh⟩) (some ⟨.int way, .sh⟩) (some ⟨.int k, .sh⟩) (some ⟨.tuple t3, .sh⟩) (some ⟨.int pt, .sh⟩)) := by
        by_cases h4' : way = 4
        · subst h4'
          have t2t : t2 = t := by rw [← ht2, if_neg (by decide)]
          subst t2t
          obtain ⟨q1, b7, e7, hb7, hq1⟩ := hp b6 2 hb6 (by decide) (by decide)
          have e7' : Fp [some ⟨b6, .io⟩, some ⟨.int 2, .sh⟩] = .ok (.sh (.int q1)) [some ⟨b7, .io⟩, none] := e7
          obtain ⟨q2, b8, e8, hb8, hq2⟩ := hp b7 2 hb7 (by decide) (by decide)
          have e8' : Fp [some ⟨b7, .io⟩, some ⟨.int 2, .sh⟩] = .ok (.sh (.int q2)) [some ⟨b8, .io⟩, none] := e8
          have c3 := lt.cut (some ((pt : Int) + (q1 : Int))) none
          have l3 := c3.1
          obtain ⟨zz, hzz, lzz⟩ : ∃ zz, mulU (.tuple [.int 0]) (.int (q2 : Int)) = some (.sh (.tuple zz)) ∧ AllL 1 zz := by
            rcases (show q2 = 0 ∨ q2 = 1 by omega) with rfl | rfl
            · exact ⟨[], rfl, by simp, all_nil⟩
            · exact ⟨[.int 0], rfl, by simp, all_cons (lf_i (by omega)) all_nil⟩
          refine ⟨cutD t2 none (some (pt : Int)) ++ cutD t2 (some ((pt : Int) + (q1 : Int))) none ++ zz, b8, hb8, ⟨by have := ((c1.app c3).app lzz).1; omega, ((c1.app c3).app lzz).2⟩, ?_⟩
          have lz1 := lzz.1
          generalize hA : cutD t2 none (some (pt : Int)) = A at *
          generalize hB : cutD t2 (some ((pt : Int) + (q1 : Int))) none = B at *
          have y1 : A.length + B.length ≤ sizeLine := z6 _ (by omega)
          have y2 : A.length + B.length + zz.length ≤ sizeLine := z6 _ (by omega)
          simp [base, e7', e8', hA, hB, hzz, y1, y2, -mulU_t]
        · have h4'' : ¬ (way : Int) = 4 := by omega
          refine ⟨t2, b6, hb6, ⟨by have := lt2.1; omega, lt2.2⟩, ?_⟩
          simp [base, h4'']
      refine fin_exR _ st3 ?_
      obtain ⟨q, b8, e8, hb8, hq⟩ := hp b7 2 hb7 (by decide) (by decide)
      have e8' : Fp [some ⟨b7, .io⟩, some ⟨.int 2, .sh⟩] = .ok (.sh (.int q)) [some ⟨b8, .io⟩, none] := e8
      obtain ⟨SA, hSA, mSA, lSA⟩ := cut_map PyData.tuple S none (some (k : Int))
      rw [← hSS] at hSA
      obtain ⟨SC, hSC, mSC, lSC⟩ := cut_map PyData.tuple S (some ((k : Int) + (q : Int))) none
      rw [← hSS] at hSC
      have y1 : (SA.map PyData.tuple).length + 1 ≤ sizeLine := z6 _ (by rw [List.length_map]; omega)
      have y2 : (SA.map PyData.tuple).length + 1 + (SC.map PyData.tuple).length ≤ sizeLine := z6 _ (by rw [List.length_map, List.length_map]; omega)
      -- how long: the steps are cut at k, so few
      have tot : SA.length + SC.length ≤ S.length + 0 ∨ True := .inr trivial
      have sk : SA.length ≤ k := by
        have := congrArg List.length hSA
        rw [List.length_map, hSS, cutD_to, List.length_take] at this
        omega
      have sk2 : SC.length ≤ S.length - k := by
        have := congrArg List.length hSC
        rw [List.length_map, show (k : Int) + (q : Int) = ((k + q : Nat) : Int) by omega, cutD_from, List.length_drop, Sl] at this
        omega
      refine ⟨.int n, bg, E, SA ++ [t3] ++ SC, b8, ?_, hb8, ⟨hn, hbg, hE.2, by omega, ?_, ?_⟩⟩
      · unfold Th
        rw [List.map_append, List.map_append, List.map_singleton]
        generalize SA.map PyData.tuple = XA at *
        generalize SC.map PyData.tuple = XC at *
        simp [base, e8', hSA, hSC, y1, y2]
      · refine all_app (all_app (fun x m => okS x (mSA x m)) (all_cons ⟨by have := lt3.1; omega, lt3.2⟩ all_nil)) fun x m => okS x (mSC x m)
      · rw [List.length_append, List.length_append, List.length_singleton]
        omega
end
end GX
namespace GX
open PySem L2 GS GM
theorem lf_ints : ∀ k : Nat, k < 101 → (k.log2 < 1920 ∧ (PyData.shown (.int (k : Int))).length ≤ 13 ∧ (PyData.shown (.int (-(k : Int)))).length ≤ 13 ∧ (PyData.weight (.int (k : Int))) ≤ 20 ∧ (PyData.weight (.int (-(k : Int)))) ≤ 20) := by decide +kernel
theorem lf_show {d : D} (h : LfB d = true) : d.showable = true ∧ d.intsShort 13 = true ∧ d.weight ≤ 20 := by
  cases d with
  | none => exact ⟨rfl, rfl, by decide⟩
  | bool b => exact ⟨rfl, rfl, by cases b <;> decide⟩
  | int i =>
    rw [show LfB (.int i) = (decide (-100 ≤ i) && decide (i ≤ 100)) from rfl, Bool.and_eq_true, decide_eq_true_eq, decide_eq_true_eq] at h
    obtain ⟨h1, h2, h3, h4, h5⟩ := lf_ints i.natAbs (by omega)
    rcases Int.natAbs_eq i with e | e
    · refine ⟨by rw [PyData.showable]; exact decide_eq_true h1, ?_, ?_⟩
      · rw [PyData.intsShort, e]; exact decide_eq_true h2
      · rw [e]; exact h4
    · refine ⟨by rw [PyData.showable]; exact decide_eq_true h1, ?_, ?_⟩
      · rw [PyData.intsShort, e]; exact decide_eq_true h3
      · rw [e]; exact h5
  | str s =>
    have := (lf_str h).2
    exact ⟨rfl, rfl, by show s.cps.size ≤ 20; exact this⟩
  | _ => cases h
theorem all_show {m : Nat} : ∀ {ds : List D}, (∀ d ∈ ds, d.showable = true ∧ d.intsShort 13 = true ∧ d.weight ≤ m) → PyData.showableAll ds = true ∧ PyData.intsShortAll 13 ds = true ∧ PyData.weightAll ds ≤ (m + 1) * ds.length
  | [], _ => ⟨rfl, rfl, by simp [PyData.weightAll]⟩
  | d :: ds, h => by
    obtain ⟨a1, a2, a3⟩ := h d (by simp)
    obtain ⟨b1, b2, b3⟩ := all_show (ds := ds) fun x m => h x (by simp [m])
    refine ⟨by rw [PyData.showableAll, a1, b1]; rfl, by rw [PyData.intsShortAll, a2, b2]; rfl, ?_⟩
    rw [PyData.weightAll, List.length_cons, Nat.mul_succ]
    omega
theorem th_parts {c b : D} {es : List D} {ss : List (List D)} (T : ThOk c b es ss) : ∀ d ∈ [c, b, .tuple es, .tuple (ss.map .tuple)], (d.showable = true ∧ d.intsShort 13 = true ∧ d.weight ≤ 20000) ∧ cleanB d = true ∧ d.depth ≤ 2 := by
  have lf : ∀ d : D, LfB d = true → (d.showable = true ∧ d.intsShort 13 = true ∧ d.weight ≤ 20000) ∧ cleanB d = true ∧ d.depth ≤ 2 := fun d h => by
    obtain ⟨a, b, c⟩ := lf_show h
    exact ⟨⟨a, b, by omega⟩, lf_clean h, by have := lf_depth h; omega⟩
  refine all_cons (lf c T.c) (all_cons (lf b T.b) (all_cons ?_ (all_cons ?_ all_nil)))
  · obtain ⟨a, b, w⟩ := all_show fun d m => lf_show (T.e d m)
    have el := T.el
    refine ⟨⟨a, b, ?_⟩, by rw [cleanB]; exact cleanL_of fun d m => lf_clean (T.e d m), ?_⟩
    · show PyData.weightAll es ≤ 20000
      have := Nat.mul_le_mul_left 21 el
      omega
    · have := depthAll_of (n := 0) fun d m => lf_depth (T.e d m)
      rw [PyData.depth]; omega
  · have st : ∀ d ∈ ss.map PyData.tuple, (d.showable = true ∧ d.intsShort 13 = true ∧ d.weight ≤ 210) ∧ cleanB d = true ∧ d.depth ≤ 1 := fun d m => by
      obtain ⟨s, ms, rfl⟩ := List.mem_map.mp m
      obtain ⟨sl, sf⟩ := T.s s ms
      obtain ⟨a, b, w⟩ := all_show fun d m => lf_show (sf d m)
      refine ⟨⟨a, b, ?_⟩, by rw [cleanB]; exact cleanL_of fun d m => lf_clean (sf d m), ?_⟩
      · show PyData.weightAll s ≤ 210
        have := Nat.mul_le_mul_left 21 sl
        omega
      · have := depthAll_of (n := 0) fun d m => lf_depth (sf d m)
        rw [PyData.depth]; omega
    obtain ⟨a, b, w⟩ := all_show fun d m => (st d m).1
    have sl := T.sl
    refine ⟨⟨a, b, ?_⟩, by rw [cleanB]; exact cleanL_of fun d m => (st d m).2.1, ?_⟩
    · show PyData.weightAll _ ≤ 20000
      rw [List.length_map] at w
      have := Nat.mul_le_mul_left 211 sl
      omega
    · have := depthAll_of (n := 1) fun d m => (st d m).2.2
      rw [PyData.depth]; omega
theorem th_repr {c b : D} {es : List D} {ss : List (List D)} (T : ThOk c b es ss) : ∃ u, reprD (Th c b es ss) = some (.sh (.str u)) := by
  have P := th_parts T
  obtain ⟨a1, a2, a3⟩ := all_show fun d m => (P d m).1
  have hc : cleanB (Th c b es ss) = true := by
    unfold Th
    rw [cleanB]
    exact cleanL_of fun d m => (P d m).2.1
  have oe := okEq_of hc (by
    have := depthAll_of (n := 2) fun d m => (P d m).2.2
    unfold Th
    rw [PyData.depth]; omega)
  have hs := PyData.shown_fits (B := 13) (d := Th c b es ss) (by omega) (by omega) (by
    unfold Th
    exact PyData.leavesShort_of_canLay0 13 _ (clean_ok _ hc).2 a2) (by
    have h2 : (2 : Nat) ^ 20 = 1048576 := by decide
    have : (Th c b es ss).weight ≤ 100000 := by
      show PyData.weightAll [c, b, .tuple es, .tuple (ss.map .tuple)] ≤ 100000
      have e4 : [c, b, .tuple es, .tuple (ss.map .tuple)].length = 4 := rfl
      rw [e4] at a3
      omega
    omega)
  unfold Th at oe hs ⊢
  exact ⟨_, reprD_t oe a1 hs⟩
section
variable {Fd Fi Fa Fw Fs Fk Fp Fo Fb : FF}
theorem pad_sg {w : Str} (h : SgOk w) (p : Nat) (hp : p < w.length) (h5 : w.length ≤ 5) : SgOk (cutS (w ++ Str.ofString "xxxxx") none (some 6)) ∧ (cutS (w ++ Str.ofString "xxxxx") none (some 6)).cps.toList[p]? = w.cps.toList[p]? := by
  have l5 : (Str.ofString "xxxxx").cps.toList = [120, 120, 120, 120, 120] := by decide +kernel
  have c6 : (cutS (w ++ Str.ofString "xxxxx") none (some 6)).cps.toList = (w.cps.toList ++ [120, 120, 120, 120, 120]).take 6 := by
    have := cutS_to (w ++ Str.ofString "xxxxx") 6
    rw [app_cps, l5] at this
    exact this
  have hl := h.len
  have hw := len_eq w
  constructor
  · refine sg_of ?_ ?_ fun c m => ?_
    · rw [len_eq, c6, List.length_take, List.length_append]; simp; omega
    · rw [len_eq, c6, List.length_take]; omega
    · rw [c6] at m
      rcases List.mem_append.mp (List.mem_of_mem_take m) with q | q
      · exact h.chr c q
      · have : ∀ c ∈ [120, 120, 120, 120, 120], c = 120 := by decide
        have := this c q; omega
  · rw [c6, List.getElem?_take_of_lt (by omega), List.getElem?_append_left (by omega)]
theorem law_k80_ok (hd : DueSp Fd) (hi : WalkSp Fi) (ha : AnySp Fa) (hw : WideSp Fw) (hs : SpoiltSp Fs) (hk : WalkerSp3 Fk) (hp : PickSp Fp) (ho : WordsSp3 Fo) (hb : BoxSp Fb) (ns : List Int) (h63 : ns.length ≤ 63) :
    fnF 13 1 (m_law_k80 Fd Fi Fa Fw Fs Fk Fp Fo Fb) [some ⟨.list (ns.map .int), .sh⟩] = .ok (.sh (.bool true)) [none] := by
  obtain ⟨b0, e0, hb0⟩ := hb ns (by omega)
  obtain ⟨c, b1, e1, hb1, hc⟩ := hp b0 5 hb0 (by decide) (by decide)
  have e1' : Fp [some ⟨b0, .io⟩, some ⟨.int 5, .sh⟩] = .ok (.sh (.int c)) [some ⟨b1, .io⟩, none] := e1
  obtain ⟨c2, b2, e2, hb2, hc2⟩ := hp b1 8 hb1 (by decide) (by decide)
  have e2' : Fp [some ⟨b1, .io⟩, some ⟨.int 8, .sh⟩] = .ok (.sh (.int c2)) [some ⟨b2, .io⟩, none] := e2
  obtain ⟨ws, b3, p, e3, hb3, hl3, ok3, nd3, lt3⟩ := ho b2 SML (Str.ofString "q") (1 + c2) hb2 (by decide +kernel) (by decide +kernel) (by decide +kernel) (by omega)
  have e3' : Fo [some ⟨b2, .io⟩, some ⟨.str SML, .sh⟩, some ⟨.str (Str.ofString "q"), .sh⟩, some ⟨.int (1 + (c2 : Int)), .sh⟩] = .ok (.fr (.list (ws.map .str))) [some ⟨b3, .io⟩, none, none, none] := by rw [← e3]; simp
  have sg3 : ∀ w ∈ ws, SgOk w := fun w m => word_sg (by decide +kernel) (ok3 w m)
  obtain ⟨c4, b4, e4, hb4, hc4⟩ := hp b3 3 hb3 (by decide) (by decide)
  have e4' : Fp [some ⟨b3, .io⟩, some ⟨.int 3, .sh⟩] = .ok (.sh (.int c4)) [some ⟨b4, .io⟩, none] := e4
  rw [m_law_k80_eq]
  unfold m_law_k80
  refine fin_seq [some ⟨.list (ns.map .int), .sh⟩, some ⟨b0, .ow⟩, none, none, none, none, none, none, none, none, none, none, none] (by simp [e0]) ?_
  refine fin_seq [some ⟨.list (ns.map .int), .sh⟩, some ⟨b1, .ow⟩, some ⟨.int (1 + (c : Int)), .sh⟩, none, none, none, none, none, none, none, none, none, none] (by simp [e1']) ?_
  refine fin_seq [some ⟨.list (ns.map .int), .sh⟩, some ⟨b3, .ow⟩, some ⟨.int (1 + (c : Int)), .sh⟩, some ⟨.list (ws.map .str), .ow⟩, none, none, none, none, none, none, none, none, none] (by
    have e3'' := e3'
    simp [e2', e3'']) ?_
  -- the signs, longer in one of three
  obtain ⟨vs, hvs, sgv, ndv, vl⟩ : ∃ vs : List Str, vs.map PyData.str = (if c4 = 0 then ws.map fun w => PyData.str (cutS (w ++ Str.ofString "xxxxx") none (some 6)) else ws.map .str) ∧ (∀ w ∈ vs, SgOk w) ∧ vs.Nodup ∧ vs.length = 1 + c2 := by
    by_cases q : c4 = 0
    · refine ⟨ws.map fun w => cutS (w ++ Str.ofString "xxxxx") none (some 6), by rw [if_pos q, List.map_map]; rfl, fun v m => ?_, ?_, by rw [List.length_map]; exact hl3⟩
      · obtain ⟨w, mw, rfl⟩ := List.mem_map.mp m
        exact (pad_sg (sg3 w mw) p (lt3 w mw) (ok3 w mw).1).1
      · unfold List.Nodup at nd3 ⊢
        rw [List.pairwise_map] at nd3 ⊢
        refine nd3.imp_of_mem fun {a b} ma mb h e => h ?_
        have ea := (pad_sg (sg3 a ma) p (lt3 a ma) (ok3 a ma).1).2
        have eb := (pad_sg (sg3 b mb) p (lt3 b mb) (ok3 b mb).1).2
        rw [← ea, ← eb, e]
    · refine ⟨ws, by rw [if_neg q], sg3, ?_, hl3⟩
      unfold List.Nodup at nd3 ⊢
      rw [List.pairwise_map] at nd3
      exact nd3.imp fun h e => h (by rw [e])
  refine fin_ex (fun ρ' => ∃ x3, ρ' = [some ⟨.list (ns.map .int), .sh⟩, some ⟨b4, .ow⟩, some ⟨.int (1 + (c : Int)), .sh⟩, some ⟨.list (vs.map .str), .ow⟩, none, none, none, none, none, none, none, none, x3] ∧ x3 = none) ?_ ?_
  · refine ⟨_, ?_, none, rfl, rfl⟩
    have x5 : (Str.ofString "xxxxx").length = 5 := by decide +kernel
    by_cases q : c4 = 0
    · rw [if_pos q] at hvs
      have lc := lcL_all (vs := [12]) (g := gN 12) (fe := eNox (m_law_k80_ce3 Fd Fi Fa Fw Fs Fk Fp Fo Fb)) [some ⟨.list (ns.map .int), .sh⟩, some ⟨b4, .ow⟩, some ⟨.int (1 + (c : Int)), .sh⟩, some ⟨.list (ws.map .str), .sh⟩, none, none, none, none, none, none, none, none, none] PyData.str
        (fun w => [some ⟨.list (ns.map .int), .sh⟩, some ⟨b4, .ow⟩, some ⟨.int (1 + (c : Int)), .sh⟩, some ⟨.list (ws.map .str), .sh⟩, none, none, none, none, none, none, none, none, some ⟨.str w, .sh⟩]) (fun w => .str (cutS (w ++ Str.ofString "xxxxx") none (some 6))) ws [] (fits (by simp; omega)) (fun w mw => by
          have z1 : w.length + (Str.ofString "xxxxx").length ≤ sizeLine := fits (by have := (ok3 w mw).1; omega)
          have z2 : (w ++ Str.ofString "xxxxx").length ≤ sizeLine := by rw [app_len]; exact z1
          refine ⟨by simp, by simp, ?_⟩
          unfold m_law_k80_ce3
          generalize Str.ofString "xxxxx" = xx at z1 z2 ⊢
          simp [z1, z2])
      rw [List.nil_append, ← hvs] at lc
      subst q
      generalize ws.map PyData.str = WS at lc ⊢
      simp [e4', lc]
    · rw [if_neg q] at hvs
      have q' : ¬ (c4 : Int) = 0 := by omega
      rw [hvs]
      simp [e4', q, q']
  rintro _ ⟨_, rfl, rfl⟩
  -- the walker
  obtain ⟨w, b5, e5, hb5, w1, w2, w3, w4, w5⟩ := hk b4 (1 + c) vs hb4 (by omega) (by omega) (by omega) ndv
  have e5' : Fk [some ⟨b4, .io⟩, some ⟨.int (1 + (c : Int)), .sh⟩, some ⟨.list (vs.map .str), .sh⟩] = .ok (.sh w.enc) [some ⟨b5, .io⟩, none, none] := by rw [← e5]; simp
  have W : WkOk (1 + c) vs w := ⟨w1, by omega, by omega, w2, w3, w4, w5, by
    have := w5.len
    have h8 := Nat.mul_le_mul (show vs.length ≤ 8 by omega) (show 1 + c ≤ 5 by omega)
    omega, sgv⟩
  obtain ⟨v0, rest, hv0⟩ : ∃ v r, vs = v :: r := by
    cases vs with
    | nil => simp at vl; omega
    | cons v r => exact ⟨v, r, rfl⟩
  have sv0 : SgOk v0 := sgv v0 (by rw [hv0]; simp)
  have a0 : L2.atI (vs.map PyData.str) 0 = some (.str v0) := by rw [hv0, List.map_cons]; simp
  have iw : ixA w.enc (.int 1) = some (.sh (.int w.begin')) := by simp [Wk.enc]
  refine fin_seq [some ⟨.list (ns.map .int), .sh⟩, some ⟨b5, .ow⟩, some ⟨.int (1 + (c : Int)), .sh⟩, some ⟨.list (vs.map .str), .sh⟩, some ⟨w.enc, .sh⟩, none, none, none, none, none, none, none, none] (by
    generalize vs.map PyData.str = VS at e5' ⊢
    simp [e5']) ?_
  obtain ⟨pl, hpl⟩ : ∃ pl, pl = PyData.tuple [.int (1 + (c : Int)), .int w.begin', .tuple [], .tuple []] := ⟨_, rfl⟩
  have plw : walkB pl = true := by
    rw [hpl]
    unfold walkB endsB stepsB
    dsimp only
    rw [decide_eq_true (show (0 : Int) < 1 + c by omega), decide_eq_true (show (1 + c : Int) < 6 by omega), stB_i, decide_eq_true w2, decide_eq_true (show w.begin' < 1 + (c : Int) by omega)]
    rfl
  have plp : WalkP pl := by rw [hpl]; exact walk_p all_nil
  refine fin_seq [some ⟨.list (ns.map .int), .sh⟩, some ⟨b5, .ow⟩, some ⟨.int (1 + (c : Int)), .sh⟩, some ⟨.list (vs.map .str), .sh⟩, some ⟨w.enc, .sh⟩, some ⟨pl, .sh⟩, none, none, none, none, none, none, none] (by
    rw [hpl]
    generalize w.enc = we at iw ⊢
    simp [iw]) ?_
  obtain ⟨bd, b6, e6, hb6, nb⟩ := hs b5 (1 + c) vs w v0 hb5 W sv0
  refine fin_seq [some ⟨.list (ns.map .int), .sh⟩, some ⟨b6, .ow⟩, some ⟨.int (1 + (c : Int)), .sh⟩, some ⟨.list (vs.map .str), .sh⟩, some ⟨w.enc, .sh⟩, some ⟨pl, .sh⟩, some ⟨bd, .sh⟩, none, none, none, none, none, none] (by
    generalize vs.map PyData.str = VS at a0 ⊢
    generalize w.enc = we at e6 ⊢
    simp [a0, e6]) ?_
  obtain ⟨wd, b7, e7, hb7, wdp, wdw⟩ := hw b6 40 hb6 (.inl rfl)
  have e7' : Fw [some ⟨b6, .io⟩, some ⟨.int 40, .sh⟩] = .ok (.sh wd) [some ⟨b7, .io⟩, none] := e7
  have wwp : WalkP w.enc := walk_p W.steps_p
  -- the five
  have one : ∀ (d : D) (due : Bool), WalkP d → walkB d = due → optR (gT 2 (gsC (gN 8) (gsC (gN 9) gsN)) (.tuple [d, .bool due]) [some ⟨.list (ns.map .int), .sh⟩, some ⟨b7, .ow⟩, some ⟨.int (1 + (c : Int)), .sh⟩, some ⟨.list (vs.map .str), .sh⟩, some ⟨w.enc, .sh⟩, some ⟨pl, .sh⟩, some ⟨bd, .sh⟩, none, none, none, none, none, none]) (m_law_k80_b2 Fd Fi Fa Fw Fs Fk Fp Fo Fb) = .nx [some ⟨.list (ns.map .int), .sh⟩, some ⟨b7, .ow⟩, some ⟨.int (1 + (c : Int)), .sh⟩, some ⟨.list (vs.map .str), .sh⟩, some ⟨w.enc, .sh⟩, some ⟨pl, .sh⟩, some ⟨bd, .sh⟩, none, none, none, none, none, none] := fun d due hd' hdu => by
    have e := hi d hd'
    rw [hdu] at e
    generalize w.enc = we
    cases due <;> simp [m_law_k80_b2, e, isBool]
  have lo : forL (gT 2 (gsC (gN 8) (gsC (gN 9) gsN))) (m_law_k80_b2 Fd Fi Fa Fw Fs Fk Fp Fo Fb) [.tuple [w.enc, .bool true], .tuple [pl, .bool true], .tuple [wd, .bool true], .tuple [bd, .bool false], .tuple [w.enc, .bool true]] [some ⟨.list (ns.map .int), .sh⟩, some ⟨b7, .ow⟩, some ⟨.int (1 + (c : Int)), .sh⟩, some ⟨.list (vs.map .str), .sh⟩, some ⟨w.enc, .sh⟩, some ⟨pl, .sh⟩, some ⟨bd, .sh⟩, none, none, none, none, none, none] = .nx [some ⟨.list (ns.map .int), .sh⟩, some ⟨b7, .ow⟩, some ⟨.int (1 + (c : Int)), .sh⟩, some ⟨.list (vs.map .str), .sh⟩, some ⟨w.enc, .sh⟩, some ⟨pl, .sh⟩, some ⟨bd, .sh⟩, none, none, none, none, none, none] := by
    rw [forL_cons2, one w.enc true wwp W.good, turnR_nx, forL_cons2, one pl true plp plw, turnR_nx, forL_cons2, one wd true wdp (by rw [wdw]; rfl), turnR_nx, forL_cons2, one bd false nb.2 nb.1, turnR_nx, forL_cons2, one w.enc true wwp W.good, turnR_nx, forL_nil]
  refine fin_seq [some ⟨.list (ns.map .int), .sh⟩, some ⟨b7, .ow⟩, some ⟨.int (1 + (c : Int)), .sh⟩, some ⟨.list (vs.map .str), .sh⟩, some ⟨w.enc, .sh⟩, some ⟨pl, .sh⟩, some ⟨bd, .sh⟩, none, none, none, none, none, none] (by
    rw [← lo]
    generalize w.enc = we
    simp [e7']) ?_
  -- the twelve
  obtain ⟨b8, lp, _⟩ := forL_by (S := D) (g := gN 7) (b := m_law_k80_b1 Fd Fi Fa Fw Fs Fk Fp Fo Fb) (fun bb => [some ⟨.list (ns.map .int), .sh⟩, some ⟨bb, .ow⟩, some ⟨.int (1 + (c : Int)), .sh⟩, some ⟨.list (vs.map .str), .sh⟩, some ⟨w.enc, .sh⟩, some ⟨pl, .sh⟩, some ⟨bd, .sh⟩, none, none, none, none, none, none]) (fun _ bb => Bx bb) (rgD 0 12) b7 hb7 (fun pre d post bb hd' hbb => by
    obtain ⟨tc, tb, es, ss, b9, e9, hb9, T⟩ := ha bb (1 + c) vs w v0 hbb W sv0
    obtain ⟨u, hu⟩ := th_repr T
    have i1 := hi _ T.walkP
    have i2 := hd tc tb es ss T
    refine ⟨b9, ?_, hb9⟩
    generalize Th tc tb es ss = th at e9 hu i1 i2
    generalize walkB th = r at i1 i2
    generalize vs.map PyData.str = VS at a0 ⊢
    generalize w.enc = we at e9 ⊢
    cases r <;> simp [m_law_k80_b1, a0, e9, hu, i1, i2, isBool])
  refine fin_seq ([some ⟨.list (ns.map .int), .sh⟩, some ⟨b8, .ow⟩, some ⟨.int (1 + (c : Int)), .sh⟩, some ⟨.list (vs.map .str), .sh⟩, some ⟨w.enc, .sh⟩, some ⟨pl, .sh⟩, some ⟨bd, .sh⟩, none, none, none, none, none, none]) (by
    rw [← lp]
    generalize w.enc = we
    simp [okR]) ?_
  generalize w.enc = we
  simp
end
end GX
namespace GM
open PySem L2 GS
end GM
namespace Wk80
open PySem L2 GS GM
def fs : Nat → Nat → FF
  | 0, _ => stuckF
  | k + 1, 0 => fnF 2 1 (m_is_sign)
  | k + 1, 1 => fnF 2 2 (m_is_state)
  | k + 1, 2 => fnF 4 2 (m_are_ends (fs k 1))
  | k + 1, 3 => fnF 2 2 (m_is_step (fs k 1) (fs k 0))
  | k + 1, 4 => fnF 4 2 (m_are_steps (fs k 3))
  | k + 1, 5 => fnF 5 1 (m_is_walker (fs k 4) (fs k 2) (fs k 1))
  | k + 1, 6 => fnF 4 1 (m_law_box)
  | k + 1, 7 => fnF 4 2 (m_law_pick)
  | k + 1, 8 => fnF 10 4 (m_law_words (fs k 7))
  | k + 1, 9 => fnF 9 3 (m_law_walker (fs k 7))
  | k + 1, 10 => fnF 6 4 (m_law_bad_step (fs k 7))
  | k + 1, 11 => fnF 5 2 (m_law_wide_3 (fs k 7) (fs k 8))
  | k + 1, 12 => fnF 9 3 (m_law_spoilt_2 (fs k 11) (fs k 7) (fs k 10))
  | k + 1, 13 => fnF 2 2 (m_law_is_state)
  | k + 1, 14 => fnF 1 1 (m_law_is_sign_2)
  | k + 1, 15 => fnF 9 1 (m_law_due_6 (fs k 14) (fs k 13))
  | k + 1, 16 => fnF 14 3 (m_law_anywhere_2 (fs k 7))
  | k + 1, 17 => fnF 13 1 (m_law_k80 (fs k 15) (fs k 5) (fs k 16) (fs k 11) (fs k 12) (fs k 9) (fs k 7) (fs k 8) (fs k 6))
  | _ + 1, _ => stuckF
end Wk80
namespace Wk80
open PySem L2 GS GM
theorem h_m_is_sign : ∀ m, 1 ≤ m → SignSp (fs m 0)
  | _ + 1, _ => fun s hs => is_sign_ok s hs
theorem h_m_is_state : ∀ m, 1 ≤ m → GX.StSp (fs m 1)
  | _ + 1, _ => GX.is_state_ok
theorem h_m_are_ends : ∀ m, 2 ≤ m → GX.EndsSp (fs m 2)
  | m + 1, h => GX.are_ends_ok (h_m_is_state m (by omega))
theorem h_m_is_step : ∀ m, 2 ≤ m → GX.StepSp (fs m 3)
  | m + 1, h => GX.is_step_ok (h_m_is_state m (by omega)) (h_m_is_sign m (by omega))
theorem h_m_are_steps : ∀ m, 3 ≤ m → GX.StepsSp (fs m 4)
  | m + 1, h => GX.are_steps_ok (h_m_is_step m (by omega))
theorem h_m_is_walker : ∀ m, 4 ≤ m → GX.WalkSp (fs m 5)
  | m + 1, h => GX.is_walker_ok (h_m_are_steps m (by omega)) (h_m_are_ends m (by omega)) (h_m_is_state m (by omega))
theorem h_m_law_box : ∀ m, 1 ≤ m → BoxSp (fs m 6)
  | _ + 1, _ => law_box_ok
theorem h_m_law_pick : ∀ m, 1 ≤ m → PickSp (fs m 7)
  | _ + 1, _ => law_pick_ok
theorem h_m_law_words : ∀ m, 2 ≤ m → GX.WordsSp3 (fs m 8)
  | m + 1, h => GX.law_words_ok3 (h_m_law_pick m (by omega))
theorem h_m_law_walker : ∀ m, 2 ≤ m → GX.WalkerSp3 (fs m 9)
  | m + 1, h => GX.law_walker_ok3 (h_m_law_pick m (by omega))
theorem h_m_law_bad_step : ∀ m, 2 ≤ m → GX.BadSp (fs m 10)
  | m + 1, h => GX.law_bad_step_ok (h_m_law_pick m (by omega))
theorem h_m_law_wide_3 : ∀ m, 3 ≤ m → GX.WideSp (fs m 11)
  | m + 1, h => GX.law_wide_3_ok (h_m_law_pick m (by omega)) (h_m_law_words m (by omega))
theorem h_m_law_spoilt_2 : ∀ m, 4 ≤ m → GX.SpoiltSp (fs m 12)
  | m + 1, h => GX.law_spoilt_2_ok (h_m_law_wide_3 m (by omega)) (h_m_law_pick m (by omega)) (h_m_law_bad_step m (by omega))
theorem h_m_law_is_state : ∀ m, 1 ≤ m → GX.StSp (fs m 13)
  | _ + 1, _ => GX.law_is_state_ok
theorem h_m_law_is_sign_2 : ∀ m, 1 ≤ m → GX.LSgSp (fs m 14)
  | _ + 1, _ => GX.law_is_sign_2_ok
theorem h_m_law_due_6 : ∀ m, 2 ≤ m → GX.DueSp (fs m 15)
  | m + 1, h => GX.law_due_6_ok (h_m_law_is_state m (by omega)) (h_m_law_is_sign_2 m (by omega))
theorem h_m_law_anywhere_2 : ∀ m, 2 ≤ m → GX.AnySp (fs m 16)
  | m + 1, h => GX.law_anywhere_2_ok (h_m_law_pick m (by omega))
theorem law_true (ns : List Int) (hl : ns.length ≤ 63) : ∃ outs, fs 200 17 [some ⟨.list (ns.map .int), .sh⟩] = .ok (.sh (.bool true)) outs :=
  ⟨_, (GX.law_k80_ok (h_m_law_due_6 199 (by omega)) (h_m_is_walker 199 (by omega)) (h_m_law_anywhere_2 199 (by omega)) (h_m_law_wide_3 199 (by omega)) (h_m_law_spoilt_2 199 (by omega)) (h_m_law_walker 199 (by omega)) (h_m_law_pick 199 (by omega)) (h_m_law_words 199 (by omega)) (h_m_law_box 199 (by omega)) ns hl)⟩
end Wk80
namespace Wk80
open PySem L2 GS GM
def topS (i : Nat) : Stmt := PySem.Challenge.pw_graftsay_k80_what_is_a_walker.main.body.getD i (.Pass ⟨0, 0, 0, 0⟩)
/-- is_sign -/
abbrev s0 : Stmt := topS 3
theorem sc0 : FnScope ["text", "letter"] ["text"] (defScope s0) := ⟨rfl, rfl, rfl, by decide +kernel, rfl, by decide +kernel, by decide +kernel⟩
/-- is_state -/
abbrev s1 : Stmt := topS 7
theorem sc1 : FnScope ["many", "thing"] ["many", "thing"] (defScope s1) := ⟨rfl, rfl, rfl, by decide +kernel, rfl, by decide +kernel, by decide +kernel⟩
/-- are_ends -/
abbrev s2 : Stmt := topS 8
theorem sc2 : FnScope ["many", "thing", "ahead", "state"] ["many", "thing"] (defScope s2) := ⟨rfl, rfl, rfl, by decide +kernel, rfl, by decide +kernel, by decide +kernel⟩
/-- is_step -/
abbrev s3 : Stmt := topS 9
theorem sc3 : FnScope ["many", "thing"] ["many", "thing"] (defScope s3) := ⟨rfl, rfl, rfl, by decide +kernel, rfl, by decide +kernel, by decide +kernel⟩
/-- are_steps -/
abbrev s4 : Stmt := topS 10
theorem sc4 : FnScope ["many", "thing", "known", "step"] ["many", "thing"] (defScope s4) := ⟨rfl, rfl, rfl, by decide +kernel, rfl, by decide +kernel, by decide +kernel⟩
/-- is_walker -/
abbrev s5 : Stmt := topS 11
theorem sc5 : FnScope ["thing", "many", "begin", "ends", "steps"] ["thing"] (defScope s5) := ⟨rfl, rfl, rfl, by decide +kernel, rfl, by decide +kernel, by decide +kernel⟩
/-- _law_box -/
abbrev s6 : Stmt := topS 13
theorem sc6 : FnScope ["script", "seed", "great", "cell"] ["script"] (defScope s6) := ⟨rfl, rfl, rfl, by decide +kernel, rfl, by decide +kernel, by decide +kernel⟩
/-- _law_pick -/
abbrev s7 : Stmt := topS 14
theorem sc7 : FnScope ["box", "count", "stir", "digit"] ["box", "count"] (defScope s7) := ⟨rfl, rfl, rfl, by decide +kernel, rfl, by decide +kernel, by decide +kernel⟩
/-- _law_words -/
abbrev s8 : Stmt := topS 15
theorem sc8 : FnScope ["box", "heads", "tail", "count", "stem", "k", "at", "turn", "some", "word"] ["box", "heads", "tail", "count"] (defScope s8) := ⟨rfl, rfl, rfl, by decide +kernel, rfl, by decide +kernel, by decide +kernel⟩
/-- _law_walker -/
abbrev s9 : Stmt := topS 16
theorem sc9 : FnScope ["box", "count", "signs", "full", "steps", "state", "at", "ends", "sign"] ["box", "count", "signs"] (defScope s9) := ⟨rfl, rfl, rfl, by decide +kernel, rfl, by decide +kernel, by decide +kernel⟩
/-- _law_bad_step -/
abbrev s10 : Stmt := topS 18
theorem sc10 : FnScope ["box", "count", "steps", "sign", "some", "old"] ["box", "count", "steps", "sign"] (defScope s10) := ⟨rfl, rfl, rfl, by decide +kernel, rfl, by decide +kernel, by decide +kernel⟩
/-- _law_wide -/
abbrev s11 : Stmt := topS 19
theorem sc11 : FnScope ["box", "size", "steps", "sign", "state"] ["box", "size"] (defScope s11) := ⟨rfl, rfl, rfl, by decide +kernel, rfl, by decide +kernel, by decide +kernel⟩
/-- _law_spoilt -/
abbrev s12 : Stmt := topS 20
theorem sc12 : FnScope ["box", "walker", "sign", "way", "some", "count", "begin", "ends", "steps"] ["box", "walker", "sign"] (defScope s12) := ⟨rfl, rfl, rfl, by decide +kernel, rfl, by decide +kernel, by decide +kernel⟩
/-- _law_is_state -/
abbrev s13 : Stmt := topS 21
theorem sc13 : FnScope ["count", "thing"] ["count", "thing"] (defScope s13) := ⟨rfl, rfl, rfl, by decide +kernel, rfl, by decide +kernel, by decide +kernel⟩
/-- _law_is_sign -/
abbrev s14 : Stmt := topS 22
theorem sc14 : FnScope ["thing"] ["thing"] (defScope s14) := ⟨rfl, rfl, rfl, by decide +kernel, rfl, by decide +kernel, by decide +kernel⟩
/-- _law_due -/
abbrev s15 : Stmt := topS 23
theorem sc15 : FnScope ["walker", "seen", "step", "count", "begin", "ends", "steps", "state", "k"] ["walker"] (defScope s15) := ⟨rfl, rfl, rfl, by decide +kernel, rfl, by decide +kernel, by decide +kernel⟩
/-- _law_anywhere -/
abbrev s16 : Stmt := topS 24
theorem sc16 : FnScope ["box", "walker", "sign", "letter", "odd", "new", "way", "at", "step", "part", "count", "begin", "ends", "steps"] ["box", "walker", "sign"] (defScope s16) := ⟨rfl, rfl, rfl, by decide +kernel, rfl, by decide +kernel, by decide +kernel⟩
/-- law -/
abbrev s17 : Stmt := topS 25
theorem sc17 : FnScope ["script", "box", "count", "signs", "walker", "plain", "bad", "turn", "thing", "due", "told", "shown", "sign"] ["script"] (defScope s17) := ⟨rfl, rfl, rfl, by decide +kernel, rfl, by decide +kernel, by decide +kernel⟩
structure Top (K : PySem.W.Frag) (mg : Str → Option Value) where
  a0 : Addr
  d0 : FuncData
  F0 : Fun K "is_sign" "is_sign" s0 a0 d0
  b0 : Binds K d0 ["text"] []
  g0 : mg "is_sign" = some (.ref a0)
  a1 : Addr
  d1 : FuncData
  F1 : Fun K "is_state" "is_state" s1 a1 d1
  b1 : Binds K d1 ["many", "thing"] []
  g1 : mg "is_state" = some (.ref a1)
  a2 : Addr
  d2 : FuncData
  F2 : Fun K "are_ends" "are_ends" s2 a2 d2
  b2 : Binds K d2 ["many", "thing"] []
  g2 : mg "are_ends" = some (.ref a2)
  a3 : Addr
  d3 : FuncData
  F3 : Fun K "is_step" "is_step" s3 a3 d3
  b3 : Binds K d3 ["many", "thing"] []
  g3 : mg "is_step" = some (.ref a3)
  a4 : Addr
  d4 : FuncData
  F4 : Fun K "are_steps" "are_steps" s4 a4 d4
  b4 : Binds K d4 ["many", "thing"] []
  g4 : mg "are_steps" = some (.ref a4)
  a5 : Addr
  d5 : FuncData
  F5 : Fun K "is_walker" "is_walker" s5 a5 d5
  b5 : Binds K d5 ["thing"] []
  g5 : mg "is_walker" = some (.ref a5)
  a6 : Addr
  d6 : FuncData
  F6 : Fun K "_law_box" "_law_box" s6 a6 d6
  b6 : Binds K d6 ["script"] []
  g6 : mg "_law_box" = some (.ref a6)
  a7 : Addr
  d7 : FuncData
  F7 : Fun K "_law_pick" "_law_pick" s7 a7 d7
  b7 : Binds K d7 ["box", "count"] []
  g7 : mg "_law_pick" = some (.ref a7)
  a8 : Addr
  d8 : FuncData
  F8 : Fun K "_law_words" "_law_words" s8 a8 d8
  b8 : Binds K d8 ["box", "heads", "tail", "count"] []
  g8 : mg "_law_words" = some (.ref a8)
  a9 : Addr
  d9 : FuncData
  F9 : Fun K "_law_walker" "_law_walker" s9 a9 d9
  b9 : Binds K d9 ["box", "count", "signs"] []
  g9 : mg "_law_walker" = some (.ref a9)
  a10 : Addr
  d10 : FuncData
  F10 : Fun K "_law_bad_step" "_law_bad_step" s10 a10 d10
  b10 : Binds K d10 ["box", "count", "steps", "sign"] []
  g10 : mg "_law_bad_step" = some (.ref a10)
  a11 : Addr
  d11 : FuncData
  F11 : Fun K "_law_wide" "_law_wide" s11 a11 d11
  b11 : Binds K d11 ["box", "size"] []
  g11 : mg "_law_wide" = some (.ref a11)
  a12 : Addr
  d12 : FuncData
  F12 : Fun K "_law_spoilt" "_law_spoilt" s12 a12 d12
  b12 : Binds K d12 ["box", "walker", "sign"] []
  g12 : mg "_law_spoilt" = some (.ref a12)
  a13 : Addr
  d13 : FuncData
  F13 : Fun K "_law_is_state" "_law_is_state" s13 a13 d13
  b13 : Binds K d13 ["count", "thing"] []
  g13 : mg "_law_is_state" = some (.ref a13)
  a14 : Addr
  d14 : FuncData
  F14 : Fun K "_law_is_sign" "_law_is_sign" s14 a14 d14
  b14 : Binds K d14 ["thing"] []
  g14 : mg "_law_is_sign" = some (.ref a14)
  a15 : Addr
  d15 : FuncData
  F15 : Fun K "_law_due" "_law_due" s15 a15 d15
  b15 : Binds K d15 ["walker"] []
  g15 : mg "_law_due" = some (.ref a15)
  a16 : Addr
  d16 : FuncData
  F16 : Fun K "_law_anywhere" "_law_anywhere" s16 a16 d16
  b16 : Binds K d16 ["box", "walker", "sign"] []
  g16 : mg "_law_anywhere" = some (.ref a16)
  a17 : Addr
  d17 : FuncData
  F17 : Fun K "law" "law" s17 a17 d17
  b17 : Binds K d17 ["script"] []
  g17 : mg "law" = some (.ref a17)
  c_SMALL : ∃ t, mg "SMALL" = some (Value.str (Str.ofString "abcdefghijklmnopqrstuvwxyz") t)
  c_LONGEST_SIGN : ∃ t, mg "LONGEST_SIGN" = some (Value.int 6 t)
  c_MOST_STEPS : ∃ t, mg "MOST_STEPS" = some (Value.int 40 t)
  c_MOST_STATES : ∃ t, mg "MOST_STATES" = some (Value.int 5 t)
  m_len : mg "len" = none
  m_isinstance : mg "isinstance" = none
  m_bool : mg "bool" = none
  m_int : mg "int" = none
  m_tuple : mg "tuple" = none
  m_str : mg "str" = none
  m_range : mg "range" = none
  m_list : mg "list" = none
  m_all : mg "all" = none
  m_repr : mg "repr" = none
structure Lv (P : Program) (K : KW) (mg : Str → Option Value) (base : Heap) (cv : Str → Value) (T : Top K.fr mg) (k : Nat) : Prop where
  h0 : FnOk P K.w K.fr mg base (L2.CX P K.w) k T.a0 T.d0 ["text"] (spF K cv 1 (fs k 0))
  h1 : FnOk P K.w K.fr mg base (L2.CX P K.w) k T.a1 T.d1 ["many", "thing"] (spF K cv 2 (fs k 1))
  h2 : FnOk P K.w K.fr mg base (L2.CX P K.w) k T.a2 T.d2 ["many", "thing"] (spF K cv 2 (fs k 2))
  h3 : FnOk P K.w K.fr mg base (L2.CX P K.w) k T.a3 T.d3 ["many", "thing"] (spF K cv 2 (fs k 3))
  h4 : FnOk P K.w K.fr mg base (L2.CX P K.w) k T.a4 T.d4 ["many", "thing"] (spF K cv 2 (fs k 4))
  h5 : FnOk P K.w K.fr mg base (L2.CX P K.w) k T.a5 T.d5 ["thing"] (spF K cv 1 (fs k 5))
  h6 : FnOk P K.w K.fr mg base (L2.CX P K.w) k T.a6 T.d6 ["script"] (spF K cv 1 (fs k 6))
  h7 : FnOk P K.w K.fr mg base (L2.CX P K.w) k T.a7 T.d7 ["box", "count"] (spF K cv 2 (fs k 7))
  h8 : FnOk P K.w K.fr mg base (L2.CX P K.w) k T.a8 T.d8 ["box", "heads", "tail", "count"] (spF K cv 4 (fs k 8))
  h9 : FnOk P K.w K.fr mg base (L2.CX P K.w) k T.a9 T.d9 ["box", "count", "signs"] (spF K cv 3 (fs k 9))
  h10 : FnOk P K.w K.fr mg base (L2.CX P K.w) k T.a10 T.d10 ["box", "count", "steps", "sign"] (spF K cv 4 (fs k 10))
  h11 : FnOk P K.w K.fr mg base (L2.CX P K.w) k T.a11 T.d11 ["box", "size"] (spF K cv 2 (fs k 11))
  h12 : FnOk P K.w K.fr mg base (L2.CX P K.w) k T.a12 T.d12 ["box", "walker", "sign"] (spF K cv 3 (fs k 12))
  h13 : FnOk P K.w K.fr mg base (L2.CX P K.w) k T.a13 T.d13 ["count", "thing"] (spF K cv 2 (fs k 13))
  h14 : FnOk P K.w K.fr mg base (L2.CX P K.w) k T.a14 T.d14 ["thing"] (spF K cv 1 (fs k 14))
  h15 : FnOk P K.w K.fr mg base (L2.CX P K.w) k T.a15 T.d15 ["walker"] (spF K cv 1 (fs k 15))
  h16 : FnOk P K.w K.fr mg base (L2.CX P K.w) k T.a16 T.d16 ["box", "walker", "sign"] (spF K cv 3 (fs k 16))
  h17 : FnG P K.w K.fr mg base k T.a17 T.d17 ["script"] (spF K cv 1 (fs k 17))
section
variable {P : Program} {K : KW} {mg : Str → Option Value} {base : Heap} {cv : Str → Value}
/-- is_sign -/
theorem e0 (k : Nat) : fs (k + 1) 0 = fnF 2 1 (m_is_sign) := rfl
theorem w0 {T : Top K.fr mg} {k : Nat} (L : Lv P K mg base cv T k) : FnOk P K.w K.fr mg base (L2.CX P K.w) (k + 1) T.a0 T.d0 ["text"] (spF K cv 1 (fs (k + 1) 0)) := by
  rw [e0]
  refine fn_of' ["text", "letter"] rfl rfl T.F0 sc0 fun cdv A outer s H E hr tk po => ?_
  have nd := sc0.nd
  have hu := hr.units
  have hu2 : _ + 199 < cLine := Nat.lt_of_le_of_lt (Nat.add_le_add_left (by decide : 199 ≤ 200) _) (Nat.lt_of_le_of_lt (Nat.add_le_add_right (Nat.le_add_right _ _) _) hr.un)
  have hu5 : _ + 65 < cLine := Nat.lt_of_le_of_lt (Nat.add_le_add_left (by decide : 65 ≤ 200) _) (Nat.lt_of_le_of_lt (Nat.add_le_add_right (Nat.le_add_right _ _) _) hr.un)
  unfold m_is_sign m_is_sign_b1
  exact ⟨_, (sss_cons (ss_if (st_not (st_chain ol_cmp op_le ol_cmp op_le se_int (se_cb cl_len call_len T.m_len (sa_cons (se_vb 0) sa_nil)) (se_gint T.c_LONGEST_SIGN))) (sss_one (ss_end (ss_ret se_bl))) sss_nil) (sss_cons (ss_for po rfl (si_sq (se_mv 0)) (sg_name nd) (sss_kill (vs := [1]) (sss_one (ss_if (st_cmp ol_notInB (op_notInB (by exact hu5)) (se_vb 1) (se_gstr T.c_SMALL)) (sss_one (ss_end (ss_ret se_bl))) sss_nil)))) (sss_one (ss_end (ss_ret se_bl)))))⟩
/-- is_state -/
theorem e1 (k : Nat) : fs (k + 1) 1 = fnF 2 2 (m_is_state) := rfl
theorem w1 {T : Top K.fr mg} {k : Nat} (L : Lv P K mg base cv T k) : FnOk P K.w K.fr mg base (L2.CX P K.w) (k + 1) T.a1 T.d1 ["many", "thing"] (spF K cv 2 (fs (k + 1) 1)) := by
  rw [e1]
  refine fn_of' ["many", "thing"] rfl rfl T.F1 sc1 fun cdv A outer s H E hr tk po => ?_
  have nd := sc1.nd
  have hu := hr.units
  have hu2 : _ + 199 < cLine := Nat.lt_of_le_of_lt (Nat.add_le_add_left (by decide : 199 ≤ 200) _) (Nat.lt_of_le_of_lt (Nat.add_le_add_right (Nat.le_add_right _ _) _) hr.un)
  have hu5 : _ + 65 < cLine := Nat.lt_of_le_of_lt (Nat.add_le_add_left (by decide : 65 ≤ 200) _) (Nat.lt_of_le_of_lt (Nat.add_le_add_right (Nat.le_add_right _ _) _) hr.un)
  unfold m_is_state
  exact ⟨_, (sss_one (ss_end (ss_ret (se_and (se_isi kit_int T.m_isinstance T.m_int (se_vb 1)) (se_and (se_not (se_isi kit_bool T.m_isinstance T.m_bool (se_vb 1))) (se_one (se_chain ol_cmp op_le ol_ltA (op_ltA (by exact hu5)) se_int (se_vb 1) (se_vb 0))))))))⟩
/-- are_ends -/
theorem e2 (k : Nat) : fs (k + 1) 2 = fnF 4 2 (m_are_ends (fs k 1)) := rfl
theorem w2 {T : Top K.fr mg} {k : Nat} (L : Lv P K mg base cv T k) : FnOk P K.w K.fr mg base (L2.CX P K.w) (k + 1) T.a2 T.d2 ["many", "thing"] (spF K cv 2 (fs (k + 1) 2)) := by
  rw [e2]
  refine fn_of' ["many", "thing", "ahead", "state"] rfl rfl T.F2 sc2 fun cdv A outer s H E hr tk po => ?_
  have nd := sc2.nd
  have hu := hr.units
  have hu2 : _ + 199 < cLine := Nat.lt_of_le_of_lt (Nat.add_le_add_left (by decide : 199 ≤ 200) _) (Nat.lt_of_le_of_lt (Nat.add_le_add_right (Nat.le_add_right _ _) _) hr.un)
  have hu5 : _ + 65 < cLine := Nat.lt_of_le_of_lt (Nat.add_le_add_left (by decide : 65 ≤ 200) _) (Nat.lt_of_le_of_lt (Nat.add_le_add_right (Nat.le_add_right _ _) _) hr.un)
  unfold m_are_ends m_are_ends_b1
  exact ⟨_, (sss_cons (ss_if (st_not (st_val (se_isi kit_tup T.m_isinstance T.m_tuple (se_vb 1)))) (sss_one (ss_end (ss_ret se_bl))) sss_nil) (sss_cons (ss_set (i := 2) nd (se_neg se_int)) (sss_cons (ss_for po rfl (si_sq (se_mv 1)) (sg_name nd) (sss_kill (vs := [3]) (sss_cons (ss_if (sw_or (st_not (st_val (se_call L.h1 hr T.g1 T.F1.kp T.b1 tk (sa_cons (se_mv 0) (sa_cons (se_mv 3) sa_nil)) none))) (sw_one (st_cmp ol_cmp op_le (se_vb 3) (se_vb 2)))).st (sss_one (ss_end (ss_ret se_bl))) sss_nil) (sss_one (ss_set (i := 2) nd (se_mv 3)))))) (sss_one (ss_end (ss_ret se_bl))))))⟩
/-- is_step -/
theorem e3 (k : Nat) : fs (k + 1) 3 = fnF 2 2 (m_is_step (fs k 1) (fs k 0)) := rfl
theorem w3 {T : Top K.fr mg} {k : Nat} (L : Lv P K mg base cv T k) : FnOk P K.w K.fr mg base (L2.CX P K.w) (k + 1) T.a3 T.d3 ["many", "thing"] (spF K cv 2 (fs (k + 1) 3)) := by
  rw [e3]
  refine fn_of' ["many", "thing"] rfl rfl T.F3 sc3 fun cdv A outer s H E hr tk po => ?_
  have nd := sc3.nd
  have hu := hr.units
  have hu2 : _ + 199 < cLine := Nat.lt_of_le_of_lt (Nat.add_le_add_left (by decide : 199 ≤ 200) _) (Nat.lt_of_le_of_lt (Nat.add_le_add_right (Nat.le_add_right _ _) _) hr.un)
  have hu5 : _ + 65 < cLine := Nat.lt_of_le_of_lt (Nat.add_le_add_left (by decide : 65 ≤ 200) _) (Nat.lt_of_le_of_lt (Nat.add_le_add_right (Nat.le_add_right _ _) _) hr.un)
  unfold m_is_step
  exact ⟨_, (sss_cons (ss_if (sw_or (st_not (st_val (se_isi kit_tup T.m_isinstance T.m_tuple (se_vb 1)))) (sw_or (st_cmp ol_neB (op_neB (by exact hu2)) (se_cb cl_len call_len T.m_len (sa_cons (se_vb 1) sa_nil)) se_int) (sw_one (st_not (st_val (se_isi kit_str T.m_isinstance T.m_str (se_ixA (by exact hu5) (se_vb 1) se_int))))))).st (sss_one (ss_ret se_bl)) sss_nil) (sss_one (ss_end (ss_ret (se_and (se_call L.h1 hr T.g1 T.F1.kp T.b1 tk (sa_cons (se_mv 0) (sa_cons (se_ixA (by exact hu5) (se_vb 1) se_int) sa_nil)) none) (se_and (se_call L.h0 hr T.g0 T.F0.kp T.b0 tk (sa_cons (se_ixA (by exact hu5) (se_vb 1) se_int) sa_nil) none) (se_one (se_call L.h1 hr T.g1 T.F1.kp T.b1 tk (sa_cons (se_mv 0) (sa_cons (se_ixA (by exact hu5) (se_vb 1) se_int) sa_nil)) none))))))))⟩
/-- are_steps -/
theorem e4 (k : Nat) : fs (k + 1) 4 = fnF 4 2 (m_are_steps (fs k 3)) := rfl
theorem w4 {T : Top K.fr mg} {k : Nat} (L : Lv P K mg base cv T k) : FnOk P K.w K.fr mg base (L2.CX P K.w) (k + 1) T.a4 T.d4 ["many", "thing"] (spF K cv 2 (fs (k + 1) 4)) := by
  rw [e4]
  refine fn_of' ["many", "thing", "known", "step"] rfl rfl T.F4 sc4 fun cdv A outer s H E hr tk po => ?_
  have nd := sc4.nd
  have hu := hr.units
  have hu2 : _ + 199 < cLine := Nat.lt_of_le_of_lt (Nat.add_le_add_left (by decide : 199 ≤ 200) _) (Nat.lt_of_le_of_lt (Nat.add_le_add_right (Nat.le_add_right _ _) _) hr.un)
  have hu5 : _ + 65 < cLine := Nat.lt_of_le_of_lt (Nat.add_le_add_left (by decide : 65 ≤ 200) _) (Nat.lt_of_le_of_lt (Nat.add_le_add_right (Nat.le_add_right _ _) _) hr.un)
  unfold m_are_steps m_are_steps_b1
  exact ⟨_, (sss_cons (ss_if (sw_or (st_not (st_val (se_isi kit_tup T.m_isinstance T.m_tuple (se_vb 1)))) (sw_one (st_cmp ol_cmp op_gt (se_cb cl_len call_len T.m_len (sa_cons (se_vb 1) sa_nil)) (se_gint T.c_MOST_STEPS)))).st (sss_one (ss_end (ss_ret se_bl))) sss_nil) (sss_cons (ss_set (i := 2) nd se_dct0) (sss_cons (ss_for po rfl (si_sq (se_mv 1)) (sg_name nd) (sss_kill (vs := [3]) (sss_cons (ss_if (sw_or (st_not (st_val (se_call L.h3 hr T.g3 T.F3.kp T.b3 tk (sa_cons (se_mv 0) (sa_cons (se_mv 3) sa_nil)) none))) (sw_one (st_cmp ol_inB (op_inB (by exact hu5)) (se_slice (se_vb 3) .non (.some se_int)) (se_vb 2)))).st (sss_one (ss_end (ss_ret se_bl))) sss_nil) (sss_one (ss_put (i := 2) (by exact hu5) (se_slice (se_vb 3) .non (.some se_int)) se_bl))))) (sss_one (ss_end (ss_ret se_bl))))))⟩
/-- is_walker -/
theorem e5 (k : Nat) : fs (k + 1) 5 = fnF 5 1 (m_is_walker (fs k 4) (fs k 2) (fs k 1)) := rfl
theorem w5 {T : Top K.fr mg} {k : Nat} (L : Lv P K mg base cv T k) : FnOk P K.w K.fr mg base (L2.CX P K.w) (k + 1) T.a5 T.d5 ["thing"] (spF K cv 1 (fs (k + 1) 5)) := by
  rw [e5]
  refine fn_of' ["thing", "many", "begin", "ends", "steps"] rfl rfl T.F5 sc5 fun cdv A outer s H E hr tk po => ?_
  have nd := sc5.nd
  have hu := hr.units
  have hu2 : _ + 199 < cLine := Nat.lt_of_le_of_lt (Nat.add_le_add_left (by decide : 199 ≤ 200) _) (Nat.lt_of_le_of_lt (Nat.add_le_add_right (Nat.le_add_right _ _) _) hr.un)
  have hu5 : _ + 65 < cLine := Nat.lt_of_le_of_lt (Nat.add_le_add_left (by decide : 65 ≤ 200) _) (Nat.lt_of_le_of_lt (Nat.add_le_add_right (Nat.le_add_right _ _) _) hr.un)
  unfold m_is_walker
  exact ⟨_, (sss_cons (ss_if (sw_or (st_not (st_val (se_isi kit_tup T.m_isinstance T.m_tuple (se_vb 0)))) (sw_one (st_cmp ol_neB (op_neB (by exact hu2)) (se_cb cl_len call_len T.m_len (sa_cons (se_vb 0) sa_nil)) se_int))).st (sss_one (ss_end (ss_ret se_bl))) sss_nil) (sss_cons (ss_unp (se_mv 0) (sg_tup rfl (sgs_cons (sg_name nd) (sgs_cons (sg_name nd) (sgs_cons (sg_name nd) (sgs_cons (sg_name nd) sgs_nil)))))) (sss_cons (ss_if (sw_or (st_not (st_val (se_call L.h1 hr T.g1 T.F1.kp T.b1 tk (sa_cons (se_bin ol_add op_addA (se_gint T.c_MOST_STATES) se_int) (sa_cons (se_mv 1) sa_nil)) none))) (sw_or (st_cmp ol_eqB (op_eqB (by exact hu2)) (se_vb 1) se_int) (sw_one (st_not (st_val (se_call L.h1 hr T.g1 T.F1.kp T.b1 tk (sa_cons (se_mv 1) (sa_cons (se_mv 2) sa_nil)) none)))))).st (sss_one (ss_end (ss_ret se_bl))) sss_nil) (sss_one (ss_end (ss_ret (se_and (se_call L.h2 hr T.g2 T.F2.kp T.b2 tk (sa_cons (se_mv 1) (sa_cons (se_mv 3) sa_nil)) none) (se_one (se_call L.h4 hr T.g4 T.F4.kp T.b4 tk (sa_cons (se_mv 1) (sa_cons (se_mv 4) sa_nil)) none)))))))))⟩
/-- _law_box -/
theorem e6 (k : Nat) : fs (k + 1) 6 = fnF 4 1 (m_law_box) := rfl
theorem w6 {T : Top K.fr mg} {k : Nat} (L : Lv P K mg base cv T k) : FnOk P K.w K.fr mg base (L2.CX P K.w) (k + 1) T.a6 T.d6 ["script"] (spF K cv 1 (fs (k + 1) 6)) := by
  rw [e6]
  refine fn_of' ["script", "seed", "great", "cell"] rfl rfl T.F6 sc6 fun cdv A outer s H E hr tk po => ?_
  have nd := sc6.nd
  have hu := hr.units
  have hu2 : _ + 199 < cLine := Nat.lt_of_le_of_lt (Nat.add_le_add_left (by decide : 199 ≤ 200) _) (Nat.lt_of_le_of_lt (Nat.add_le_add_right (Nat.le_add_right _ _) _) hr.un)
  have hu5 : _ + 65 < cLine := Nat.lt_of_le_of_lt (Nat.add_le_add_left (by decide : 65 ≤ 200) _) (Nat.lt_of_le_of_lt (Nat.add_le_add_right (Nat.le_add_right _ _) _) hr.un)
  unfold m_law_box m_law_box_b1
  exact ⟨_, (sss_cons (ss_set (i := 1) nd se_int) (sss_cons (ss_set (i := 2) nd (se_lst sa_nil)) (sss_cons (ss_for po rfl (si_sq (se_mv 0)) (sg_name nd) (sss_kill (vs := [3]) (sss_cons (ss_set (i := 1) nd (se_bin ol_mod op_mod (se_bin ol_add op_addA (se_bin ol_add op_addA (se_bin ol_mulA op_mulA (se_vb 1) se_int) (se_bin ol_mod op_mod (se_vb 3) se_int)) se_int) se_int)) (sss_one (ss_if (st_cmp ol_cmp op_ge (se_vb 3) (se_bin ol_pow op_pow se_int se_int)) (sss_one (ss_app (i := 2) (se_mv 3))) sss_nil))))) (sss_one (ss_end (ss_ret (se_lst (sa_cons (se_mv 1) (sa_cons se_int (sa_cons (se_mv 2) sa_nil))))))))))⟩
/-- _law_pick -/
theorem e7 (k : Nat) : fs (k + 1) 7 = fnF 4 2 (m_law_pick) := rfl
theorem w7 {T : Top K.fr mg} {k : Nat} (L : Lv P K mg base cv T k) : FnOk P K.w K.fr mg base (L2.CX P K.w) (k + 1) T.a7 T.d7 ["box", "count"] (spF K cv 2 (fs (k + 1) 7)) := by
  rw [e7]
  refine fn_of' ["box", "count", "stir", "digit"] rfl rfl T.F7 sc7 fun cdv A outer s H E hr tk po => ?_
  have nd := sc7.nd
  have hu := hr.units
  have hu2 : _ + 199 < cLine := Nat.lt_of_le_of_lt (Nat.add_le_add_left (by decide : 199 ≤ 200) _) (Nat.lt_of_le_of_lt (Nat.add_le_add_right (Nat.le_add_right _ _) _) hr.un)
  have hu5 : _ + 65 < cLine := Nat.lt_of_le_of_lt (Nat.add_le_add_left (by decide : 65 ≤ 200) _) (Nat.lt_of_le_of_lt (Nat.add_le_add_right (Nat.le_add_right _ _) _) hr.un)
  unfold m_law_pick
  exact ⟨_, (sss_cons (ss_if (sw_and (st_cmp ol_eqB (op_eqB (by exact hu2)) (se_ixA (by exact hu5) (se_vb 0) se_int) se_int) (sw_one (st_cmp ol_cmp op_gt (se_cb cl_len call_len T.m_len (sa_cons (se_ixA (by exact hu5) (se_vb 0) se_int) sa_nil)) se_int))).st (sss_cons (ss_put (i := 0) (by exact hu5) se_int (se_ixA (by exact hu5) (se_ixA (by exact hu5) (se_vb 0) se_int) se_int)) (sss_one (ss_put (i := 0) (by exact hu5) se_int (se_slice (se_ixA (by exact hu5) (se_vb 0) se_int) (.some se_int) .non)))) sss_nil) (sss_cons (ss_kill (vs := [3]) (ss_if (st_cmp ol_cmp op_gt (se_ixA (by exact hu5) (se_vb 0) se_int) se_int) (sss_cons (ss_set (i := 3) nd (se_bin ol_mod op_mod (se_ixA (by exact hu5) (se_vb 0) se_int) (se_vb 1))) (sss_cons (ss_put (i := 0) (by exact hu5) se_int (se_bin ol_div op_fdiv (se_ixA (by exact hu5) (se_vb 0) se_int) (se_vb 1))) (sss_one (ss_end (ss_ret (se_rv 3)))))) sss_nil)) (sss_cons (ss_put (i := 0) (by exact hu5) se_int (se_bin ol_mod op_mod (se_bin ol_add op_addA (se_bin ol_mulA op_mulA (se_ixA (by exact hu5) (se_vb 0) se_int) se_int) se_int) se_int)) (sss_cons (ss_set (i := 2) nd (se_bin ol_mod op_mod (se_bin ol_mulA op_mulA (se_ixA (by exact hu5) (se_vb 0) se_int) (se_ixA (by exact hu5) (se_vb 0) se_int)) se_int)) (sss_one (ss_end (ss_ret (se_bin ol_mod op_mod (se_bin ol_div op_fdiv (se_bin ol_mod op_mod (se_bin ol_mulA op_mulA (se_vb 2) se_int) se_int) se_int) (se_vb 1)))))))))⟩
/-- _law_words -/
theorem e8 (k : Nat) : fs (k + 1) 8 = fnF 10 4 (m_law_words (fs k 7)) := rfl
theorem w8 {T : Top K.fr mg} {k : Nat} (L : Lv P K mg base cv T k) : FnOk P K.w K.fr mg base (L2.CX P K.w) (k + 1) T.a8 T.d8 ["box", "heads", "tail", "count"] (spF K cv 4 (fs (k + 1) 8)) := by
  rw [e8]
  refine fn_of' ["box", "heads", "tail", "count", "stem", "k", "at", "turn", "some", "word"] rfl rfl T.F8 sc8 fun cdv A outer s H E hr tk po => ?_
  have nd := sc8.nd
  have hu := hr.units
  have hu2 : _ + 199 < cLine := Nat.lt_of_le_of_lt (Nat.add_le_add_left (by decide : 199 ≤ 200) _) (Nat.lt_of_le_of_lt (Nat.add_le_add_right (Nat.le_add_right _ _) _) hr.un)
  have hu5 : _ + 65 < cLine := Nat.lt_of_le_of_lt (Nat.add_le_add_left (by decide : 65 ≤ 200) _) (Nat.lt_of_le_of_lt (Nat.add_le_add_right (Nat.le_add_right _ _) _) hr.un)
  unfold m_law_words m_law_words_b2 m_law_words_b1
  exact ⟨_, (sss_cons (ss_set (i := 4) nd se_str) (sss_cons (ss_for po rfl (si_r1 (se_call L.h7 hr T.g7 T.F7.kp T.b7 tk (sa_cons (se_vb 0) (sa_cons se_int sa_nil)) (some 0)) T.m_range) (sg_name nd) (sss_kill (vs := [5]) (sss_one (ss_set (i := 4) nd (se_bin ol_add op_addA (se_vb 4) (se_ixA (by exact hu5) (se_vb 1) (se_call L.h7 hr T.g7 T.F7.kp T.b7 tk (sa_cons (se_vb 0) (sa_cons se_int sa_nil)) (some 0)))))))) (sss_cons (ss_set (i := 6) nd (se_call L.h7 hr T.g7 T.F7.kp T.b7 tk (sa_cons (se_vb 0) (sa_cons (se_bin ol_add op_addA (se_cb cl_len call_len T.m_len (sa_cons (se_vb 4) sa_nil)) se_int) sa_nil)) (some 0))) (sss_cons (ss_set (i := 7) nd (se_call L.h7 hr T.g7 T.F7.kp T.b7 tk (sa_cons (se_vb 0) (sa_cons se_int sa_nil)) (some 0))) (sss_cons (ss_set (i := 8) nd (se_lst sa_nil)) (sss_cons (ss_for po rfl (si_r1 (se_vb 3) T.m_range) (sg_name nd) (sss_kill (vs := [5, 9]) (sss_cons (ss_set (i := 9) nd (se_bin ol_add op_addA (se_bin ol_add op_addA (se_slice (se_vb 4) .non (.some (se_vb 6))) (se_ixA (by exact hu5) (se_vb 1) (se_bin ol_mod op_mod (se_bin ol_add op_addA (se_vb 7) (se_bin ol_mulA op_mulA (se_vb 5) se_int)) se_int))) (se_slice (se_vb 4) (.some (se_vb 6)) .non))) (sss_one (ss_app (i := 8) (se_bin ol_add op_addA (se_vb 9) (se_bin ol_mulA op_mulA (se_vb 2) (se_call L.h7 hr T.g7 T.F7.kp T.b7 tk (sa_cons (se_vb 0) (sa_cons se_int sa_nil)) (some 0))))))))) (sss_one (ss_end (ss_ret (se_rv 8))))))))))⟩
/-- _law_walker -/
theorem e9 (k : Nat) : fs (k + 1) 9 = fnF 9 3 (m_law_walker (fs k 7)) := rfl
theorem w9 {T : Top K.fr mg} {k : Nat} (L : Lv P K mg base cv T k) : FnOk P K.w K.fr mg base (L2.CX P K.w) (k + 1) T.a9 T.d9 ["box", "count", "signs"] (spF K cv 3 (fs (k + 1) 9)) := by
  rw [e9]
  refine fn_of' ["box", "count", "signs", "full", "steps", "state", "at", "ends", "sign"] rfl rfl T.F9 sc9 fun cdv A outer s H E hr tk po => ?_
  have nd := sc9.nd
  have hu := hr.units
  have hu2 : _ + 199 < cLine := Nat.lt_of_le_of_lt (Nat.add_le_add_left (by decide : 199 ≤ 200) _) (Nat.lt_of_le_of_lt (Nat.add_le_add_right (Nat.le_add_right _ _) _) hr.un)
  have hu5 : _ + 65 < cLine := Nat.lt_of_le_of_lt (Nat.add_le_add_left (by decide : 65 ≤ 200) _) (Nat.lt_of_le_of_lt (Nat.add_le_add_right (Nat.le_add_right _ _) _) hr.un)
  unfold m_law_walker m_law_walker_b4 m_law_walker_b3 m_law_walker_ce2 m_law_walker_ct1
  exact ⟨_, (sss_cons (ss_set (i := 3) nd (se_cmp ol_eqB (op_eqB (by exact hu2)) (se_call L.h7 hr T.g7 T.F7.kp T.b7 tk (sa_cons (se_vb 0) (sa_cons se_int sa_nil)) (some 0)) se_int)) (sss_cons (ss_set (i := 4) nd (se_lst sa_nil)) (sss_cons (ss_for po rfl (si_r1 (se_vb 1) T.m_range) (sg_name nd) (sss_kill (vs := [5, 8]) (sss_one (ss_for po rfl (si_sq (se_mv 2)) (sg_name nd) (sss_kill (vs := [8]) (sss_one (ss_if (sw_or (st_val (se_vb 3)) (sw_one (st_cmp ol_cmp op_gt (se_call L.h7 hr T.g7 T.F7.kp T.b7 tk (sa_cons (se_vb 0) (sa_cons se_int sa_nil)) (some 0)) se_int))).st (sss_one (ss_app (i := 4) (se_tup (sa_cons (se_mv 5) (sa_cons (se_mv 8) (sa_cons (se_call L.h7 hr T.g7 T.F7.kp T.b7 tk (sa_cons (se_vb 0) (sa_cons (se_mv 1) sa_nil)) (some 0)) sa_nil)))))) sss_nil))))))) (sss_cons (ss_set (i := 6) nd (se_call L.h7 hr T.g7 T.F7.kp T.b7 tk (sa_cons (se_vb 0) (sa_cons (se_bin ol_add op_addA (se_cb cl_len call_len T.m_len (sa_cons (se_vb 4) sa_nil)) se_int) sa_nil)) (some 0))) (sss_cons (ss_set (i := 4) nd (se_bin ol_add op_addA (se_slice (se_vb 4) (.some (se_vb 6)) .non) (se_slice (se_vb 4) .non (.some (se_vb 6))))) (sss_cons (ss_if (st_cmp ol_eqB (op_eqB (by exact hu2)) (se_call L.h7 hr T.g7 T.F7.kp T.b7 tk (sa_cons (se_vb 0) (sa_cons se_int sa_nil)) (some 0)) se_int) (sss_one (ss_set (i := 4) nd (se_rev (se_vb 4)))) sss_nil) (sss_cons (ss_setLc (i := 7) (own := [(("state" : Str), 5)]) rfl nd (blkOk_by (N := ["box", "count", "signs", "full", "steps", "state", "at", "ends", "sign"]) (sc := defScope s9) (by decide +kernel)) (si_r1 (se_vb 1) T.m_range) (fun _ _ _ _ _ => (sgw_name nd)) (fun _ _ _ _ _ => (sp_one (st_cmp ol_cmp op_gt (se_call L.h7 (by exact hr) T.g7 T.F7.kp T.b7 takes0 (sa_cons (se_vb 0) (sa_cons se_int sa_nil)) (some 0)) se_int))) (fun _ _ _ _ _ => (se_mv 5)) (sw_true rfl rfl rfl (by decide +kernel))) (sss_one (ss_end (ss_ret (se_tup (sa_cons (se_mv 1) (sa_cons (se_call L.h7 hr T.g7 T.F7.kp T.b7 tk (sa_cons (se_vb 0) (sa_cons (se_mv 1) sa_nil)) (some 0)) (sa_cons (se_ct cl_tuple call_tupX T.m_tuple (sa_cons (se_vb 7) sa_nil)) (sa_cons (se_ct cl_tuple call_tupX T.m_tuple (sa_cons (se_vb 4) sa_nil)) sa_nil)))))))))))))))⟩
/-- _law_bad_step -/
theorem e10 (k : Nat) : fs (k + 1) 10 = fnF 6 4 (m_law_bad_step (fs k 7)) := rfl
theorem w10 {T : Top K.fr mg} {k : Nat} (L : Lv P K mg base cv T k) : FnOk P K.w K.fr mg base (L2.CX P K.w) (k + 1) T.a10 T.d10 ["box", "count", "steps", "sign"] (spF K cv 4 (fs (k + 1) 10)) := by
  rw [e10]
  refine fn_of' ["box", "count", "steps", "sign", "some", "old"] rfl rfl T.F10 sc10 fun cdv A outer s H E hr tk po => ?_
  have nd := sc10.nd
  have hu := hr.units
  have hu2 : _ + 199 < cLine := Nat.lt_of_le_of_lt (Nat.add_le_add_left (by decide : 199 ≤ 200) _) (Nat.lt_of_le_of_lt (Nat.add_le_add_right (Nat.le_add_right _ _) _) hr.un)
  have hu5 : _ + 65 < cLine := Nat.lt_of_le_of_lt (Nat.add_le_add_left (by decide : 65 ≤ 200) _) (Nat.lt_of_le_of_lt (Nat.add_le_add_right (Nat.le_add_right _ _) _) hr.un)
  unfold m_law_bad_step
  exact ⟨_, (sss_cons (ss_kill (vs := [5]) (ss_if (sw_and (st_cmp ol_cmp op_gt (se_cb cl_len call_len T.m_len (sa_cons (se_vb 2) sa_nil)) se_int) (sw_one (st_cmp ol_eqB (op_eqB (by exact hu2)) (se_call L.h7 hr T.g7 T.F7.kp T.b7 tk (sa_cons (se_vb 0) (sa_cons se_int sa_nil)) (some 0)) se_int))).st (sss_cons (ss_set (i := 5) nd (se_ixA (by exact hu5) (se_vb 2) (se_call L.h7 hr T.g7 T.F7.kp T.b7 tk (sa_cons (se_vb 0) (sa_cons (se_cb cl_len call_len T.m_len (sa_cons (se_vb 2) sa_nil)) sa_nil)) (some 0)))) (sss_one (ss_end (ss_ret (se_tup (sa_cons (se_ixA (by exact hu5) (se_vb 5) se_int) (sa_cons (se_ixA (by exact hu5) (se_vb 5) se_int) (sa_cons (se_call L.h7 hr T.g7 T.F7.kp T.b7 tk (sa_cons (se_vb 0) (sa_cons (se_mv 1) sa_nil)) (some 0)) sa_nil)))))))) sss_nil)) (sss_cons (ss_set (i := 4) nd (se_lst (sa_cons (se_tup (sa_cons (se_mv 1) (sa_cons (se_mv 3) (sa_cons se_int sa_nil)))) (sa_cons (se_tup (sa_cons (se_neg se_int) (sa_cons (se_mv 3) (sa_cons se_int sa_nil)))) (sa_cons (se_tup (sa_cons se_int (sa_cons (se_mv 3) (sa_cons (se_mv 1) sa_nil)))) (sa_cons (se_tup (sa_cons se_int (sa_cons (se_mv 3) (sa_cons (se_neg se_int) sa_nil)))) (sa_cons (se_tup (sa_cons se_int (sa_cons se_str (sa_cons se_int sa_nil)))) (sa_cons (se_tup (sa_cons se_int (sa_cons (se_upper (se_vb 3)) (sa_cons se_int sa_nil)))) sa_nil)))))))) (sss_cons (ss_set (i := 4) nd (se_bin ol_add op_addA (se_vb 4) (se_lst (sa_cons (se_tup (sa_cons se_int (sa_cons se_str (sa_cons se_int sa_nil)))) (sa_cons (se_tup (sa_cons se_int (sa_cons (se_mv 3) sa_nil))) (sa_cons (se_tup (sa_cons se_int (sa_cons (se_mv 3) (sa_cons se_int (sa_cons se_int sa_nil))))) (sa_cons (se_lst (sa_cons se_int (sa_cons (se_mv 3) (sa_cons se_int sa_nil)))) (sa_cons (se_tup (sa_cons se_int (sa_cons se_int (sa_cons se_int sa_nil)))) (sa_cons (se_tup (sa_cons se_bl (sa_cons (se_mv 3) (sa_cons se_int sa_nil)))) sa_nil))))))))) (sss_cons (ss_set (i := 4) nd (se_bin ol_add op_addA (se_vb 4) (se_lst (sa_cons (se_tup (sa_cons se_int (sa_cons (se_mv 3) (sa_cons se_bl sa_nil)))) (sa_cons se_non (sa_cons (se_tup (sa_cons se_int (sa_cons (se_bin ol_add op_addA (se_vb 3) se_str) (sa_cons se_int sa_nil)))) (sa_cons (se_tup (sa_cons se_int (sa_cons (se_tup (sa_cons (se_mv 3) sa_nil)) (sa_cons se_int sa_nil)))) (sa_cons (se_tup (sa_cons se_int (sa_cons (se_bin ol_add op_addA se_str (se_vb 3)) (sa_cons se_int sa_nil)))) (sa_cons (se_tup (sa_cons (se_mv 3) (sa_cons se_int (sa_cons se_int sa_nil)))) sa_nil))))))))) (sss_cons (ss_set (i := 4) nd (se_bin ol_add op_addA (se_vb 4) (se_lst (sa_cons (se_tup (sa_cons se_int (sa_cons (se_lst (sa_cons (se_mv 3) sa_nil)) (sa_cons se_int sa_nil)))) (sa_cons (se_tup (sa_cons (se_lst (sa_cons se_int sa_nil)) (sa_cons (se_mv 3) (sa_cons se_int sa_nil)))) (sa_cons (se_tup (sa_cons se_int (sa_cons (se_mv 3) (sa_cons se_non sa_nil)))) (sa_cons (se_tup (sa_cons se_int (sa_cons se_non (sa_cons se_int sa_nil)))) sa_nil))))))) (sss_one (ss_end (ss_ret (se_ixA (by exact hu5) (se_vb 4) (se_call L.h7 hr T.g7 T.F7.kp T.b7 tk (sa_cons (se_vb 0) (sa_cons se_int sa_nil)) (some 0)))))))))))⟩
/-- _law_wide -/
theorem e11 (k : Nat) : fs (k + 1) 11 = fnF 5 2 (m_law_wide_3 (fs k 7) (fs k 8)) := rfl
theorem w11 {T : Top K.fr mg} {k : Nat} (L : Lv P K mg base cv T k) : FnOk P K.w K.fr mg base (L2.CX P K.w) (k + 1) T.a11 T.d11 ["box", "size"] (spF K cv 2 (fs (k + 1) 11)) := by
  rw [e11]
  refine fn_of' ["box", "size", "steps", "sign", "state"] rfl rfl T.F11 sc11 fun cdv A outer s H E hr tk po => ?_
  have nd := sc11.nd
  have hu := hr.units
  have hu2 : _ + 199 < cLine := Nat.lt_of_le_of_lt (Nat.add_le_add_left (by decide : 199 ≤ 200) _) (Nat.lt_of_le_of_lt (Nat.add_le_add_right (Nat.le_add_right _ _) _) hr.un)
  have hu5 : _ + 65 < cLine := Nat.lt_of_le_of_lt (Nat.add_le_add_left (by decide : 65 ≤ 200) _) (Nat.lt_of_le_of_lt (Nat.add_le_add_right (Nat.le_add_right _ _) _) hr.un)
  unfold m_law_wide_3 m_law_wide_3_b2 m_law_wide_3_b1
  exact ⟨_, (sss_cons (ss_set (i := 2) nd (se_lst sa_nil)) (sss_cons (ss_for po rfl (si_sq (se_call L.h8 hr T.g8 T.F8.kp T.b8 tk (sa_cons (se_vb 0) (sa_cons se_str (sa_cons se_str (sa_cons se_int sa_nil)))) (some 0))) (sg_name nd) (sss_kill (vs := [3, 4]) (sss_one (ss_for po rfl (si_r1 se_int T.m_range) (sg_name nd) (sss_kill (vs := [4]) (sss_one (ss_app (i := 2) (se_tup (sa_cons (se_mv 4) (sa_cons (se_mv 3) (sa_cons (se_call L.h7 hr T.g7 T.F7.kp T.b7 tk (sa_cons (se_vb 0) (sa_cons se_int sa_nil)) (some 0)) sa_nil))))))))))) (sss_one (ss_end (ss_ret (se_tup (sa_cons se_int (sa_cons (se_call L.h7 hr T.g7 T.F7.kp T.b7 tk (sa_cons (se_vb 0) (sa_cons se_int sa_nil)) (some 0)) (sa_cons (se_tup sa_nil) (sa_cons (se_ct cl_tuple call_tupX T.m_tuple (sa_cons (se_slice (se_vb 2) .non (.some (se_vb 1))) sa_nil)) sa_nil))))))))))⟩
/-- _law_spoilt -/
theorem e12 (k : Nat) : fs (k + 1) 12 = fnF 9 3 (m_law_spoilt_2 (fs k 11) (fs k 7) (fs k 10)) := rfl
theorem w12 {T : Top K.fr mg} {k : Nat} (L : Lv P K mg base cv T k) : FnOk P K.w K.fr mg base (L2.CX P K.w) (k + 1) T.a12 T.d12 ["box", "walker", "sign"] (spF K cv 3 (fs (k + 1) 12)) := by
  rw [e12]
  refine fn_of' ["box", "walker", "sign", "way", "some", "count", "begin", "ends", "steps"] rfl rfl T.F12 sc12 fun cdv A outer s H E hr tk po => ?_
  have nd := sc12.nd
  have hu := hr.units
  have hu2 : _ + 199 < cLine := Nat.lt_of_le_of_lt (Nat.add_le_add_left (by decide : 199 ≤ 200) _) (Nat.lt_of_le_of_lt (Nat.add_le_add_right (Nat.le_add_right _ _) _) hr.un)
  have hu5 : _ + 65 < cLine := Nat.lt_of_le_of_lt (Nat.add_le_add_left (by decide : 65 ≤ 200) _) (Nat.lt_of_le_of_lt (Nat.add_le_add_right (Nat.le_add_right _ _) _) hr.un)
  unfold m_law_spoilt_2
  exact ⟨_, (sss_cons (ss_unp (se_mv 1) (sg_tup rfl (sgs_cons (sg_name nd) (sgs_cons (sg_name nd) (sgs_cons (sg_name nd) (sgs_cons (sg_name nd) sgs_nil)))))) (sss_cons (ss_set (i := 3) nd (se_call L.h7 hr T.g7 T.F7.kp T.b7 tk (sa_cons (se_vb 0) (sa_cons se_int sa_nil)) (some 0))) (sss_cons (ss_if (st_cmp ol_ltA (op_ltA (by exact hu5)) (se_vb 3) se_int) (sss_cons (ss_set (i := 8) nd (se_ct cl_list call_list_of T.m_list (sa_cons (se_slice (se_vb 8) .non (.some se_int)) sa_nil))) (sss_cons (ss_ins (i := 8) (se_call L.h7 hr T.g7 T.F7.kp T.b7 tk (sa_cons (se_vb 0) (sa_cons (se_bin ol_add op_addA (se_cb cl_len call_len T.m_len (sa_cons (se_vb 8) sa_nil)) se_int) sa_nil)) (some 0)) (se_callN L.h10 hr T.g10 T.F10.kp T.b10 tk (sa_cons (se_vb 0) (sa_cons (se_mv 5) (sa_cons (se_vb 8) (sa_cons (se_mv 2) sa_nil)))) [0, 2])) (sss_one (ss_end (ss_ret (se_tup (sa_cons (se_mv 5) (sa_cons (se_mv 6) (sa_cons (se_mv 7) (sa_cons (se_ct cl_tuple call_tupX T.m_tuple (sa_cons (se_vb 8) sa_nil)) sa_nil)))))))))) sss_nil) (sss_cons (ss_set (i := 4) nd (se_lst (sa_cons (se_tup (sa_cons se_int (sa_cons se_int (sa_cons (se_tup sa_nil) (sa_cons (se_tup sa_nil) sa_nil))))) (sa_cons (se_tup (sa_cons se_int (sa_cons (se_mv 6) (sa_cons (se_mv 7) (sa_cons (se_mv 8) sa_nil))))) (sa_cons (se_tup (sa_cons (se_mv 5) (sa_cons (se_mv 5) (sa_cons (se_mv 7) (sa_cons (se_mv 8) sa_nil))))) (sa_cons (se_tup (sa_cons (se_mv 5) (sa_cons (se_neg se_int) (sa_cons (se_mv 7) (sa_cons (se_mv 8) sa_nil))))) sa_nil)))))) (sss_cons (ss_set (i := 4) nd (se_bin ol_add op_addA (se_vb 4) (se_lst (sa_cons (se_tup (sa_cons (se_mv 5) (sa_cons (se_mv 6) (sa_cons (se_bin ol_add op_addA (se_vb 7) (se_bin ol_mulA op_mulA (se_slice (se_bin ol_add op_addA (se_vb 7) (se_tup (sa_cons se_int (sa_cons se_int sa_nil)))) (.some (se_neg se_int)) .non) se_int)) (sa_cons (se_mv 8) sa_nil))))) (sa_cons (se_tup (sa_cons (se_mv 5) (sa_cons (se_mv 6) (sa_cons (se_tup (sa_cons se_int (sa_cons se_int sa_nil))) (sa_cons (se_mv 8) sa_nil))))) sa_nil))))) (sss_cons (ss_set (i := 4) nd (se_bin ol_add op_addA (se_vb 4) (se_lst (sa_cons (se_tup (sa_cons (se_mv 5) (sa_cons (se_mv 6) (sa_cons (se_bin ol_add op_addA (se_vb 7) (se_tup (sa_cons (se_mv 5) sa_nil))) (sa_cons (se_mv 8) sa_nil))))) (sa_cons (se_tup (sa_cons (se_mv 5) (sa_cons (se_mv 6) (sa_cons (se_ct cl_list call_list_of T.m_list (sa_cons (se_vb 7) sa_nil)) (sa_cons (se_mv 8) sa_nil))))) sa_nil))))) (sss_cons (ss_set (i := 4) nd (se_bin ol_add op_addA (se_vb 4) (se_lst (sa_cons (se_tup (sa_cons (se_mv 5) (sa_cons (se_mv 6) (sa_cons (se_mv 7) (sa_cons (se_ct cl_list call_list_of T.m_list (sa_cons (se_vb 8) sa_nil)) sa_nil))))) (sa_cons (se_ct cl_list call_list_of T.m_list (sa_cons (se_vb 1) sa_nil)) (sa_cons (se_slice (se_vb 1) .non (.some se_int)) (sa_cons (se_bin ol_add op_addA (se_vb 1) (se_tup (sa_cons se_non sa_nil))) sa_nil))))))) (sss_cons (ss_set (i := 4) nd (se_bin ol_add op_addA (se_vb 4) (se_lst (sa_cons (se_tup (sa_cons se_bl (sa_cons se_int (sa_cons (se_tup sa_nil) (sa_cons (se_tup sa_nil) sa_nil))))) (sa_cons (se_tup (sa_cons (se_mv 5) (sa_cons se_bl (sa_cons (se_mv 7) (sa_cons (se_mv 8) sa_nil))))) (sa_cons (se_tup (sa_cons (se_mv 5) (sa_cons (se_mv 6) (sa_cons (se_tup (sa_cons se_bl sa_nil)) (sa_cons (se_mv 8) sa_nil))))) (sa_cons se_non sa_nil))))))) (sss_cons (ss_set (i := 4) nd (se_bin ol_add op_addA (se_vb 4) (se_lst (sa_cons (se_tup (sa_cons (se_neg se_int) (sa_cons (se_mv 6) (sa_cons (se_mv 7) (sa_cons (se_mv 8) sa_nil))))) (sa_cons (se_tup (sa_cons (se_mv 5) (sa_cons se_non (sa_cons (se_mv 7) (sa_cons (se_mv 8) sa_nil))))) (sa_cons (se_tup (sa_cons (se_mv 5) (sa_cons (se_mv 6) (sa_cons (se_bin ol_add op_addA (se_tup (sa_cons (se_neg se_int) sa_nil)) (se_vb 7)) (sa_cons (se_mv 8) sa_nil))))) sa_nil)))))) (sss_cons (ss_set (i := 4) nd (se_bin ol_add op_addA (se_vb 4) (se_lst (sa_cons (se_tup (sa_cons (se_mv 5) (sa_cons (se_mv 6) (sa_cons (se_tup (sa_cons se_non sa_nil)) (sa_cons (se_mv 8) sa_nil))))) (sa_cons (se_tup (sa_cons (se_mv 5) (sa_cons (se_mv 6) (sa_cons (se_bin ol_add op_addA (se_vb 7) (se_tup (sa_cons se_str sa_nil))) (sa_cons (se_mv 8) sa_nil))))) (sa_cons (se_tup (sa_cons se_non (sa_cons (se_mv 6) (sa_cons (se_mv 7) (sa_cons (se_mv 8) sa_nil))))) sa_nil)))))) (sss_cons (ss_set (i := 4) nd (se_bin ol_add op_addA (se_vb 4) (se_lst (sa_cons (se_tup (sa_cons se_str (sa_cons se_int (sa_cons (se_tup sa_nil) (sa_cons (se_tup sa_nil) sa_nil))))) sa_nil)))) (sss_one (ss_end (ss_ret (se_if (st_cmp ol_ltA (op_ltA (by exact hu5)) (se_vb 3) se_int) (se_ixA (by exact hu5) (se_vb 4) (se_bin ol_sub op_sub (se_vb 3) se_int)) (se_call L.h11 hr T.g11 T.F11.kp T.b11 tk (sa_cons (se_vb 0) (sa_cons se_int sa_nil)) (some 0)))))))))))))))))⟩
/-- _law_is_state -/
theorem e13 (k : Nat) : fs (k + 1) 13 = fnF 2 2 (m_law_is_state) := rfl
theorem w13 {T : Top K.fr mg} {k : Nat} (L : Lv P K mg base cv T k) : FnOk P K.w K.fr mg base (L2.CX P K.w) (k + 1) T.a13 T.d13 ["count", "thing"] (spF K cv 2 (fs (k + 1) 13)) := by
  rw [e13]
  refine fn_of' ["count", "thing"] rfl rfl T.F13 sc13 fun cdv A outer s H E hr tk po => ?_
  have nd := sc13.nd
  have hu := hr.units
  have hu2 : _ + 199 < cLine := Nat.lt_of_le_of_lt (Nat.add_le_add_left (by decide : 199 ≤ 200) _) (Nat.lt_of_le_of_lt (Nat.add_le_add_right (Nat.le_add_right _ _) _) hr.un)
  have hu5 : _ + 65 < cLine := Nat.lt_of_le_of_lt (Nat.add_le_add_left (by decide : 65 ≤ 200) _) (Nat.lt_of_le_of_lt (Nat.add_le_add_right (Nat.le_add_right _ _) _) hr.un)
  unfold m_law_is_state
  exact ⟨_, (sss_one (ss_end (ss_ret (se_and (se_isi kit_int T.m_isinstance T.m_int (se_vb 1)) (se_and (se_not (se_isi kit_bool T.m_isinstance T.m_bool (se_vb 1))) (se_one (se_chain ol_cmp op_le ol_ltA (op_ltA (by exact hu5)) se_int (se_vb 1) (se_vb 0))))))))⟩
/-- _law_is_sign -/
theorem e14 (k : Nat) : fs (k + 1) 14 = fnF 1 1 (m_law_is_sign_2) := rfl
theorem w14 {T : Top K.fr mg} {k : Nat} (L : Lv P K mg base cv T k) : FnOk P K.w K.fr mg base (L2.CX P K.w) (k + 1) T.a14 T.d14 ["thing"] (spF K cv 1 (fs (k + 1) 14)) := by
  rw [e14]
  refine fn_of' ["thing"] rfl rfl T.F14 sc14 fun cdv A outer s H E hr tk po => ?_
  have nd := sc14.nd
  have hu := hr.units
  have hu2 : _ + 199 < cLine := Nat.lt_of_le_of_lt (Nat.add_le_add_left (by decide : 199 ≤ 200) _) (Nat.lt_of_le_of_lt (Nat.add_le_add_right (Nat.le_add_right _ _) _) hr.un)
  have hu5 : _ + 65 < cLine := Nat.lt_of_le_of_lt (Nat.add_le_add_left (by decide : 65 ≤ 200) _) (Nat.lt_of_le_of_lt (Nat.add_le_add_right (Nat.le_add_right _ _) _) hr.un)
  unfold m_law_is_sign_2
  exact ⟨_, (sss_cons (ss_if (sw_or (st_not (st_val (se_isi kit_str T.m_isinstance T.m_str (se_vb 0)))) (sw_one (st_not (st_chain ol_cmp op_le ol_cmp op_le se_int (se_cb cl_len call_len T.m_len (sa_cons (se_vb 0) sa_nil)) se_int)))).st (sss_one (ss_ret se_bl)) sss_nil) (sss_one (ss_end (ss_ret (se_cmp ol_eqB (op_eqB (by exact hu2)) (se_strip (se_vb 0) se_str) se_str)))))⟩
/-- _law_due -/
theorem e15 (k : Nat) : fs (k + 1) 15 = fnF 9 1 (m_law_due_6 (fs k 14) (fs k 13)) := rfl
theorem w15 {T : Top K.fr mg} {k : Nat} (L : Lv P K mg base cv T k) : FnOk P K.w K.fr mg base (L2.CX P K.w) (k + 1) T.a15 T.d15 ["walker"] (spF K cv 1 (fs (k + 1) 15)) := by
  rw [e15]
  refine fn_of' ["walker", "seen", "step", "count", "begin", "ends", "steps", "state", "k"] rfl rfl T.F15 sc15 fun cdv A outer s H E hr tk po => ?_
  have nd := sc15.nd
  have hu := hr.units
  have hu2 : _ + 199 < cLine := Nat.lt_of_le_of_lt (Nat.add_le_add_left (by decide : 199 ≤ 200) _) (Nat.lt_of_le_of_lt (Nat.add_le_add_right (Nat.le_add_right _ _) _) hr.un)
  have hu5 : _ + 65 < cLine := Nat.lt_of_le_of_lt (Nat.add_le_add_left (by decide : 65 ≤ 200) _) (Nat.lt_of_le_of_lt (Nat.add_le_add_right (Nat.le_add_right _ _) _) hr.un)
  unfold m_law_due_6 m_law_due_6_ce3 m_law_due_6_ce2 m_law_due_6_b1
  exact ⟨_, (sss_cons (ss_unp (se_mv 0) (sg_tup rfl (sgs_cons (sg_name nd) (sgs_cons (sg_name nd) (sgs_cons (sg_name nd) (sgs_cons (sg_name nd) sgs_nil)))))) (sss_cons (ss_if (sw_or (st_not (st_val (se_call L.h13 hr T.g13 T.F13.kp T.b13 tk (sa_cons se_int (sa_cons (se_mv 3) sa_nil)) none))) (sw_or (st_cmp ol_eqB (op_eqB (by exact hu2)) (se_vb 3) se_int) (sw_or (st_not (st_val (se_call L.h13 hr T.g13 T.F13.kp T.b13 tk (sa_cons (se_mv 3) (sa_cons (se_mv 4) sa_nil)) none))) (sw_one (st_cmp ol_cmp op_gt (se_cb cl_len call_len T.m_len (sa_cons (se_vb 6) sa_nil)) se_int))))).st (sss_one (ss_end (ss_ret se_bl))) sss_nil) (sss_cons (ss_if (st_not (st_val (se_cb cl_all (cr_all rfl) T.m_all (sa_cons (se_comp (own := [(("state" : Str), 7)]) rfl nd (blkOk_by (N := ["walker", "seen", "step", "count", "begin", "ends", "steps", "state", "k"]) (sc := defScope s15) (by decide +kernel)) (si_sq (se_mv 5)) (fun _ _ _ _ _ => (sgw_name nd)) (fun _ _ _ _ _ => sp_nil) (fun _ _ _ _ _ => (se_call L.h13 (by exact hr) T.g13 T.F13.kp T.b13 takes0 (sa_cons (se_mv 3) (sa_cons (se_mv 7) sa_nil)) none))) sa_nil)))) (sss_one (ss_end (ss_ret se_bl))) sss_nil) (sss_cons (ss_if (st_not (st_val (se_cb cl_all (cr_all rfl) T.m_all (sa_cons (se_comp (own := [(("k" : Str), 8)]) rfl nd (blkOk_by (N := ["walker", "seen", "step", "count", "begin", "ends", "steps", "state", "k"]) (sc := defScope s15) (by decide +kernel)) (si_r1 (se_bin ol_sub op_sub (se_cb cl_len call_len T.m_len (sa_cons (se_vb 5) sa_nil)) se_int) T.m_range) (fun _ _ _ _ _ => (sgw_name nd)) (fun _ _ _ _ _ => sp_nil) (fun _ _ _ _ _ => (se_cmp ol_ltA (op_ltA (by exact hu5)) (se_ixA (by exact hu5) (se_vb 5) (se_vb 8)) (se_ixA (by exact hu5) (se_vb 5) (se_bin ol_add op_addA (se_vb 8) se_int))))) sa_nil)))) (sss_one (ss_end (ss_ret se_bl))) sss_nil) (sss_cons (ss_set (i := 1) nd (se_lst sa_nil)) (sss_cons (ss_for po rfl (si_sq (se_mv 6)) (sg_name nd) (sss_kill (vs := [2]) (sss_cons (ss_if (sw_or (st_cmp ol_neB (op_neB (by exact hu2)) (se_cb cl_len call_len T.m_len (sa_cons (se_vb 2) sa_nil)) se_int) (sw_or (st_not (st_val (se_call L.h13 hr T.g13 T.F13.kp T.b13 tk (sa_cons (se_mv 3) (sa_cons (se_ixA (by exact hu5) (se_vb 2) se_int) sa_nil)) none))) (sw_one (st_not (st_val (se_call L.h13 hr T.g13 T.F13.kp T.b13 tk (sa_cons (se_mv 3) (sa_cons (se_ixA (by exact hu5) (se_vb 2) se_int) sa_nil)) none)))))).st (sss_one (ss_end (ss_ret se_bl))) sss_nil) (sss_cons (ss_if (sw_or (st_not (st_val (se_call L.h14 hr T.g14 T.F14.kp T.b14 tk (sa_cons (se_ixA (by exact hu5) (se_vb 2) se_int) sa_nil) none))) (sw_one (st_cmp ol_inB (op_inB (by exact hu5)) (se_slice (se_vb 2) .non (.some se_int)) (se_vb 1)))).st (sss_one (ss_end (ss_ret se_bl))) sss_nil) (sss_one (ss_app (i := 1) (se_slice (se_vb 2) .non (.some se_int)))))))) (sss_one (ss_end (ss_ret se_bl)))))))))⟩
/-- _law_anywhere -/
theorem e16 (k : Nat) : fs (k + 1) 16 = fnF 14 3 (m_law_anywhere_2 (fs k 7)) := rfl
theorem w16 {T : Top K.fr mg} {k : Nat} (L : Lv P K mg base cv T k) : FnOk P K.w K.fr mg base (L2.CX P K.w) (k + 1) T.a16 T.d16 ["box", "walker", "sign"] (spF K cv 3 (fs (k + 1) 16)) := by
  rw [e16]
  refine fn_of' ["box", "walker", "sign", "letter", "odd", "new", "way", "at", "step", "part", "count", "begin", "ends", "steps"] rfl rfl T.F16 sc16 fun cdv A outer s H E hr tk po => ?_
  have nd := sc16.nd
  have hu := hr.units
  have hu2 : _ + 199 < cLine := Nat.lt_of_le_of_lt (Nat.add_le_add_left (by decide : 199 ≤ 200) _) (Nat.lt_of_le_of_lt (Nat.add_le_add_right (Nat.le_add_right _ _) _) hr.un)
  have hu5 : _ + 65 < cLine := Nat.lt_of_le_of_lt (Nat.add_le_add_left (by decide : 65 ≤ 200) _) (Nat.lt_of_le_of_lt (Nat.add_le_add_right (Nat.le_add_right _ _) _) hr.un)
  unfold m_law_anywhere_2
  exact ⟨_, (sss_cons (ss_unp (se_mv 1) (sg_tup rfl (sgs_cons (sg_name nd) (sgs_cons (sg_name nd) (sgs_cons (sg_name nd) (sgs_cons (sg_name nd) sgs_nil)))))) (sss_cons (ss_set (i := 3) nd (se_ixA (by exact hu5) se_str (se_call L.h7 hr T.g7 T.F7.kp T.b7 tk (sa_cons (se_vb 0) (sa_cons se_int sa_nil)) (some 0)))) (sss_cons (ss_set (i := 4) nd (se_lst (sa_cons (se_bin ol_sub op_sub (se_call L.h7 hr T.g7 T.F7.kp T.b7 tk (sa_cons (se_vb 0) (sa_cons se_int sa_nil)) (some 0)) se_int) (sa_cons se_bl (sa_cons se_non (sa_cons (se_mv 2) (sa_cons (se_bin ol_add op_addA (se_vb 2) se_str) (sa_cons se_str (sa_cons (se_bin ol_add op_addA (se_slice (se_vb 2) .non (.some (se_neg se_int))) (se_vb 3)) sa_nil))))))))) (sss_cons (ss_set (i := 5) nd (se_ixA (by exact hu5) (se_vb 4) (se_call L.h7 hr T.g7 T.F7.kp T.b7 tk (sa_cons (se_vb 0) (sa_cons se_int sa_nil)) (some 0)))) (sss_cons (ss_set (i := 6) nd (se_call L.h7 hr T.g7 T.F7.kp T.b7 tk (sa_cons (se_vb 0) (sa_cons se_int sa_nil)) (some 0))) (sss_cons (ss_kill (vs := [7]) (ss_if (st_cmp ol_ltA (op_ltA (by exact hu5)) (se_vb 6) se_int) (sss_cons (ss_set (i := 7) nd (se_call L.h7 hr T.g7 T.F7.kp T.b7 tk (sa_cons (se_vb 0) (sa_cons (se_bin ol_add op_addA (se_cb cl_len call_len T.m_len (sa_cons (se_vb 12) sa_nil)) se_int) sa_nil)) (some 0))) (sss_one (ss_end (ss_ret (se_tup (sa_cons (se_mv 10) (sa_cons (se_mv 11) (sa_cons (se_bin ol_add op_addA (se_bin ol_add op_addA (se_slice (se_vb 12) .non (.some (se_vb 7))) (se_tup (sa_cons (se_mv 5) sa_nil))) (se_slice (se_vb 12) (.some (se_bin ol_add op_addA (se_vb 7) (se_vb 6))) .non)) (sa_cons (se_mv 13) sa_nil))))))))) sss_nil)) (sss_cons (ss_if (st_cmp ol_eqB (op_eqB (by exact hu2)) (se_vb 6) se_int) (sss_one (ss_end (ss_ret (se_ixA (by exact hu5) (se_lst (sa_cons (se_tup (sa_cons (se_mv 5) (sa_cons (se_mv 11) (sa_cons (se_mv 12) (sa_cons (se_mv 13) sa_nil))))) (sa_cons (se_tup (sa_cons (se_mv 10) (sa_cons (se_mv 5) (sa_cons (se_mv 12) (sa_cons (se_mv 13) sa_nil))))) sa_nil))) (se_call L.h7 hr T.g7 T.F7.kp T.b7 tk (sa_cons (se_vb 0) (sa_cons se_int sa_nil)) (some 0)))))) sss_nil) (sss_cons (ss_set (i := 7) nd (se_call L.h7 hr T.g7 T.F7.kp T.b7 tk (sa_cons (se_vb 0) (sa_cons (se_bin ol_add op_addA (se_cb cl_len call_len T.m_len (sa_cons (se_vb 13) sa_nil)) se_int) sa_nil)) (some 0))) (sss_cons (ss_set (i := 8) nd (se_ixA (by exact hu5) (se_bin ol_add op_addA (se_vb 13) (se_tup (sa_cons (se_tup (sa_cons se_int (sa_cons (se_mv 2) (sa_cons se_int sa_nil)))) sa_nil))) (se_vb 7))) (sss_cons (ss_set (i := 9) nd (se_call L.h7 hr T.g7 T.F7.kp T.b7 tk (sa_cons (se_vb 0) (sa_cons se_int sa_nil)) (some 0))) (sss_cons (ss_if (st_cmp ol_eqB (op_eqB (by exact hu2)) (se_vb 6) se_int) (sss_one (ss_set (i := 8) nd (se_bin ol_add op_addA (se_bin ol_add op_addA (se_slice (se_vb 8) .non (.some (se_vb 9))) (se_tup (sa_cons (se_mv 5) sa_nil))) (se_slice (se_vb 8) (.some (se_bin ol_add op_addA (se_vb 9) se_int)) .non)))) sss_nil) (sss_cons (ss_if (st_cmp ol_eqB (op_eqB (by exact hu2)) (se_vb 6) se_int) (sss_one (ss_set (i := 8) nd (se_bin ol_add op_addA (se_bin ol_add op_addA (se_slice (se_vb 8) .non (.some (se_vb 9))) (se_slice (se_vb 8) (.some (se_bin ol_add op_addA (se_vb 9) (se_call L.h7 hr T.g7 T.F7.kp T.b7 tk (sa_cons (se_vb 0) (sa_cons se_int sa_nil)) (some 0)))) .non)) (se_bin ol_mulU op_mulU (se_tup (sa_cons se_int sa_nil)) (se_call L.h7 hr T.g7 T.F7.kp T.b7 tk (sa_cons (se_vb 0) (sa_cons se_int sa_nil)) (some 0)))))) sss_nil) (sss_one (ss_end (ss_ret (se_tup (sa_cons (se_mv 10) (sa_cons (se_mv 11) (sa_cons (se_mv 12) (sa_cons (se_bin ol_add op_addA (se_bin ol_add op_addA (se_slice (se_vb 13) .non (.some (se_vb 7))) (se_tup (sa_cons (se_mv 8) sa_nil))) (se_slice (se_vb 13) (.some (se_bin ol_add op_addA (se_vb 7) (se_call L.h7 hr T.g7 T.F7.kp T.b7 tk (sa_cons (se_vb 0) (sa_cons se_int sa_nil)) (some 0)))) .non)) sa_nil))))))))))))))))))))⟩
/-- law -/
theorem e17 (k : Nat) : fs (k + 1) 17 = fnF 13 1 (m_law_k80 (fs k 15) (fs k 5) (fs k 16) (fs k 11) (fs k 12) (fs k 9) (fs k 7) (fs k 8) (fs k 6)) := rfl
theorem w17 {T : Top K.fr mg} {k : Nat} (L : Lv P K mg base cv T k) : FnG P K.w K.fr mg base (k + 1) T.a17 T.d17 ["script"] (spF K cv 1 (fs (k + 1) 17)) := by
  rw [e17]
  refine fnG_of ["script", "box", "count", "signs", "walker", "plain", "bad", "turn", "thing", "due", "told", "shown", "sign"] rfl rfl T.F17 sc17 fun cdv A outer s H E gd hr tk po => ?_
  have nd := sc17.nd
  have hu := hr.units
  have hu2 : _ + 199 < cLine := Nat.lt_of_le_of_lt (Nat.add_le_add_left (by decide : 199 ≤ 200) _) (Nat.lt_of_le_of_lt (Nat.add_le_add_right (Nat.le_add_right _ _) _) hr.un)
  have hu5 : _ + 65 < cLine := Nat.lt_of_le_of_lt (Nat.add_le_add_left (by decide : 65 ≤ 200) _) (Nat.lt_of_le_of_lt (Nat.add_le_add_right (Nat.le_add_right _ _) _) hr.un)
  unfold m_law_k80 m_law_k80_ce3 m_law_k80_b2 m_law_k80_b1
  exact ⟨_, (sss_cons (ss_set (i := 1) nd (se_call L.h6 hr T.g6 T.F6.kp T.b6 tk (sa_cons (se_mv 0) sa_nil) none)) (sss_cons (ss_set (i := 2) nd (se_bin ol_add op_addA se_int (se_call L.h7 hr T.g7 T.F7.kp T.b7 tk (sa_cons (se_vb 1) (sa_cons se_int sa_nil)) (some 0)))) (sss_cons (ss_set (i := 3) nd (se_call L.h8 hr T.g8 T.F8.kp T.b8 tk (sa_cons (se_vb 1) (sa_cons se_str (sa_cons se_str (sa_cons (se_bin ol_add op_addA se_int (se_call L.h7 hr T.g7 T.F7.kp T.b7 tk (sa_cons (se_vb 1) (sa_cons se_int sa_nil)) (some 0))) sa_nil)))) (some 0))) (sss_cons (ss_if (st_cmp ol_eqB (op_eqB (by exact hu2)) (se_call L.h7 hr T.g7 T.F7.kp T.b7 tk (sa_cons (se_vb 1) (sa_cons se_int sa_nil)) (some 0)) se_int) (sss_one (ss_setLc (i := 3) (own := [(("sign" : Str), 12)]) rfl nd (blkOk_by (N := ["script", "box", "count", "signs", "walker", "plain", "bad", "turn", "thing", "due", "told", "shown", "sign"]) (sc := defScope s17) (by decide +kernel)) (si_sq (se_mv 3)) (fun _ _ _ _ _ => (sgw_name nd)) (fun _ _ _ _ _ => sp_nil) (fun _ _ _ _ _ => (se_slice (se_bin ol_add op_addA (se_vb 12) se_str) .non (.some se_int))) (sw_true rfl rfl rfl (by decide +kernel)))) sss_nil) (sss_cons (ss_set (i := 4) nd (se_call L.h9 hr T.g9 T.F9.kp T.b9 tk (sa_cons (se_vb 1) (sa_cons (se_mv 2) (sa_cons (se_mv 3) sa_nil))) (some 0))) (sss_cons (ss_set (i := 5) nd (se_tup (sa_cons (se_mv 2) (sa_cons (se_ixA (by exact hu5) (se_vb 4) se_int) (sa_cons (se_tup sa_nil) (sa_cons (se_tup sa_nil) sa_nil)))))) (sss_cons (ss_set (i := 6) nd (se_call L.h12 hr T.g12 T.F12.kp T.b12 tk (sa_cons (se_vb 1) (sa_cons (se_mv 4) (sa_cons (se_ixA (by exact hu5) (se_vb 3) se_int) sa_nil))) (some 0))) (sss_cons (ss_for po rfl (si_sq (se_lst (sa_cons (se_tup (sa_cons (se_mv 4) (sa_cons se_bl sa_nil))) (sa_cons (se_tup (sa_cons (se_mv 5) (sa_cons se_bl sa_nil))) (sa_cons (se_tup (sa_cons (se_call L.h11 hr T.g11 T.F11.kp T.b11 tk (sa_cons (se_vb 1) (sa_cons se_int sa_nil)) (some 0)) (sa_cons se_bl sa_nil))) (sa_cons (se_tup (sa_cons (se_mv 6) (sa_cons se_bl sa_nil))) (sa_cons (se_tup (sa_cons (se_mv 4) (sa_cons se_bl sa_nil))) sa_nil))))))) (sg_tup rfl (sgs_cons (sg_name nd) (sgs_cons (sg_name nd) sgs_nil))) (sss_kill (vs := [8, 9, 10]) (sss_cons (ss_set (i := 10) nd (se_call L.h5 hr T.g5 T.F5.kp T.b5 tk (sa_cons (se_mv 8) sa_nil) none)) (sss_one (ss_if (sw_or (st_not (st_val (se_isi kit_bool T.m_isinstance T.m_bool (se_vb 10)))) (sw_one (st_cmp ol_neB (op_neB (by exact hu2)) (se_vb 10) (se_vb 9)))).st (sss_one (ss_end (ss_ret se_bl))) sss_nil))))) (sss_cons (ss_for po rfl (si_r1 se_int T.m_range) (sg_name nd) (sss_kill (vs := [7, 8, 10, 11]) (sss_cons (ss_set (i := 8) nd (se_call L.h16 hr T.g16 T.F16.kp T.b16 tk (sa_cons (se_vb 1) (sa_cons (se_mv 4) (sa_cons (se_ixA (by exact hu5) (se_vb 3) se_int) sa_nil))) (some 0))) (sss_cons (ss_set (i := 11) nd (se_cb cl_repr (cr_repr (by exact gd) (by exact hu2)) T.m_repr (sa_cons (se_vb 8) sa_nil))) (sss_cons (ss_set (i := 10) nd (se_call L.h5 hr T.g5 T.F5.kp T.b5 tk (sa_cons (se_mv 8) sa_nil) none)) (sss_one (ss_if (sw_or (st_not (st_val (se_isi kit_bool T.m_isinstance T.m_bool (se_vb 10)))) (sw_or (st_cmp ol_neB (op_neB (by exact hu2)) (se_vb 10) (se_call L.h15 hr T.g15 T.F15.kp T.b15 tk (sa_cons (se_mv 8) sa_nil) none)) (sw_one (st_cmp ol_neB (op_neB (by exact hu2)) (se_cb cl_repr (cr_repr (by exact gd) (by exact hu2)) T.m_repr (sa_cons (se_vb 8) sa_nil)) (se_vb 11))))).st (sss_one (ss_end (ss_ret se_bl))) sss_nil))))))) (sss_one (ss_end (ss_ret se_bl))))))))))))⟩
theorem lv (T : Top K.fr mg) : ∀ k, Lv P K mg base cv T k
  | 0 => ⟨fn_zero rfl, fn_zero rfl, fn_zero rfl, fn_zero rfl, fn_zero rfl, fn_zero rfl, fn_zero rfl, fn_zero rfl, fn_zero rfl, fn_zero rfl, fn_zero rfl, fn_zero rfl, fn_zero rfl, fn_zero rfl, fn_zero rfl, fn_zero rfl, fn_zero rfl, fnG_zero rfl⟩
  | k + 1 => have L := lv T k; ⟨w0 L, w1 L, w2 L, w3 L, w4 L, w5 L, w6 L, w7 L, w8 L, w9 L, w10 L, w11 L, w12 L, w13 L, w14 L, w15 L, w16 L, w17 L⟩
end
end Wk80
namespace Wk80
open PySem L2 GS GM
/-! ### the end -/
theorem top_mk {K : PySem.W.Frag} {h : Heap} {mg : Str → Option Value} {fa f0 f1 f2 f3 f4 f5 f6 f7 f8 f9 f10 f11 f12 f13 f14 f15 f16 f17 : Addr} (X : K.In h) (G : h.Ns mainGlobals mg) (hfa : mg "law" = some (.ref fa))
    {od0 an0 od1 an1 od2 an2 od3 an3 od4 an4 od5 an5 od6 an6 od7 an7 od8 an8 od9 an9 od10 an10 od11 an11 od12 an12 od13 an13 od14 an14 od15 an15 od16 an16 od17 an17 : Option Addr} {sl0 sl1 sl2 sl3 sl4 sl5 sl6 sl7 sl8 sl9 sl10 sl11 sl12 sl13 sl14 sl15 sl16 sl17 : Array (Option Value)} {oc0 kV0 dc0 pm0 cd0 ct0 oc1 kV1 dc1 pm1 cd1 ct1 oc2 kV2 dc2 pm2 cd2 ct2 oc3 kV3 dc3 pm3 cd3 ct3 oc4 kV4 dc4 pm4 cd4 ct4 oc5 kV5 dc5 pm5 cd5 ct5 oc6 kV6 dc6 pm6 cd6 ct6 oc7 kV7 dc7 pm7 cd7 ct7 oc8 kV8 dc8 pm8 cd8 ct8 oc9 kV9 dc9 pm9 cd9 ct9 oc10 kV10 dc10 pm10 cd10 ct10 oc11 kV11 dc11 pm11 cd11 ct11 oc12 kV12 dc12 pm12 cd12 ct12 oc13 kV13 dc13 pm13 cd13 ct13 oc14 kV14 dc14 pm14 cd14 ct14 oc15 kV15 dc15 pm15 cd15 ct15 oc16 kV16 dc16 pm16 cd16 ct16 oc17 kV17 dc17 pm17 cd17 ct17 : Value} {tk_SMALL tk_LONGEST_SIGN tk_MOST_STEPS tk_MOST_STATES : Tok}
    (a0 : PySem.W.nsIn K mainGlobals "is_sign" = some (some (.ref f0))) (l0 : K.lookup f0 = some ⟨oc0, od0, .func (PySem.W.fnOf "is_sign" "is_sign" (defArgs s0) (defBody s0) (defScope s0) .none kV0 dc0 pm0 an0 cd0 ct0), sl0⟩) (c0 : PySem.W.codeIn K cd0 "is_sign" = true) (k0 : PySem.W.keepIn K (.ref f0) = true)
    (a1 : PySem.W.nsIn K mainGlobals "is_state" = some (some (.ref f1))) (l1 : K.lookup f1 = some ⟨oc1, od1, .func (PySem.W.fnOf "is_state" "is_state" (defArgs s1) (defBody s1) (defScope s1) .none kV1 dc1 pm1 an1 cd1 ct1), sl1⟩) (c1 : PySem.W.codeIn K cd1 "is_state" = true) (k1 : PySem.W.keepIn K (.ref f1) = true)
    (a2 : PySem.W.nsIn K mainGlobals "are_ends" = some (some (.ref f2))) (l2 : K.lookup f2 = some ⟨oc2, od2, .func (PySem.W.fnOf "are_ends" "are_ends" (defArgs s2) (defBody s2) (defScope s2) .none kV2 dc2 pm2 an2 cd2 ct2), sl2⟩) (c2 : PySem.W.codeIn K cd2 "are_ends" = true) (k2 : PySem.W.keepIn K (.ref f2) = true)
    (a3 : PySem.W.nsIn K mainGlobals "is_step" = some (some (.ref f3))) (l3 : K.lookup f3 = some ⟨oc3, od3, .func (PySem.W.fnOf "is_step" "is_step" (defArgs s3) (defBody s3) (defScope s3) .none kV3 dc3 pm3 an3 cd3 ct3), sl3⟩) (c3 : PySem.W.codeIn K cd3 "is_step" = true) (k3 : PySem.W.keepIn K (.ref f3) = true)
    (a4 : PySem.W.nsIn K mainGlobals "are_steps" = some (some (.ref f4))) (l4 : K.lookup f4 = some ⟨oc4, od4, .func (PySem.W.fnOf "are_steps" "are_steps" (defArgs s4) (defBody s4) (defScope s4) .none kV4 dc4 pm4 an4 cd4 ct4), sl4⟩) (c4 : PySem.W.codeIn K cd4 "are_steps" = true) (k4 : PySem.W.keepIn K (.ref f4) = true)
    (a5 : PySem.W.nsIn K mainGlobals "is_walker" = some (some (.ref f5))) (l5 : K.lookup f5 = some ⟨oc5, od5, .func (PySem.W.fnOf "is_walker" "is_walker" (defArgs s5) (defBody s5) (defScope s5) .none kV5 dc5 pm5 an5 cd5 ct5), sl5⟩) (c5 : PySem.W.codeIn K cd5 "is_walker" = true) (k5 : PySem.W.keepIn K (.ref f5) = true)
    (a6 : PySem.W.nsIn K mainGlobals "_law_box" = some (some (.ref f6))) (l6 : K.lookup f6 = some ⟨oc6, od6, .func (PySem.W.fnOf "_law_box" "_law_box" (defArgs s6) (defBody s6) (defScope s6) .none kV6 dc6 pm6 an6 cd6 ct6), sl6⟩) (c6 : PySem.W.codeIn K cd6 "_law_box" = true) (k6 : PySem.W.keepIn K (.ref f6) = true)
    (a7 : PySem.W.nsIn K mainGlobals "_law_pick" = some (some (.ref f7))) (l7 : K.lookup f7 = some ⟨oc7, od7, .func (PySem.W.fnOf "_law_pick" "_law_pick" (defArgs s7) (defBody s7) (defScope s7) .none kV7 dc7 pm7 an7 cd7 ct7), sl7⟩) (c7 : PySem.W.codeIn K cd7 "_law_pick" = true) (k7 : PySem.W.keepIn K (.ref f7) = true)
    (a8 : PySem.W.nsIn K mainGlobals "_law_words" = some (some (.ref f8))) (l8 : K.lookup f8 = some ⟨oc8, od8, .func (PySem.W.fnOf "_law_words" "_law_words" (defArgs s8) (defBody s8) (defScope s8) .none kV8 dc8 pm8 an8 cd8 ct8), sl8⟩) (c8 : PySem.W.codeIn K cd8 "_law_words" = true) (k8 : PySem.W.keepIn K (.ref f8) = true)
    (a9 : PySem.W.nsIn K mainGlobals "_law_walker" = some (some (.ref f9))) (l9 : K.lookup f9 = some ⟨oc9, od9, .func (PySem.W.fnOf "_law_walker" "_law_walker" (defArgs s9) (defBody s9) (defScope s9) .none kV9 dc9 pm9 an9 cd9 ct9), sl9⟩) (c9 : PySem.W.codeIn K cd9 "_law_walker" = true) (k9 : PySem.W.keepIn K (.ref f9) = true)
    (a10 : PySem.W.nsIn K mainGlobals "_law_bad_step" = some (some (.ref f10))) (l10 : K.lookup f10 = some ⟨oc10, od10, .func (PySem.W.fnOf "_law_bad_step" "_law_bad_step" (defArgs s10) (defBody s10) (defScope s10) .none kV10 dc10 pm10 an10 cd10 ct10), sl10⟩) (c10 : PySem.W.codeIn K cd10 "_law_bad_step" = true) (k10 : PySem.W.keepIn K (.ref f10) = true)
    (a11 : PySem.W.nsIn K mainGlobals "_law_wide" = some (some (.ref f11))) (l11 : K.lookup f11 = some ⟨oc11, od11, .func (PySem.W.fnOf "_law_wide" "_law_wide" (defArgs s11) (defBody s11) (defScope s11) .none kV11 dc11 pm11 an11 cd11 ct11), sl11⟩) (c11 : PySem.W.codeIn K cd11 "_law_wide" = true) (k11 : PySem.W.keepIn K (.ref f11) = true)
    (a12 : PySem.W.nsIn K mainGlobals "_law_spoilt" = some (some (.ref f12))) (l12 : K.lookup f12 = some ⟨oc12, od12, .func (PySem.W.fnOf "_law_spoilt" "_law_spoilt" (defArgs s12) (defBody s12) (defScope s12) .none kV12 dc12 pm12 an12 cd12 ct12), sl12⟩) (c12 : PySem.W.codeIn K cd12 "_law_spoilt" = true) (k12 : PySem.W.keepIn K (.ref f12) = true)
    (a13 : PySem.W.nsIn K mainGlobals "_law_is_state" = some (some (.ref f13))) (l13 : K.lookup f13 = some ⟨oc13, od13, .func (PySem.W.fnOf "_law_is_state" "_law_is_state" (defArgs s13) (defBody s13) (defScope s13) .none kV13 dc13 pm13 an13 cd13 ct13), sl13⟩) (c13 : PySem.W.codeIn K cd13 "_law_is_state" = true) (k13 : PySem.W.keepIn K (.ref f13) = true)
    (a14 : PySem.W.nsIn K mainGlobals "_law_is_sign" = some (some (.ref f14))) (l14 : K.lookup f14 = some ⟨oc14, od14, .func (PySem.W.fnOf "_law_is_sign" "_law_is_sign" (defArgs s14) (defBody s14) (defScope s14) .none kV14 dc14 pm14 an14 cd14 ct14), sl14⟩) (c14 : PySem.W.codeIn K cd14 "_law_is_sign" = true) (k14 : PySem.W.keepIn K (.ref f14) = true)
    (a15 : PySem.W.nsIn K mainGlobals "_law_due" = some (some (.ref f15))) (l15 : K.lookup f15 = some ⟨oc15, od15, .func (PySem.W.fnOf "_law_due" "_law_due" (defArgs s15) (defBody s15) (defScope s15) .none kV15 dc15 pm15 an15 cd15 ct15), sl15⟩) (c15 : PySem.W.codeIn K cd15 "_law_due" = true) (k15 : PySem.W.keepIn K (.ref f15) = true)
    (a16 : PySem.W.nsIn K mainGlobals "_law_anywhere" = some (some (.ref f16))) (l16 : K.lookup f16 = some ⟨oc16, od16, .func (PySem.W.fnOf "_law_anywhere" "_law_anywhere" (defArgs s16) (defBody s16) (defScope s16) .none kV16 dc16 pm16 an16 cd16 ct16), sl16⟩) (c16 : PySem.W.codeIn K cd16 "_law_anywhere" = true) (k16 : PySem.W.keepIn K (.ref f16) = true)
    (a17 : PySem.W.nsIn K mainGlobals "law" = some (some (.ref f17))) (l17 : K.lookup f17 = some ⟨oc17, od17, .func (PySem.W.fnOf "law" "law" (defArgs s17) (defBody s17) (defScope s17) .none kV17 dc17 pm17 an17 cd17 ct17), sl17⟩) (c17 : PySem.W.codeIn K cd17 "law" = true) (k17 : PySem.W.keepIn K (.ref f17) = true)
    (q_SMALL : PySem.W.nsIn K mainGlobals "SMALL" = some (some (Value.str (Str.ofString "abcdefghijklmnopqrstuvwxyz") tk_SMALL)))
    (q_LONGEST_SIGN : PySem.W.nsIn K mainGlobals "LONGEST_SIGN" = some (some (Value.int 6 tk_LONGEST_SIGN)))
    (q_MOST_STEPS : PySem.W.nsIn K mainGlobals "MOST_STEPS" = some (some (Value.int 40 tk_MOST_STEPS)))
    (q_MOST_STATES : PySem.W.nsIn K mainGlobals "MOST_STATES" = some (some (Value.int 5 tk_MOST_STATES)))
    (z_len : PySem.W.nsIn K mainGlobals "len" = some none)
    (z_isinstance : PySem.W.nsIn K mainGlobals "isinstance" = some none)
    (z_bool : PySem.W.nsIn K mainGlobals "bool" = some none)
    (z_int : PySem.W.nsIn K mainGlobals "int" = some none)
    (z_tuple : PySem.W.nsIn K mainGlobals "tuple" = some none)
    (z_str : PySem.W.nsIn K mainGlobals "str" = some none)
    (z_range : PySem.W.nsIn K mainGlobals "range" = some none)
    (z_list : PySem.W.nsIn K mainGlobals "list" = some none)
    (z_all : PySem.W.nsIn K mainGlobals "all" = some none)
    (z_repr : PySem.W.nsIn K mainGlobals "repr" = some none)
    : ∃ T : Top K mg, T.a17 = fa ∧ ∀ (s : Shared) (v : Value), BindsTo s T.d17 ⟨[v], []⟩ [("script", v)] := by
  have e := hfa.symm.trans (PySem.W.mg_of X G a17)
  have e' : f17 = fa := by cases e; rfl
  have F0 := fun_mk (st := s0) l0 c0 k0
  have b0 := F0.binds (ps := ["text"]) fun _ _ _ _ _ _ us hl => match us, hl with | [_], _ => rfl
  have F1 := fun_mk (st := s1) l1 c1 k1
  have b1 := F1.binds (ps := ["many", "thing"]) fun _ _ _ _ _ _ us hl => match us, hl with | [_, _], _ => rfl
  have F2 := fun_mk (st := s2) l2 c2 k2
  have b2 := F2.binds (ps := ["many", "thing"]) fun _ _ _ _ _ _ us hl => match us, hl with | [_, _], _ => rfl
  have F3 := fun_mk (st := s3) l3 c3 k3
  have b3 := F3.binds (ps := ["many", "thing"]) fun _ _ _ _ _ _ us hl => match us, hl with | [_, _], _ => rfl
  have F4 := fun_mk (st := s4) l4 c4 k4
  have b4 := F4.binds (ps := ["many", "thing"]) fun _ _ _ _ _ _ us hl => match us, hl with | [_, _], _ => rfl
  have F5 := fun_mk (st := s5) l5 c5 k5
  have b5 := F5.binds (ps := ["thing"]) fun _ _ _ _ _ _ us hl => match us, hl with | [_], _ => rfl
  have F6 := fun_mk (st := s6) l6 c6 k6
  have b6 := F6.binds (ps := ["script"]) fun _ _ _ _ _ _ us hl => match us, hl with | [_], _ => rfl
  have F7 := fun_mk (st := s7) l7 c7 k7
  have b7 := F7.binds (ps := ["box", "count"]) fun _ _ _ _ _ _ us hl => match us, hl with | [_, _], _ => rfl
  have F8 := fun_mk (st := s8) l8 c8 k8
  have b8 := F8.binds (ps := ["box", "heads", "tail", "count"]) fun _ _ _ _ _ _ us hl => match us, hl with | [_, _, _, _], _ => rfl
  have F9 := fun_mk (st := s9) l9 c9 k9
  have b9 := F9.binds (ps := ["box", "count", "signs"]) fun _ _ _ _ _ _ us hl => match us, hl with | [_, _, _], _ => rfl
  have F10 := fun_mk (st := s10) l10 c10 k10
  have b10 := F10.binds (ps := ["box", "count", "steps", "sign"]) fun _ _ _ _ _ _ us hl => match us, hl with | [_, _, _, _], _ => rfl
  have F11 := fun_mk (st := s11) l11 c11 k11
  have b11 := F11.binds (ps := ["box", "size"]) fun _ _ _ _ _ _ us hl => match us, hl with | [_, _], _ => rfl
  have F12 := fun_mk (st := s12) l12 c12 k12
  have b12 := F12.binds (ps := ["box", "walker", "sign"]) fun _ _ _ _ _ _ us hl => match us, hl with | [_, _, _], _ => rfl
  have F13 := fun_mk (st := s13) l13 c13 k13
  have b13 := F13.binds (ps := ["count", "thing"]) fun _ _ _ _ _ _ us hl => match us, hl with | [_, _], _ => rfl
  have F14 := fun_mk (st := s14) l14 c14 k14
  have b14 := F14.binds (ps := ["thing"]) fun _ _ _ _ _ _ us hl => match us, hl with | [_], _ => rfl
  have F15 := fun_mk (st := s15) l15 c15 k15
  have b15 := F15.binds (ps := ["walker"]) fun _ _ _ _ _ _ us hl => match us, hl with | [_], _ => rfl
  have F16 := fun_mk (st := s16) l16 c16 k16
  have b16 := F16.binds (ps := ["box", "walker", "sign"]) fun _ _ _ _ _ _ us hl => match us, hl with | [_, _, _], _ => rfl
  have F17 := fun_mk (st := s17) l17 c17 k17
  have b17 := F17.binds (ps := ["script"]) fun _ _ _ _ _ _ us hl => match us, hl with | [_], _ => rfl
  exact ⟨{ a0 := f0, d0 := _, F0 := F0, b0 := b0, g0 := PySem.W.mg_of X G a0, a1 := f1, d1 := _, F1 := F1, b1 := b1, g1 := PySem.W.mg_of X G a1, a2 := f2, d2 := _, F2 := F2, b2 := b2, g2 := PySem.W.mg_of X G a2, a3 := f3, d3 := _, F3 := F3, b3 := b3, g3 := PySem.W.mg_of X G a3, a4 := f4, d4 := _, F4 := F4, b4 := b4, g4 := PySem.W.mg_of X G a4, a5 := f5, d5 := _, F5 := F5, b5 := b5, g5 := PySem.W.mg_of X G a5, a6 := f6, d6 := _, F6 := F6, b6 := b6, g6 := PySem.W.mg_of X G a6, a7 := f7, d7 := _, F7 := F7, b7 := b7, g7 := PySem.W.mg_of X G a7, a8 := f8, d8 := _, F8 := F8, b8 := b8, g8 := PySem.W.mg_of X G a8, a9 := f9, d9 := _, F9 := F9, b9 := b9, g9 := PySem.W.mg_of X G a9, a10 := f10, d10 := _, F10 := F10, b10 := b10, g10 := PySem.W.mg_of X G a10, a11 := f11, d11 := _, F11 := F11, b11 := b11, g11 := PySem.W.mg_of X G a11, a12 := f12, d12 := _, F12 := F12, b12 := b12, g12 := PySem.W.mg_of X G a12, a13 := f13, d13 := _, F13 := F13, b13 := b13, g13 := PySem.W.mg_of X G a13, a14 := f14, d14 := _, F14 := F14, b14 := b14, g14 := PySem.W.mg_of X G a14, a15 := f15, d15 := _, F15 := F15, b15 := b15, g15 := PySem.W.mg_of X G a15, a16 := f16, d16 := _, F16 := F16, b16 := b16, g16 := PySem.W.mg_of X G a16, a17 := f17, d17 := _, F17 := F17, b17 := b17, g17 := PySem.W.mg_of X G a17, c_SMALL := ⟨_, PySem.W.mg_of X G q_SMALL⟩, c_LONGEST_SIGN := ⟨_, PySem.W.mg_of X G q_LONGEST_SIGN⟩, c_MOST_STEPS := ⟨_, PySem.W.mg_of X G q_MOST_STEPS⟩, c_MOST_STATES := ⟨_, PySem.W.mg_of X G q_MOST_STATES⟩, m_len := PySem.W.mg_none_of X G z_len, m_isinstance := PySem.W.mg_none_of X G z_isinstance, m_bool := PySem.W.mg_none_of X G z_bool, m_int := PySem.W.mg_none_of X G z_int, m_tuple := PySem.W.mg_none_of X G z_tuple, m_str := PySem.W.mg_none_of X G z_str, m_range := PySem.W.mg_none_of X G z_range, m_list := PySem.W.mg_none_of X G z_list, m_all := PySem.W.mg_none_of X G z_all, m_repr := PySem.W.mg_none_of X G z_repr }, e', fun s v => .of_eq rfl⟩
end Wk80
open PySem PySem.W PyProof.Rows
set_option maxRecDepth 100000 in
set_option maxHeartbeats 0 in
theorem PySem.Challenge.cw_graftsay_k80_what_is_a_walker_holds : PySem.Challenge.rw_graftsay_k80_what_is_a_walker.Holds := by
  w_on; o_law; k_head; (case hw => w_witness2)
  k_fill
  refine GS.walkG_of (l := PySem.Challenge.rw_graftsay_k80_what_is_a_walker) (n := 63) (k := 200) (x := "script") (sp := fun w => GS.spF ⟨_, w⟩ (fun _ => .none) 1 (Wk80.fs 200 17)) rfl (by decide) rfl ⟨rfl, by decide, by decide⟩ (fun w h Y => PySem.W.kIn_of Y) ?F (fun _ _ a ns hl _ hS => (Wk80.law_true ns hl).elim fun outs e => GS.law_sp hS e) (fun _ _ _ _ _ h => by obtain ⟨_, _, _, _, _, _, _, _, _, _, _, _, z⟩ := h; exact z)
  case F =>
    intro w mg fa h KX G hmg
    refine' (Wk80.top_mk KX G hmg ?a0 ?l0 ?c0 ?k0 ?a1 ?l1 ?c1 ?k1 ?a2 ?l2 ?c2 ?k2 ?a3 ?l3 ?c3 ?k3 ?a4 ?l4 ?c4 ?k4 ?a5 ?l5 ?c5 ?k5 ?a6 ?l6 ?c6 ?k6 ?a7 ?l7 ?c7 ?k7 ?a8 ?l8 ?c8 ?k8 ?a9 ?l9 ?c9 ?k9 ?a10 ?l10 ?c10 ?k10 ?a11 ?l11 ?c11 ?k11 ?a12 ?l12 ?c12 ?k12 ?a13 ?l13 ?c13 ?k13 ?a14 ?l14 ?c14 ?k14 ?a15 ?l15 ?c15 ?k15 ?a16 ?l16 ?c16 ?k16 ?a17 ?l17 ?c17 ?k17 ?q_SMALL ?q_LONGEST_SIGN ?q_MOST_STEPS ?q_MOST_STATES ?z_len ?z_isinstance ?z_bool ?z_int ?z_tuple ?z_str ?z_range ?z_list ?z_all ?z_repr).elim fun T R => ?fin
    (case a0 => k_is)
    (case l0 => k_is)
    (case c0 => k_is)
    (case k0 => k_is)
    (case a1 => k_is)
    (case l1 => k_is)
    (case c1 => k_is)
    (case k1 => k_is)
    (case a2 => k_is)
    (case l2 => k_is)
    (case c2 => k_is)
    (case k2 => k_is)
    (case a3 => k_is)
    (case l3 => k_is)
    (case c3 => k_is)
    (case k3 => k_is)
    (case a4 => k_is)
    (case l4 => k_is)
    (case c4 => k_is)
    (case k4 => k_is)
    (case a5 => k_is)
    (case l5 => k_is)
    (case c5 => k_is)
    (case k5 => k_is)
    (case a6 => k_is)
    (case l6 => k_is)
    (case c6 => k_is)
    (case k6 => k_is)
    (case a7 => k_is)
    (case l7 => k_is)
    (case c7 => k_is)
    (case k7 => k_is)
    (case a8 => k_is)
    (case l8 => k_is)
    (case c8 => k_is)
    (case k8 => k_is)
    (case a9 => k_is)
    (case l9 => k_is)
    (case c9 => k_is)
    (case k9 => k_is)
    (case a10 => k_is)
    (case l10 => k_is)
    (case c10 => k_is)
    (case k10 => k_is)
    (case a11 => k_is)
    (case l11 => k_is)
    (case c11 => k_is)
    (case k11 => k_is)
    (case a12 => k_is)
    (case l12 => k_is)
    (case c12 => k_is)
    (case k12 => k_is)
    (case a13 => k_is)
    (case l13 => k_is)
    (case c13 => k_is)
    (case k13 => k_is)
    (case a14 => k_is)
    (case l14 => k_is)
    (case c14 => k_is)
    (case k14 => k_is)
    (case a15 => k_is)
    (case l15 => k_is)
    (case c15 => k_is)
    (case k15 => k_is)
    (case a16 => k_is)
    (case l16 => k_is)
    (case c16 => k_is)
    (case k16 => k_is)
    (case a17 => k_is)
    (case l17 => k_is)
    (case c17 => k_is)
    (case k17 => k_is)
    (case q_SMALL => k_is)
    (case q_LONGEST_SIGN => k_is)
    (case q_MOST_STEPS => k_is)
    (case q_MOST_STATES => k_is)
    (case z_len => k_is)
    (case z_isinstance => k_is)
    (case z_bool => k_is)
    (case z_int => k_is)
    (case z_tuple => k_is)
    (case z_str => k_is)
    (case z_range => k_is)
    (case z_list => k_is)
    (case z_all => k_is)
    (case z_repr => k_is)
    case fin =>
      obtain ⟨e, hb⟩ := R
      subst e
      exact ⟨T.d17, hb, fun base _ _ => (Wk80.lv (P := PySem.Challenge.rw_graftsay_k80_what_is_a_walker.prog) (K := ⟨_, w⟩) (base := base) T 200).h17⟩
